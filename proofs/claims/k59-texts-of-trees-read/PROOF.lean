import PyProof.Rows.All
import Wide.All
import OpenK.AllK
import Wide.FinOn
import HandS.ForMost
import HandS.Flow
import HandS.Style
import HandS.Conv
import HandS.Exc
import KE.KExcIs
import KE.KNestM
import HandS.Lambda
import HandS.Zip
import HandS.TupAny
import HandS.Wide
import HandS.TryOnly
import HandS.WordsExc
import HandS.ExcInit
import PyProof.ReprReads
import PyProof.ReprRoads
import PyProof.Rows.RuleB_pow
import PyProof.StrOps2
import HandS.IsInst
import HandS.SortInts
import PyProof.AutoSeq1
import KE.KRevSl
import HandS.More
import HandS.Text
import HandS.Codes
import HandS.SetFor
import HandS.Strs
import HandS.Set
import PyProof.Rows.SetFrom
import PyProof.Rows.IntBool
import PyProof.Rows.StrStep
import PyProof.NeKinds
import HandS.ExcValue
import PyProof.Rows.SortShellAny
import PyProof.Rows.StrMeet
import HandS.TupMul
import PyProof.Rows.StrInSeq3
import HandS.ListItems
import HandS.DictComp
import HandS.SortKw
import HandS.WordsDict
import KE.DataMinMax
import KE.GoesEnum
import PyProof.DictUpdate
import KE.KDictList
import KE.KDictPairs
import PyProof.SeqIndex
import HandS.SortOrd
import PyProof.Rows.SortKeyStr
import HandS.TupLe
import HandS.Deep
import PyProof.Rows.SeqMore
import KE.SortKeyHeap
import HandS.Iter
import HandS.EndBits
import HandS.Defaults
import KE.GoesMore
import HandS.Call
import HandS.WideBits
import PyProof.SumWalkG
import HandS.Replace
import PyProof.Rows.ReprOcc
import PyProof.Rows.StrSplitJoin
import PyProof.Rows.StrItems
import PyProof.Rows.StrPins
import HandS.ReplaceList
import PySem.Challenge.RW_keyedmoves_k59_texts_of_trees_read
set_option Elab.async false
set_option linter.all false
set_option autoImplicit false
set_option maxRecDepth 100000
set_option maxHeartbeats 4000000
namespace DS
open PySem PySem.Spec PyProof.Rows L2

/-- data without addresses; ref: an address of its own standing (something that changes, a def, a class) -/
inductive SD where
  | non | bl (b : Bool) | int (i : Int) | str (x : Str) | ref (a : Addr) | ty (n : String)
  | tup (xs : List SD) | lst (xs : List SD) | dic (kvs : List (Key × SD))
  /-- a list that is read only (the script) -/
  | rol (xs : List SD)
  /-- an error of the own class named x, with its fields; it changes no more -/
  | exc (x : Str) (fs : List (Str × SD))
  /-- a tuple of which it is known that it has no dict of its own -/
  | ptp (xs : List SD)

/-- at a: an error of the class at C, its dict -/
def exq (a C : Addr) (d : Option Addr) : HO := .ext fun h => ∃ (oe : Obj) (vs : Array Value), h.get? a = some oe ∧ Zc (.ref C) d oe ∧ oe.data = .fields vs
/-- what the written part says of the class named x, and of the names fs as fields of its instances -/
structure XcK (K : PySem.W.Frag) (x : Str) (C : Addr) (fs : List Str) : Prop where
  at_ : PySem.W.nsIn K mainGlobals x = some (some (.ref C))
  ga : PySem.W.findIn K (.ref C) "__getattribute__" = some (some (.builtin "BaseException.__getattribute__"))
  gg : PySem.W.findIn K (.ref C) "__getattr__" = some none
  sub : PySem.W.subIn K (.ref C) (.type "BaseException") = some true
  hd : PySem.W.hasDictIn K C = true
  cl : PySem.W.findIn K (.ref C) "__class__" = some (some (.builtin "object.__class__"))
  sp : PySem.W.specialIn K (.builtin "object.__class__") "__get__" = some (some (.builtin "getset_descriptor.__get__"))
  tk : PySem.W.takesIn K (.builtin "object.__class__") = some true
  mro : PySem.W.mroIn K C (.type "object") = some true
  no : ∀ f ∈ fs, PySem.W.findIn K (.ref C) f = some none
/-- what tells of a thing that stays as it is -/
def still : HO → Bool
  | .ext _ => true
  | .xd _ => true
  | _ => false

mutual
/-- the value v is the datum, by what F knows -/
inductive RepS (K : PySem.W.Frag) (F : Hp) : SD → V → Prop
  | non : RepS K F .non .non
  | bl (b : Bool) : RepS K F (.bl b) (.bl b)
  | int (i : Int) : RepS K F (.int i) (.int i)
  | str (x : Str) : RepS K F (.str x) (.str x)
  | ref (a : Addr) : RepS K F (.ref a) (.ref a)
  | ty (n : String) : RepS K F (.ty n) (.ty n)
  | tup {a : Addr} {ds : List SD} {vs : List V} : SqT K F a vs → RepL K F ds vs → RepS K F (.tup ds) (.ref a)
  | lst {a : Addr} {ds : List SD} {vs : List V} : F a = some (.lst vs) → RepL K F ds vs → RepS K F (.lst ds) (.ref a)
  | rol {a : Addr} {ds : List SD} {vs : List V} : SqL K F a vs → RepL K F ds vs → RepS K F (.rol ds) (.ref a)
  | dic {a : Addr} {ds : List (Key × SD)} {vs : List (Key × V)} : Rd F a (.dK vs) → vs.map (·.1) = ds.map (·.1) → RepL K F (ds.map (·.2)) (vs.map (·.2)) → RepS K F (.dic ds) (.ref a)
  | exc0 {a C : Addr} {x : Str} : XcK K x C [] → F a = some (exq a C none) → RepS K F (.exc x []) (.ref a)
  | exc {a C dx : Addr} {x : Str} {ds : List (Str × SD)} {vs : List (Str × V)} : XcK K x C (ds.map (·.1)) → F a = some (exq a C (some dx)) → F dx = some (.xd vs) → vs.map (·.1) = ds.map (·.1) → RepL K F (ds.map (·.2)) (vs.map (·.2)) → RepS K F (.exc x ds) (.ref a)
  | ptp {a : Addr} {o : Obj} {ds : List SD} {vs : List V} : F a = some (.frz o (.tup vs)) → o.dict = none → RepL K F ds vs → RepS K F (.ptp ds) (.ref a)
inductive RepL (K : PySem.W.Frag) (F : Hp) : List SD → List V → Prop
  | nil : RepL K F [] []
  | cons {d : SD} {v : V} {ds : List SD} {vs : List V} : RepS K F d v → RepL K F ds vs → RepL K F (d :: ds) (v :: vs)
end

/-- F' reads whatever F reads -/
structure Ext (F F' : Hp) : Prop where
  rd : ∀ a u, Rd F a u → Rd F' a u
  ls : ∀ a vs, F a = some (.lst vs) → F' a = some (.lst vs)
  fz : ∀ a o u, F a = some (.frz o u) → F' a = some (.frz o u)
  st : ∀ a o, still o = true → F a = some o → F' a = some o
theorem Ext.refl (F : Hp) : Ext F F := ⟨fun _ _ h => h, fun _ _ h => h, fun _ _ _ h => h, fun _ _ _ h => h⟩
theorem Ext.trans {F F1 F2 : Hp} (a : Ext F F1) (b : Ext F1 F2) : Ext F F2 := ⟨fun x u h => b.rd x u (a.rd x u h), fun x u h => b.ls x u (a.ls x u h), fun x o u h => b.fz x o u (a.fz x o u h), fun x o q h => b.st x o q (a.st x o q h)⟩
theorem Ext.sqL {K : PySem.W.Frag} {F F' : Hp} {a : Addr} {xs : List V} (e : Ext F F') (h : SqL K F a xs) : SqL K F' a xs := h.elim (fun r => .inl (e.rd a _ r)) .inr
theorem Ext.sqT {K : PySem.W.Frag} {F F' : Hp} {a : Addr} {xs : List V} (e : Ext F F') (h : SqT K F a xs) : SqT K F' a xs := h.elim (fun r => .inl (e.rd a _ r)) .inr
theorem Ext.of_sub {F F' : Hp} (h : ∀ a o, F a = some o → F' a = some o) : Ext F F' := ⟨fun a u r => r.elim (fun z => .inl (h a _ z)) fun ⟨o, z⟩ => .inr ⟨o, h a _ z⟩, fun a vs z => h a _ z, fun a o u z => h a _ z, fun a o _ z => h a _ z⟩
theorem Ext.new {F : Hp} {p : Addr} {o : HO} (h : F p = none) : Ext F (upd F p o) := Ext.of_sub fun a u e => by
  rw [upd_ne (ne_of_none e h)]; exact e

mutual
theorem RepS.mono {K : PySem.W.Frag} {F F' : Hp} (e : Ext F F') : ∀ {d : SD} {v : V}, RepS K F d v → RepS K F' d v
  | _, _, .non => .non
  | _, _, .bl b => .bl b
  | _, _, .int i => .int i
  | _, _, .str x => .str x
  | _, _, .ref a => .ref a
  | _, _, .ty n => .ty n
  | _, _, .tup h r => .tup (e.sqT h) (RepL.mono e r)
  | _, _, .lst h r => .lst (e.ls _ _ h) (RepL.mono e r)
  | _, _, .rol h r => .rol (e.sqL h) (RepL.mono e r)
  | _, _, .dic h q r => .dic (e.rd _ _ h) q (RepL.mono e r)
  | _, _, .exc0 h q => .exc0 h (e.st _ _ rfl q)
  | _, _, .exc h q p z r => .exc h (e.st _ _ rfl q) (e.st _ _ rfl p) z (RepL.mono e r)
  | _, _, .ptp h q r => .ptp (e.fz _ _ _ h) q (RepL.mono e r)
theorem RepL.mono {K : PySem.W.Frag} {F F' : Hp} (e : Ext F F') : ∀ {ds : List SD} {vs : List V}, RepL K F ds vs → RepL K F' ds vs
  | _, _, .nil => .nil
  | _, _, .cons h r => .cons (RepS.mono e h) (RepL.mono e r)
end

section
variable {K : PySem.W.Frag} {F : Hp}
theorem RepL.length : ∀ {ds : List SD} {vs : List V}, RepL K F ds vs → ds.length = vs.length
  | _, _, .nil => rfl
  | _, _, .cons _ r => congrArg (· + 1) (RepL.length r)
theorem RepL.get : ∀ {ds : List SD} {vs : List V} {i : Nat} {d : SD}, RepL K F ds vs → ds[i]? = some d → ∃ v, vs[i]? = some v ∧ RepS K F d v
  | _, _, _, _, .nil, e => by simp at e
  | _, _, 0, _, .cons h _, e => by simp at e; subst e; exact ⟨_, rfl, h⟩
  | _, _, i + 1, d, .cons _ r, e => by
    obtain ⟨v, h1, h2⟩ := RepL.get (i := i) (d := d) r (by simpa using e)
    exact ⟨v, by simpa using h1, h2⟩
theorem RepL.getV : ∀ {ds : List SD} {vs : List V} {i : Nat} {v : V}, RepL K F ds vs → vs[i]? = some v → ∃ d, ds[i]? = some d ∧ RepS K F d v
  | _, _, _, _, .nil, e => by simp at e
  | _, _, 0, _, .cons h _, e => by simp at e; subst e; exact ⟨_, rfl, h⟩
  | _, _, i + 1, v, .cons _ r, e => by
    obtain ⟨d, h1, h2⟩ := RepL.getV (i := i) (v := v) r (by simpa using e)
    exact ⟨d, by simpa using h1, h2⟩
theorem RepL.append : ∀ {ds es : List SD} {vs ws : List V}, RepL K F ds vs → RepL K F es ws → RepL K F (ds ++ es) (vs ++ ws)
  | _, _, _, _, .nil, s => s
  | _, _, _, _, .cons h r, s => .cons h (RepL.append r s)
theorem RepL.take : ∀ {ds : List SD} {vs : List V} (n : Nat), RepL K F ds vs → RepL K F (ds.take n) (vs.take n)
  | _, _, 0, _ => .nil
  | _, _, _ + 1, .nil => .nil
  | _, _, n + 1, .cons h r => .cons h (RepL.take n r)
theorem RepL.drop : ∀ {ds : List SD} {vs : List V} (n : Nat), RepL K F ds vs → RepL K F (ds.drop n) (vs.drop n)
  | _, _, 0, r => r
  | _, _, _ + 1, .nil => .nil
  | _, _, n + 1, .cons _ r => RepL.drop n r
theorem RepL.one {d : SD} {v : V} (h : RepS K F d v) : RepL K F [d] [v] := .cons h .nil
theorem RepL.set {e : SD} {w : V} (h : RepS K F e w) : ∀ {ds : List SD} {vs : List V} (i : Nat), RepL K F ds vs → RepL K F (ds.set i e) (vs.set i w)
  | _, _, _, .nil => .nil
  | _, _, 0, .cons _ r => .cons h r
  | _, _, i + 1, .cons q r => .cons q (RepL.set h i r)
theorem RepL.cut {ds : List SD} {vs : List V} (h : RepL K F ds vs) (i : Nat) : RepL K F (ds.take i ++ ds.drop i) (vs.take i ++ vs.drop i) := (h.take i).append (h.drop i)
theorem RepL.nil_iff {ds : List SD} {vs : List V} (h : RepL K F ds vs) : ds = [] ↔ vs = [] := by
  cases h <;> simp
theorem RepL.ofInts : ∀ (ns : List Int), RepL K F (ns.map SD.int) (ns.map V.int)
  | [] => .nil
  | n :: r => .cons (.int n) (RepL.ofInts r)
end

/-- what stands at an address and may change -/
inductive MO where
  | lst (xs : List SD)
  | dic (kvs : List (Key × SD))
  /-- an instance of the own class named x -/
  | obj (x : Str) (fs : List (Str × SD))
  /-- a dict that is walked through: it stands just so -/
  | fdic (kvs : List (Key × SD)) (o : HO)
  /-- the table of code objects at P of the def x: all that it tells bear the name q -/
  | tab (P : Addr) (x q : Str)
  /-- any thing, by what the heap tells of it -/
  | hob (o : HO)
abbrev Mu := Addr → Option MO
def up (μ : Mu) (a : Addr) (m : MO) : Mu := fun b => if b = a then some m else μ b
theorem up_same {μ : Mu} {a : Addr} {m : MO} : up μ a m a = some m := by unfold up; rw [if_pos rfl]
theorem up_ne {μ : Mu} {a b : Addr} {m : MO} (h : b ≠ a) : up μ a m b = μ b := by unfold up; rw [if_neg h]
theorem up_up {μ : Mu} {a : Addr} {m n : MO} : up (up μ a m) a n = up μ a n := by funext b; unfold up; split <;> rfl
theorem mu_ne {μ : Mu} {a b : Addr} {m : MO} (h : μ a = some m) (h' : μ b = none) : a ≠ b := by
  intro e; subst e; rw [h] at h'; cases h'
/-- what the written part says of the own class named x -/
structure OcK (K : PySem.W.Frag) (x : Str) (C : Addr) : Prop where
  at_ : PySem.W.nsIn K mainGlobals x = some (some (.ref C))
  c : Cls K C
/-- the table of the code object of the def named x stands at P -/
def TabAt (K : PySem.W.Frag) (x : Str) (P : Addr) : Prop := ∃ (f c : Addr) (oc : Value) (od : Option Addr) (fd : FuncData) (osl : Array (Option Value)), PySem.W.nsIn K mainGlobals x = some (some (.ref f)) ∧ K.lookup f = some ⟨oc, od, .func fd, osl⟩ ∧ fd.code = .ref c ∧ PySem.W.codeHdIn K c P = true
inductive RepO (K : PySem.W.Frag) (F : Hp) : MO → HO → Prop
  | lst {ds : List SD} {vs : List V} : RepL K F ds vs → RepO K F (.lst ds) (.lst vs)
  | dic {ds : List (Key × SD)} {vs : List (Key × V)} : vs.map (·.1) = ds.map (·.1) → RepL K F (ds.map (·.2)) (vs.map (·.2)) → RepO K F (.dic ds) (.dK vs)
  | obj {C dx : Addr} {x : Str} {ds : List (Str × SD)} {vs : List (Str × V)} : OcK K x C → vs.map (·.1) = ds.map (·.1) → RepL K F (ds.map (·.2)) (vs.map (·.2)) → RepO K F (.obj x ds) (.ins C dx vs)
  | fdic {ob : Obj} {ds : List (Key × SD)} {vs : List (Key × V)} : vs.map (·.1) = ds.map (·.1) → RepL K F (ds.map (·.2)) (vs.map (·.2)) → RepO K F (.fdic ds (.frz ob (.dK vs))) (.frz ob (.dK vs))
  | tab {P : Addr} {x q : Str} {ps : Array Value} : TabAt K x P → TriplesOk ps.toList → (∀ (pos : Pos) (cv : Value), codeAmong pos ps.toList = some cv → ∃ c, cv = .ref c ∧ F c = some (LamX.CodeO c q)) → RepO K F (.tab P x q) (.tbl ps)
  | hob {o : HO} : RepO K F (.hob o) o
theorem RepO.mono {K : PySem.W.Frag} {F F' : Hp} (e : Ext F F') {m : MO} {o : HO} (h : RepO K F m o) : RepO K F' m o := by
  cases h with
  | lst r => exact .lst (r.mono e)
  | dic q r => exact .dic q (r.mono e)
  | obj c q r => exact .obj c q (r.mono e)
  | fdic q r => exact .fdic q (r.mono e)
  | tab a t k => exact .tab a t fun pos cv hc => (k pos cv hc).elim fun c z => ⟨c, z.1, e.st _ _ rfl z.2⟩
  | hob => exact .hob

/-- the heap H is F (known, unchanging) and μ (what changes), and more -/
structure HReal (K : PySem.W.Frag) (F H : Hp) (μ : Mu) : Prop where
  sub : ∀ a o, F a = some o → H a = some o
  mus : ∀ a m, μ a = some m → F a = none ∧ ∃ o, H a = some o ∧ RepO K F m o
/-- what is neither F's nor μ's stays so -/
structure Stp (F H : Hp) (μ : Mu) (F' H' : Hp) (μ' : Mu) : Prop where
  ext : Ext F F'
  fr : ∀ a, H a ≠ none → F a = none → μ a = none → H' a = H a ∧ F' a = none ∧ μ' a = none
theorem Stp.refl (F H : Hp) (μ : Mu) : Stp F H μ F H μ := ⟨Ext.refl F, fun _ _ b c => ⟨rfl, b, c⟩⟩
theorem Stp.trans {F H F1 H1 F2 H2 : Hp} {μ μ1 μ2 : Mu} (a : Stp F H μ F1 H1 μ1) (b : Stp F1 H1 μ1 F2 H2 μ2) : Stp F H μ F2 H2 μ2 :=
  ⟨a.ext.trans b.ext, fun x h1 h2 h3 => by
    obtain ⟨p, q, r⟩ := a.fr x h1 h2 h3
    obtain ⟨p', q', r'⟩ := b.fr x (by rw [p]; exact h1) q r
    exact ⟨p'.trans p, q', r'⟩⟩
section
variable {K : PySem.W.Frag} {F H : Hp} {μ : Mu} {p a : Addr}
theorem HReal.freeF (R : HReal K F H μ) (h : H p = none) : F p = none := by
  cases e : F p with
  | none => rfl
  | some o => rw [R.sub p o e] at h; cases h
theorem HReal.freeM (R : HReal K F H μ) (h : H p = none) : μ p = none := by
  cases e : μ p with
  | none => rfl
  | some m =>
    obtain ⟨_, o, z, _⟩ := R.mus p m e
    rw [z] at h; cases h
theorem HReal.ext (R : HReal K F H μ) : Ext F H := Ext.of_sub R.sub
/-- a new object that will not change -/
theorem HReal.newS (R : HReal K F H μ) {o : HO} (h : H p = none) : HReal K (upd F p o) (upd H p o) μ := by
  have hF := R.freeF h
  refine ⟨fun b u e => ?_, fun b m e => ?_⟩
  · by_cases hb : b = p
    · subst hb; rw [upd_same] at e ⊢; exact e
    · rw [upd_ne hb] at e ⊢; exact R.sub b u e
  · obtain ⟨z, u, q, r⟩ := R.mus b m e
    have hb : b ≠ p := ne_of_none q h
    exact ⟨by rw [upd_ne hb]; exact z, u, by rw [upd_ne hb]; exact q, r.mono (Ext.new hF)⟩
theorem Stp.newS (R : HReal K F H μ) {o : HO} (h : H p = none) : Stp F H μ (upd F p o) (upd H p o) μ :=
  ⟨Ext.new (R.freeF h), fun b h1 h2 h3 => by
    have hb : b ≠ p := fun z => by subst z; exact h1 h
    exact ⟨upd_ne hb, by rw [upd_ne hb]; exact h2, h3⟩⟩
/-- a new object that may change -/
theorem HReal.newM (R : HReal K F H μ) {o : HO} {m : MO} (h : H p = none) (r : RepO K F m o) : HReal K F (upd H p o) (up μ p m) := by
  have hF := R.freeF h
  refine ⟨fun b u e => ?_, fun b n e => ?_⟩
  · rw [upd_ne (ne_of_none e hF)]; exact R.sub b u e
  · by_cases hb : b = p
    · subst hb; rw [up_same] at e; cases e; exact ⟨hF, o, upd_same, r⟩
    · rw [up_ne hb] at e
      obtain ⟨z, u, q, r'⟩ := R.mus b n e
      exact ⟨z, u, by rw [upd_ne hb]; exact q, r'⟩
theorem Stp.newM (R : HReal K F H μ) {o : HO} {m : MO} (h : H p = none) : Stp F H μ F (upd H p o) (up μ p m) :=
  ⟨Ext.refl F, fun b h1 h2 h3 => by
    have hb : b ≠ p := fun z => by subst z; exact h1 h
    exact ⟨upd_ne hb, h2, by rw [up_ne hb]; exact h3⟩⟩
/-- an object is changed -/
theorem HReal.put (R : HReal K F H μ) {o : HO} {m n : MO} (h : μ a = some n) (r : RepO K F m o) : HReal K F (upd H a o) (up μ a m) := by
  have hF := (R.mus a n h).1
  refine ⟨fun b u e => ?_, fun b k e => ?_⟩
  · rw [upd_ne (ne_of_none e hF)]; exact R.sub b u e
  · by_cases hb : b = a
    · subst hb; rw [up_same] at e; cases e; exact ⟨hF, o, upd_same, r⟩
    · rw [up_ne hb] at e
      obtain ⟨z, u, q, r'⟩ := R.mus b k e
      exact ⟨z, u, by rw [upd_ne hb]; exact q, r'⟩
theorem Stp.put {o : HO} {m n : MO} (h : μ a = some n) : Stp F H μ F (upd H a o) (up μ a m) :=
  ⟨Ext.refl F, fun b h1 h2 h3 => by
    have hb : b ≠ a := fun z => by subst z; rw [h] at h3; cases h3
    exact ⟨upd_ne hb, h2, by rw [up_ne hb]; exact h3⟩⟩
/-- forgetting -/
def rm (μ : Mu) (a : Addr) : Mu := fun b => if b = a then none else μ b
theorem rm_same : rm μ a a = none := by unfold rm; rw [if_pos rfl]
theorem rm_ne {b : Addr} (h : b ≠ a) : rm μ a b = μ b := by unfold rm; rw [if_neg h]
/-- a list that changes no more -/
theorem HReal.freeze (R : HReal K F H μ) {xs : List SD} (h : μ a = some (.lst xs)) : ∃ vs, H a = some (.lst vs) ∧ RepL K F xs vs ∧ HReal K (upd F a (.lst vs)) H (rm μ a) ∧ Stp F H μ (upd F a (.lst vs)) H (rm μ a) ∧ RepS K (upd F a (.lst vs)) (.lst xs) (.ref a) := by
  obtain ⟨hF, o, hH, r⟩ := R.mus a _ h
  cases r with
  | lst r =>
    rename_i vs
    have ex : Ext F (upd F a (.lst vs)) := Ext.new hF
    refine ⟨vs, hH, r, ⟨fun b u e => ?_, fun b m e => ?_⟩, ⟨ex, fun b h1 h2 h3 => ?_⟩, .lst upd_same (r.mono ex)⟩
    · by_cases hb : b = a
      · subst hb; rw [upd_same] at e; cases e; exact hH
      · rw [upd_ne hb] at e; exact R.sub b u e
    · by_cases hb : b = a
      · subst hb; rw [rm_same] at e; cases e
      · rw [rm_ne hb] at e
        obtain ⟨z, u, q, r'⟩ := R.mus b m e
        exact ⟨by rw [upd_ne hb]; exact z, u, q, r'.mono ex⟩
    · have hb : b ≠ a := fun z => by subst z; rw [h] at h3; cases h3
      exact ⟨rfl, by rw [upd_ne hb]; exact h2, by rw [rm_ne hb]; exact h3⟩
theorem HReal.freezeD (R : HReal K F H μ) {xs : List (Key × SD)} (h : μ a = some (.dic xs)) : ∃ vs, H a = some (.dK vs) ∧ HReal K (upd F a (.dK vs)) H (rm μ a) ∧ Stp F H μ (upd F a (.dK vs)) H (rm μ a) ∧ RepS K (upd F a (.dK vs)) (.dic xs) (.ref a) := by
  obtain ⟨hF, o, hH, r⟩ := R.mus a _ h
  cases r with
  | dic q r =>
    rename_i vs
    have ex : Ext F (upd F a (.dK vs)) := Ext.new hF
    refine ⟨vs, hH, ⟨fun b u e => ?_, fun b m e => ?_⟩, ⟨ex, fun b h1 h2 h3 => ?_⟩, .dic (.inl upd_same) q (r.mono ex)⟩
    · by_cases hb : b = a
      · subst hb; rw [upd_same] at e; cases e; exact hH
      · rw [upd_ne hb] at e; exact R.sub b u e
    · by_cases hb : b = a
      · subst hb; rw [rm_same] at e; cases e
      · rw [rm_ne hb] at e
        obtain ⟨z, u, q, r'⟩ := R.mus b m e
        exact ⟨by rw [upd_ne hb]; exact z, u, q, r'.mono ex⟩
    · have hb : b ≠ a := fun z => by subst z; rw [h] at h3; cases h3
      exact ⟨rfl, by rw [upd_ne hb]; exact h2, by rw [rm_ne hb]; exact h3⟩
end

abbrev Rho := List (Option SD)
/-- the slots: where ρ knows a datum, σ has it -/
structure Slots (K : PySem.W.Frag) (F : Hp) (σ : L2.St) (ρ : Rho) : Prop where
  len : σ.length = ρ.length
  at_ : ∀ (i : Nat) (d : SD), ρ[i]? = some (some d) → ∃ v, σ[i]? = some (some v) ∧ RepS K F d v
section
variable {K : PySem.W.Frag} {F F' : Hp} {σ : L2.St} {ρ : Rho}
theorem Slots.mono (e : Ext F F') (h : Slots K F σ ρ) : Slots K F' σ ρ := ⟨h.len, fun i d q => let ⟨v, a, b⟩ := h.at_ i d q; ⟨v, a, b.mono e⟩⟩
theorem Slots.set {d : SD} {v : V} (h : Slots K F σ ρ) (i : Nat) (r : RepS K F d v) : Slots K F (σ.set i (some v)) (ρ.set i (some d)) := by
  refine ⟨by simp [h.len], fun j e q => ?_⟩
  by_cases hj : j = i
  · subst hj
    by_cases hl : j < ρ.length
    · rw [List.getElem?_set_self hl] at q
      cases q
      exact ⟨v, List.getElem?_set_self (by rw [h.len]; exact hl), r⟩
    · rw [List.getElem?_eq_none (by simpa using Nat.le_of_not_lt hl)] at q; cases q
  · rw [List.getElem?_set_ne (Ne.symm hj)] at q ⊢
    exact h.at_ j e q
end

abbrev DTE := Rho → Mu → (SD → Mu → Prop) → Prop
abbrev DTT := Rho → Mu → (Bool → Mu → Prop) → Prop
abbrev DTA := Rho → Mu → (List SD → Mu → Prop) → Prop
/-- what an exception's reading may speak of: the class, its attributes -/
abbrev DXK := Addr → List (Str × SD) → Mu → Prop
structure DEnds where
  nx : Rho → Mu → Prop
  rt : SD → Mu → Prop
  bk : Rho → Mu → Prop := fun _ _ => False
  ct : Rho → Mu → Prop := fun _ _ => False
abbrev DTS := DEnds → Rho → Mu → Prop
abbrev DTG := SD → Rho → Mu → (Rho → Mu → Prop) → Prop
abbrev DTGs := List SD → Rho → Mu → (Rho → Mu → Prop) → Prop

/-- the state is (F, H, μ) with the slots; behind it Q' is to hold of the datum -/
def LE (K : PySem.W.Frag) (t : DTE) : TE := fun σ H Q => ∃ F ρ μ Q', HReal K F H μ ∧ Slots K F σ ρ ∧ t ρ μ Q' ∧
  ∀ d μ', Q' d μ' → ∀ F' H' v, Stp F H μ F' H' μ' → HReal K F' H' μ' → RepS K F' d v → Q v H'
def LT (K : PySem.W.Frag) (t : DTT) : TT := fun σ H Q => ∃ F ρ μ Q', HReal K F H μ ∧ Slots K F σ ρ ∧ t ρ μ Q' ∧
  ∀ b μ', Q' b μ' → ∀ F' H', Stp F H μ F' H' μ' → HReal K F' H' μ' → Q b H'
def LA (K : PySem.W.Frag) (t : DTA) : TA := fun σ H Q => ∃ F ρ μ Q', HReal K F H μ ∧ Slots K F σ ρ ∧ t ρ μ Q' ∧
  ∀ ds μ', Q' ds μ' → ∀ F' H' vs, Stp F H μ F' H' μ' → HReal K F' H' μ' → RepL K F' ds vs → Q vs H'
def LG (K : PySem.W.Frag) (t : DTG) : TG := fun v σ H Q => ∃ F ρ μ d Q', HReal K F H μ ∧ Slots K F σ ρ ∧ RepS K F d v ∧ t d ρ μ Q' ∧
  ∀ ρ' μ', Q' ρ' μ' → ∀ F' H' σ', Stp F H μ F' H' μ' → HReal K F' H' μ' → Slots K F' σ' ρ' → Q σ' H'
def LGs (K : PySem.W.Frag) (t : DTGs) : TGs := fun vs σ H Q => ∃ F ρ μ ds Q', HReal K F H μ ∧ Slots K F σ ρ ∧ RepL K F ds vs ∧ t ds ρ μ Q' ∧
  ∀ ρ' μ', Q' ρ' μ' → ∀ F' H' σ', Stp F H μ F' H' μ' → HReal K F' H' μ' → Slots K F' σ' ρ' → Q σ' H'
def LS (K : PySem.W.Frag) (t : DTS) : TS := fun D σ H => ∃ F ρ μ D', HReal K F H μ ∧ Slots K F σ ρ ∧ t D' ρ μ ∧
  (∀ ρ' μ', D'.nx ρ' μ' → ∀ F' H' σ', Stp F H μ F' H' μ' → HReal K F' H' μ' → Slots K F' σ' ρ' → D.nx σ' H') ∧
  (∀ d μ', D'.rt d μ' → ∀ F' H' v, Stp F H μ F' H' μ' → HReal K F' H' μ' → RepS K F' d v → D.rt v H') ∧
  (∀ ρ' μ', D'.bk ρ' μ' → ∀ F' H' σ', Stp F H μ F' H' μ' → HReal K F' H' μ' → Slots K F' σ' ρ' → D.bk σ' H') ∧
  (∀ ρ' μ', D'.ct ρ' μ' → ∀ F' H' σ', Stp F H μ F' H' μ' → HReal K F' H' μ' → Slots K F' σ' ρ' → D.ct σ' H')

abbrev DE (X : Cx) (e : Expr) (t : DTE) : Prop := PE X e (LE X.K t)
abbrev DT (X : Cx) (e : Expr) (t : DTT) : Prop := PT X e (LT X.K t)
abbrev DW (X : Cx) (e : Expr) (t : DTT) : Prop := PW X e (LT X.K t)
abbrev DA (X : Cx) (es : List Expr) (t : DTA) : Prop := PA X es (LA X.K t)
abbrev DG (X : Cx) (e : Expr) (t : DTG) : Prop := PG X e (LG X.K t)
abbrev DGs (X : Cx) (es : List Expr) (t : DTGs) : Prop := PGs X es (LGs X.K t)
abbrev DS_ (X : Cx) (s : Stmt) (t : DTS) : Prop := PS X s (LS X.K t)
abbrev DSs (X : Cx) (s : List Stmt) (t : DTS) : Prop := PSs X s (LS X.K t)

theorem weakE {X : Cx} {e : Expr} {t t' : TE} (h : PE X e t) (w : ∀ σ H Q, t' σ H Q → t σ H Q) : PE X e t' := ⟨fun pins s σ H Q I q => h.run pins s σ H Q I (w σ H Q q)⟩
theorem weakT {X : Cx} {e : Expr} {t t' : TT} (h : PT X e t) (w : ∀ σ H Q, t' σ H Q → t σ H Q) : PT X e t' := ⟨fun pins s σ H Q I q => h.run pins s σ H Q I (w σ H Q q)⟩
theorem weakW {X : Cx} {e : Expr} {t t' : TT} (h : PW X e t) (w : ∀ σ H Q, t' σ H Q → t σ H Q) : PW X e t' := ⟨fun wh pins s σ H Q I q => h.run wh pins s σ H Q I (w σ H Q q)⟩
theorem weakA {X : Cx} {e : List Expr} {t t' : TA} (h : PA X e t) (w : ∀ σ H Q, t' σ H Q → t σ H Q) : PA X e t' := ⟨fun ps pins s σ H Q I q => h.run ps pins s σ H Q I (w σ H Q q)⟩
theorem weakS {X : Cx} {e : Stmt} {t t' : TS} (h : PS X e t) (w : ∀ D σ H, t' D σ H → t D σ H) : PS X e t' := ⟨fun pins s σ H D I q => h.run pins s σ H D I (w D σ H q)⟩
theorem weakSs {X : Cx} {e : List Stmt} {t t' : TS} (h : PSs X e t) (w : ∀ D σ H, t' D σ H → t D σ H) : PSs X e t' := ⟨fun pins s σ H D I q => h.run pins s σ H D I (w D σ H q)⟩
theorem weakG {X : Cx} {e : Expr} {t t' : TG} (h : PG X e t) (w : ∀ v σ H Q, t' v σ H Q → t v σ H Q) : PG X e t' := ⟨fun pins s σ H v u Q I r q => h.run pins s σ H v u Q I r (w v σ H Q q)⟩
theorem weakGs {X : Cx} {e : List Expr} {t t' : TGs} (h : PGs X e t) (w : ∀ v σ H Q, t' v σ H Q → t v σ H Q) : PGs X e t' := ⟨fun pins s σ H v u Q I r q => h.run pins s σ H v u Q I r (w v σ H Q q)⟩

section
variable {X : Cx} {pos p : Pos} {a b c e o : Expr} {es : List Expr} {x : Str}
def dVar (i : Nat) : DTE := fun ρ μ Q => match ρ[i]? with
  | some (some d) => Q d μ
  | _ => False
theorem de_var {i : Nat} (hN : X.N[i]? = some x) (hv : Vis X.env.scope x) (hd : (x == ("__debug__" : Str)) = false := by decide) (hcd : (x == ("__classdict__" : Str)) = false := by decide) : DE X (.Name x pos) (dVar i) :=
  weakE (pe_var hN hv hd hcd) fun σ H Q h => by
    obtain ⟨F, ρ, μ, Q', R, S, t, k⟩ := h
    unfold dVar at t
    split at t
    · rename_i d e
      obtain ⟨v, h1, h2⟩ := S.at_ _ _ e
      exact ⟨v, h1, k d μ t F H v (Stp.refl F H μ) R h2⟩
    · exact t.elim
abbrev dC (d : SD) : DTE := fun _ μ Q => Q d μ
/-- a datum whose value is plain -/
def plain : SD → Option V
  | .non => some .non
  | .bl b => some (.bl b)
  | .int i => some (.int i)
  | .str x => some (.str x)
  | .ref a => some (.ref a)
  | .ty n => some (.ty n)
  | _ => none
theorem RepS.plain {K : PySem.W.Frag} {F : Hp} {d : SD} {v : V} (h : plain d = some v) : RepS K F d v := by
  cases d <;> simp [DS.plain] at h <;> subst h <;> constructor
theorem RepS.isPlain {K : PySem.W.Frag} {F : Hp} {d : SD} {v w : V} (h : RepS K F d v) (p : DS.plain d = some w) : v = w := by
  cases h <;> simp [DS.plain] at p <;> exact p
theorem liftC {t : TE} {d : SD} {v : V} (h : PE X e (tC v)) (p : plain d = some v) : DE X e (dC d) :=
  weakE h fun σ H Q h => by
    obtain ⟨F, ρ, μ, Q', R, S, t, k⟩ := h
    exact k d μ t F H v (Stp.refl F H μ) R (RepS.plain p)
theorem de_int {i : Int} {j} : DE X (.Constant (.int i) j pos) (dC (.int i)) := liftC (t := tC (.int i)) pe_int rfl
theorem de_bl {i : Bool} {j} : DE X (.Constant (.bool i) j pos) (dC (.bl i)) := liftC (t := tC (.bl i)) pe_bl rfl
theorem de_non {j} : DE X (.Constant .none j pos) (dC .non) := liftC (t := tC .non) pe_non rfl
theorem de_str {y : Str} {j} : DE X (.Constant (.str y) j pos) (dC (.str y)) := liftC (t := tC (.str y)) pe_str rfl
theorem de_glob {d : SD} {v : V} {u : Value} (hg : Gl X x) (hm : X.mg x = some u) (r : RelV v u) (pl : plain d = some v) (hd : (x == ("__debug__" : Str)) = false := by decide) : DE X (.Name x pos) (dC d) := liftC (t := tC v) (pe_glob hg hm r hd) pl

/-- two operands -/
abbrev DR2 := SD → SD → Mu → (SD → Mu → Prop) → Prop
def LR2 (K : PySem.W.Frag) (dr : DR2) (r : R2) : Prop := ∀ F H μ x y dx dy Q' Q, HReal K F H μ → RepS K F dx x → RepS K F dy y → dr dx dy μ Q' →
  (∀ d μ', Q' d μ' → ∀ F' H' v, Stp F H μ F' H' μ' → HReal K F' H' μ' → RepS K F' d v → Q v H') → r x y H Q
abbrev dOp (dr : DR2) (ta tb : DTE) : DTE := fun ρ μ Q => ta ρ μ fun x μ1 => tb ρ μ1 fun y μ2 => dr x y μ2 Q
theorem lift2 {K : PySem.W.Frag} {dr : DR2} {r : R2} {ta tb : DTE} (hl : LR2 K dr r) : ∀ σ H Q, LE K (dOp dr ta tb) σ H Q → tOp r (LE K ta) (LE K tb) σ H Q := fun σ H Q h => by
  obtain ⟨F, ρ, μ, Q', R, S, t, k⟩ := h
  refine ⟨F, ρ, μ, _, R, S, t, fun d1 μ1 t1 F1 H1 v1 s1 R1 r1 => ?_⟩
  refine ⟨F1, ρ, μ1, _, R1, S.mono s1.ext, t1, fun d2 μ2 t2 F2 H2 v2 s2 R2 r2 => ?_⟩
  exact hl F2 H2 μ2 v1 v2 d1 d2 Q' Q R2 (r1.mono s2.ext) r2 t2 fun d μ' q F' H' v s R' r' => k d μ' q F' H' v ((s1.trans s2).trans s) R' r'
theorem de_op {op : Operator} {r : R2} {dr : DR2} {ta tb : DTE} (ho : OpR X (binaryOp op) r) (hl : LR2 X.K dr r) (ha : DE X a ta) (hb : DE X b tb) : DE X (.BinOp a op b pos) (dOp dr ta tb) :=
  weakE (pe_op ho ha hb) (lift2 hl)
theorem de_cmp {op : CmpOp} {r : R2} {dr : DR2} {ta tb : DTE} (ho : OpR X (compareOp op) r) (hl : LR2 X.K dr r) (ha : DE X a ta) (hb : DE X b tb) (hm : behindInMarks op b = false) : DE X (.Compare a [op] [b] pos) (dOp dr ta tb) :=
  weakE (pe_cmpR ho ha hb hm) (lift2 hl)
abbrev dTest (t : DTE) : DTT := fun ρ μ Q => t ρ μ fun d μ1 => match d with
  | .bl b => Q b μ1
  | _ => False
theorem dt_cmp {op : CmpOp} {r : R2} {dr : DR2} {ta tb : DTE} (ho : OpR X (compareOp op) r) (hl : LR2 X.K dr r) (ha : DE X a ta) (hb : DE X b tb) (hm : behindInMarks op b = false) : DT X (.Compare a [op] [b] pos) (dTest (dOp dr ta tb)) :=
  weakT (pt_cmpR ho ha hb hm) fun σ H Q h => by
    obtain ⟨F, ρ, μ, Q', R, S, t, k⟩ := h
    refine lift2 hl σ H _ ⟨F, ρ, μ, _, R, S, t, fun d μ' q F' H' v s R' r' => ?_⟩
    cases r' with
    | bl b => exact ⟨b, rfl, k b μ' q F' H' s R'⟩
    | _ => exact q.elim
/-- an expression that gives True or False, as a test -/
theorem dt_val {t : DTE} (h : DE X e t) (he : ∀ whole, isTrue e X.env whole = (do let v ← whole; standAt e.pos; holding [v] (truthy v)) := by intro _; rfl) : DT X e (dTest t) :=
  weakT (pt_val h he) fun σ H Q h => by
    obtain ⟨F, ρ, μ, Q', R, S, t, k⟩ := h
    refine ⟨F, ρ, μ, _, R, S, t, fun d μ' q F' H' v s R' r' => ?_⟩
    cases r' with
    | bl b => exact ⟨b, rfl, k b μ' q F' H' s R'⟩
    | _ => exact q.elim
abbrev dAnd (t u : DTT) : DTT := fun ρ μ Q => t ρ μ fun c μ1 => if c = true then u ρ μ1 Q else Q false μ1
abbrev dOr (t u : DTT) : DTT := fun ρ μ Q => t ρ μ fun c μ1 => if c = true then Q true μ1 else u ρ μ1 Q
abbrev dNot (t : DTT) : DTT := fun ρ μ Q => t ρ μ fun c μ1 => Q (!c) μ1
section
variable {K : PySem.W.Frag} {t u : DTT}
theorem lift_and : ∀ σ H Q, LT K (dAnd t u) σ H Q → tAnd (LT K t) (LT K u) σ H Q := fun σ H Q h => by
  obtain ⟨F, ρ, μ, Q', R, S, t, k⟩ := h
  refine ⟨F, ρ, μ, _, R, S, t, fun c μ1 t1 F1 H1 s1 R1 => ?_⟩
  cases c with
  | true => exact ⟨F1, ρ, μ1, Q', R1, S.mono s1.ext, t1, fun b μ' q F' H' s R' => k b μ' q F' H' (s1.trans s) R'⟩
  | false => exact k false μ1 t1 F1 H1 s1 R1
theorem lift_or : ∀ σ H Q, LT K (dOr t u) σ H Q → tOr (LT K t) (LT K u) σ H Q := fun σ H Q h => by
  obtain ⟨F, ρ, μ, Q', R, S, t, k⟩ := h
  refine ⟨F, ρ, μ, _, R, S, t, fun c μ1 t1 F1 H1 s1 R1 => ?_⟩
  cases c with
  | false => exact ⟨F1, ρ, μ1, Q', R1, S.mono s1.ext, t1, fun b μ' q F' H' s R' => k b μ' q F' H' (s1.trans s) R'⟩
  | true => exact k true μ1 t1 F1 H1 s1 R1
end
theorem dw_and1 {t : DTT} (ha : DT X a t) : DW X (.BoolOp .And [a] pos) t := pw_and1 ha
theorem dw_or1 {t : DTT} (ha : DT X a t) : DW X (.BoolOp .Or [a] pos) t := pw_or1 ha
theorem dw_and {t u : DTT} {rest : List Expr} (ha : DT X a t) (hb : DW X (.BoolOp .And (b :: rest) pos) u) : DW X (.BoolOp .And (a :: b :: rest) pos) (dAnd t u) := weakW (pw_and ha hb) lift_and
theorem dw_or {t u : DTT} {rest : List Expr} (ha : DT X a t) (hb : DW X (.BoolOp .Or (b :: rest) pos) u) : DW X (.BoolOp .Or (a :: b :: rest) pos) (dOr t u) := weakW (pw_or ha hb) lift_or
theorem dt_not {t : DTT} (ha : DT X a t) : DT X (.UnaryOp .Not a pos) (dNot t) := weakT (pt_not ha) fun σ H Q h => by
  obtain ⟨F, ρ, μ, Q', R, S, t, k⟩ := h
  exact ⟨F, ρ, μ, _, R, S, t, fun c μ1 t1 F1 H1 s1 R1 => k (!c) μ1 t1 F1 H1 s1 R1⟩
/-- and, or, not as values: all but the last True or False -/
abbrev dAndV (ta tb : DTE) : DTE := fun ρ μ Q => ta ρ μ fun x μ1 => match x with
  | .bl true => tb ρ μ1 Q
  | .bl false => Q (.bl false) μ1
  | _ => False
theorem de_one {op} {t : DTE} (h : DE X a t) : DE X (.BoolOp op [a] pos) t := pe_one h
theorem de_and {ta tb : DTE} {rest : List Expr} (ha : DE X a ta) (hb : DE X (.BoolOp .And (b :: rest) pos) tb) : DE X (.BoolOp .And (a :: b :: rest) pos) (dAndV ta tb) := weakE (pe_and ha hb) fun σ H Q h => by
  obtain ⟨F, ρ, μ, Q', R, S, t, k⟩ := h
  refine ⟨F, ρ, μ, _, R, S, t, fun d μ1 t1 F1 H1 v s1 R1 r1 => ?_⟩
  cases r1 with
  | bl c =>
    refine ⟨c, rfl, ?_⟩
    cases c with
    | true => exact ⟨F1, ρ, μ1, Q', R1, S.mono s1.ext, t1, fun b μ' q F' H' v s R' r' => k b μ' q F' H' v (s1.trans s) R' r'⟩
    | false => exact k _ μ1 t1 F1 H1 _ s1 R1 (.bl false)
  | _ => exact t1.elim
abbrev dIf (t : DTT) (ta tb : DTE) : DTE := fun ρ μ Q => t ρ μ fun c μ1 => if c = true then ta ρ μ1 Q else tb ρ μ1 Q
theorem de_ifExp {t : DTT} {ta tb : DTE} (hc : DT X c t) (ha : DE X a ta) (hb : DE X b tb) : DE X (.IfExp c a b pos) (dIf t ta tb) := weakE (pe_ifExp hc ha hb) fun σ H Q h => by
  obtain ⟨F, ρ, μ, Q', R, S, t, k⟩ := h
  refine ⟨F, ρ, μ, _, R, S, t, fun d μ1 t1 F1 H1 s1 R1 => ?_⟩
  cases d with
  | true => exact ⟨F1, ρ, μ1, Q', R1, S.mono s1.ext, t1, fun b μ' q F' H' v s R' r' => k b μ' q F' H' v (s1.trans s) R' r'⟩
  | false => exact ⟨F1, ρ, μ1, Q', R1, S.mono s1.ext, t1, fun b μ' q F' H' v s R' r' => k b μ' q F' H' v (s1.trans s) R' r'⟩
/-- a < b < c -/
abbrev dChain (r r' : DR2) (ta tb tc : DTE) : DTE := fun ρ μ Q => ta ρ μ fun x μ1 => tb ρ μ1 fun y μ2 => r x y μ2 fun z μ3 => match z with
  | .bl true => tc ρ μ3 fun w μ4 => r' y w μ4 Q
  | .bl false => Q (.bl false) μ3
  | _ => False
theorem de_chain {op op' : CmpOp} {r r' : R2} {dr dr' : DR2} {ta tb tc : DTE} (ho : OpR X (compareOp op) r) (hl : LR2 X.K dr r) (ho' : OpR X (compareOp op') r') (hl' : LR2 X.K dr' r') (ha : DE X a ta) (hb : DE X b tb) (hc : DE X c tc) (hm : lastMarks [op, op'] [b, c] = false := by rfl) :
    DE X (.Compare a [op, op'] [b, c] pos) (dChain dr dr' ta tb tc) := weakE (pe_chain ho ho' ha hb hc hm) fun σ H Q h => by
  obtain ⟨F, ρ, μ, Q', R, S, t, k⟩ := h
  refine ⟨F, ρ, μ, _, R, S, t, fun d1 μ1 t1 F1 H1 v1 s1 R1 r1 => ?_⟩
  refine ⟨F1, ρ, μ1, _, R1, S.mono s1.ext, t1, fun d2 μ2 t2 F2 H2 v2 s2 R2 r2 => ?_⟩
  refine hl F2 H2 μ2 v1 v2 d1 d2 _ _ R2 (r1.mono s2.ext) r2 t2 fun d3 μ3 t3 F3 H3 v3 s3 R3 r3 => ?_
  cases r3 with
  | bl z =>
    refine ⟨z, rfl, ?_⟩
    cases z with
    | true =>
      refine ⟨F3, ρ, μ3, _, R3, S.mono ((s1.trans s2).trans s3).ext, t3, fun d4 μ4 t4 F4 H4 v4 s4 R4 r4 => ?_⟩
      exact hl' F4 H4 μ4 v2 v4 d2 d4 Q' Q R4 (r2.mono (s3.trans s4).ext) r4 t4 fun d μ' q F' H' v s R' r' => k d μ' q F' H' v ((((s1.trans s2).trans s3).trans s4).trans s) R' r'
    | false => exact k _ μ3 t3 F3 H3 _ ((s1.trans s2).trans s3) R3 (.bl false)
  | _ => exact t3.elim

abbrev dNil : DTA := fun _ μ Q => Q [] μ
abbrev dCons (te : DTE) (t : DTA) : DTA := fun ρ μ Q => te ρ μ fun x μ1 => t ρ μ1 fun xs μ2 => Q (x :: xs) μ2
theorem da_nil : DA X [] dNil := weakA pa_nil fun σ H Q h => by
  obtain ⟨F, ρ, μ, Q', R, S, t, k⟩ := h
  exact k [] μ t F H [] (Stp.refl F H μ) R .nil
theorem da_cons {te : DTE} {t : DTA} (ha : DE X e te) (hr : DA X es t) (hs : starEach (e :: es) X.env = (false, eval e X.env) :: starEach es X.env := by rfl) : DA X (e :: es) (dCons te t) :=
  weakA (pa_cons ha hr hs) fun σ H Q h => by
    obtain ⟨F, ρ, μ, Q', R, S, t, k⟩ := h
    refine ⟨F, ρ, μ, _, R, S, t, fun d1 μ1 t1 F1 H1 v1 s1 R1 r1 => ?_⟩
    exact ⟨F1, ρ, μ1, _, R1, S.mono s1.ext, t1, fun ds μ2 t2 F2 H2 vs s2 R2 r2 => k _ μ2 t2 F2 H2 _ (s1.trans s2) R2 (.cons (r1.mono s2.ext) r2)⟩
abbrev dTup (t : DTA) : DTE := fun ρ μ Q => t ρ μ fun xs μ1 => xs.length ≤ sizeLine ∧ Q (.tup xs) μ1
abbrev dLst (t : DTA) : DTE := fun ρ μ Q => t ρ μ fun xs μ1 => xs.length ≤ sizeLine ∧ Q (.lst xs) μ1
/-- a list that may change -/
abbrev dLstM (t : DTA) : DTE := fun ρ μ Q => t ρ μ fun xs μ1 => xs.length ≤ sizeLine ∧ ∀ p, μ1 p = none → Q (.ref p) (up μ1 p (.lst xs))
theorem de_tup {t : DTA} {x1} (h : DA X es t) : DE X (.Tuple es x1 pos) (dTup t) := weakE (pe_tup h) fun σ H Q h => by
  obtain ⟨F, ρ, μ, Q', R, S, t, k⟩ := h
  refine ⟨F, ρ, μ, _, R, S, t, fun ds μ1 t1 F1 H1 vs s1 R1 r1 => ⟨by rw [← r1.length]; exact t1.1, fun p hp => ?_⟩⟩
  exact k _ μ1 t1.2 _ _ _ (s1.trans (Stp.newS R1 hp)) (R1.newS hp) (.tup (.inl (.inl upd_same)) (r1.mono (Ext.new (R1.freeF hp))))
theorem de_lst {t : DTA} (h : DA X es t) : DE X (.List es pos) (dLst t) := weakE (pe_lst h) fun σ H Q h => by
  obtain ⟨F, ρ, μ, Q', R, S, t, k⟩ := h
  refine ⟨F, ρ, μ, _, R, S, t, fun ds μ1 t1 F1 H1 vs s1 R1 r1 => ⟨by rw [← r1.length]; exact t1.1, fun p hp => ?_⟩⟩
  exact k _ μ1 t1.2 _ _ _ (s1.trans (Stp.newS R1 hp)) (R1.newS hp) (.lst upd_same (r1.mono (Ext.new (R1.freeF hp))))
theorem de_lstM {t : DTA} (h : DA X es t) : DE X (.List es pos) (dLstM t) := weakE (pe_lst h) fun σ H Q h => by
  obtain ⟨F, ρ, μ, Q', R, S, t, k⟩ := h
  refine ⟨F, ρ, μ, _, R, S, t, fun ds μ1 t1 F1 H1 vs s1 R1 r1 => ⟨by rw [← r1.length]; exact t1.1, fun p hp => ?_⟩⟩
  exact k _ _ (t1.2 p (R1.freeM hp)) _ _ _ (s1.trans (Stp.newM R1 hp)) (R1.newM hp (.lst r1)) (.ref p)
end

section
variable {X : Cx} {pos p : Pos} {a b c e o : Expr} {es : List Expr} {x : Str} {st : Stmt} {rest : List Stmt}
abbrev dNext : DTS := fun D ρ μ => D.nx ρ μ
abbrev dSeq (t u : DTS) : DTS := fun D ρ μ => t { D with nx := u D } ρ μ
theorem dss_nil : DSs X [] dNext := weakSs pss_nil fun D σ H h => by
  obtain ⟨F, ρ, μ, D', R, S, t, k, _⟩ := h
  exact k ρ μ t F H σ (Stp.refl F H μ) R S
theorem dss_cons {t u : DTS} (h1 : DS_ X st t) (h2 : DSs X rest u) : DSs X (st :: rest) (dSeq t u) := weakSs (pss_cons h1 h2) fun D σ H h => by
  obtain ⟨F, ρ, μ, D', R, S, t, k, k2, k3, k4⟩ := h
  exact ⟨F, ρ, μ, _, R, S, t, fun ρ1 μ1 t1 F1 H1 σ1 s1 R1 S1 => ⟨F1, ρ1, μ1, D', R1, S1, t1, fun ρ' μ' q F' H' σ' s => k ρ' μ' q F' H' σ' (s1.trans s), fun d μ' q F' H' v s => k2 d μ' q F' H' v (s1.trans s),
    fun ρ' μ' q F' H' σ' s => k3 ρ' μ' q F' H' σ' (s1.trans s), fun ρ' μ' q F' H' σ' s => k4 ρ' μ' q F' H' σ' (s1.trans s)⟩, k2, k3, k4⟩
theorem dss_one {t : DTS} (h1 : DS_ X st t) : DSs X [st] t := pss_one h1
abbrev dDrop (te : DTE) : DTS := fun D ρ μ => te ρ μ fun _ μ1 => D.nx ρ μ1
theorem ds_expr {te : DTE} (he : DE X e te) (hs : swapsWith e none pos.line X.env = pure false := by rfl) : DS_ X (.Expr e pos) (dDrop te) := weakS (ps_expr he hs) fun D σ H h => by
  obtain ⟨F, ρ, μ, D', R, S, t, k, _⟩ := h
  exact ⟨F, ρ, μ, _, R, S, t, fun d μ1 t1 F1 H1 v s1 R1 r1 => k ρ μ1 t1 F1 H1 σ s1 R1 (S.mono s1.ext)⟩
abbrev dRet (te : DTE) : DTS := fun D ρ μ => te ρ μ D.rt
theorem ds_ret {te : DTE} (he : DE X e te) : DS_ X (.Return (some e) pos) (dRet te) := weakS (ps_ret he) fun D σ H h => by
  obtain ⟨F, ρ, μ, D', R, S, t, _, k, _⟩ := h
  exact ⟨F, ρ, μ, _, R, S, t, k⟩
/-- return of a list that has been filled: from then on it does not change -/
def frz : (SD → Mu → Prop) → SD → Mu → Prop := fun Q d μ => match d with
  | .ref a => match μ a with
    | some (.lst xs) => Q (.lst xs) (rm μ a)
    | some (.dic xs) => Q (.dic xs) (rm μ a)
    | _ => False
  | _ => False
abbrev dRetF (te : DTE) : DTS := fun D ρ μ => te ρ μ (frz D.rt)
theorem ds_retF {te : DTE} (he : DE X e te) : DS_ X (.Return (some e) pos) (dRetF te) := weakS (ps_ret he) fun D σ H h => by
  obtain ⟨F, ρ, μ, D', R, S, t, _, k, _⟩ := h
  refine ⟨F, ρ, μ, _, R, S, t, fun d μ1 t1 F1 H1 v s1 R1 r1 => ?_⟩
  cases r1 with
  | ref z =>
    unfold frz at t1
    simp only at t1
    split at t1
    · rename_i xs hx
      obtain ⟨vs, h1, h2, R2, s2, r2⟩ := R1.freeze hx
      exact k _ _ t1 _ _ _ (s1.trans s2) R2 r2
    · rename_i xs hx
      obtain ⟨vs, h1, R2, s2, r2⟩ := R1.freezeD hx
      exact k _ _ t1 _ _ _ (s1.trans s2) R2 r2
    · exact t1.elim
  | _ => exact t1.elim
abbrev dIfS (c : DTT) (t u : DTS) : DTS := fun D ρ μ => c ρ μ fun b μ1 => if b = true then t D ρ μ1 else u D ρ μ1
theorem ds_if {ss uu : List Stmt} {tc : DTT} {t u : DTS} (hc : DT X c tc) (ha : DSs X ss t) (hb : DSs X uu u) : DS_ X (.If c ss uu pos) (dIfS tc t u) := weakS (ps_if hc ha hb) fun D σ H h => by
  obtain ⟨F, ρ, μ, D', R, S, t, k, k2, k3, k4⟩ := h
  refine ⟨F, ρ, μ, _, R, S, t, fun d μ1 t1 F1 H1 s1 R1 => ?_⟩
  cases d with
  | true => exact ⟨F1, ρ, μ1, D', R1, S.mono s1.ext, t1, fun ρ' μ' q F' H' σ' s => k ρ' μ' q F' H' σ' (s1.trans s), fun d μ' q F' H' v s => k2 d μ' q F' H' v (s1.trans s),
    fun ρ' μ' q F' H' σ' s => k3 ρ' μ' q F' H' σ' (s1.trans s), fun ρ' μ' q F' H' σ' s => k4 ρ' μ' q F' H' σ' (s1.trans s)⟩
  | false => exact ⟨F1, ρ, μ1, D', R1, S.mono s1.ext, t1, fun ρ' μ' q F' H' σ' s => k ρ' μ' q F' H' σ' (s1.trans s), fun d μ' q F' H' v s => k2 d μ' q F' H' v (s1.trans s),
    fun ρ' μ' q F' H' σ' s => k3 ρ' μ' q F' H' σ' (s1.trans s), fun ρ' μ' q F' H' σ' s => k4 ρ' μ' q F' H' σ' (s1.trans s)⟩
abbrev hName (i : Nat) : DTG := fun d ρ μ Q => Q (ρ.set i (some d)) μ
theorem dg_name {i : Nat} (hN : X.N.Nodup) (hi : X.N[i]? = some x) (hx : Loc X.env.scope x) (hf : X.fn x = true ∨ X.env.scope.names.lookup x = some .local := by first | exact .inl rfl | exact .inr rfl | assumption) : DG X (.Name x pos) (hName i) :=
  weakG (pg_name hN hi hx hf) fun v σ H Q h => by
    obtain ⟨F, ρ, μ, d, Q', R, S, r, t, k⟩ := h
    exact k _ μ t F H _ (Stp.refl F H μ) R (S.set i r)
abbrev hNil : DTGs := fun vs ρ μ Q => vs = [] ∧ Q ρ μ
abbrev hCons (t : DTG) (u : DTGs) : DTGs := fun vs ρ μ Q => match vs with
  | v :: r => t v ρ μ fun ρ' μ' => u r ρ' μ' Q
  | [] => False
theorem dgs_nil : DGs X [] hNil := weakGs pgs_nil fun v σ H Q h => by
  obtain ⟨F, ρ, μ, ds, Q', R, S, r, ⟨e, t⟩, k⟩ := h
  subst e
  cases r
  exact ⟨rfl, k ρ μ t F H σ (Stp.refl F H μ) R S⟩
theorem dgs_cons {t : DTG} {u : DTGs} (h1 : DG X e t) (h2 : DGs X es u) (hs : (assignEach (e :: es) X.env).map (·.2) = assign e X.env :: (assignEach es X.env).map (·.2) := by rfl) : DGs X (e :: es) (hCons t u) :=
  weakGs (pgs_cons h1 h2 hs) fun v σ H Q h => by
    obtain ⟨F, ρ, μ, ds, Q', R, S, r, t, k⟩ := h
    cases r with
    | nil => exact t.elim
    | cons r rr =>
      refine ⟨_, _, rfl, F, ρ, μ, _, _, R, S, r, t, fun ρ1 μ1 t1 F1 H1 σ1 s1 R1 S1 => ?_⟩
      exact ⟨F1, ρ1, μ1, _, Q', R1, S1, rr.mono s1.ext, t1, fun ρ' μ' q F' H' σ' s => k ρ' μ' q F' H' σ' (s1.trans s)⟩
abbrev hTup (n : Nat) (t : DTGs) : DTG := fun d ρ μ Q => match d with
  | .tup xs => xs.length = n ∧ t xs ρ μ Q
  | _ => False
theorem dg_tup {k : Nat} {t : DTGs} {n : Nat} (hc : X.calm = true) (h : DGs X es t) (hn : (assignEach es X.env).length = n := by rfl) (hst : (assignEach es X.env).findIdx? (·.1) = none := by rfl) : DG X (.Tuple es k pos) (hTup n t) :=
  weakG (pg_tup hc h hn hst) fun v σ H Q h => by
    obtain ⟨F, ρ, μ, d, Q', R, S, r, t, k⟩ := h
    cases r with
    | tup h r => exact ⟨_, _, rfl, R.ext.sqT h, by rw [← r.length]; exact t.1, F, ρ, μ, _, Q', R, S, r, t.2, k⟩
    | _ => exact t.elim
abbrev dAsg (te : DTE) (g : DTG) : DTS := fun D ρ μ => te ρ μ fun x μ1 => g x ρ μ1 D.nx
theorem liftAsg {K : PySem.W.Frag} {te : DTE} {g : DTG} : ∀ D σ H, LS K (dAsg te g) D σ H → tAsg (LE K te) (LG K g) D σ H := fun D σ H h => by
  obtain ⟨F, ρ, μ, D', R, S, t, k, _⟩ := h
  exact ⟨F, ρ, μ, _, R, S, t, fun d μ1 t1 F1 H1 v s1 R1 r1 => ⟨F1, ρ, μ1, d, _, R1, S.mono s1.ext, r1, t1, fun ρ' μ' q F' H' σ' s => k ρ' μ' q F' H' σ' (s1.trans s)⟩⟩
theorem ds_asg {tg : Expr} {te : DTE} {g : DTG} (he : DE X e te) (hg : DG X tg g) (hs : swapsWithSole [tg] e pos.line X.env = pure false := by rfl) (hw : swappedStores [tg] e X.env = pure none := by rfl)
    (h1 : (assignEach [tg] X.env).map (·.2) = [assign tg X.env] := by rfl) : DS_ X (.Assign [tg] e pos) (dAsg te g) := weakS (ps_asg he hg hs hw h1) liftAsg
abbrev dSet (te : DTE) (i : Nat) : DTS := fun D ρ μ => te ρ μ fun x μ1 => D.nx (ρ.set i (some x)) μ1
theorem ds_set {i : Nat} {te : DTE} {pos' : Pos} (hN : X.N.Nodup) (hi : X.N[i]? = some x) (hx : Loc X.env.scope x) (he : DE X e te) (hs : swapsWith e (some (.Name x pos')) pos.line X.env = pure false := by rfl) (hf : X.fn x = true ∨ X.env.scope.names.lookup x = some .local := by first | exact .inl rfl | exact .inr rfl | assumption) :
    DS_ X (.Assign [.Name x pos'] e pos) (dSet te i) := weakS (ps_set hN hi hx he hs hf) fun D σ H h => by
  obtain ⟨F, ρ, μ, D', R, S, t, k, _⟩ := h
  exact ⟨F, ρ, μ, _, R, S, t, fun d μ1 t1 F1 H1 v s1 R1 r1 => k _ μ1 t1 F1 H1 _ s1 R1 ((S.mono s1.ext).set i r1)⟩
abbrev dPar (i j : Nat) (ta : DTA) : DTS := fun D ρ μ => ta ρ μ fun vs μ1 => match vs with
  | [v, w] => D.nx ((ρ.set i (some v)).set j (some w)) μ1
  | _ => False
theorem ds_par {i j : Nat} {x y : Str} {ta : DTA} {px py pt : Pos} {kt k2 pt2} (hc : X.calm = true) (hN : X.N.Nodup) (hi : X.N[i]? = some x) (hj : X.N[j]? = some y) (hij : i ≠ j)
    (hx : X.env.scope.names.lookup x = some .local) (hy : X.env.scope.names.lookup y = some .local) (ha : DA X [a, b] ta)
    (hw : swappedStores [.Tuple [.Name x px, .Name y py] kt pt] (.Tuple [a, b] k2 pt2) X.env = pure (some [x, y]))
    (hs : swapsWithSole [.Tuple [.Name x px, .Name y py] kt pt] (.Tuple [a, b] k2 pt2) pos.line X.env = pure false := by rfl) :
    DS_ X (.Assign [.Tuple [.Name x px, .Name y py] kt pt] (.Tuple [a, b] k2 pt2) pos) (dPar i j ta) := weakS (ps_par hc hN hi hj hij hx hy ha hw hs) fun D σ H h => by
  obtain ⟨F, ρ, μ, D', R, S, t, k, _⟩ := h
  refine ⟨F, ρ, μ, _, R, S, t, fun ds μ1 t1 F1 H1 vs s1 R1 r1 => ?_⟩
  cases r1 with
  | nil => exact t1.elim
  | cons r1 r2 => cases r2 with
    | nil => exact t1.elim
    | cons r2 r3 => cases r3 with
      | cons _ _ => exact t1.elim
      | nil => exact ⟨_, _, rfl, k _ μ1 t1 F1 H1 _ s1 R1 (((S.mono s1.ext).set i r1).set j r2)⟩
end
end DS
namespace DS
open PySem PySem.Spec PyProof.Rows L2

def lstD (μ : Mu) : SD → Option (List SD)
  | .lst xs => some xs
  | .ref a => match μ a with
    | some (.lst xs) => some xs
    | _ => none
  | _ => none
def seqD (μ : Mu) : SD → Option (List SD)
  | .tup xs => some xs
  | .rol xs => some xs
  | .lst xs => some xs
  | .ref a => match μ a with
    | some (.lst xs) => some xs
    | _ => none
  | _ => none
def isTup : SD → Bool
  | .tup _ => true
  | _ => false
section
variable {K : PySem.W.Frag} {F H : Hp} {μ : Mu} {d : SD} {v : V} {xs : List SD}
theorem HReal.lst (R : HReal K F H μ) (r : RepS K F d v) (e : lstD μ d = some xs) : ∃ a vs, v = .ref a ∧ H a = some (.lst vs) ∧ RepL K F xs vs := by
  cases r with
  | lst h q => cases e; exact ⟨_, _, rfl, R.sub _ _ h, q⟩
  | ref a =>
    unfold lstD at e
    simp only at e
    split at e
    · rename_i ys hy
      cases e
      obtain ⟨_, o, h, q⟩ := R.mus a _ hy
      cases q with
      | lst q => exact ⟨a, _, rfl, h, q⟩
    · cases e
  | _ => cases e
theorem HReal.seq (R : HReal K F H μ) (r : RepS K F d v) (e : seqD μ d = some xs) : ∃ a vs, v = .ref a ∧ RepL K F xs vs ∧ ((isTup d = false ∧ SqL K H a vs) ∨ (isTup d = true ∧ SqT K H a vs)) := by
  cases r with
  | lst h q => cases e; exact ⟨_, _, rfl, q, .inl ⟨rfl, SqL.of (R.sub _ _ h)⟩⟩
  | rol h q => cases e; exact ⟨_, _, rfl, q, .inl ⟨rfl, R.ext.sqL h⟩⟩
  | tup h q => cases e; exact ⟨_, _, rfl, q, .inr ⟨rfl, R.ext.sqT h⟩⟩
  | ref a =>
    unfold seqD at e
    simp only at e
    split at e
    · rename_i ys hy
      cases e
      obtain ⟨_, o, h, q⟩ := R.mus a _ hy
      cases q with
      | lst q => exact ⟨a, _, rfl, q, .inl ⟨rfl, SqL.of h⟩⟩
    · cases e
  | _ => cases e
theorem HReal.seq' (R : HReal K F H μ) (r : RepS K F d v) (e : seqD μ d = some xs) : ∃ a vs, v = .ref a ∧ RepL K F xs vs ∧ (SqL K H a vs ∨ SqT K H a vs) := by
  obtain ⟨a, vs, h1, h2, h3⟩ := R.seq r e
  exact ⟨a, vs, h1, h2, h3.imp And.right And.right⟩
end

def dWhile (c : DTT) (tb : DTS) : DTS := fun D ρ μ => ∃ W : Nat → Rho → Mu → Prop, (∃ m, W m ρ μ) ∧ ∀ m ρ μ, W m ρ μ →
  c ρ μ fun b μ1 => if b = true then ∃ N : Rho → Mu → Prop, (∀ ρ' μ', N ρ' μ' → ∃ m', m' < m ∧ W m' ρ' μ') ∧ tb { D with nx := N, ct := N, bk := D.nx } ρ μ1 else D.nx ρ μ1
section
variable {X : Cx} {pos p : Pos} {a b c e o iter tg : Expr} {es : List Expr} {x : Str} {st : Stmt} {rest body : List Stmt}
theorem ds_while {tc : DTT} {tb : DTS} (hp : PassesOwn (model X.prog X.w) X.A X.env X.xe) (hc : DT X c tc) (hb : DSs X body tb) : DS_ X (.While c body [] pos) (dWhile tc tb) := weakS (ps_while hp hc hb) fun D σ H h => by
  obtain ⟨F0, ρ0, μ0, D', R0, S0, ⟨W, ⟨m0, w0⟩, turn⟩, k, k2, k3, k4⟩ := h
  refine ⟨fun m σ1 H1 => ∃ F ρ μ, Stp F0 H μ0 F H1 μ ∧ HReal X.K F H1 μ ∧ Slots X.K F σ1 ρ ∧ W m ρ μ, ⟨m0, F0, ρ0, μ0, Stp.refl _ _ _, R0, S0, w0⟩, ?_⟩
  rintro m σ1 H1 ⟨F, ρ, μ, s, R, S, w⟩
  refine ⟨F, ρ, μ, _, R, S, turn m ρ μ w, fun b μ1 t1 F1 H2 s1 R1 => ?_⟩
  cases b with
  | false => exact k ρ μ1 t1 F1 H2 σ1 (s.trans s1) R1 (S.mono s1.ext)
  | true =>
    obtain ⟨N, hN, t2⟩ := (show ∃ N : Rho → Mu → Prop, _ from t1)
    refine ⟨fun σ' H' => ∃ F ρ μ, Stp F0 H μ0 F H' μ ∧ HReal X.K F H' μ ∧ Slots X.K F σ' ρ ∧ N ρ μ, ?_, ?_⟩
    · rintro σ' H' ⟨F', ρ', μ', s', R', S', n⟩
      obtain ⟨m', hm, w'⟩ := hN ρ' μ' n
      exact ⟨m', hm, F', ρ', μ', s', R', S', w'⟩
    · refine ⟨F1, ρ, μ1, _, R1, S.mono s1.ext, t2, ?_, ?_, ?_, ?_⟩
      · exact fun ρ' μ' q F' H' σ' s' R' S' => ⟨F', ρ', μ', (s.trans s1).trans s', R', S', q⟩
      · exact fun d μ' q F' H' v s' R' r' => k2 d μ' q F' H' v ((s.trans s1).trans s') R' r'
      · exact fun ρ' μ' q F' H' σ' s' R' S' => k ρ' μ' q F' H' σ' ((s.trans s1).trans s') R' S'
      · exact fun ρ' μ' q F' H' σ' s' R' S' => ⟨F', ρ', μ', (s.trans s1).trans s', R', S', q⟩

structure Src (K : PySem.W.Frag) (F0 H0 : Hp) (μ0 : Mu) (J : It) (ds : List SD) (ok : Mu → Prop) : Prop where
  go : ∀ (i : Nat) (F H : Hp) (μ : Mu), Stp F0 H0 μ0 F H μ → HReal K F H μ → ok μ → i < ds.length → J.go i H
  stop : ∀ (F H : Hp) (μ : Mu), Stp F0 H0 μ0 F H μ → HReal K F H μ → ok μ → J.stop ds.length H
  yld : ∀ (i : Nat) (F H : Hp) (μ : Mu) (x : V) (H' : Hp), Stp F0 H0 μ0 F H μ → HReal K F H μ → ok μ → J.yld i H x H' → ∀ d, ds[i]? = some d → ∃ F', Stp F H μ F' H' μ ∧ HReal K F' H' μ ∧ RepS K F' d x
abbrev DTI := Rho → Mu → (List SD → (Mu → Prop) → Mu → Prop) → Prop
def LI (K : PySem.W.Frag) (t : DTI) : TI := fun σ H R => ∃ F ρ μ Q', HReal K F H μ ∧ Slots K F σ ρ ∧ t ρ μ Q' ∧
  ∀ ds ok μ', Q' ds ok μ' → ∀ F' H' J, Stp F H μ F' H' μ' → HReal K F' H' μ' → Src K F' H' μ' J ds ok → R J H'
abbrev DI (X : Cx) (tg iter : Expr) (t : DTI) : Prop := PI X tg iter (LI X.K t)
theorem weakI {t t' : TI} (h : PI X tg iter t) (w : ∀ σ H R, t' σ H R → t σ H R) : PI X tg iter t' := ⟨fun pins s σ H R I q => h.run pins s σ H R I (w σ H R q)⟩

theorem src_list {K : PySem.W.Frag} {F0 H0 : Hp} {μ0 : Mu} {a : Addr} {ds : List SD} {ok : Mu → Prop} (h : ∀ (F H : Hp) (μ : Mu), Stp F0 H0 μ0 F H μ → HReal K F H μ → ok μ → ∃ vs, SqL K H a vs ∧ RepL K F ds vs) : Src K F0 H0 μ0 (Itl K a) ds ok where
  go := fun i F H μ e R k hi => by
    obtain ⟨vs, h1, h2⟩ := h F H μ e R k
    exact ⟨vs, vs[i]'(by rw [← h2.length]; exact hi), h1, List.getElem?_eq_getElem _⟩
  stop := fun F H μ e R k => by
    obtain ⟨vs, h1, h2⟩ := h F H μ e R k
    exact ⟨vs, h1, by rw [h2.length]; exact Nat.le_refl _⟩
  yld := fun i F H μ x H' e R k y d hd => by
    obtain ⟨vs, h1, h2⟩ := h F H μ e R k
    obtain ⟨rfl, y⟩ := y
    obtain ⟨v, h3, h4⟩ := h2.get hd
    have := y vs h1
    rw [h3] at this; cases this
    exact ⟨F, Stp.refl _ _ _, R, h4⟩
theorem src_tup {K : PySem.W.Frag} {F0 H0 : Hp} {μ0 : Mu} {a : Addr} {ds : List SD} {ok : Mu → Prop} (h : ∀ (F H : Hp) (μ : Mu), Stp F0 H0 μ0 F H μ → HReal K F H μ → ok μ → ∃ vs, SqT K H a vs ∧ RepL K F ds vs) : Src K F0 H0 μ0 (Itt K a) ds ok where
  go := fun i F H μ e R k hi => by
    obtain ⟨vs, h1, h2⟩ := h F H μ e R k
    exact ⟨vs, vs[i]'(by rw [← h2.length]; exact hi), h1, List.getElem?_eq_getElem _⟩
  stop := fun F H μ e R k => by
    obtain ⟨vs, h1, h2⟩ := h F H μ e R k
    exact ⟨vs, h1, by rw [h2.length]; exact Nat.le_refl _⟩
  yld := fun i F H μ x H' e R k y d hd => by
    obtain ⟨vs, h1, h2⟩ := h F H μ e R k
    obtain ⟨rfl, y⟩ := y
    obtain ⟨v, h3, h4⟩ := h2.get hd
    have := y vs h1
    rw [h3] at this; cases this
    exact ⟨F, Stp.refl _ _ _, R, h4⟩
/-- list, tuple or text, whichever it is -/
def iSeq (K : PySem.W.Frag) (tl : TE) : TI := fun σ H R => tl σ H fun x H1 => (∃ a, x = .ref a ∧ (∃ xs, SqL K H1 a xs) ∧ R (Itl K a) H1) ∨ (∃ a, x = .ref a ∧ (∃ xs, SqT K H1 a xs) ∧ R (Itt K a) H1) ∨ ∃ y, x = .str y ∧ R (Its y) H1
theorem pi_seq {l : Expr} {tl : TE} (hl : PE X l tl) : PI X tg l (iSeq X.K tl) := by
  refine ⟨fun pins s σ H R I h => ?_⟩
  refine thn (hl.run pins s σ H _ I h) fun v s1 ⟨x, H1, I1, r1, q1⟩ => ?_
  rcases q1 with ⟨a, e, ⟨xs, hq⟩, q⟩ | ⟨a, e, ⟨xs, hq⟩, q⟩ | ⟨y, e, q⟩
  · subst e
    cases r1
    obtain ⟨its, rv, p, hz⟩ := I1.list hq
    refine wpAny_pyIter_list p.isList ?_
    refine ⟨s1.heap.objs.size, [s1.heap.objs.size], _, _, H1, rfl, I1.kept (t' := s1.toks) fun b o e => Heap.get?_push_of_some _ e, turn_list a _, ⟨_, Heap.get?_push_size _ rfl, rfl, rfl⟩, fun b hb => ?_, q⟩
    have e : b = s1.heap.objs.size := by simpa using hb
    subst e
    exact I1.fpOk (Nat.le_refl _) (I1.hok.fresh (Nat.le_refl _))
  · subst e
    cases r1
    obtain ⟨its, rv, p, hz⟩ := I1.tuple hq
    refine wpAny_pyIter_tuple (show s1.heap.IsTuple a its.toArray from p) ?_
    refine ⟨s1.heap.objs.size, [s1.heap.objs.size], _, _, H1, rfl, I1.kept (t' := s1.toks) fun b o e => Heap.get?_push_of_some _ e, turn_tuple a _, ⟨_, Heap.get?_push_size _ rfl, rfl, rfl⟩, fun b hb => ?_, q⟩
    have e : b = s1.heap.objs.size := by simpa using hb
    subst e
    exact I1.fpOk (Nat.le_refl _) (I1.hok.fresh (Nat.le_refl _))
  · subst e
    obtain ⟨t, rfl⟩ := r1
    cases ha : y.cps.all (· < 128)
    · exact wpAny_pyIter_wide ha (pi_one (tk := s1.toks) I1 _ (turn_str _ y t "str_iterator" (.inr rfl)) ⟨_, Heap.get?_push_size _ rfl, rfl, rfl⟩ q)
    · exact wpAny_pyIter_ascii ha (pi_one (tk := s1.toks) I1 _ (turn_str _ y t "str_ascii_iterator" (.inl rfl)) ⟨_, Heap.get?_push_size _ rfl, rfl, rfl⟩ q)
def chars (y : Str) : List SD := y.cps.toList.map fun c => .str ⟨#[c]⟩
abbrev jSeq (t : DTE) : DTI := fun ρ μ Q => t ρ μ fun d μ1 => match d with
  | .str y => Q (chars y) (fun _ => True) μ1
  | d => match seqD μ1 d with
    | some xs => Q xs (fun μ' => seqD μ' d = some xs) μ1
    | none => False
theorem src_seq {K : PySem.W.Frag} {F H : Hp} {μ : Mu} {d : SD} {v : V} {xs : List SD} (R : HReal K F H μ) (r : RepS K F d v) (e : seqD μ d = some xs) :
    ∃ a, v = .ref a ∧ ((∃ vs, SqL K H a vs) ∧ Src K F H μ (Itl K a) xs (fun μ' => seqD μ' d = some xs) ∨ (∃ vs, SqT K H a vs) ∧ Src K F H μ (Itt K a) xs (fun μ' => seqD μ' d = some xs)) := by
  obtain ⟨a, vs, h1, h2, h3⟩ := R.seq r e
  refine ⟨a, h1, ?_⟩
  subst h1
  rcases h3 with ⟨z, h3⟩ | ⟨z, h3⟩
  · refine .inl ⟨⟨vs, h3⟩, src_list fun F' H' μ' ex R' k => ?_⟩
    obtain ⟨b, ws, q1, q2, q3⟩ := R'.seq (r.mono ex.ext) k
    cases q1
    rcases q3 with ⟨_, q3⟩ | ⟨q, _⟩
    · exact ⟨ws, q3, q2⟩
    · rw [z] at q; cases q
  · refine .inr ⟨⟨vs, h3⟩, src_tup fun F' H' μ' ex R' k => ?_⟩
    obtain ⟨b, ws, q1, q2, q3⟩ := R'.seq (r.mono ex.ext) k
    cases q1
    rcases q3 with ⟨q, _⟩ | ⟨_, q3⟩
    · rw [z] at q; cases q
    · exact ⟨ws, q3, q2⟩
theorem src_str {K : PySem.W.Frag} {F H0 : Hp} {μ0 : Mu} (y : Str) : Src K F H0 μ0 (Its y) (chars y) fun _ => True where
  go := fun i F H μ e R k hi => by
    show i < y.cps.size
    simpa [chars] using hi
  stop := fun F H μ e R k => by
    show y.cps.size ≤ (chars y).length
    simp [chars]
  yld := fun i F H μ x H' e R k yy d hd => by
    obtain ⟨rfl, c, h1, rfl⟩ := yy
    have : (chars y)[i]? = some (.str ⟨#[c]⟩) := by simp [chars, h1]
    rw [this] at hd; cases hd
    exact ⟨F, Stp.refl _ _ _, R, .str _⟩
theorem di_seq {l : Expr} {tl : DTE} (hl : DE X l tl) : DI X tg l (jSeq tl) := weakI (pi_seq hl) fun σ H R h => by
  obtain ⟨F, ρ, μ, Q', R0, S, t, k⟩ := h
  refine ⟨F, ρ, μ, _, R0, S, t, fun d μ1 t1 F1 H1 v s1 R1 r1 => ?_⟩
  have seqCase : ∀ xs, seqD μ1 d = some xs → Q' xs (fun μ' => seqD μ' d = some xs) μ1 → ((∃ a, v = .ref a ∧ (∃ xs, SqL X.K H1 a xs) ∧ R (Itl X.K a) H1) ∨ (∃ a, v = .ref a ∧ (∃ xs, SqT X.K H1 a xs) ∧ R (Itt X.K a) H1) ∨ ∃ y, v = .str y ∧ R (Its y) H1) := fun xs e q => by
    obtain ⟨a, e1, h | h⟩ := src_seq R1 r1 e
    · exact .inl ⟨a, e1, h.1, k _ _ _ q F1 H1 _ s1 R1 h.2⟩
    · exact .inr (.inl ⟨a, e1, h.1, k _ _ _ q F1 H1 _ s1 R1 h.2⟩)
  cases r1 with
  | str y => exact .inr (.inr ⟨y, rfl, k _ _ _ t1 F1 H1 _ s1 R1 (src_str y)⟩)
  | lst h q => exact seqCase _ rfl t1
  | tup h q => exact seqCase _ rfl t1
  | rol h q => exact seqCase _ rfl t1
  | ref b =>
    simp only at t1
    cases e : seqD μ1 (.ref b) with
    | none => rw [e] at t1; exact t1.elim
    | some xs => rw [e] at t1; exact seqCase xs e t1
  | _ => exact t1.elim
abbrev jRng1 (ta : DTA) : DTI := fun ρ μ Q => ta ρ μ fun vs μ1 => match vs with
  | [.int j] => (-(2 ^ 62) ≤ j ∧ j < 2 ^ 62) ∧ Q ((List.range j.toNat).map fun i => .int (i : Nat)) (fun _ => True) μ1
  | _ => False
theorem src_rng {K : PySem.W.Frag} {F H0 : Hp} {μ0 : Mu} (lo : Int) (n : Nat) : Src K F H0 μ0 (Itr lo n) ((List.range n).map fun i => .int (lo + (i : Nat))) fun _ => True where
  go := fun i F H μ e R k hi => by
    show i < n
    simpa using hi
  stop := fun F H μ e R k => by
    show n ≤ _
    simp
  yld := fun i F H μ x H' e R k yy d hd => by
    obtain ⟨rfl, rfl⟩ := yy
    rw [List.getElem?_map] at hd
    by_cases hi : i < n
    · rw [List.getElem?_range hi] at hd
      cases hd
      exact ⟨F, Stp.refl _ _ _, R, .int _⟩
    · rw [List.getElem?_eq_none (by simpa using Nat.le_of_not_lt hi)] at hd; cases hd
theorem di_range1 {ta : DTA} (hg : Gl X "range") (hm : X.mg "range" = none) (ha : DA X [a] ta) (hs : starEach [a] X.env = [(false, eval a X.env)] := by rfl) : DI X tg (.Call (.Name "range" p) [a] [] pos) (jRng1 ta) := weakI (pi_range1 hg hm ha hs) fun σ H R h => by
  obtain ⟨F, ρ, μ, Q', R0, S, t, k⟩ := h
  refine ⟨F, ρ, μ, _, R0, S, t, fun ds μ1 t1 F1 H1 vs s1 R1 r1 => ?_⟩
  cases r1 with
  | nil => exact t1.elim
  | cons r1 r2 => cases r2 with
    | cons _ _ => cases r1 <;> exact t1.elim
    | nil => cases r1 with
      | int j =>
        refine ⟨j, rfl, t1.1.1, t1.1.2, ?_⟩
        have hS := src_rng (K := X.K) (F := F1) (H0 := H1) (μ0 := μ1) 0 j.toNat
        simp only [Int.zero_add] at hS
        exact k _ _ _ t1.2 F1 H1 _ s1 R1 hS
      | _ => exact t1.elim
abbrev jRng2 (ta : DTA) : DTI := fun ρ μ Q => ta ρ μ fun vs μ1 => match vs with
  | [.int i, .int j] => (-(2 ^ 62) ≤ i ∧ i < 2 ^ 62 ∧ -(2 ^ 62) ≤ j ∧ j < 2 ^ 62) ∧ Q ((List.range (j - i).toNat).map fun k => .int (i + (k : Nat))) (fun _ => True) μ1
  | _ => False
theorem di_range2 {ta : DTA} (hg : Gl X "range") (hm : X.mg "range" = none) (ha : DA X [a, b] ta) (hs : starEach [a, b] X.env = [(false, eval a X.env), (false, eval b X.env)] := by rfl) (hs2 : starEach [b] X.env = [(false, eval b X.env)] := by rfl) : DI X tg (.Call (.Name "range" p) [a, b] [] pos) (jRng2 ta) := weakI (pi_range2 hg hm ha hs hs2) fun σ H R h => by
  obtain ⟨F, ρ, μ, Q', R0, S, t, k⟩ := h
  refine ⟨F, ρ, μ, _, R0, S, t, fun ds μ1 t1 F1 H1 vs s1 R1 r1 => ?_⟩
  cases r1 with
  | nil => exact t1.elim
  | cons r1 r2 => cases r2 with
    | nil => cases r1 <;> exact t1.elim
    | cons r2 r3 => cases r3 with
      | cons _ _ => cases r1 <;> cases r2 <;> exact t1.elim
      | nil => cases r1 with
        | int i => cases r2 with
          | int j => exact ⟨i, j, rfl, t1.1, k _ _ _ t1.2 F1 H1 _ s1 R1 (src_rng _ _)⟩
          | _ => exact t1.elim
        | _ => cases r2 <;> exact t1.elim
def enums (xs : List SD) : List SD := xs.mapIdx fun i d => .tup [.int (i : Nat), d]
/-- enumerate of a list -/
abbrev jEnum (ta : DTA) : DTI := fun ρ μ Q => ta ρ μ fun vs μ1 => match vs with
  | [d] => isTup d = false ∧ match seqD μ1 d with
    | some xs => Q (enums xs) (fun μ' => seqD μ' d = some xs) μ1
    | none => False
  | _ => False
theorem src_enum {K : PySem.W.Frag} {F0 H0 : Hp} {μ0 : Mu} {a : Addr} {ds : List SD} {ok : Mu → Prop} (h : ∀ (F H : Hp) (μ : Mu), Stp F0 H0 μ0 F H μ → HReal K F H μ → ok μ → ∃ vs, SqL K H a vs ∧ RepL K F ds vs) : Src K F0 H0 μ0 (Ite K a) (enums ds) ok where
  go := fun i F H μ e R k hi => by
    obtain ⟨vs, h1, h2⟩ := h F H μ e R k
    have : i < vs.length := by rw [← h2.length]; simpa [enums] using hi
    exact ⟨vs, vs[i], h1, List.getElem?_eq_getElem _⟩
  stop := fun F H μ e R k => by
    obtain ⟨vs, h1, h2⟩ := h F H μ e R k
    exact ⟨vs, h1, by rw [← h2.length]; simp [enums]⟩
  yld := fun i F H μ x H' e R k y d hd => by
    obtain ⟨vs, h1, h2⟩ := h F H μ e R k
    obtain ⟨T, z, rfl, hT, rfl, y⟩ := y
    have hz := y vs h1
    obtain ⟨d', h3, h4⟩ := h2.getV hz
    have : (enums ds)[i]? = some (.tup [.int (i : Nat), d']) := by simp [enums, h3]
    rw [this] at hd; cases hd
    have ex : Ext F (upd F T (.tup [.int (i : Nat), z])) := Ext.new (R.freeF hT)
    exact ⟨_, Stp.newS R hT, R.newS hT, .tup (.inl (.inl upd_same)) (.cons (.int _) (.one (h4.mono ex)))⟩
theorem di_enum {ta : DTA} {elts : List Expr} {kk : Nat} {tpos : Pos} (hg : Gl X "enumerate") (hm : X.mg "enumerate" = none) (ha : DA X [e] ta) (hs : starEach [e] X.env = [(false, eval e X.env)] := by rfl) : DI X (.Tuple elts kk tpos) (.Call (.Name "enumerate" p) [e] [] pos) (jEnum ta) := weakI (pi_enum hg hm ha hs) fun σ H R h => by
  obtain ⟨F, ρ, μ, Q', R0, S, t, k⟩ := h
  refine ⟨F, ρ, μ, _, R0, S, t, fun ds μ1 t1 F1 H1 vs s1 R1 r1 => ?_⟩
  cases r1 with
  | nil => exact t1.elim
  | cons r1 r2 => cases r2 with
    | cons _ _ => exact t1.elim
    | nil =>
      rename_i d v
      obtain ⟨tt, t1⟩ := (show isTup d = false ∧ _ from t1)
      cases e : seqD μ1 d with
      | none => rw [e] at t1; exact t1.elim
      | some xs =>
        rw [e] at t1
        obtain ⟨a, ws, q1, q2, q3⟩ := R1.seq r1 e
        subst q1
        rcases q3 with ⟨_, q3⟩ | ⟨q, _⟩
        · refine ⟨a, ws, rfl, q3, k _ _ _ t1 F1 H1 _ s1 R1 (src_enum fun F' H' μ' ex R' kk => ?_)⟩
          obtain ⟨b, ys, p1, p2, p3⟩ := R'.seq (r1.mono ex.ext) kk
          cases p1
          rcases p3 with ⟨_, p3⟩ | ⟨p, _⟩
          · exact ⟨ys, p3, p2⟩
          · rw [tt] at p; cases p
        · rw [tt] at q; cases q
def dFor (wi : DTI) (g : DTG) (tb : DTS) : DTS := fun D ρ μ => wi ρ μ fun ds ok μ1 => ∃ W : Nat → Rho → Mu → Prop, W 0 ρ μ1 ∧ (∀ i ρ μ, i ≤ ds.length → W i ρ μ → ok μ) ∧
  (∀ i d ρ μ, ds[i]? = some d → W i ρ μ → g d ρ μ fun ρ2 μ2 => tb { D with nx := W (i + 1), ct := W (i + 1), bk := D.nx } ρ2 μ2) ∧ ∀ ρ μ, W ds.length ρ μ → D.nx ρ μ
theorem ds_for {wi : DTI} {g : DTG} {tb : DTS} (hp : PassesOwn (model X.prog X.w) X.A X.env X.xe) (hc : X.calm = true) (hi : DI X tg iter wi) (hg : DG X tg g) (hb : DSs X body tb)
    (hs : ∀ x, foldedSetIterable iter X.env x = pure x := by intro _; rfl) : DS_ X (.For tg iter body [] pos) (dFor wi g tb) := weakS (ps_for hp hc hi hg hb hs) fun D σ H h => by
  obtain ⟨F0, ρ0, μ0, D', R0, S0, t, k, k2, k3, k4⟩ := h
  refine ⟨F0, ρ0, μ0, _, R0, S0, t, fun ds ok μ1 t1 F1 H1 J s1 R1 src => ?_⟩
  obtain ⟨W, w0, hok, turn, fin⟩ := t1
  refine ⟨fun i m σ' H' => i + m = ds.length ∧ ∃ F ρ μ, Stp F1 H1 μ1 F H' μ ∧ HReal X.K F H' μ ∧ Slots X.K F σ' ρ ∧ W i ρ μ, ⟨ds.length, by omega, F1, ρ0, μ1, Stp.refl _ _ _, R1, S0.mono s1.ext, w0⟩, ?_⟩
  rintro i m σ' H' ⟨him, F, ρ, μ, s, R, S, w⟩
  have hle : i ≤ ds.length := by omega
  by_cases hi : i < ds.length
  · refine .inr ⟨src.go i F H' μ s R (hok i ρ μ hle w) hi, fun σ2 H2 => ∃ F ρ μ, Stp F1 H1 μ1 F H2 μ ∧ HReal X.K F H2 μ ∧ Slots X.K F σ2 ρ ∧ W (i + 1) ρ μ, ?_, ?_⟩
    · rintro σ2 H2 ⟨F', ρ', μ', s', R', S', w'⟩
      exact ⟨ds.length - (i + 1), by omega, by omega, F', ρ', μ', s', R', S', w'⟩
    · intro x H2 y
      obtain ⟨F', s', R', r'⟩ := src.yld i F H' μ x H2 s R (hok i ρ μ hle w) y _ (List.getElem?_eq_getElem hi)
      refine ⟨F', ρ, μ, _, _, R', S.mono s'.ext, r', turn i _ ρ μ (List.getElem?_eq_getElem hi) w, fun ρ2 μ2 t2 F2 H3 σ2 s2 R2 S2 => ?_⟩
      refine ⟨F2, ρ2, μ2, _, R2, S2, t2, ?_, ?_, ?_, ?_⟩
      · exact fun ρ' μ' q F'' H'' σ'' s'' R'' S'' => ⟨F'', ρ', μ', ((s.trans s').trans s2).trans s'', R'', S'', q⟩
      · exact fun d μ' q F'' H'' v s'' R'' r'' => k2 d μ' q F'' H'' v (s1.trans (((s.trans s').trans s2).trans s'')) R'' r''
      · exact fun ρ' μ' q F'' H'' σ'' s'' R'' S'' => k ρ' μ' q F'' H'' σ'' (s1.trans (((s.trans s').trans s2).trans s'')) R'' S''
      · exact fun ρ' μ' q F'' H'' σ'' s'' R'' S'' => ⟨F'', ρ', μ', ((s.trans s').trans s2).trans s'', R'', S'', q⟩
  · have e : i = ds.length := by omega
    subst e
    exact .inl ⟨src.stop F H' μ s R (hok _ ρ μ hle w), k ρ μ (fin ρ μ w) F H' σ' (s1.trans s) R S⟩

def wipeR (ρ : Rho) : List Nat → Rho
  | [] => ρ
  | v :: vs => (wipeR ρ vs).set v none
theorem Slots.setN {K : PySem.W.Frag} {F : Hp} {σ : L2.St} {ρ : Rho} (h : Slots K F σ ρ) (i : Nat) : Slots K F (σ.set i none) (ρ.set i none) := by
  refine ⟨by simp [h.len], fun j e q => ?_⟩
  by_cases hj : j = i
  · subst hj
    by_cases hl : j < ρ.length
    · rw [List.getElem?_set_self hl] at q; cases q
    · rw [List.getElem?_eq_none (by simpa using Nat.le_of_not_lt hl)] at q; cases q
  · rw [List.getElem?_set_ne (Ne.symm hj)] at q ⊢
    exact h.at_ j e q
theorem Slots.wipe {K : PySem.W.Frag} {F : Hp} {σ : L2.St} {ρ : Rho} (h : Slots K F σ ρ) : ∀ vs : List Nat, Slots K F (wipe σ vs) (wipeR ρ vs)
  | [] => h
  | v :: vs => (Slots.wipe h vs).setN v
theorem wipe_set (σ : L2.St) (v : Option V) : ∀ {vs : List Nat} {i : Nat}, i ∈ vs → wipe (σ.set i v) vs = wipe σ vs
  | w :: vs, i, h => by
    by_cases e : i ∈ vs
    · show (wipe (σ.set i v) vs).set w none = (wipe σ vs).set w none
      rw [wipe_set σ v e]
    · have e2 : i = w := by
        rcases List.mem_cons.mp h with z | z
        · exact z
        · exact absurd z e
      subst e2
      show (wipe (σ.set i v) vs).set i none = (wipe σ vs).set i none
      have : ∀ ws : List Nat, i ∉ ws → wipe (σ.set i v) ws = (wipe σ ws).set i v := by
        intro ws
        induction ws with
        | nil => intro _; rfl
        | cons a r ih =>
          intro hn
          have ha : i ≠ a := fun z => hn (by rw [z]; exact List.mem_cons_self)
          show (wipe (σ.set i v) r).set a none = ((wipe σ r).set a none).set i v
          rw [ih (fun z => hn (List.mem_cons_of_mem _ z)), List.set_comm _ _ ha]
      rw [this vs e, List.set_set]
end
end DS
namespace DS
open PySem PySem.Spec PyProof.Rows L2

/-- nothing that guards itself against going round runs -/
abbrev Quiet (A : Around) : Prop := A.guards = some []
/-- a def's promise, asked only where it is quiet -/
structure FnG (P : Program) (w : World) (K : PySem.W.Frag) (mg : Str → Option Value) (base : Heap) (CX : CXT) (k : Nat) (f : Addr) (fd : FuncData) (ps : List Str) (sp : Sp) : Prop where
  len : ∀ vs H Q E, sp vs H Q E → vs.length = ps.length
  go : ∀ (A : Around) (outer : List Env) (s : Shared) (H : Hp) (args : Args) (us : List Value) (vs : List V) (Q : VK) (E : XK), Quiet A → Room k A → Env0 P w K mg base A outer s H → BindsTo s fd args (ps.zip us) → Vals vs us → sp vs H Q E →
    codeAny (model P w) A (.call (.ref f) args) (CR CX outer P w H s Q E) s
section
variable {P : Program} {w : World} {K : PySem.W.Frag} {mg : Str → Option Value} {base : Heap} {CX : CXT} {j k : Nat} {f C : Addr} {fd : FuncData} {ps : List Str} {sp : Sp}
theorem FnG.of (F : FnOk P w K mg base CX k f fd ps sp) : FnG P w K mg base CX k f fd ps sp := ⟨F.len, fun A outer s H args us vs Q E _ => F.run A outer s H args us vs Q E⟩
theorem FnG.mono (F : FnG P w K mg base CX j f fd ps sp) (h : j ≤ k) : FnG P w K mg base CX k f fd ps sp := ⟨F.len, fun A outer s H args us vs Q E g r => F.go A outer s H args us vs Q E g (r.mono h)⟩
theorem FnG.imp {sp' : Sp} (F : FnG P w K mg base CX k f fd ps sp) (h : ∀ vs H Q E, sp' vs H Q E → sp vs H Q E) : FnG P w K mg base CX k f fd ps sp' :=
  ⟨fun vs H Q E q => F.len vs H Q E (h vs H Q E q), fun A outer s H args us vs Q E g r e b v q => F.go A outer s H args us vs Q E g r e b v (h vs H Q E q)⟩
/-- a promise that holds nowhere costs nothing: for induction on levels -/
theorem FnG.no (f : Addr) (fd : FuncData) (ps : List Str) : FnG P w K mg base CX k f fd ps (fun _ _ _ _ => False) := ⟨fun _ _ _ _ h => False.elim h, fun _ _ _ _ _ _ _ _ _ _ _ _ _ _ h => False.elim h⟩
end
theorem quiet_make {A : Around} (h : Quiet A) (C : Addr) (us : List Value) (kw : List (Str × Value)) : Quiet (A.under (.builtin "type.__call__" ⟨.ref C :: us, kw⟩)) := by
  have e : (Code.builtin "type.__call__" ⟨.ref C :: us, kw⟩).guards = [] := by
    unfold Code.guards
    rw [if_neg]
    simp [Code.isGuard, guardIds]
  show pushGuards (Code.builtin "type.__call__" ⟨.ref C :: us, kw⟩).guards A.guards = some []
  rw [e]
  exact h

section
variable {CX : CXT} {P : Program} {w : World} {K : PySem.W.Frag} {mg : Str → Option Value} {base : Heap}
/-- the def's body, walked where it is quiet -/
theorem fnG_of {k : Nat} {f : Addr} {name qual : Str} {params : Arguments} {body : List Stmt} {scope : Scope} {dV kV doc pm cdv ct oc : Value} {an od : Option Addr} {osl : Array (Option Value)} {N ps : List Str} {sp : Sp}
    (lk : K.lookup f = some ⟨oc, od, .func (PySem.W.fnOf name qual params body scope dV kV doc pm an cdv ct), osl⟩) (hcd : PySem.W.codeIn K cdv qual = true) (S : FnScope N ps scope) (len : ∀ vs H Q E, sp vs H Q E → vs.length = ps.length)
    (walk : ∀ (A : Around) (outer : List Env) (s : Shared) (H : Hp) (vs : List V) (Q : VK) (E : XK), Quiet A → Room k (A.deeper (envOfC qual scope s.heap.objs.size f cdv)) → sp vs H Q E →
      ∃ t, PSs (cxOf CX P w K mg base N qual scope f cdv A outer s H E) body t ∧ t { nx := fun _ H' => Q .non H', rt := Q } (L2.start N vs) H) :
    FnG P w K mg base CX (k + 1) f (PySem.W.fnOf name qual params body scope dV kV doc pm an cdv ct) ps sp where
  len := len
  go := fun A outer s H args us vs Q E quiet room e0 binds rel want => by
    have count := len vs H Q E want
    have old := fun b o e => (e0.bs b o e).1
    have here : K.In s.heap := e0.mod.kin.keeps old
    have kinds : ∀ y ∈ ps.zip us, scope.names.lookup y.1 = some .local ∨ (scope.names.lookup y.1 = some .cell ∧ ((cellsFrom (s.heap.objs.size + 1) scope.names []).lookup y.1).isSome = true) := by
      rintro ⟨n, v⟩ hy
      exact (S.par n (List.of_mem_zip hy).1).imp id fun z => ⟨z, PySem.W.cellsFrom_some _ _ _ (.inl z)⟩
    refine codeAny_call_function room.depth (here _ _ lk) rfl S.co S.gen rfl (PySem.W.codeRec_of here hcd) (binds _ _ _ _ ?_)
    refine wpAny_newFunctionEnv_cells S.kind kinds fun env he s1 within => ?_
    subst he
    refine ⟨(e0.mod.nolimit.keeps old).keeps within.toInCall.keep, codeAny_func ?_⟩
    obtain ⟨t, walked, read⟩ := walk A outer s H vs Q E quiet (room.deeper _) want
    have I := inv_start (CX := CX) (E := E) S room.hd e0 count rel within
    refine wpAny_mono (walked.run [] s1 (start N vs) H _ I read) (fun out s' got => ?_) fun _ _ z => z
    have done : ∀ {σ' : L2.St} {H' : Hp} {v : V} {u : Value}, Inv (cxOf CX P w K mg base N qual scope f cdv A outer s H E) [] σ' H' s' → RelV v u → Q v H' → CE outer P w H s Q u s' :=
      fun {_ H' v _} J rv q => ⟨v, H', J.os, J.bare, J.base, J.hok, rv, q⟩
    match out, got with
    | .ret u, ⟨v, _, _, J, rv, q⟩ => exact done J rv q
    | .next, ⟨_, _, J, q⟩ => exact done (v := V.non) (u := Value.none) J rfl q
    | .brk, ⟨_, _, _, q⟩ => exact False.elim q
    | .cont, ⟨_, _, _, q⟩ => exact False.elim q
end

section
variable {X : Cx} {CX : CXT} {k : Nat} {f C : Addr} {fd : FuncData} {ps ks : List Str} {sp : Sp} {dvs : List V} {ds : List Value} {E : XK} {x m : Str} {p pos apos : Pos} {e o : Expr} {es : List Expr} {kws : List Keyword} {ta : TE} {t tk : TA}
def GEnd (X : Cx) (pins : List (Addr × Obj)) (σ : L2.St) (Q : VK) : Result → Shared → Prop
  | .ok (.ret u), s' => EP X pins σ Q u s'
  | .ok _, _ => False
  | .error u, s' => X.xe u s'
theorem run_g {pins : List (Addr × Obj)} {σ : L2.St} {H : Hp} {s : Shared} {Q : VK} {us : List Value} {vs : List V} {args : Args} (F : FnG X.prog X.w X.K X.mg X.base CX k f fd ps sp) (hq : Quiet X.A) (hr : Room k X.A) (hx : Passes CX X E)
    (I : Inv X pins σ H s) (hb : BindsTo s fd args (ps.zip us)) (r : Vals vs us) (h : sp vs H Q E) : codeAny (model X.prog X.w) X.A (.call (.ref f) args) (GEnd X pins σ Q) s := by
  refine codeAny_mono (F.go X.A X.stack s H args us vs Q E hq hr I.env0 hb r h) fun out s' z => ?_
  match out, z with
  | .error u, z => exact hx pins σ H s u s' I z
  | .ok (.ret u), z => exact I.after z
  | .ok .next, z => exact False.elim z
  | .ok .brk, z => exact False.elim z
  | .ok .cont, z => exact False.elim z
theorem call_g {pins : List (Addr × Obj)} {σ : L2.St} {H : Hp} {s : Shared} {Q : VK} {us : List Value} {vs : List V} (F : FnG X.prog X.w X.K X.mg X.base CX k f fd ps sp) (hq : Quiet X.A) (hr : Room k X.A) (hb : Binds X.K fd ps ds) (hd : Vals dvs ds) (hx : Passes CX X E)
    (I : Inv X pins σ H s) (r : Vals vs us) (h : sp (vs ++ dvs) H Q E) : wpAny (model X.prog X.w) X.A (call (.ref f) us) (EP X pins σ Q) X.xe s := by
  have r2 := r.append hd
  have count : (us ++ ds).length = ps.length := r2.length.symm.trans (F.len _ _ _ _ h)
  refine wpAny_call (codeAny_mono (run_g (args := ⟨us, []⟩) F hq hr hx I (hb s us I.kIn count) r2 h) fun out s' z => ?_)
  match out, z with
  | .error _, z => exact z
  | .ok (.ret _), z => exact z
  | .ok .next, z => exact False.elim z
  | .ok .brk, z => exact False.elim z
  | .ok .cont, z => exact False.elim z
/-- f(e, ..) -/
theorem pe_g (F : FnG X.prog X.w X.K X.mg X.base CX k f fd ps sp) (hq : Quiet X.A) (hr : Room k X.A) (hg : Gl X x) (hm : X.mg x = some (.ref f)) (hk : PySem.W.keepIn X.K (.ref f) = true) (hb : Binds X.K fd ps ds) (hd : Vals dvs ds) (hx : Passes CX X E)
    (ha : PA X (e :: es) t) (hdb : (x == ("__debug__" : Str)) = false := by decide) (he : starEach (e :: es) X.env = (false, eval e X.env) :: starEach es X.env := by rfl) (hpl : (backTo pos (starEach es X.env)).any (·.1) = false := by rfl) :
    PE X (.Call (.Name x p) (e :: es) [] pos) (tCall sp dvs E t) :=
  ⟨fun pins s σ H Q I h => wpAny_Call_Name_kw (ld_glob I hg hm (PySem.W.callWith_K (h₀ := X.base) I.ok.mod.kin hk (thn (ha.run pos pins s σ H _ I h) fun _ _ ⟨_, _, I1, r, q⟩ => ⟨I1.kIn, call_g F hq hr hb hd hx I1 r q⟩) he hpl) hdb)⟩
end

abbrev DSp := List SD → Mu → (SD → Mu → Prop) → DXK → Prop
/-- the own dict of an exception, by what it holds -/
def XRep (K : PySem.W.Frag) (F H : Hp) (od : Option Addr) (fs : List (Str × SD)) : Prop :=
  (od = none ∧ fs = []) ∨ ∃ d vs, od = some d ∧ H d = some (.xd vs) ∧ vs.map (·.1) = fs.map (·.1) ∧ RepL K F (fs.map (·.2)) (vs.map (·.2))
def LSp (K : PySem.W.Frag) (sp : DSp) : Sp := fun vs H Q E => ∃ F μ ds Q' E', HReal K F H μ ∧ RepL K F ds vs ∧ sp ds μ Q' E' ∧
  (∀ d μ', Q' d μ' → ∀ F' H' v, Stp F H μ F' H' μ' → HReal K F' H' μ' → RepS K F' d v → Q v H') ∧
  (∀ C fs μ', E' C fs μ' → ∀ F' H' od, Stp F H μ F' H' μ' → HReal K F' H' μ' → XRep K F' H' od fs → E (.ref C) od H')
abbrev dCall (sp : DSp) (dvs : List SD) (t : DTA) : DTE := fun ρ μ Q => t ρ μ fun ds μ1 => sp (ds ++ dvs) μ1 Q fun _ _ _ => False
section
variable {X : Cx} {k : Nat} {f C : Addr} {fd : FuncData} {ps ks : List Str} {sp : DSp} {dvs : List SD} {dvV : List V} {dv : List Value} {x m : Str} {p pos apos : Pos} {a e o : Expr} {es : List Expr} {kws : List Keyword} {ta : DTE} {t tk : DTA}
theorem RepL.plain {K : PySem.W.Frag} {F : Hp} : ∀ {ds : List SD} {vs : List V}, Paired (fun d v => plain d = some v) ds vs → RepL K F ds vs
  | _, _, .nil => .nil
  | _, _, .cons h r => .cons (RepS.plain h) (RepL.plain r)
/-- a call of a def that lets nothing out -/
theorem de_call {CX : CXT} (F : FnG X.prog X.w X.K X.mg X.base CX k f fd ps (LSp X.K sp)) (hq : Quiet X.A) (hr : Room k X.A) (hg : Gl X x) (hm : X.mg x = some (.ref f)) (hk : PySem.W.keepIn X.K (.ref f) = true) (hb : Binds X.K fd ps []) (hx : Passes CX X E0)
    (ha : DA X (e :: es) t) (hdb : (x == ("__debug__" : Str)) = false := by decide) (he : starEach (e :: es) X.env = (false, eval e X.env) :: starEach es X.env := by rfl) (hpl : (backTo pos (starEach es X.env)).any (·.1) = false := by rfl) :
    DE X (.Call (.Name x p) (e :: es) [] pos) (dCall sp [] t) := weakE (pe_g (E := E0) F hq hr hg hm hk hb .nil hx ha hdb he hpl) fun σ H Q h => by
  obtain ⟨F, ρ, μ, Q', R, S, t, k⟩ := h
  refine ⟨F, ρ, μ, _, R, S, t, fun ds μ1 t1 F1 H1 vs s1 R1 r1 => ?_⟩
  refine ⟨F1, μ1, ds, Q', _, R1, by rw [List.append_nil]; exact r1, by rw [List.append_nil] at t1; exact t1, fun d μ' q F' H' v s R' r' => k d μ' q F' H' v (s1.trans s) R' r', fun _ _ _ q => False.elim q⟩
end

/-- the slots at a def's entry -/
def begin_ (N : List Str) (ds : List SD) : Rho := ds.map some ++ List.replicate (N.length - ds.length) none
theorem slots_begin {K : PySem.W.Frag} {F : Hp} {N : List Str} {ds : List SD} {vs : List V} (r : RepL K F ds vs) : Slots K F (L2.start N vs) (begin_ N ds) := by
  have hl := r.length
  refine ⟨by simp [L2.start, begin_, hl], fun i d e => ?_⟩
  unfold begin_ at e
  by_cases hi : i < ds.length
  · rw [List.getElem?_append_left (by simpa using hi), List.getElem?_map] at e
    cases q : ds[i]? with
    | none => rw [q] at e; cases e
    | some d' =>
      rw [q] at e
      cases e
      obtain ⟨v, h1, h2⟩ := r.get q
      refine ⟨v, ?_, h2⟩
      unfold L2.start
      rw [List.getElem?_append_left (by simpa [← hl] using hi), List.getElem?_map, h1]
      rfl
  · rw [List.getElem?_append_right (by simpa using Nat.le_of_not_lt hi), List.getElem?_replicate] at e
    split at e <;> cases e
section
variable {P : Program} {w : World} {K : PySem.W.Frag} {mg : Str → Option Value} {base : Heap}
/-- a def that lets nothing out -/
theorem def_ok {x qual : Str} {st : Stmt} {f : Addr} {fd : FuncData} {N ps : List Str} {k : Nat} {sp : DSp} (F : Fun K x qual st f fd) (S : FnScope N ps (defScope st)) (t : DTS) (len : ∀ ds μ Q E, sp ds μ Q E → ds.length = ps.length)
    (walk : ∀ (cdv : Value) (A : Around) (outer : List Env) (s : Shared) (H : Hp) (E : XK), Quiet A → Room k (A.deeper (envOfC qual (defScope st) s.heap.objs.size f cdv)) →
      DSs (cxOf CX0 P w K mg base N qual (defScope st) f cdv A outer s H E).nox (defBody st) t)
    (read : ∀ ds μ Q E, sp ds μ Q E → t { nx := fun _ μ' => Q .non μ', rt := Q } (begin_ N ds) μ) : FnG P w K mg base CX0 (k + 1) f fd ps (LSp K sp) := by
  obtain ⟨oc, od, kV, doc, pm, an, cdv, ct, osl, rfl, lk, hcd⟩ := F.ex
  refine fnG_of lk hcd S (fun vs H Q E h => ?_) fun A outer s H vs Q E quiet room want => ?_
  · obtain ⟨F, μ, ds, Q', E', _, r, q, _⟩ := h
    rw [← r.length]; exact len ds μ Q' E' q
  · obtain ⟨F, μ, ds, Q', E', R, r, q, k1, _⟩ := want
    refine ⟨_, (walk cdv A outer s H E quiet room).nox, F, begin_ N ds, μ, _, R, slots_begin r, read ds μ Q' E' q, ?_, k1, fun _ _ z => False.elim z, fun _ _ z => False.elim z⟩
    exact fun ρ' μ' q F' H' σ' s' R' _ => k1 .non μ' q F' H' .non s' R' .non
end
end DS
namespace DS
open PySem PySem.Spec PyProof.Rows L2

section
variable {K : PySem.W.Frag} {F H : Hp} {μ : Mu} {p : Addr}
theorem HReal.aside (R : HReal K F H μ) {o : HO} (hF : F p = none) (hM : μ p = none) : HReal K F (upd H p o) μ :=
  ⟨fun a u e => by rw [upd_ne (ne_of_none e hF)]; exact R.sub a u e, fun a m e => by
    obtain ⟨z, u, q, r⟩ := R.mus a m e
    exact ⟨z, u, by rw [upd_ne (mu_ne e hM)]; exact q, r⟩⟩
theorem HReal.adopt (R : HReal K F H μ) {o : HO} (hF : F p = none) (hM : μ p = none) (hH : H p = some o) : HReal K (upd F p o) H μ :=
  ⟨fun a u e => by
    by_cases ha : a = p
    · subst ha; rw [upd_same] at e; cases e; exact hH
    · rw [upd_ne ha] at e; exact R.sub a u e, fun a m e => by
    obtain ⟨z, u, q, r⟩ := R.mus a m e
    exact ⟨by rw [upd_ne (mu_ne e hM)]; exact z, u, q, r.mono (Ext.new hF)⟩⟩
theorem HReal.adoptM (R : HReal K F H μ) {o : HO} {m : MO} (hF : F p = none) (hH : H p = some o) (r : RepO K F m o) : HReal K F H (up μ p m) :=
  ⟨R.sub, fun a n e => by
    by_cases ha : a = p
    · subst ha; rw [up_same] at e; cases e; exact ⟨hF, o, hH, r⟩
    · rw [up_ne ha] at e; exact R.mus a n e⟩
end

/-- a target that touches own slots alone, with its datum's reading -/
structure OwnG (K : PySem.W.Frag) (g : TG) (dg : DTG) (vs : List Nat) : Prop where
  lift : ∀ v σ H Q F ρ μ d Q', HReal K F H μ → Slots K F σ ρ → RepS K F d v → dg d ρ μ Q' →
    (∀ ρ' μ', Q' ρ' μ' → ∀ F' H' σ', Stp F H μ F' H' μ' → HReal K F' H' μ' → Slots K F' σ' ρ' → wipe σ' vs = wipe σ vs → Q σ' H') → g v σ H Q
theorem own_name {K : PySem.W.Frag} {i : Nat} {vs : List Nat} (h : i ∈ vs) : OwnG K (gName i) (hName i) vs :=
  ⟨fun v σ H Q F ρ μ d Q' R S r t k => k _ μ t F H _ (Stp.refl F H μ) R (S.set i r) (wipe_set σ _ h)⟩
def dLc (wi : DTI) (g : DTG) (tt : DTT) (te : DTE) (vs : List Nat) : Rho → Mu → (List SD → Mu → Prop) → Prop := fun ρ μ Q => wi ρ μ fun ds ok μ1 => ds.length ≤ sizeLine ∧ ∃ W : Nat → List SD → Mu → Prop, W 0 [] μ1 ∧
  (∀ i acc μ, i ≤ ds.length → W i acc μ → ok μ) ∧ (∀ i d acc μ, ds[i]? = some d → W i acc μ → g d (wipeR ρ vs) μ fun ρ2 μ2 => tt ρ2 μ2 fun b μ3 => if b = true then te ρ2 μ3 fun y μ4 => W (i + 1) (acc ++ [y]) μ4 else W (i + 1) acc μ3) ∧
  ∀ acc μ, W ds.length acc μ → Q acc μ
/-- the new list will not change | may change -/
def dLcS (wi : DTI) (g : DTG) (tt : DTT) (te : DTE) (vs : List Nat) : DTE := fun ρ μ Q => dLc wi g tt te vs ρ μ fun acc μ' => Q (.lst acc) μ'
theorem liftLc {K : PySem.W.Frag} {wi : DTI} {g : TG} {dg : DTG} {tt : DTT} {te : DTE} {vs : List Nat} (og : OwnG K g dg vs) {σ : L2.St} {H F : Hp} {ρ : Rho} {μ : Mu} {Q : VK} {Q' : List SD → Mu → Prop} (R : HReal K F H μ) (S : Slots K F σ ρ) (t : dLc wi dg tt te vs ρ μ Q')
    (k : ∀ acc μ', Q' acc μ' → ∀ F' H' p ws, Stp F H μ F' H' μ' → HReal K F' H' μ' → F' p = none → μ' p = none → H' p = some (.lst ws) → RepL K F' acc ws → (∀ a, H a ≠ none → F a = none → μ a = none → a ≠ p) → Q (.ref p) H') : tLc (LI K wi) g (LT K tt) (LE K te) vs σ H Q := by
  refine ⟨F, ρ, μ, _, R, S, t, fun ds ok μ1 t1 F1 H1 J s1 R1 src D hD => ?_⟩
  obtain ⟨hlen, W, w0, hok, turn, fin⟩ := t1
  have hDF := R1.freeF hD
  have hDM := R1.freeM hD
  refine ⟨fun i m H' => i + m = ds.length ∧ ∃ F μ acc ws, Stp F1 H1 μ1 F H' μ ∧ HReal K F H' μ ∧ F D = none ∧ μ D = none ∧ H' D = some (.lst ws) ∧ RepL K F acc ws ∧ acc.length ≤ i ∧ W i acc μ, ⟨ds.length, by omega, F1, μ1, [], [], ?_, R1.aside hDF hDM, hDF, hDM, upd_same, .nil, Nat.le_refl _, w0⟩, ?_⟩
  · exact ⟨Ext.refl _, fun a h1 h2 h3 => ⟨upd_ne (fun z => by subst z; exact h1 hD), h2, h3⟩⟩
  rintro i m H' ⟨him, F2, μ2, acc, ws, s2, R2, f2, m2, hH2, r2, hacc, w2⟩
  have hle : i ≤ ds.length := by omega
  by_cases hi : i < ds.length
  · refine .inr ⟨src.go i F2 H' μ2 s2 R2 (hok i acc μ2 hle w2) hi, fun H3 => ∃ F μ acc ws, Stp F1 H1 μ1 F H3 μ ∧ HReal K F H3 μ ∧ F D = none ∧ μ D = none ∧ H3 D = some (.lst ws) ∧ RepL K F acc ws ∧ acc.length ≤ i + 1 ∧ W (i + 1) acc μ, ?_, ?_⟩
    · rintro H3 ⟨F3, μ3, acc3, ws3, z⟩
      exact ⟨ds.length - (i + 1), by omega, by omega, F3, μ3, acc3, ws3, z⟩
    · intro x H3 y
      obtain ⟨F3, s3, R3, r3⟩ := src.yld i F2 H' μ2 x H3 s2 R2 (hok i acc μ2 hle w2) y _ (List.getElem?_eq_getElem hi)
      obtain ⟨e3, f3, m3⟩ := s3.fr D (by rw [hH2]; exact fun z => nomatch z) f2 m2
      have S3 : Slots K F3 (wipe σ vs) (wipeR ρ vs) := ((S.mono (s1.ext.trans s2.ext)).mono s3.ext).wipe vs
      refine og.lift x _ H3 _ F3 _ μ2 _ _ R3 S3 r3 (turn i _ acc μ2 (List.getElem?_eq_getElem hi) w2) fun ρ4 μ4 t4 F4 H4 σ4 s4 R4 S4 e4 => ⟨e4.trans ?_, ?_⟩
      · have idem : ∀ (τ : L2.St) (us : List Nat), (∀ i ∈ us, τ[i]? = none ∨ τ[i]? = some none) → wipe τ us = τ := by
          intro τ us
          induction us with
          | nil => intro _; rfl
          | cons a r ih =>
            intro hz
            show (wipe τ r).set a none = τ
            rw [ih fun i hi => hz i (List.mem_cons_of_mem _ hi)]
            rcases hz a List.mem_cons_self with q | q
            · exact List.set_eq_of_length_le (List.getElem?_eq_none_iff.mp q)
            · apply List.ext_getElem?
              intro j
              by_cases hj : j = a
              · subst hj
                obtain ⟨hl, _⟩ := List.getElem?_eq_some_iff.mp q
                rw [List.getElem?_set_self hl, q]
              · rw [List.getElem?_set_ne (Ne.symm hj)]
        refine idem _ _ fun i hi => ?_
        have done : ∀ (us : List Nat), i ∈ us → (wipe σ us)[i]? = none ∨ (wipe σ us)[i]? = some none := by
          intro us
          induction us with
          | nil => intro h; cases h
          | cons a r ih =>
            intro h
            show ((wipe σ r).set a none)[i]? = none ∨ ((wipe σ r).set a none)[i]? = some none
            by_cases e : a = i
            · subst e
              by_cases hl : a < (wipe σ r).length
              · exact .inr (List.getElem?_set_self hl)
              · exact .inl (List.getElem?_eq_none (by simpa using Nat.le_of_not_lt hl))
            · rw [List.getElem?_set_ne e]
              exact ih ((List.mem_cons.mp h).resolve_left (fun z => e z.symm))
        exact done vs hi
      · obtain ⟨e5, f5, m5⟩ := s4.fr D (by rw [e3, hH2]; exact fun z => nomatch z) f3 m3
        refine ⟨F4, ρ4, μ4, _, R4, S4, t4, fun b μ6 t6 F6 H6 s6 R6 => ?_⟩
        obtain ⟨e7, f7, m7⟩ := s6.fr D (by rw [e5, e3, hH2]; exact fun z => nomatch z) f5 m5
        have at6 : H6 D = some (.lst ws) := by rw [e7, e5, e3, hH2]
        have st6 := ((s2.trans s3).trans s4).trans s6
        have ext6 : Ext F2 F6 := (s3.ext.trans s4.ext).trans s6.ext
        cases b with
        | false => exact ⟨F6, μ6, acc, ws, st6, R6, f7, m7, at6, r2.mono ext6, Nat.le_succ_of_le hacc, t6⟩
        | true =>
          refine ⟨F6, ρ4, μ6, _, R6, S4.mono s6.ext, t6, fun d μ8 t8 F8 H8 v s8 R8 r8 => ?_⟩
          obtain ⟨e9, f9, m9⟩ := s8.fr D (by rw [at6]; exact fun z => nomatch z) f7 m7
          have at8 : H8 D = some (.lst ws) := e9.trans at6
          have ra : RepL K F8 acc ws := r2.mono (ext6.trans s8.ext)
          refine ⟨ws, at8, by rw [← ra.length]; exact Nat.lt_of_le_of_lt hacc (Nat.lt_of_lt_of_le hi hlen), F8, μ8, acc ++ [d], ws ++ [v], ?_, R8.aside f9 m9, f9, m9, upd_same, ra.append (.one r8), ?_, t8⟩
          · refine ⟨(st6.trans s8).ext, fun a h1 h2 h3 => ?_⟩
            have ha : a ≠ D := fun z => by subst z; exact h1 hD
            obtain ⟨q1, q2, q3⟩ := (st6.trans s8).fr a h1 h2 h3
            exact ⟨(upd_ne ha).trans q1, q2, q3⟩
          · rw [List.length_append]; exact Nat.succ_le_succ hacc
  · have e : i = ds.length := by omega
    subst e
    refine .inl ⟨src.stop F2 H' μ2 s2 R2 (hok _ acc μ2 hle w2), ?_⟩
    refine k acc μ2 (fin acc μ2 w2) F2 H' D ws (s1.trans s2) R2 f2 m2 hH2 r2 fun a ha hb hc z => ?_
    subst z
    exact ha ((s1.fr a ha hb hc).1.symm.trans hD)
end DS
namespace DS
open PySem PySem.Spec PyProof.Rows L2
section
variable {X : Cx} {pos p spos py : Pos} {a b c e o iter tg elt : Expr} {es ifs : List Expr} {x y : Str} {scope : Scope} {own : List (Str × Nat)} {wi : DTI} {g : TG} {dg : DTG} {tt : DTT} {te : DTE}
abbrev DTs (X : Cx) (ifs : List Expr) (t : DTT) : Prop := PTs X ifs (LT X.K t)
abbrev dYes : DTT := fun _ μ Q => Q true μ
theorem dts_nil : DTs X [] dYes := ⟨fun pins s σ H Q I h => by
  obtain ⟨F, ρ, μ, Q', R, S, t, k⟩ := h
  exact pts_nil.run pins s σ H Q I (k true μ t F H (Stp.refl F H μ) R)⟩
theorem lcS {K : PySem.W.Frag} {vs : List Nat} (og : OwnG K g dg vs) : ∀ σ H Q, LE K (dLcS wi dg tt te vs) σ H Q → tLc (LI K wi) g (LT K tt) (LE K te) vs σ H Q := fun σ H Q h => by
  obtain ⟨F, ρ, μ, Q', R, S, t, k⟩ := h
  refine liftLc og R S t fun acc μ' q F' H' p ws s R' f m hp r ne => ?_
  have ex : Ext F' (upd F' p (.lst ws)) := Ext.new f
  refine k (.lst acc) μ' q (upd F' p (.lst ws)) H' (.ref p) ⟨s.ext.trans ex, fun a h1 h2 h3 => ?_⟩ (R'.adopt f m hp) (.lst upd_same (r.mono ex))
  obtain ⟨q1, q2, q3⟩ := s.fr a h1 h2 h3
  exact ⟨q1, by rw [upd_ne (ne a h1 h2 h3)]; exact q2, q3⟩
variable (hc : X.calm = true) (hN : X.N.Nodup) (ok : BlkOk X.N X.env.scope scope own) (og : OwnG X.K g dg (own.map (·.2))) (hi : DI X tg iter wi)
  (hg : ∀ (s : Shared) (H : Hp) (C : Addr) (cl : List (Str × Addr)) (fp : List Addr), PG (X.blk s H scope (compEnvC scope cl C X.env) fp) tg g)
  (ht : ∀ (s : Shared) (H : Hp) (C : Addr) (cl : List (Str × Addr)) (fp : List Addr), DTs (X.blk s H scope (compEnvC scope cl C X.env) fp) ifs tt)
  (he : ∀ (s : Shared) (H : Hp) (C : Addr) (cl : List (Str × Addr)) (fp : List Addr), DE (X.blk s H scope (compEnvC scope cl C X.env) fp) elt te)
include hc hN ok og hi hg ht he
theorem de_lc (hs : ∀ x, foldedSetIterable iter X.env x = pure x := by intro _; rfl) : DE X (.ListComp elt [⟨tg, iter, ifs, 0⟩] scope pos) (dLcS wi dg tt te (own.map (·.2))) := weakE (pe_lc hc hN hi ok hg ht he hs) (lcS og)
end

section
variable {X : Cx} {K : PySem.W.Frag}
def dAdd : DR2 := fun x y μ Q => match x with
  | .int i => match y with
    | .int j => Q (.int (i + j)) μ
    | _ => False
  | .str i => match y with
    | .str j => i.length + j.length ≤ sizeLine ∧ Q (.str (i ++ j)) μ
    | _ => False
  | .tup xs => match y with
    | .tup ys => xs.length + ys.length ≤ sizeLine ∧ Q (.tup (xs ++ ys)) μ
    | _ => False
  | x => match lstD μ x, lstD μ y with
    | some xs, some ys => xs.length + ys.length ≤ sizeLine ∧ Q (.lst (xs ++ ys)) μ
    | _, _ => False
def rAdd (K : PySem.W.Frag) : R2 := fun x y H Q => (∃ i j, x = .int i ∧ y = .int j ∧ Q (.int (i + j)) H) ∨ ((∃ i j, x = .str i ∧ y = .str j ∧ i.length + j.length ≤ sizeLine ∧ Q (.str (i ++ j)) H) ∨ (rCatA K x y H Q ∨ rCat x y H Q))
theorem opr_add : OpR X (binaryOp .Add) (rAdd X.K) := OpR.or op_add (OpR.or op_add_str (OpR.or op_catA op_cat))
theorem lr_add : LR2 K dAdd (rAdd K) := fun F H μ x y dx dy Q' Q R rx ry t k => by
  have lists : ∀ xs ys, lstD μ dx = some xs → lstD μ dy = some ys → xs.length + ys.length ≤ sizeLine ∧ Q' (.lst (xs ++ ys)) μ → rAdd K x y H Q := fun xs ys ex ey t => by
    obtain ⟨a, vs, rfl, ha, r1⟩ := R.lst rx ex
    obtain ⟨b, ws, rfl, hb, r2⟩ := R.lst ry ey
    refine .inr (.inr (.inr ⟨a, b, vs, ws, rfl, rfl, ha, hb, by rw [← r1.length, ← r2.length]; exact t.1, fun q hq => ?_⟩))
    exact k _ μ t.2 _ _ _ (Stp.newS R hq) (R.newS hq) (.lst upd_same ((r1.append r2).mono (Ext.new (R.freeF hq))))
  have fall : ∀ {b : Prop}, (match lstD μ dx, lstD μ dy with
    | some xs, some ys => xs.length + ys.length ≤ sizeLine ∧ Q' (.lst (xs ++ ys)) μ
    | _, _ => False) → rAdd K x y H Q := fun {b} t => by
    cases e1 : lstD μ dx with
    | none => rw [e1] at t; exact False.elim t
    | some xs => cases e2 : lstD μ dy with
      | none => rw [e1, e2] at t; exact False.elim t
      | some ys => rw [e1, e2] at t; exact lists xs ys e1 e2 t
  cases dx with
  | int i => cases dy with
    | int j => cases rx; cases ry; exact .inl ⟨i, j, rfl, rfl, k _ μ t F H _ (Stp.refl _ _ _) R (.int _)⟩
    | _ => exact False.elim t
  | str i => cases dy with
    | str j => cases rx; cases ry; exact .inr (.inl ⟨i, j, rfl, rfl, t.1, k _ μ t.2 F H _ (Stp.refl _ _ _) R (.str _)⟩)
    | _ => exact False.elim t
  | tup xs => cases dy with
    | tup ys =>
      cases rx with
      | tup h1 r1 => cases ry with
        | tup h2 r2 =>
          refine .inr (.inr (.inl ⟨_, _, _, _, rfl, rfl, R.ext.sqT h1, R.ext.sqT h2, by rw [← r1.length, ← r2.length]; exact t.1, fun z => ?_, fun _ z => ?_, fun _ _ q hq => ?_⟩))
          · have e := r1.nil_iff.mpr z
            subst e
            exact k _ μ t.2 F H _ (Stp.refl _ _ _) R (.tup h2 r2)
          · have e := r2.nil_iff.mpr z
            subst e
            have t2 := t.2
            rw [List.append_nil] at t2
            exact k _ μ t2 F H _ (Stp.refl _ _ _) R (.tup h1 r1)
          · exact k _ μ t.2 _ _ _ (Stp.newS R hq) (R.newS hq) (.tup (.inl (.inl upd_same)) ((r1.append r2).mono (Ext.new (R.freeF hq))))
    | _ => exact False.elim t
  | lst xs => exact fall (b := True) t
  | ref a => exact fall (b := True) t
  | _ => exact fall (b := True) t
def dSub : DR2 := fun x y μ Q => match x with
  | .int i => match y with
    | .int j => Q (.int (i - j)) μ
    | _ => False
  | _ => False
theorem lr_ints {dr : DR2} {C : Int → Int → Prop} {gg : Int → Int → V} {ff : Int → Int → SD} (hf : ∀ i j, plain (ff i j) = some (gg i j)) (h : ∀ x y μ Q, dr x y μ Q → ∃ i j, x = .int i ∧ y = .int j ∧ C i j ∧ Q (ff i j) μ) : LR2 K dr (rI C gg) := fun F H μ x y dx dy Q' Q R rx ry t k => by
  obtain ⟨i, j, rfl, rfl, hC, t2⟩ := h _ _ _ _ t
  cases rx; cases ry
  exact ⟨i, j, rfl, rfl, hC, k _ μ t2 F H _ (Stp.refl _ _ _) R (RepS.plain (hf i j))⟩
theorem lr_ints0 {dr : DR2} {gg : Int → Int → V} {ff : Int → Int → SD} (hf : ∀ i j, plain (ff i j) = some (gg i j)) (h : ∀ x y μ Q, dr x y μ Q → ∃ i j, x = .int i ∧ y = .int j ∧ Q (ff i j) μ) : LR2 K dr (rI0 gg) := fun F H μ x y dx dy Q' Q R rx ry t k => by
  obtain ⟨i, j, rfl, rfl, t2⟩ := h _ _ _ _ t
  cases rx; cases ry
  exact ⟨i, j, rfl, rfl, k _ μ t2 F H _ (Stp.refl _ _ _) R (RepS.plain (hf i j))⟩
theorem lr_sub : LR2 K dSub (rI0 fun i j => .int (i - j)) := lr_ints0 (ff := fun i j => .int (i - j)) (fun _ _ => rfl) fun x y μ Q t => by
  cases x <;> cases y <;> first | exact False.elim t | exact ⟨_, _, rfl, rfl, t⟩
/-- x * y: two ints; a text and an int; a list and an int -/
def repS (x : Str) (n : Nat) : Str := ⟨((List.replicate n x.cps.toList).flatten).toArray⟩
theorem foldl_app (a : Array Nat) : ∀ (n : Nat) (acc : Array Nat), (List.replicate n a).foldl (· ++ ·) acc = (acc.toList ++ (List.replicate n a.toList).flatten).toArray
  | 0, acc => by simp
  | n + 1, acc => by
    rw [List.replicate_succ, List.foldl_cons, foldl_app a n, List.replicate_succ, List.flatten_cons]
    simp
theorem repS_eq (x : Str) (n : Nat) : (⟨(List.replicate n x.cps).foldl (· ++ ·) #[]⟩ : Str) = repS x n := by
  unfold repS
  rw [foldl_app]
  simp
theorem repS_length (x : Str) (n : Nat) : (repS x n).length = x.length * n := by
  show ((List.replicate n x.cps.toList).flatten).toArray.size = x.cps.size * n
  simp [Nat.mul_comm]
theorem op_mulS : OpR X (binaryOp .Mult) (fun x y H Q => ∃ s j, x = .str s ∧ y = .int j ∧ (0 ≤ j ∧ j ≤ 1000000 ∧ s.length * j.toNat ≤ sizeLine) ∧ Q (.str (repS s j.toNat)) H) := by
  intro pins st σ H x y v u Q I rx ry h
  obtain ⟨s, j, rfl, rfl, ⟨h0, h1, h2⟩, q⟩ := h
  obtain ⟨t, rfl⟩ := rx
  obtain ⟨t', rfl⟩ := ry
  refine P.mul_str ?_ (fun a b z => ?_) (fun a b => ?_) ?_
  · rw [decide_eq_false (by omega), decide_eq_false (by omega)]; rfl
  · have hl : (sizeLine : Int) ≤ (2 ^ 63 - 1) / 1000000 := by decide
    have hj : 0 < j := by omega
    have hs : (s.length : Int) * j ≤ sizeLine := by
      have e : ((s.length * j.toNat : Nat) : Int) = (s.length : Int) * j := by rw [Int.natCast_mul, Int.toNat_of_nonneg h0]
      rw [← e]; exact Int.ofNat_le.mpr h2
    have h3 : (s.length : Int) * 1 ≤ (s.length : Int) * j := Int.mul_le_mul_of_nonneg_left (by omega) (Int.natCast_nonneg _)
    have h5 : (2 ^ 63 - 1) / 1000000 ≤ (2 ^ 63 - 1) / j := by
      apply Int.le_ediv_of_mul_le hj
      have : ((2 ^ 63 - 1) / 1000000 : Int) * j ≤ ((2 ^ 63 - 1) / 1000000 : Int) * 1000000 := Int.mul_le_mul_of_nonneg_left h1 (by decide)
      exact Int.le_trans this (by decide)
    omega
  · unfold Builtin.Str.tooLong
    simpa using h2
  · split
    · rename_i hlt
      have e : j = 0 := by omega
      subst e
      exact ⟨by decide, ⟨.str _, H, I.tok _, ⟨_, rfl⟩, q⟩⟩
    · split
      · rename_i hn hy
        have e : repS s j.toNat = s := by
          simp only [Bool.or_eq_true, beq_iff_eq] at hy
          rcases hy with hy | hy
          · subst hy; unfold repS; simp
          · have : s.cps = #[] := by
              have : s.cps.size = 0 := hy
              exact Array.eq_empty_of_size_eq_zero this
            obtain ⟨c⟩ := s
            simp only at this
            subst this
            unfold repS; simp
        rw [e] at q
        exact ⟨.str _, H, I, ⟨_, rfl⟩, q⟩
      · rw [repS_eq]
        exact ⟨by rw [repS_length]; exact h2, ⟨.str _, H, I.tok _, ⟨_, rfl⟩, q⟩⟩
end
end DS
namespace DS
open PySem PySem.Spec PyProof.Rows L2
mutual
def pdS : SD → Option PyData
  | .non => some .none
  | .bl b => some (.bool b)
  | .int i => some (.int i)
  | .str s => some (.str s)
  | .ref _ => none
  | .ty _ => none
  | .exc _ _ => none
  | .ptp _ => none
  | .tup xs => match pdL xs with
    | some ds => some (.tuple ds)
    | none => none
  | .lst xs => match pdL xs with
    | some ds => some (.list ds)
    | none => none
  | .rol xs => match pdL xs with
    | some ds => some (.list ds)
    | none => none
  | .dic _ => none
def pdL : List SD → Option (List PyData)
  | [] => some []
  | d :: r => match pdS d, pdL r with
    | some x, some y => some (x :: y)
    | _, _ => none
end
/-- .. of a list that may change, too -/
def pd (μ : Mu) : SD → Option PyData
  | .ref a => match μ a with
    | some (.lst xs) => match pdL xs with
      | some ds => some (.list ds)
      | none => none
    | _ => none
  | d => pdS d
section
variable {K : PySem.W.Frag} {F H : Hp} {μ : Mu}
mutual
theorem RepS.dp (ex : Ext F H) (sub : ∀ a o, F a = some o → H a = some o) : ∀ {d : SD} {v : V} {p : PyData}, RepS K F d v → pdS d = some p → Dp K H v p
  | _, _, _, .non, e => by cases e; exact .non
  | _, _, _, .bl b, e => by cases e; exact .bl b
  | _, _, _, .int b, e => by cases e; exact .int b
  | _, _, _, .str b, e => by cases e; exact .str b
  | _, _, _, .ref _, e => by cases e
  | _, _, _, .ty _, e => by cases e
  | .tup ds, _, _, .tup h r, e => by
    unfold pdS at e
    cases q : pdL ds with
    | none => rw [q] at e; cases e
    | some ps => rw [q] at e; cases e; exact .tup (ex.sqT h) (RepL.dp ex sub r q)
  | .lst ds, _, _, .lst h r, e => by
    unfold pdS at e
    cases q : pdL ds with
    | none => rw [q] at e; cases e
    | some ps => rw [q] at e; cases e; exact .lst (SqL.of (sub _ _ h)) (RepL.dp ex sub r q)
  | .rol ds, _, _, .rol h r, e => by
    unfold pdS at e
    cases q : pdL ds with
    | none => rw [q] at e; cases e
    | some ps => rw [q] at e; cases e; exact .lst (ex.sqL h) (RepL.dp ex sub r q)
  | _, _, _, .dic _ _ _, e => by cases e
  | _, _, _, .exc0 _ _, e => by cases e
  | _, _, _, .exc _ _ _ _ _, e => by cases e
  | _, _, _, .ptp _ _ _, e => by cases e
theorem RepL.dp (ex : Ext F H) (sub : ∀ a o, F a = some o → H a = some o) : ∀ {ds : List SD} {vs : List V} {ps : List PyData}, RepL K F ds vs → pdL ds = some ps → DpAll K H vs ps
  | _, _, _, .nil, e => by cases e; exact .nil
  | d :: ds, _, _, .cons h r, e => by
    unfold pdL at e
    cases q : pdS d with
    | none => rw [q] at e; cases e
    | some x => cases q2 : pdL ds with
      | none => rw [q, q2] at e; cases e
      | some y => rw [q, q2] at e; cases e; exact .cons (RepS.dp ex sub h q) (RepL.dp ex sub r q2)
end
theorem HReal.dp (R : HReal K F H μ) {d : SD} {v : V} {p : PyData} (r : RepS K F d v) (e : pd μ d = some p) : Dp K H v p := by
  cases r with
  | ref a =>
    unfold pd at e
    simp only at e
    cases q : μ a with
    | none => rw [q] at e; cases e
    | some m =>
      rw [q] at e
      obtain ⟨_, o, h, ro⟩ := R.mus a m q
      cases ro with
      | lst r =>
        rename_i ds vs
        cases q2 : pdL ds with
        | none => simp only [q2] at e; cases e
        | some ps => simp only [q2] at e; cases e; exact .lst (SqL.of h) (RepL.dp R.ext R.sub r q2)
      | _ => cases e
  | non => exact RepS.dp R.ext R.sub .non e
  | bl b => exact RepS.dp R.ext R.sub (.bl b) e
  | int b => exact RepS.dp R.ext R.sub (.int b) e
  | str b => exact RepS.dp R.ext R.sub (.str b) e
  | ty b => cases e
  | tup h r => exact RepS.dp R.ext R.sub (.tup h r) e
  | lst h r => exact RepS.dp R.ext R.sub (.lst h r) e
  | rol h r => exact RepS.dp R.ext R.sub (.rol h r) e
  | dic h q r => cases e
  | exc0 _ _ => cases e
  | exc _ _ _ _ _ => cases e
  | ptp _ _ _ => cases e
end
/-- x == y: none where it is not known -/
def eqD (μ : Mu) (x y : SD) : Option Bool := match x, y with
  | .str s, .str t => some (decide (s = t))
  | .int i, .int j => some (decide (i = j))
  | .bl i, .bl j => some (decide (i = j))
  | .non, .non => some true
  | .non, .str _ => some false
  | .str _, .non => some false
  | x, y => match pd μ x, pd μ y with
    | some p, some q => if SeqAt.shaped p = true ∧ SeqAt.shaped q = true then some (PyData.eqv p q) else none
    | _, _ => none
def dEq (neg : Bool) : DR2 := fun x y μ Q => match eqD μ x y with
  | some b => Q (.bl (neg != b)) μ
  | none => False
section
variable {X : Cx} {K : PySem.W.Frag}
def rEqA (K : PySem.W.Frag) : R2 := fun x y H Q => rEq x y H Q ∨ rEqD K x y H Q
def rNeA (K : PySem.W.Frag) : R2 := fun x y H Q => rNe x y H Q ∨ rNeD K x y H Q
theorem opr_eq (hu : X.A.units + 64 < cLine) : OpR X (compareOp .Eq) (rEqA X.K) := op_eq.or (op_eqD hu)
theorem opr_ne (hu : X.A.units + 64 < cLine) : OpR X (compareOp .NotEq) (rNeA X.K) := op_ne.or (op_neD hu)
theorem eqD_cases {μ : Mu} {x y : SD} {b : Bool} (h : eqD μ x y = some b) : (∃ v w, plain x = some v ∧ plain y = some w ∧ scal v w = true ∧ b = decide (v = w)) ∨ ∃ p q, pd μ x = some p ∧ pd μ y = some q ∧ SeqAt.shaped p = true ∧ SeqAt.shaped q = true ∧ b = PyData.eqv p q := by
  unfold eqD at h
  split at h
  · cases h; exact .inl ⟨_, _, rfl, rfl, rfl, by simp⟩
  · cases h; exact .inl ⟨_, _, rfl, rfl, rfl, by simp⟩
  · cases h; exact .inl ⟨_, _, rfl, rfl, rfl, by simp⟩
  · cases h; exact .inl ⟨_, _, rfl, rfl, rfl, by simp⟩
  · cases h; exact .inl ⟨_, _, rfl, rfl, rfl, by simp⟩
  · cases h; exact .inl ⟨_, _, rfl, rfl, rfl, by simp⟩
  · split at h
    · rename_i p q e1 e2
      split at h
      · rename_i hs
        cases h
        exact .inr ⟨p, q, e1, e2, hs.1, hs.2, rfl⟩
      · cases h
    · cases h
theorem lr_eq : LR2 K (dEq false) (rEqA K) := fun F H μ x y dx dy Q' Q R rx ry t k => by
  unfold dEq at t
  cases e : eqD μ dx dy with
  | none => rw [e] at t; exact False.elim t
  | some b =>
    rw [e] at t
    have t : Q' (.bl b) μ := by simpa using t
    rcases eqD_cases e with ⟨v, w, h1, h2, h3, rfl⟩ | ⟨p, q, h1, h2, h3, h4, rfl⟩
    · obtain rfl := rx.isPlain h1
      obtain rfl := ry.isPlain h2
      exact .inl ⟨h3, k _ μ t F H _ (Stp.refl _ _ _) R (.bl _)⟩
    · exact .inr ⟨p, q, R.dp rx h1, R.dp ry h2, h3, h4, k _ μ t F H _ (Stp.refl _ _ _) R (.bl _)⟩
theorem lr_ne : LR2 K (dEq true) (rNeA K) := fun F H μ x y dx dy Q' Q R rx ry t k => by
  unfold dEq at t
  cases e : eqD μ dx dy with
  | none => rw [e] at t; exact False.elim t
  | some b =>
    rw [e] at t
    have t : Q' (.bl (!b)) μ := by simpa using t
    rcases eqD_cases e with ⟨v, w, h1, h2, h3, rfl⟩ | ⟨p, q, h1, h2, h3, h4, rfl⟩
    · obtain rfl := rx.isPlain h1
      obtain rfl := ry.isPlain h2
      exact .inl ⟨h3, k _ μ t F H _ (Stp.refl _ _ _) R (.bl _)⟩
    · exact .inr ⟨p, q, R.dp rx h1, R.dp ry h2, h3, h4, k _ μ t F H _ (Stp.refl _ _ _) R (.bl _)⟩

def dCmp (fi : Int → Int → Bool) (fs : List Nat → List Nat → Bool) : DR2 := fun x y μ Q => match x with
  | .int i => match y with
    | .int j => Q (.bl (fi i j)) μ
    | _ => False
  | .str s => match y with
    | .str t => Q (.bl (fs s.cps.toList t.cps.toList)) μ
    | _ => False
  | _ => False
def rCmp (fi : Int → Int → Bool) (fs : List Nat → List Nat → Bool) : R2 := fun x y H Q => (∃ i j, x = .int i ∧ y = .int j ∧ Q (.bl (fi i j)) H) ∨ ∃ i j : Str, x = .str i ∧ y = .str j ∧ Q (.bl (fs i.cps.toList j.cps.toList)) H
theorem lr_cmp {fi : Int → Int → Bool} {fs : List Nat → List Nat → Bool} : LR2 K (dCmp fi fs) (rCmp fi fs) := fun F H μ x y dx dy Q' Q R rx ry t k => by
  cases dx with
  | int i => cases dy with
    | int j => cases rx; cases ry; exact .inl ⟨i, j, rfl, rfl, k _ μ t F H _ (Stp.refl _ _ _) R (.bl _)⟩
    | _ => exact False.elim t
  | str i => cases dy with
    | str j => cases rx; cases ry; exact .inr ⟨i, j, rfl, rfl, k _ μ t F H _ (Stp.refl _ _ _) R (.bl _)⟩
    | _ => exact False.elim t
  | _ => exact False.elim t
abbrev dLt : DR2 := dCmp (fun i j => decide (i < j)) fun s t => decide (s < t)
theorem opr_lt : OpR X (compareOp .Lt) (rCmp (fun i j => decide (i < j)) fun s t => decide (s < t)) := op_lt.or op_lt_str
theorem lr_lt : LR2 K dLt (rCmp (fun i j => decide (i < j)) fun s t => decide (s < t)) := lr_cmp

def rMul : R2 := fun x y H Q => rI IntMulOk (fun i j => .int (i * j)) x y H Q ∨ ((∃ s j, x = .str s ∧ y = .int j ∧ (0 ≤ j ∧ j ≤ 1000000 ∧ s.length * j.toNat ≤ sizeLine) ∧ Q (.str (repS s j.toNat)) H) ∨ rRep x y H Q)
theorem op_mulG : OpR X (binaryOp .Mult) (rI IntMulOk fun i j => .int (i * j)) := opI fun _ _ _ _ _ _ _ hc q => mul_int q hc
theorem opr_mul : OpR X (binaryOp .Mult) rMul := op_mulG.or (op_mulS.or op_rep)
def dMul : DR2 := fun x y μ Q => match y with
  | .int j => match x with
    | .int i => IntMulOk i j ∧ Q (.int (i * j)) μ
    | .str s => (0 ≤ j ∧ j ≤ 1000000 ∧ s.length * j.toNat ≤ sizeLine) ∧ Q (.str (repS s j.toNat)) μ
    | x => match lstD μ x with
      | some xs => (-(2 ^ 63) ≤ j ∧ j < 2 ^ 63 ∧ xs.length * j.toNat ≤ sizeLine) ∧ Q (.lst (List.replicate j.toNat xs).flatten) μ
      | none => False
  | _ => False
theorem RepL.rep {F : Hp} {ds : List SD} {vs : List V} (h : RepL K F ds vs) : ∀ n : Nat, RepL K F (List.replicate n ds).flatten (List.replicate n vs).flatten
  | 0 => .nil
  | n + 1 => by rw [List.replicate_succ, List.replicate_succ, List.flatten_cons, List.flatten_cons]; exact h.append (RepL.rep h n)
theorem lr_mul : LR2 K dMul rMul := fun F H μ x y dx dy Q' Q R rx ry t k => by
  cases dy with
  | int j =>
    cases ry
    have fall : (match lstD μ dx with
      | some xs => (-(2 ^ 63) ≤ j ∧ j < 2 ^ 63 ∧ xs.length * j.toNat ≤ sizeLine) ∧ Q' (.lst (List.replicate j.toNat xs).flatten) μ
      | none => False) → rMul x (.int j) H Q := fun t => by
      cases e : lstD μ dx with
      | none => rw [e] at t; exact False.elim t
      | some xs =>
        rw [e] at t
        obtain ⟨⟨h1, h2, h3⟩, t⟩ := t
        obtain ⟨a, vs, rfl, ha, r⟩ := R.lst rx e
        refine .inr (.inr ⟨a, j, vs, rfl, rfl, ha, h1, h2, by rw [← r.length]; exact h3, fun q hq => ?_⟩)
        exact k _ μ t _ _ _ (Stp.newS R hq) (R.newS hq) (.lst upd_same ((r.rep _).mono (Ext.new (R.freeF hq))))
    cases dx with
    | int i => cases rx; exact .inl ⟨i, j, rfl, rfl, t.1, k _ μ t.2 F H _ (Stp.refl _ _ _) R (.int _)⟩
    | str s => cases rx; exact .inr (.inl ⟨s, j, rfl, rfl, t.1, k _ μ t.2 F H _ (Stp.refl _ _ _) R (.str _)⟩)
    | lst xs => exact fall t
    | ref a => exact fall t
    | _ => exact fall t
  | _ => exact False.elim t
def dI2 (C : Int → Int → Prop) (f : Int → Int → Int) : DR2 := fun x y μ Q => match x with
  | .int i => match y with
    | .int j => C i j ∧ Q (.int (f i j)) μ
    | _ => False
  | _ => False
theorem lr_i2 {C : Int → Int → Prop} {f : Int → Int → Int} : LR2 K (dI2 C f) (rI C fun i j => .int (f i j)) := lr_ints (ff := fun i j => .int (f i j)) (fun _ _ => rfl) fun x y μ Q t => by
  cases x <;> cases y <;> first | exact False.elim t | exact ⟨_, _, rfl, rfl, t.1, t.2⟩
abbrev dMod : DR2 := dI2 (fun _ j => 0 < j) fun i j => i % j
abbrev dDiv : DR2 := dI2 CDivW fun i j => i / j
def CPowW (i j : Int) : Prop := 0 ≤ j ∧ (Builtin.Int.intBits i : Int) * j ≤ 2 ^ 27
theorem op_powW : OpR X (binaryOp .Pow) (rI CPowW fun i j => .int (i ^ j.toNat)) := opI fun _ _ _ _ _ _ _ hc q => pow_int hc.1 hc.2 q
abbrev dPow : DR2 := dI2 CPowW fun i j => i ^ j.toNat
end
/-- one operand -/
abbrev dUnI (f : Int → Int) (ta : DTE) : DTE := fun ρ μ Q => ta ρ μ fun x μ1 => match x with
  | .int i => Q (.int (f i)) μ1
  | _ => False
theorem de_neg {X : Cx} {a : Expr} {pos : Pos} {ta : DTE} (ha : DE X a ta) : DE X (.UnaryOp .USub a pos) (dUnI (fun i => -i) ta) := weakE (pe_un un_neg ha) fun σ H Q h => by
  obtain ⟨F, ρ, μ, Q', R, S, t, k⟩ := h
  refine ⟨F, ρ, μ, _, R, S, t, fun d μ1 t1 F1 H1 v s1 R1 r1 => ?_⟩
  cases r1 with
  | int i => exact ⟨i, rfl, k _ μ1 t1 F1 H1 _ s1 R1 (.int _)⟩
  | _ => exact False.elim t1

def eqA (a b : SD) : Bool := match plain a, plain b with
  | some v, some w => eqV v w
  | _, _ => false
def flatD (d : SD) : Bool := match plain d with
  | some v => flatV v
  | none => false
def inS (x : SD) (xs : List SD) : Bool := xs.any fun y => eqA y x
def dIn (neg : Bool) : DR2 := fun x y μ Q => match y with
  | .str t => match x with
    | .str s => match s.cps.toList with
      | [c] => Q (.bl (neg != decide (c ∈ t.cps.toList))) μ
      | _ => False
    | _ => False
  | y => match seqD μ y with
    | some xs => (flatD x = true ∧ xs.all flatD = true) ∧ Q (.bl (neg != inS x xs)) μ
    | none => False
section
variable {X : Cx} {K : PySem.W.Frag} {F : Hp}
theorem flatD_V {d : SD} {v : V} (r : RepS K F d v) (h : flatD d = true) : plain d = some v ∧ flatV v = true := by
  unfold flatD at h
  cases e : plain d with
  | none => rw [e] at h; cases h
  | some w =>
    rw [e] at h
    obtain rfl := r.isPlain e
    exact ⟨rfl, h⟩
theorem flatL_V : ∀ {ds : List SD} {vs : List V}, RepL K F ds vs → ds.all flatD = true → vs.all flatV = true ∧ ∀ {x : SD} {v : V}, plain x = some v → (ds.any fun y => eqA y x) = inV v vs
  | _, _, .nil, _ => ⟨rfl, fun _ => rfl⟩
  | d :: ds, _, .cons h r, e => by
    rw [List.all_cons, Bool.and_eq_true] at e
    obtain ⟨p, f⟩ := flatD_V h e.1
    obtain ⟨q1, q2⟩ := flatL_V r e.2
    refine ⟨by rw [List.all_cons, f, q1]; rfl, fun {x v} hx => ?_⟩
    show (eqA d x || (ds.any fun y => eqA y x)) = _
    rw [q2 hx]
    unfold eqA
    rw [p, hx]
    rfl
def rInA (K : PySem.W.Frag) (neg : Bool) : R2 := fun x y H Q => (∃ (c : Nat) (z : Str), x = .str ⟨#[c]⟩ ∧ y = .str z ∧ Q (.bl (neg != decide (c ∈ z.cps.toList))) H) ∨ rIn K neg x y H Q
theorem opr_in : OpR X (compareOp .In) (rInA X.K false) := by
  refine OpR.or (fun pins s σ H x y v u Q I rx ry h => ?_) op_in_seq
  obtain ⟨c, z, e1, e2, q⟩ := h
  exact op_in_sign pins s σ H x y v u Q I rx ry ⟨c, z, e1, e2, by simpa using q⟩
theorem one_sign {s : Str} {c : Nat} (h : s.cps.toList = [c]) : s = ⟨#[c]⟩ := by
  obtain ⟨a⟩ := s
  simp only at h
  congr 1
  exact Array.toList_inj.mp (by simpa using h)
theorem lr_in {neg : Bool} : LR2 K (dIn neg) (rInA K neg) := fun F H μ x y dx dy Q' Q R rx ry t k => by
  have fall : (match seqD μ dy with
    | some xs => (flatD dx = true ∧ xs.all flatD = true) ∧ Q' (.bl (neg != inS dx xs)) μ
    | none => False) → rInA K neg x y H Q := fun t => by
    cases e : seqD μ dy with
    | none => rw [e] at t; exact False.elim t
    | some xs =>
      rw [e] at t
      obtain ⟨⟨f1, f2⟩, t⟩ := t
      obtain ⟨a, vs, rfl, r, h3⟩ := R.seq' ry e
      obtain ⟨p, f⟩ := flatD_V rx f1
      obtain ⟨q1, q2⟩ := flatL_V r f2
      refine .inr ⟨a, vs, rfl, h3, f, q1, ?_⟩
      have e2 : inS dx xs = inV x vs := q2 p
      rw [e2] at t
      have e3 : (if neg = true then !inV x vs else inV x vs) = (neg != inV x vs) := by cases neg <;> simp
      rw [e3]
      exact k _ μ t F H _ (Stp.refl _ _ _) R (.bl _)
  cases dy with
  | str z =>
    cases ry
    cases dx with
    | str s =>
      cases rx
      unfold dIn at t
      simp only at t
      split at t
      · rename_i c hc
        have e := one_sign hc
        subst e
        exact .inl ⟨c, z, rfl, rfl, k _ μ t F H _ (Stp.refl _ _ _) R (.bl _)⟩
      · exact False.elim t
    | _ => exact False.elim t
  | _ => exact fall t
end

def dIx : DR2 := fun x y μ Q => match y with
  | .int i => match x with
    | .str z => z.length ≤ sizeLine ∧ match atI z.cps.toList i with
      | some c => Q (.str ⟨#[c]⟩) μ
      | none => False
    | x => match seqD μ x with
      | some xs => match atI xs i with
        | some d => Q d μ
        | none => False
      | none => False
  | _ => False
section
variable {X : Cx} {K : PySem.W.Frag} {a b e : Expr} {pos p2 : Pos} {ta tb te : DTE} {lo hi : Option Expr}
theorem atI_rep {F : Hp} {ds : List SD} {vs : List V} {i : Int} {d : SD} (r : RepL K F ds vs) (h : atI ds i = some d) : ∃ v, atI vs i = some v ∧ RepS K F d v := by
  unfold atI at h ⊢
  rw [← r.length]
  cases q : ixN ds.length i with
  | none => rw [q] at h; cases h
  | some j =>
    rw [q] at h
    obtain ⟨v, h1, h2⟩ := r.get h
    exact ⟨v, h1, h2⟩
theorem lr_ix : LR2 K dIx (rIx K) := fun F H μ x y dx dy Q' Q R rx ry t k => by
  cases dy with
  | int i =>
    cases ry
    have fall : (match seqD μ dx with
      | some xs => match atI xs i with
        | some d => Q' d μ
        | none => False
      | none => False) → rIx K x (.int i) H Q := fun t => by
      cases e : seqD μ dx with
      | none => rw [e] at t; exact False.elim t
      | some xs =>
        rw [e] at t
        simp only at t
        cases e2 : atI xs i with
        | none => rw [e2] at t; exact False.elim t
        | some d =>
          rw [e2] at t
          obtain ⟨a, vs, rfl, r, h3⟩ := R.seq' rx e
          obtain ⟨v, h1, h2⟩ := atI_rep r e2
          rcases h3 with h3 | h3
          · exact .inl ⟨a, vs, i, v, rfl, rfl, h3, h1, k _ μ t F H _ (Stp.refl _ _ _) R h2⟩
          · exact .inr (.inl ⟨a, vs, i, v, rfl, rfl, h3, h1, k _ μ t F H _ (Stp.refl _ _ _) R h2⟩)
    cases dx with
    | str z =>
      cases rx
      obtain ⟨hz, t⟩ := (show z.length ≤ sizeLine ∧ _ from t)
      cases e2 : atI z.cps.toList i with
      | none => rw [e2] at t; exact False.elim t
      | some c => rw [e2] at t; exact .inr (.inr ⟨z, i, c, rfl, rfl, hz, e2, k _ μ t F H _ (Stp.refl _ _ _) R (.str _)⟩)
    | _ => exact fall t
  | _ => exact False.elim t
theorem de_ix (ha : DE X a ta) (hb : DE X b tb) (hs : PlainIx b) : DE X (.Subscript a b pos) (dOp dIx ta tb) := weakE (pe_ix ix_seq ha hb hs) (lift2 lr_ix)
abbrev DTO := Rho → Mu → (Option Int → Mu → Prop) → Prop
def LO (K : PySem.W.Frag) (t : DTO) : TO := fun σ H Q => ∃ F ρ μ Q', HReal K F H μ ∧ Slots K F σ ρ ∧ t ρ μ Q' ∧ ∀ o μ', Q' o μ' → ∀ F' H', Stp F H μ F' H' μ' → HReal K F' H' μ' → Q o H'
abbrev DO (X : Cx) (e : Option Expr) (t : DTO) : Prop := PO X e (LO X.K t)
abbrev dNoPart : DTO := fun _ μ Q => Q none μ
abbrev dPart (t : DTE) : DTO := fun ρ μ Q => t ρ μ fun d μ1 => match d with
  | .int i => Q (some i) μ1
  | _ => False
theorem do_none : DO X none dNoPart := ⟨fun pins s σ H Q I h => by
  obtain ⟨F, ρ, μ, Q', R, S, t, k⟩ := h
  exact po_none.run pins s σ H Q I (k _ μ t F H (Stp.refl _ _ _) R)⟩
theorem do_some (he : DE X e te) : DO X (some e) (dPart te) := ⟨fun pins s σ H Q I h => (po_some he).run pins s σ H Q I (by
  obtain ⟨F, ρ, μ, Q', R, S, t, k⟩ := h
  refine ⟨F, ρ, μ, _, R, S, t, fun d μ1 t1 F1 H1 v s1 R1 r1 => ?_⟩
  cases r1 with
  | int i => exact ⟨i, rfl, k _ μ1 t1 F1 H1 s1 R1⟩
  | _ => exact False.elim t1)⟩
def cutL {α : Type} (xs : List α) (lo hi : Option Int) : List α := (xs.drop (HT.sIx xs.length 0 lo)).take (HT.sIx xs.length xs.length hi - HT.sIx xs.length 0 lo)
theorem RepL.cutL {F : Hp} {ds : List SD} {vs : List V} (r : RepL K F ds vs) (lo hi : Option Int) : RepL K F (DS.cutL ds lo hi) (cutV vs lo hi) := by
  unfold DS.cutL cutV
  rw [r.length]
  exact (r.drop _).take _
theorem cut_all {α : Type} {xs : List α} {lo hi : Option Int} (h : HT.sIx xs.length 0 lo = 0 ∧ HT.sIx xs.length xs.length hi = xs.length) : cutL xs lo hi = xs := by
  unfold cutL
  rw [h.1, h.2]
  simp
/-- x[lo:hi] -/
def drSl (x : SD) (l u : Option Int) (μ3 : Mu) (Q : SD → Mu → Prop) : Prop := match x with
  | .str z => z.length ≤ sizeLine ∧ Q (.str (cutS z l u)) μ3
  | .tup xs => Q (.tup (cutL xs l u)) μ3
  | x => match seqD μ3 x with
    | some xs => Q (.lst (cutL xs l u)) μ3
    | none => False
abbrev dSl (te : DTE) (tl th : DTO) : DTE := fun ρ μ Q => te ρ μ fun x μ1 => tl ρ μ1 fun l μ2 => th ρ μ2 fun u μ3 => drSl x l u μ3 Q
def rSlG (K : PySem.W.Frag) : V → Option Int → Option Int → Hp → VK → Prop := fun x lo hi H Q => rSlS x lo hi H Q ∨ (rSlA K x lo hi H Q ∨ rSlL K x lo hi H Q)
theorem slr : SlR X (rSlG X.K) := sl_str.or (sl_tupA.or sl_list)
theorem de_slice {tl th : DTO} (he : DE X e te) (hl : DO X lo tl) (hu : DO X hi th) : DE X (.Subscript e (.Slice lo hi none p2) pos) (dSl te tl th) := weakE (pe_slice slr he hl hu) fun σ H Q h => by
  obtain ⟨F, ρ, μ, Q', R, S, t, k⟩ := h
  refine ⟨F, ρ, μ, _, R, S, t, fun d μ1 t1 F1 H1 v s1 R1 r1 => ⟨F1, ρ, μ1, _, R1, S.mono s1.ext, t1, fun l μ2 t2 F2 H2 s2 R2 => ⟨F2, ρ, μ2, _, R2, (S.mono s1.ext).mono s2.ext, t2, fun u μ3 t3 F3 H3 s3 R3 => ?_⟩⟩⟩
  unfold drSl at t3
  have r3 := r1.mono (s2.trans s3).ext
  have s := (s1.trans s2).trans s3
  have fall : isTup d = false → (match seqD μ3 d with
    | some xs => Q' (.lst (cutL xs l u)) μ3
    | none => False) → rSlG X.K v l u H3 Q := fun ht t => by
    cases e : seqD μ3 d with
    | none => rw [e] at t; exact False.elim t
    | some xs =>
      rw [e] at t
      obtain ⟨a, vs, rfl, r, h3⟩ := R3.seq r3 e
      rcases h3 with ⟨_, h3⟩ | ⟨z, _⟩
      · exact .inr (.inr ⟨a, vs, rfl, h3, fun q hq => k _ μ3 t _ _ _ (s.trans (Stp.newS R3 hq)) (R3.newS hq) (.lst upd_same ((r.cutL l u).mono (Ext.new (R3.freeF hq))))⟩)
      · rw [ht] at z; cases z
  cases d with
  | str z => cases r3; exact .inl ⟨z, rfl, t3.1, k _ μ3 t3.2 F3 H3 _ s R3 (.str _)⟩
  | tup xs =>
    cases r3 with
    | tup h r =>
      refine .inr (.inl ⟨_, _, rfl, R3.ext.sqT h, fun hw => ?_, fun hw q hq => ?_⟩)
      · have t3' : Q' (.tup (cutL xs l u)) μ3 := t3
        rw [cut_all (by rw [r.length]; exact hw)] at t3'
        exact k _ μ3 t3' F3 H3 _ s R3 (.tup h r)
      · exact k _ μ3 t3 _ _ _ (s.trans (Stp.newS R3 hq)) (R3.newS hq) (.tup (.inl (.inl upd_same)) ((r.cutL l u).mono (Ext.new (R3.freeF hq))))
  | _ => exact fall rfl t3
end
end DS
namespace DS
open PySem PySem.Spec PyProof.Rows L2
abbrev DRc := List SD → Mu → (SD → Mu → Prop) → Prop
def LRc (K : PySem.W.Frag) (dr : DRc) (r : List V → Hp → VK → Prop) : Prop := ∀ F H μ xs ds Q' Q, HReal K F H μ → RepL K F ds xs → dr ds μ Q' →
  (∀ d μ', Q' d μ' → ∀ F' H' v, Stp F H μ F' H' μ' → HReal K F' H' μ' → RepS K F' d v → Q v H') → r xs H Q
abbrev dCB (dr : DRc) (t : DTA) : DTE := fun ρ μ Q => t ρ μ fun ds μ1 => dr ds μ1 Q
section
variable {X : Cx} {K : PySem.W.Frag} {x : Str} {p pos apos cpos : Pos} {e o : Expr} {es : List Expr} {t : DTA} {to : DTE} {dr : DRc} {r : List V → Hp → VK → Prop} {id T : String} {name : Str}
theorem liftCB (hl : LRc K dr r) : ∀ σ H Q, LE K (dCB dr t) σ H Q → tCB r (LA K t) σ H Q := fun σ H Q h => by
  obtain ⟨F, ρ, μ, Q', R, S, t, k⟩ := h
  exact ⟨F, ρ, μ, _, R, S, t, fun ds μ1 t1 F1 H1 vs s1 R1 r1 => hl F1 H1 μ1 vs ds Q' Q R1 r1 t1 fun d μ' q F' H' v s R' r' => k d μ' q F' H' v (s1.trans s) R' r'⟩
theorem de_callB (hc : CallR X (.builtin id) r) (hl : LRc X.K dr r) (hg : Gl X x) (hm : X.mg x = none) (hv : bootBuiltins x = some (.builtin id)) (ha : DA X (e :: es) t) (hn : x ≠ "__name__" := by decide) (hdb : (x == ("__debug__" : Str)) = false := by decide)
    (he : starEach (e :: es) X.env = (false, eval e X.env) :: starEach es X.env := by rfl) (hpl : (backTo pos (starEach es X.env)).any (·.1) = false := by rfl) : DE X (.Call (.Name x p) (e :: es) [] pos) (dCB dr t) :=
  weakE (pe_callB hc hg hm hv ha hn hdb he hpl) (liftCB hl)
theorem de_callT (hc : CallR X (.type T) r) (hl : LRc X.K dr r) (hg : Gl X x) (hm : X.mg x = none) (hv : bootBuiltins x = some (.type T)) (ha : DA X (e :: es) t) (hn : x ≠ "__name__" := by decide) (hdb : (x == ("__debug__" : Str)) = false := by decide)
    (he : starEach (e :: es) X.env = (false, eval e X.env) :: starEach es X.env := by rfl) (hpl : (backTo pos (starEach es X.env)).any (·.1) = false := by rfl) : DE X (.Call (.Name x p) (e :: es) [] pos) (dCB dr t) :=
  weakE (pe_callTy hc hg hm hv ha hn hdb he hpl) (liftCB hl)

def drLen : DRc := fun ds μ Q => match ds with
  | [d] => match d with
    | .str s => s.length ≤ sizeLine ∧ Q (.int s.length) μ
    | d => match seqD μ d with
      | some xs => Q (.int xs.length) μ
      | none => False
  | _ => False
def rLen (K : PySem.W.Frag) : List V → Hp → VK → Prop := fun xs H Q => (∃ p ys, xs = [.ref p] ∧ (SqL K H p ys ∨ SqT K H p ys) ∧ Q (.int ys.length) H) ∨ (∃ z, xs = [.str z] ∧ z.length ≤ sizeLine ∧ Q (.int z.length) H)
theorem cr_len : CallR X (.builtin "len") (rLen X.K) := call_len_seq.or call_len_str
theorem lc_len : LRc K drLen (rLen K) := fun F H μ xs ds Q' Q R r t k => by
  cases r with
  | nil => exact False.elim t
  | cons r1 r2 => cases r2 with
    | cons _ _ => exact False.elim t
    | nil =>
      rename_i d v
      have fall : (match seqD μ d with
        | some xs => Q' (.int xs.length) μ
        | none => False) → rLen K [v] H Q := fun t => by
        cases e : seqD μ d with
        | none => rw [e] at t; exact False.elim t
        | some xs =>
          rw [e] at t
          obtain ⟨a, vs, rfl, r, h3⟩ := R.seq' r1 e
          refine .inl ⟨a, vs, rfl, h3, ?_⟩
          rw [← r.length]
          exact k _ μ t F H _ (Stp.refl _ _ _) R (.int _)
      cases d with
      | str z => cases r1; exact .inr ⟨z, rfl, t.1, k _ μ t.2 F H _ (Stp.refl _ _ _) R (.int _)⟩
      | _ => exact fall t
def drTuple : DRc := fun ds μ Q => match ds with
  | [d] => match seqD μ d with
    | some xs => Q (.tup xs) μ
    | none => False
  | _ => False
theorem seq1 {dr : (SD → Mu → Prop) → List SD → SD → Mu → Prop} {rr : List V → Hp → VK → Prop}
    (h : ∀ F H μ d a vs xs Q' Q, HReal K F H μ → RepS K F d (.ref a) → RepL K F xs vs → ((isTup d = false ∧ SqL K H a vs) ∨ (isTup d = true ∧ SqT K H a vs)) → seqD μ d = some xs → dr Q' xs d μ →
      (∀ d μ', Q' d μ' → ∀ F' H' v, Stp F H μ F' H' μ' → HReal K F' H' μ' → RepS K F' d v → Q v H') → rr [.ref a] H Q) :
    LRc K (fun ds μ Q => match ds with
      | [d] => match seqD μ d with
        | some xs => dr Q xs d μ
        | none => False
      | _ => False) rr := fun F H μ xs ds Q' Q R r t k => by
  cases r with
  | nil => exact False.elim t
  | cons r1 r2 => cases r2 with
    | cons _ _ => exact False.elim t
    | nil =>
      rename_i d v
      cases e : seqD μ d with
      | none => simp only [e] at t
      | some xs =>
        simp only [e] at t
        obtain ⟨a, vs, rfl, r, h3⟩ := R.seq r1 e
        exact h F H μ d a vs xs Q' Q R r1 r h3 e t k
theorem lc_tuple : LRc K drTuple (fun xs H Q => ∃ p ys, xs = [.ref p] ∧ ((SqL K H p ys ∧ ∀ l, H l = none → Q (.ref l) (upd H l (.tup ys))) ∨ (SqT K H p ys ∧ Q (.ref p) H))) :=
  seq1 (dr := fun Q xs _ μ => Q (.tup xs) μ) fun F H μ d a vs xs Q' Q R rd r h3 e t k => by
    rcases h3 with ⟨_, h3⟩ | ⟨z, h3⟩
    · exact ⟨a, vs, rfl, .inl ⟨h3, fun q hq => k _ μ t _ _ _ (Stp.newS R hq) (R.newS hq) (.tup (.inl (.inl upd_same)) (r.mono (Ext.new (R.freeF hq))))⟩⟩
    · cases rd with
      | tup h q =>
        have e' : some xs = some _ := e.symm.trans rfl
        cases e
        exact ⟨a, _, rfl, .inr ⟨h3, k _ μ t F H _ (Stp.refl _ _ _) R (.tup h q)⟩⟩
      | _ => cases z
def drI1 (f : Int → Int) : DRc := fun ds μ Q => match ds with
  | [.int i] => Q (.int (f i)) μ
  | _ => False
theorem lc_abs : LRc K (drI1 fun i => if i < 0 then -i else i) (fun xs H Q => ∃ i, xs = [.int i] ∧ Q (.int (if i < 0 then -i else i)) H) := fun F H μ xs ds Q' Q R r t k => by
  unfold drI1 at t
  split at t
  · cases r with
    | cons r1 r2 => cases r2; cases r1; exact ⟨_, rfl, k _ μ t F H _ (Stp.refl _ _ _) R (.int _)⟩
  · exact False.elim t
def drInt : DRc := fun ds μ Q => match ds with
  | [.int i] => Q (.int i) μ
  | [.bl b] => Q (.int (if b then 1 else 0)) μ
  | _ => False
theorem lc_int : LRc K drInt (fun xs H Q => (∃ i, xs = [.int i] ∧ Q (.int i) H) ∨ ∃ k, xs = [.bl k] ∧ Q (.int (if k then 1 else 0)) H) := fun F H μ xs ds Q' Q R r t k => by
  unfold drInt at t
  split at t
  · cases r with
    | cons r1 r2 => cases r2; cases r1; exact .inl ⟨_, rfl, k _ μ t F H _ (Stp.refl _ _ _) R (.int _)⟩
  · cases r with
    | cons r1 r2 => cases r2; cases r1; exact .inr ⟨_, rfl, k _ μ t F H _ (Stp.refl _ _ _) R (.int _)⟩
  · exact False.elim t
def drI2 (f : Int → Int → Int) : DRc := fun ds μ Q => match ds with
  | [.int i, .int j] => Q (.int (f i j)) μ
  | _ => False
theorem lc_i2 {f : Int → Int → Int} : LRc K (drI2 f) (fun xs H Q => ∃ i j, xs = [.int i, .int j] ∧ Q (.int (f i j)) H) := fun F H μ xs ds Q' Q R r t k => by
  unfold drI2 at t
  split at t
  · cases r with
    | cons r1 r2 => cases r1; cases r2 with
      | cons r2 r3 => cases r3; cases r2; exact ⟨_, _, rfl, k _ μ t F H _ (Stp.refl _ _ _) R (.int _)⟩
  · exact False.elim t
def blsOf : List SD → Option (List Bool)
  | [] => some []
  | .bl b :: r => match blsOf r with
    | some bs => some (b :: bs)
    | none => none
  | _ :: _ => none
theorem blsOf_rep : ∀ {F : Hp} {ds : List SD} {vs : List V} {bs : List Bool}, RepL K F ds vs → blsOf ds = some bs → vs = bs.map V.bl
  | _, _, _, _, .nil, e => by cases e; rfl
  | _, d :: ds, _, _, .cons h r, e => by
    cases h with
    | bl b =>
      unfold blsOf at e
      cases q : blsOf ds with
      | none => rw [q] at e; cases e
      | some bs => rw [q] at e; cases e; rw [blsOf_rep r q]; rfl
    | _ => cases e
theorem blsOf_map (bs : List Bool) : blsOf (bs.map SD.bl) = some bs := by
  induction bs with
  | nil => rfl
  | cons b r ih => show (match blsOf (r.map SD.bl) with | some bs => some (b :: bs) | none => none) = _; rw [ih]
def drBls (f : List Bool → Bool) : DRc := fun ds μ Q => match ds with
  | [d] => match lstD μ d with
    | some xs => match blsOf xs with
      | some bs => Q (.bl (f bs)) μ
      | none => False
    | none => False
  | _ => False
theorem lc_bls {f : List Bool → Bool} : LRc K (drBls f) (fun vs H Q => ∃ (a : Addr) (bs : List Bool), vs = [V.ref a] ∧ SqL K H a (bs.map V.bl) ∧ Q (.bl (f bs)) H) := fun F H μ xs ds Q' Q R r t k => by
  cases r with
  | nil => exact False.elim t
  | cons r1 r2 => cases r2 with
    | cons _ _ => exact False.elim t
    | nil =>
      rename_i d v
      cases e : lstD μ d with
      | none => simp only [drBls, e] at t
      | some xs =>
        simp only [drBls, e] at t
        cases e2 : blsOf xs with
        | none => rw [e2] at t; exact False.elim t
        | some bs =>
          rw [e2] at t
          obtain ⟨a, vs, rfl, ha, r⟩ := R.lst r1 e
          rw [blsOf_rep r e2] at ha
          exact ⟨a, bs, rfl, SqL.of ha, k _ μ t F H _ (Stp.refl _ _ _) R (.bl _)⟩
theorem lc_all : LRc K (drBls fun bs => bs.all _root_.id) (rAll K) := lc_bls
abbrev DRm := SD → List SD → Mu → (SD → Mu → Prop) → Prop
def LRm (K : PySem.W.Frag) (dr : DRm) (r : V → List V → Hp → VK → Prop) : Prop := ∀ F H μ x xs d ds Q' Q, HReal K F H μ → RepS K F d x → RepL K F ds xs → dr d ds μ Q' →
  (∀ d μ', Q' d μ' → ∀ F' H' v, Stp F H μ F' H' μ' → HReal K F' H' μ' → RepS K F' d v → Q v H') → r x xs H Q
/-- e.m(..) of a list -/
abbrev dLM (dr : DRm) (to : DTE) (t : DTA) : DTE := fun ρ μ Q => to ρ μ fun x μ1 => (lstD μ1 x).isSome = true ∧ t ρ μ1 fun xs μ2 => dr x xs μ2 Q
variable {rm : V → List V → Hp → VK → Prop} {drm : DRm}
theorem de_lm (pa : PlainAttrs "list") (slot : Slot "list" name id) (hty : typeOf (.builtin id) = pure (.type "method_descriptor")) (hm : MtR X id rm) (hl : LRm X.K drm rm) (ho : DE X o to) (ha : DA X (e :: es) t)
    (hbase : attributeBase o name X.env (eval o X.env) = eval o X.env := by rfl)
    (hfew : ((backTo cpos (starEach (e :: es) X.env)).all (fun x => !x.1) && (backToKw cpos (keywordEach [] X.env)).all (fun x => x.1.isSome)
      && decide ((e :: es).length + ([] : List Keyword).length + (if ([] : List Keyword).isEmpty then 0 else 1) < 30)) = true := by rfl)
    (hline : (apos.endLine == cpos.line) = true := by rfl) (hs : starEach (e :: es) X.env = (false, eval e X.env) :: starEach es X.env := by rfl) (hplain : (backTo cpos (starEach es X.env)).any (·.1) = false := by rfl) :
    DE X (.Call (.Attribute o name apos) (e :: es) [] cpos) (dLM drm to t) := weakE (pe_bm pa slot hty hm ho ha hbase hfew hline hs hplain) fun σ H Q h => by
  obtain ⟨F, ρ, μ, Q', R, S, t, k⟩ := h
  refine ⟨F, ρ, μ, _, R, S, t, fun d μ1 t1 F1 H1 v s1 R1 r1 => ?_⟩
  obtain ⟨h1, t1⟩ := t1
  obtain ⟨xs, hx⟩ := Option.isSome_iff_exists.mp h1
  obtain ⟨a, vs, rfl, ha, r⟩ := R1.lst r1 hx
  refine ⟨.inl ⟨rfl, vs, SqL.of ha⟩, F1, ρ, μ1, _, R1, S.mono s1.ext, t1, fun ds μ2 t2 F2 H2 ws s2 R2 r2 => ?_⟩
  exact hl F2 H2 μ2 _ ws d ds Q' Q R2 (r1.mono s2.ext) r2 t2 fun d μ' q F' H' v s R' r' => k d μ' q F' H' v ((s1.trans s2).trans s) R' r'
/-- the list at a, which may change -/
def mlst (μ : Mu) : SD → Option (Addr × List SD)
  | .ref a => match μ a with
    | some (.lst xs) => some (a, xs)
    | _ => none
  | _ => none
theorem HReal.mlst {F H : Hp} {μ : Mu} {d : SD} {v : V} {a : Addr} {xs : List SD} (R : HReal K F H μ) (r : RepS K F d v) (h : DS.mlst μ d = some (a, xs)) : v = .ref a ∧ μ a = some (.lst xs) ∧ ∃ vs, H a = some (.lst vs) ∧ RepL K F xs vs := by
  cases r with
  | ref b =>
    unfold DS.mlst at h
    simp only at h
    split at h
    · rename_i ys hy
      cases h
      obtain ⟨_, o, h, q⟩ := R.mus _ _ hy
      cases q with
      | lst q => exact ⟨rfl, hy, _, h, q⟩
    · cases h
  | _ => cases h
def dmAppend : DRm := fun d ds μ Q => match ds with
  | [y] => match mlst μ d with
    | some (a, xs) => xs.length < sizeLine ∧ Q .non (up μ a (.lst (xs ++ [y])))
    | none => False
  | _ => False
theorem lm_append : LRm K dmAppend rAppend := fun F H μ x xs d ds Q' Q R r rs t k => by
  cases rs with
  | nil => exact False.elim t
  | cons r1 r2 => cases r2 with
    | cons _ _ => exact False.elim t
    | nil =>
      rename_i y vy
      cases e : mlst μ d with
      | none => simp only [dmAppend, e] at t
      | some p =>
        obtain ⟨a, zs⟩ := p
        simp only [dmAppend, e] at t
        obtain ⟨rfl, hm, vs, ha, r⟩ := R.mlst r e
        exact ⟨a, vs, vy, rfl, rfl, ha, by rw [← r.length]; exact t.1, k _ _ t.2 F _ _ (Stp.put hm) (R.put hm (.lst (r.append (.one r1)))) .non⟩
def dmInsert : DRm := fun d ds μ Q => match ds with
  | [.int i, y] => match mlst μ d with
    | some (a, xs) => (xs.length < sizeLine ∧ 0 ≤ i ∧ i < 2 ^ 63) ∧ Q .non (up μ a (.lst (xs.take i.toNat ++ [y] ++ xs.drop i.toNat)))
    | none => False
  | _ => False
theorem lm_insert : LRm K dmInsert (fun x vs H Q => ∃ (l : Addr) (xs : List V) (i : Int) (y : V), x = .ref l ∧ vs = [.int i, y] ∧ H l = some (.lst xs) ∧ xs.length < sizeLine ∧ 0 ≤ i ∧ i < 2 ^ 63 ∧
    Q .non (upd H l (.lst (xs.take i.toNat ++ [y] ++ xs.drop i.toNat)))) := fun F H μ x xs d ds Q' Q R r rs t k => by
  unfold dmInsert at t
  split at t
  · rename_i i y
    cases rs with
    | cons r1 r2 => cases r1; cases r2 with
      | cons r2 r3 =>
        cases r3
        cases e : mlst μ d with
        | none => simp only [e] at t
        | some p =>
          obtain ⟨a, zs⟩ := p
          simp only [e] at t
          obtain ⟨⟨t1, t2, t3⟩, t⟩ := t
          obtain ⟨rfl, hm, vs, ha, r⟩ := R.mlst r e
          exact ⟨a, vs, i, _, rfl, rfl, ha, by rw [← r.length]; exact t1, t2, t3, k _ _ t F _ _ (Stp.put hm) (R.put hm (.lst (((r.take _).append (.one r2)).append (r.drop _)))) .non⟩
  · exact False.elim t
def LSet (K : PySem.W.Frag) (ds : SD → SD → SD → Mu → (Mu → Prop) → Prop) (r : TSet) : Prop := ∀ F H μ o i v do_ di dv Q' Q, HReal K F H μ → RepS K F do_ o → RepS K F di i → RepS K F dv v → ds do_ di dv μ Q' →
  (∀ μ', Q' μ' → ∀ F' H', Stp F H μ F' H' μ' → HReal K F' H' μ' → Q H') → r o i v H Q
abbrev hSub (to ti : DTE) (t : SD → SD → SD → Mu → (Mu → Prop) → Prop) : DTG := fun v ρ μ Q => to ρ μ fun o μ1 => ti ρ μ1 fun i μ2 => t o i v μ2 fun μ3 => Q ρ μ3
theorem dg_sub {oe i : Expr} {to ti : DTE} {ts : SD → SD → SD → Mu → (Mu → Prop) → Prop} {rs : TSet} (ho : DE X oe to) (hi : DE X i ti) (hs : PSet X rs) (hl : LSet X.K ts rs)
    (ha : ∀ v, assign (.Subscript oe i pos) X.env v = (do
      let ov ← holding [v] (eval oe X.env)
      let iv ← holding [v, ov] (eval i X.env)
      standAt pos
      holding [v, ov, iv] (setItem ov iv v)
      release [v, ov, iv] []) := by intro _; rfl) : DG X (.Subscript oe i pos) (hSub to ti ts) := weakG (pg_sub ho hi hs ha) fun v σ H Q h => by
  obtain ⟨F, ρ, μ, d, Q', R, S, r, t, k⟩ := h
  refine ⟨F, ρ, μ, _, R, S, t, fun d1 μ1 t1 F1 H1 v1 s1 R1 r1 => ⟨F1, ρ, μ1, _, R1, S.mono s1.ext, t1, fun d2 μ2 t2 F2 H2 v2 s2 R2 r2 => ?_⟩⟩
  exact hl F2 H2 μ2 v1 v2 v d1 d2 d _ _ R2 (r1.mono s2.ext) r2 (r.mono (s1.trans s2).ext) t2 fun μ' q F' H' s R' => k ρ μ' q F' H' σ ((s1.trans s2).trans s) R' (S.mono ((s1.trans s2).trans s).ext)
def dsetL : SD → SD → SD → Mu → (Mu → Prop) → Prop := fun o i v μ Q => match i with
  | .int k => match mlst μ o with
    | some (a, xs) => match ixN xs.length k with
      | some j => Q (up μ a (.lst (xs.set j v)))
      | none => False
    | none => False
  | _ => False
theorem ls_list : LSet K dsetL rSetL := fun F H μ o i v do_ di dv Q' Q R ro ri rv t k => by
  cases di with
  | int n =>
    cases ri
    cases e : mlst μ do_ with
    | none => simp only [dsetL, e] at t
    | some p =>
      obtain ⟨a, xs⟩ := p
      simp only [dsetL, e] at t
      cases e2 : ixN xs.length n with
      | none => rw [e2] at t; exact False.elim t
      | some j =>
        rw [e2] at t
        obtain ⟨rfl, hm, vs, ha, r⟩ := R.mlst ro e
        exact ⟨a, vs, n, j, rfl, rfl, ha, by rw [← r.length]; exact e2, k _ t F _ (Stp.put hm) (R.put hm (.lst (r.set rv j)))⟩
  | _ => exact False.elim t
end

end DS
namespace DS
open PySem PySem.Spec PyProof.Rows L2
section
variable {X : Cx} {K : PySem.W.Frag}
def drRepr : DRc := fun ds μ Q => match ds with
  | [d] => match pd μ d with
    | some p => (PyData.showable p = true ∧ p.shown.length ≤ sizeLine ∧ p.depth ≤ 64) ∧ Q (.str p.shown) μ
    | none => False
  | _ => False
end

def kwG {α : Type} (ix : List (Nat ⊕ Nat)) (np nk : Nat) (us ws : List α) : List α := if us.length = np ∧ ws.length = nk then ix.filterMap fun i => match i with
  | .inl i => us[i]?
  | .inr j => ws[j]?
  else []
theorem kwG_rel {α β : Type} {R : α → β → Prop} {ix : List (Nat ⊕ Nat)} {np nk : Nat} {us ws : List α} {us' ws' : List β} (h1 : Paired R us us') (h2 : Paired R ws ws')
    (get : ∀ {xs : List α} {ys : List β} (i : Nat), Paired R xs ys → (∃ a b, xs[i]? = some a ∧ ys[i]? = some b ∧ R a b) ∨ (xs[i]? = none ∧ ys[i]? = none)) : Paired R (kwG ix np nk us ws) (kwG ix np nk us' ws') := by
  unfold kwG
  rw [Paired.length h1, Paired.length h2]
  split
  · induction ix with
    | nil => exact .nil
    | cons i r ih =>
      simp only [List.filterMap_cons]
      cases i with
      | inl i =>
        rcases get i h1 with ⟨a, b, e1, e2, q⟩ | ⟨e1, e2⟩
        · simp only [e1, e2]; exact .cons q ih
        · simp only [e1, e2]; exact ih
      | inr i =>
        rcases get i h2 with ⟨a, b, e1, e2, q⟩ | ⟨e1, e2⟩
        · simp only [e1, e2]; exact .cons q ih
        · simp only [e1, e2]; exact ih
  · exact .nil
theorem paired_get {α β : Type} {R : α → β → Prop} : ∀ {xs : List α} {ys : List β} (i : Nat), Paired R xs ys → (∃ a b, xs[i]? = some a ∧ ys[i]? = some b ∧ R a b) ∨ (xs[i]? = none ∧ ys[i]? = none)
  | _, _, _, .nil => .inr ⟨by simp, by simp⟩
  | _, _, 0, .cons q _ => .inl ⟨_, _, rfl, rfl, q⟩
  | _, _, i + 1, .cons _ r => by
    have := paired_get i r
    simpa using this
theorem kbinds_of {K : PySem.W.Frag} {x qual : Str} {st : Stmt} {f : Addr} {fd : FuncData} {ps ks : List Str} {ix : List (Nat ⊕ Nat)} {np nk : Nat} (F : Fun K x qual st f fd)
    (h : ∀ (kV doc pm : Value) (an : Option Addr) (cdv ct : Value) (us ws : List Value), us.length = np → ws.length = nk → (kwG ix np nk us ws).length = ps.length →
      bindArgs (PySem.W.fnOf x qual (defArgs st) (defBody st) (defScope st) .none kV doc pm an cdv ct) ⟨us, ks.zip ws⟩ = pure (ps.zip (kwG ix np nk us ws))) (h0 : ps ≠ []) : KBinds K fd ps ks (kwG ix np nk) (kwG ix np nk) where
  to := fun s us ws X hl => by
    obtain ⟨oc, od, kV, doc, pm, an, cdv, ct, osl, rfl, _, _⟩ := F.ex
    by_cases hh : us.length = np ∧ ws.length = nk
    · exact .of_eq (h kV doc pm an cdv ct us ws hh.1 hh.2 hl)
    · exact absurd hl (by
        unfold kwG
        rw [if_neg hh]
        intro z
        exact h0 (List.eq_nil_of_length_eq_zero z.symm))
  rel := fun r1 r2 => kwG_rel r1 r2 paired_get
section
variable {α : Type}
def valD (kvs : List (Key × α)) (k : Key) : Option α := (kvs.find? fun kv => decide (kv.1 = k)).map (·.2)
def putD (kvs : List (Key × α)) (k : Key) (v : α) : List (Key × α) :=
  if (kvs.any fun kv => decide (kv.1 = k)) = true then kvs.map (fun kv => if kv.1 = k then (kv.1, v) else kv) else kvs ++ [(k, v)]
end
def dicD (μ : Mu) : SD → Option (List (Key × SD))
  | .dic kvs => some kvs
  | .ref a => match μ a with
    | some (.dic kvs) => some kvs
    | some (.fdic kvs _) => some kvs
    | _ => none
  | _ => none
def keyD : SD → Option Key
  | .int i => some (.inl i)
  | .str s => some (.inr s)
  | _ => none
section
variable {X : Cx} {K : PySem.W.Frag} {F H : Hp} {μ : Mu}
theorem keyD_rep {d : SD} {v : V} {k : Key} (r : RepS K F d v) (h : keyD d = some k) : v = kV k := by
  cases r <;> simp [keyD] at h <;> subst h <;> rfl
structure RepK (K : PySem.W.Frag) (F : Hp) (ds : List (Key × SD)) (vs : List (Key × V)) : Prop where
  keys : vs.map (·.1) = ds.map (·.1)
  vals : RepL K F (ds.map (·.2)) (vs.map (·.2))
theorem RepK.len {ds : List (Key × SD)} {vs : List (Key × V)} (r : RepK K F ds vs) : ds.length = vs.length := by simpa using r.vals.length
theorem RepK.val : ∀ {ds : List (Key × SD)} {vs : List (Key × V)} (k : Key), RepK K F ds vs → (∃ d v, valD ds k = some d ∧ valV vs k = some v ∧ RepS K F d v) ∨ (valD ds k = none ∧ valV vs k = none)
  | [], [], _, _ => .inr ⟨rfl, rfl⟩
  | [], _ :: _, _, r => by have := r.keys; simp at this
  | _ :: _, [], _, r => by have := r.keys; simp at this
  | (a, d) :: ds, (b, v) :: vs, k, r => by
    have h1 := r.keys
    simp only [List.map_cons, List.cons.injEq] at h1
    obtain ⟨rfl, h1⟩ := h1
    have h2 := r.vals
    simp only [List.map_cons] at h2
    cases h2 with
    | cons q1 q2 =>
      by_cases hk : b = k
      · subst hk
        exact .inl ⟨d, v, by simp [valD], by simp [valV], q1⟩
      · have := RepK.val k ⟨h1, q2⟩
        have e1 : valD ((b, d) :: ds) k = valD ds k := by simp [valD, hk]
        have e2 : valV ((b, v) :: vs) k = valV vs k := by simp [valV, hk]
        rw [e1, e2]; exact this
theorem RepK.put {ds : List (Key × SD)} {vs : List (Key × V)} {d : SD} {v : V} (k : Key) (r : RepK K F ds vs) (q : RepS K F d v) : RepK K F (putD ds k d) (putK vs k v) := by
  have hany : (ds.any fun kv => decide (kv.1 = k)) = (vs.any fun kv => decide (kv.1 = k)) := by
    have e1 : (ds.any fun kv => decide (kv.1 = k)) = ((ds.map (·.1)).any fun x => decide (x = k)) := by rw [List.any_map]; rfl
    have e2 : (vs.any fun kv => decide (kv.1 = k)) = ((vs.map (·.1)).any fun x => decide (x = k)) := by rw [List.any_map]; rfl
    rw [e1, e2, r.keys]
  unfold putD putK
  rw [hany]
  split
  · have aux : ∀ {ds : List (Key × SD)} {vs : List (Key × V)}, RepK K F ds vs → RepK K F (ds.map (fun kv => if kv.1 = k then (kv.1, d) else kv)) (vs.map (fun kv => if kv.1 = k then (kv.1, v) else kv)) := by
      intro ds
      induction ds with
      | nil =>
        intro vs r
        have := r.keys
        cases vs with
        | nil => exact ⟨rfl, .nil⟩
        | cons _ _ => simp at this
      | cons a ds ih =>
        intro vs r
        cases vs with
        | nil => have := r.keys; simp at this
        | cons b vs =>
          obtain ⟨a1, a2⟩ := a
          obtain ⟨b1, b2⟩ := b
          have h1 := r.keys
          simp only [List.map_cons, List.cons.injEq] at h1
          obtain ⟨rfl, h1⟩ := h1
          have h2 := r.vals
          simp only [List.map_cons] at h2
          cases h2 with
          | cons q1 q2 =>
            have rest := ih ⟨h1, q2⟩
            by_cases hk : b1 = k
            · simp only [List.map_cons, if_pos hk]
              exact ⟨by simp only [List.map_cons]; rw [rest.keys], .cons q rest.vals⟩
            · simp only [List.map_cons, if_neg hk]
              exact ⟨by simp only [List.map_cons]; rw [rest.keys], .cons q1 rest.vals⟩
    exact aux r
  · exact ⟨by simp [r.keys], by simp only [List.map_append, List.map_cons, List.map_nil]; exact r.vals.append (.one q)⟩
theorem HReal.dic (R : HReal K F H μ) {d : SD} {v : V} {kvs : List (Key × SD)} (r : RepS K F d v) (e : dicD μ d = some kvs) : ∃ a vs, v = .ref a ∧ Rd H a (.dK vs) ∧ RepK K F kvs vs := by
  cases r with
  | dic h q r => cases e; exact ⟨_, _, rfl, R.ext.rd _ _ h, ⟨q, r⟩⟩
  | ref a =>
    unfold dicD at e
    simp only at e
    split at e
    · rename_i ys hy
      cases e
      obtain ⟨_, o, h, q⟩ := R.mus a _ hy
      cases q with
      | dic q r => exact ⟨a, _, rfl, .inl h, ⟨q, r⟩⟩
    · rename_i ys oo hy
      cases e
      obtain ⟨_, o, h, q⟩ := R.mus a _ hy
      cases q with
      | fdic q r => exact ⟨a, _, rfl, .inr ⟨_, h⟩, ⟨q, r⟩⟩
    · cases e
  | _ => cases e
variable {o i e value : Expr} {pos pos' apos cpos : Pos} {td ty tv tx : DTE}
def drGet (x y : SD) (μ2 : Mu) (Q : SD → Mu → Prop) : Prop := match dicD μ2 x, keyD y with
  | some kvs, some k => match valD kvs k with
    | some v => Q v μ2
    | none => False
  | _, _ => False
abbrev dDGet (td ty : DTE) : DTE := fun ρ μ Q => td ρ μ fun x μ1 => ty ρ μ1 fun y μ2 => drGet x y μ2 Q
theorem de_dget (hu : X.A.units + 1 < cLine) (ho : DE X o td) (hi : DE X i ty) (hs : NoSl i) : DE X (.Subscript o i pos) (dDGet td ty) := weakE (pe_dget hu ho hi hs) fun σ H Q h => by
  obtain ⟨F, ρ, μ, Q', R, S, t, k⟩ := h
  refine ⟨F, ρ, μ, _, R, S, t, fun x μ1 t1 F1 H1 v1 s1 R1 r1 => ⟨F1, ρ, μ1, _, R1, S.mono s1.ext, t1, fun y μ2 t2 F2 H2 v2 s2 R2 r2 => ?_⟩⟩
  unfold drGet at t2
  cases e1 : dicD μ2 x with
  | none => rw [e1] at t2; exact False.elim t2
  | some kvs => cases e2 : keyD y with
    | none => rw [e1, e2] at t2; exact False.elim t2
    | some key =>
      rw [e1, e2] at t2
      simp only at t2
      obtain ⟨a, vs, rfl, hd, rk⟩ := R2.dic (r1.mono s2.ext) e1
      rcases rk.val key with ⟨d, v, q1, q2, q3⟩ | ⟨q1, q2⟩
      · rw [q1] at t2
        exact ⟨a, v, rfl, .inl ⟨vs, key, hd, keyD_rep r2 e2, q2.symm⟩, k d μ2 t2 F2 H2 v (s1.trans s2) R2 q3⟩
      · rw [q1] at t2; exact False.elim t2
/-- k in d, k not in d -/
def drDIn (neg : Bool) (x y : SD) (μ2 : Mu) (Q : SD → Mu → Prop) : Prop := match dicD μ2 x, keyD y with
  | some kvs, some k => Q (.bl (neg != (valD kvs k).isSome)) μ2
  | _, _ => False
abbrev dDIn (neg : Bool) (ty td : DTE) : DTE := fun ρ μ Q => ty ρ μ fun y μ1 => td ρ μ1 fun x μ2 => drDIn neg x y μ2 Q
theorem lift_din {neg : Bool} {K : PySem.W.Frag} : ∀ σ H Q, LE K (dDIn neg ty td) σ H Q → LE K ty σ H fun y H1 => LE K td σ H1 fun x H2 => ∃ a o, x = .ref a ∧ DGet H2 a y o ∧ Q (.bl (neg != o.isSome)) H2 := fun σ H Q h => by
  obtain ⟨F, ρ, μ, Q', R, S, t, k⟩ := h
  refine ⟨F, ρ, μ, _, R, S, t, fun y μ1 t1 F1 H1 v1 s1 R1 r1 => ⟨F1, ρ, μ1, _, R1, S.mono s1.ext, t1, fun x μ2 t2 F2 H2 v2 s2 R2 r2 => ?_⟩⟩
  unfold drDIn at t2
  cases e1 : dicD μ2 x with
  | none => rw [e1] at t2; exact False.elim t2
  | some kvs => cases e2 : keyD y with
    | none => rw [e1, e2] at t2; exact False.elim t2
    | some key =>
      rw [e1, e2] at t2
      simp only at t2
      obtain ⟨a, vs, rfl, hd, rk⟩ := R2.dic r2 e1
      refine ⟨a, valV vs key, rfl, .inl ⟨vs, key, hd, keyD_rep (r1.mono s2.ext) e2, rfl⟩, ?_⟩
      have e3 : (valV vs key).isSome = (valD kvs key).isSome := by
        rcases rk.val key with ⟨d, v, q1, q2, q3⟩ | ⟨q1, q2⟩ <;> rw [q1, q2] <;> rfl
      rw [e3]
      exact k _ μ2 t2 F2 H2 _ (s1.trans s2) R2 (.bl _)
theorem de_dnotin (hu : X.A.units + 1 < cLine) (hi : DE X i ty) (ho : DE X o td) (hm : behindInMarks .NotIn o = false := by rfl) : DE X (.Compare i [.NotIn] [o] pos) (dDIn true ty td) := weakE (pe_cmp (pc_dnotin hu hi ho) (h1 := hm)) fun σ H Q h => by
  have := lift_din σ H Q h
  simpa [tDNotIn] using this
/-- d[k] = v -/
def mdic (μ : Mu) : SD → Option (Addr × List (Key × SD))
  | .ref a => match μ a with
    | some (.dic xs) => some (a, xs)
    | _ => none
  | _ => none
theorem HReal.mdic (R : HReal K F H μ) {d : SD} {v : V} {a : Addr} {xs : List (Key × SD)} (r : RepS K F d v) (h : DS.mdic μ d = some (a, xs)) : v = .ref a ∧ μ a = some (.dic xs) ∧ ∃ vs, H a = some (.dK vs) ∧ RepK K F xs vs := by
  cases r with
  | ref b =>
    unfold DS.mdic at h
    simp only at h
    split at h
    · rename_i ys hy
      cases h
      obtain ⟨_, o, h, q⟩ := R.mus _ _ hy
      cases q with
      | dic q r => exact ⟨rfl, hy, _, h, ⟨q, r⟩⟩
    · cases h
  | _ => cases h
def drPut (x y v : SD) (μ3 : Mu) (Q : Mu → Prop) : Prop := match mdic μ3 x, keyD y with
  | some (a, kvs), some k => kvs.length < sizeLine ∧ Q (up μ3 a (.dic (putD kvs k v)))
  | _, _ => False
abbrev dDPut (td ty tv : DTE) : DTS := fun D ρ μ => tv ρ μ fun v μ1 => td ρ μ1 fun x μ2 => ty ρ μ2 fun y μ3 => drPut x y v μ3 (D.nx ρ)
theorem ds_dput (hu : X.A.units + 1 < cLine) (ho : DE X o td) (hi : DE X i ty) (hv : DE X value tv) (hs : swapsWith value (some (.Subscript o i pos')) pos.line X.env = pure false) :
    DS_ X (.Assign [.Subscript o i pos'] value pos) (dDPut td ty tv) := weakS (ps_dput hu ho hi hv hs) fun D σ H h => by
  obtain ⟨F, ρ, μ, D', R, S, t, k, _⟩ := h
  refine ⟨F, ρ, μ, _, R, S, t, fun v μ1 t1 F1 H1 v1 s1 R1 r1 => ⟨F1, ρ, μ1, _, R1, S.mono s1.ext, t1, fun x μ2 t2 F2 H2 v2 s2 R2 r2 => ⟨F2, ρ, μ2, _, R2, (S.mono s1.ext).mono s2.ext, t2, fun y μ3 t3 F3 H3 v3 s3 R3 r3 => ?_⟩⟩⟩
  unfold drPut at t3
  cases e1 : mdic μ3 x with
  | none => rw [e1] at t3; exact False.elim t3
  | some pr => cases e2 : keyD y with
    | none => rw [e1, e2] at t3; exact False.elim t3
    | some key =>
      obtain ⟨a, kvs⟩ := pr
      rw [e1, e2] at t3
      simp only at t3
      obtain ⟨rfl, hm, vs, hH, rk⟩ := R3.mdic (r2.mono s3.ext) e1
      have rk2 := rk.put key (r1.mono (s2.trans s3).ext)
      refine ⟨a, _, rfl, .inl ⟨vs, key, hH, keyD_rep r3 e2, by rw [← rk.len]; exact t3.1, rfl⟩, ?_⟩
      exact k ρ _ t3.2 F3 _ σ (((s1.trans s2).trans s3).trans (Stp.put hm)) (R3.put hm (.dic rk2.keys rk2.vals)) (((S.mono s1.ext).mono s2.ext).mono s3.ext)
end
end DS
namespace DS
open PySem PySem.Spec PyProof.Rows L2
section
variable {X : Cx} {K : PySem.W.Frag} {e o i : Expr} {pos p1 p2 p3 : Pos} {te td : DTE} {k1 : Nat}
def dPairs : List (DTE × DTE) → Rho → Mu → (List (SD × SD) → Mu → Prop) → Prop
  | [], _, μ, Q => Q [] μ
  | (tk, tv) :: r, ρ, μ, Q => tk ρ μ fun x μ1 => tv ρ μ1 fun y μ2 => dPairs r ρ μ2 fun ps μ3 => Q ((x, y) :: ps) μ3
def keysD : List (SD × SD) → Option (List (Key × SD))
  | [] => some []
  | (x, y) :: r => match keyD x, keysD r with
    | some k, some ks => some ((k, y) :: ks)
    | _, _ => none
def mergeD (kvs more : List (Key × SD)) : List (Key × SD) := more.foldl (fun acc kv => putD acc kv.1 kv.2) kvs
def dDispM (trs : List (DTE × DTE)) : DTE := fun ρ μ Q => dPairs trs ρ μ fun ps μ1 => match keysD ps with
  | some kvs => ∀ p, μ1 p = none → Q (.ref p) (up μ1 p (.dic (mergeD [] kvs)))
  | none => False
abbrev lifts (K : PySem.W.Frag) (trs : List (DTE × DTE)) : List (TE × TE) := trs.map fun t => (LE K t.1, LE K t.2)
abbrev DPs (X : Cx) (pos : Pos) (keys : List (Option Expr)) (values : List Expr) (trs : List (DTE × DTE)) : Prop := PPs X pos keys values (lifts X.K trs)
theorem dps_nil : DPs X pos [] [] [] := pps_nil
theorem dps_cons {k v : Expr} {ks : List (Option Expr)} {vs : List Expr} {tk tv : DTE} {trs : List (DTE × DTE)} (hk : DE X k tk) (hv : DE X v tv) (hr : DPs X pos ks vs trs) : DPs X pos (some k :: ks) (v :: vs) ((tk, tv) :: trs) := pps_cons hk hv hr
theorem liftPairs : ∀ (trs : List (DTE × DTE)) {σ : L2.St} {H F : Hp} {ρ : Rho} {μ : Mu} {Q : List (V × V) → Hp → Prop} {Q' : List (SD × SD) → Mu → Prop}, HReal K F H μ → Slots K F σ ρ → dPairs trs ρ μ Q' →
    (∀ ps μ', Q' ps μ' → ∀ F' H' vs, Stp F H μ F' H' μ' → HReal K F' H' μ' → vs.length = trs.length → Paired (fun (p : SD × SD) (q : V × V) => RepS K F' p.1 q.1 ∧ RepS K F' p.2 q.2) ps vs → Q vs H') → tPairs (lifts K trs) σ H Q
  | [], σ, H, F, ρ, μ, Q, Q', R, S, t, k => k [] μ t F H [] (Stp.refl _ _ _) R rfl .nil
  | (tk, tv) :: r, σ, H, F, ρ, μ, Q, Q', R, S, t, k => by
    refine ⟨F, ρ, μ, _, R, S, t, fun x μ1 t1 F1 H1 v1 s1 R1 r1 => ⟨F1, ρ, μ1, _, R1, S.mono s1.ext, t1, fun y μ2 t2 F2 H2 v2 s2 R2 r2 => ?_⟩⟩
    refine liftPairs r R2 ((S.mono s1.ext).mono s2.ext) t2 fun ps μ3 t3 F3 H3 vs s3 R3 hl3 r3 => ?_
    exact k _ μ3 t3 F3 H3 _ ((s1.trans s2).trans s3) R3 (by simp [hl3]) (.cons ⟨(r1.mono s2.ext).mono s3.ext, r2.mono s3.ext⟩ r3)
theorem keysD_rep {F : Hp} : ∀ {ps : List (SD × SD)} {vs : List (V × V)} {kvs : List (Key × SD)}, Paired (fun (p : SD × SD) (q : V × V) => RepS K F p.1 q.1 ∧ RepS K F p.2 q.2) ps vs → keysD ps = some kvs →
    ∃ ws : List (Key × V), vs = ws.map (fun kv => (kV kv.1, kv.2)) ∧ RepK K F kvs ws ∧ ws.length = vs.length
  | _, _, _, .nil, e => by cases e; exact ⟨[], rfl, ⟨rfl, .nil⟩, rfl⟩
  | (x, y) :: ps, (v, u) :: vs, _, .cons q r, e => by
    unfold keysD at e
    cases e1 : keyD x with
    | none => rw [e1] at e; cases e
    | some k => cases e2 : keysD ps with
      | none => rw [e1, e2] at e; cases e
      | some ks =>
        rw [e1, e2] at e
        cases e
        obtain ⟨ws, h1, h2, h3⟩ := keysD_rep r e2
        have hk : v = kV k := keyD_rep q.1 e1
        subst hk
        exact ⟨(k, u) :: ws, by rw [List.map_cons, ← h1], ⟨by simp [h2.keys], .cons q.2 h2.vals⟩, by simp [h3]⟩
theorem RepK.merge {F : Hp} : ∀ {more : List (Key × SD)} {mv : List (Key × V)} {kvs : List (Key × SD)} {vs : List (Key × V)}, RepK K F kvs vs → RepK K F more mv → RepK K F (mergeD kvs more) (mergeK vs mv)
  | [], [], _, _, r, _ => r
  | [], _ :: _, _, _, _, r => by have := r.keys; simp at this
  | _ :: _, [], _, _, _, r => by have := r.keys; simp at this
  | (a, d) :: more, (b, v) :: mv, kvs, vs, r, m => by
    have h1 := m.keys
    simp only [List.map_cons, List.cons.injEq] at h1
    obtain ⟨rfl, h1⟩ := h1
    have h2 := m.vals
    simp only [List.map_cons] at h2
    cases h2 with
    | cons q1 q2 =>
      show RepK K F (mergeD (putD kvs b d) more) (mergeK (putK vs b v) mv)
      exact RepK.merge (r.put b q1) ⟨h1, q2⟩
theorem liftDisp {trs : List (DTE × DTE)} {σ : L2.St} {H F : Hp} {ρ : Rho} {μ : Mu} {Q : VK} {Q' : List (SD × SD) → Mu → Prop} (h15 : trs.length ≤ 15) (R : HReal K F H μ) (S : Slots K F σ ρ) (t : dPairs trs ρ μ Q')
    (k : ∀ ps μ', Q' ps μ' → ∃ kvs, keysD ps = some kvs ∧ ∀ F' H' p ws, Stp F H μ F' H' μ' → HReal K F' H' μ' → F' p = none → μ' p = none → H' p = some (.dK ws) → RepK K F' (mergeD [] kvs) ws → (∀ a, H a ≠ none → F a = none → μ a = none → a ≠ p) → Q (.ref p) H') : tDisp (lifts K trs) σ H Q := by
  intro p hp
  have hF := R.freeF hp
  have hM := R.freeM hp
  refine liftPairs trs (R.aside (o := .dK []) hF hM) S t fun ps μ' t' F' H' vs s R' hl r => ?_
  · obtain ⟨kvs, e, k⟩ := k ps μ' t'
    obtain ⟨q1, q2, q3⟩ := s.fr p (by rw [upd_same]; exact fun z => nomatch z) hF hM
    obtain ⟨ws, h1, h2, h3⟩ := keysD_rep r e
    refine ⟨by rw [q1, upd_same], ws, h1, by rw [h3, hl]; exact h15, ?_⟩
    have ne : ∀ a, H a ≠ none → a ≠ p := fun a ha z => by subst z; exact ha hp
    refine k F' _ p (mergeK [] ws) ⟨s.ext, fun a a1 a2 a3 => ?_⟩ (R'.aside q2 q3) q2 q3 upd_same (RepK.merge ⟨rfl, .nil⟩ h2) fun a a1 _ _ => ne a a1
    have na := ne a a1
    obtain ⟨b1, b2, b3⟩ := s.fr a (by rw [upd_ne na]; exact a1) a2 a3
    exact ⟨by rw [upd_ne na, b1, upd_ne na], b2, b3⟩
theorem de_dispM {keys : List (Option Expr)} {values : List Expr} {trs : List (DTE × DTE)} (h : DPs X pos keys values trs) (hall : keys.all (·.isSome) = true) (hl : keys.length = values.length) (h0 : keys ≠ []) (h15 : keys.length ≤ 15) (ht : trs.length ≤ 15) : DE X (.Dict keys values pos) (dDispM trs) :=
  weakE (pe_disp h hall hl h0 h15) fun σ H Q h => by
    obtain ⟨F, ρ, μ, Q', R, S, t, k⟩ := h
    refine liftDisp ht R S t fun ps μ' t' => ?_
    cases e : keysD ps with
    | none => rw [e] at t'; exact False.elim t'
    | some kvs =>
      rw [e] at t'
      refine ⟨kvs, rfl, fun F' H' p ws s R' f m hp rk ne => ?_⟩
      refine k _ _ (t' p m) F' H' (.ref p) ⟨s.ext, fun a h1 h2 h3 => ?_⟩ (R'.adoptM f hp (.dic rk.keys rk.vals)) (.ref p)
      obtain ⟨q1, q2, q3⟩ := s.fr a h1 h2 h3
      exact ⟨q1, q2, by rw [up_ne (ne a h1 h2 h3)]; exact q3⟩
/-- {} -/
abbrev dDict0M : DTE := fun _ μ Q => ∀ p, μ p = none → Q (.ref p) (up μ p (.dic []))
theorem de_dict0M : DE X (.Dict [] [] pos) dDict0M := weakE pe_dnewK fun σ H Q h => by
  obtain ⟨F, ρ, μ, Q', R, S, t, k⟩ := h
  exact fun p hp => k _ _ (t p (R.freeM hp)) _ _ _ (Stp.newM R hp) (R.newM hp (.dic rfl .nil)) (.ref p)
/-- an expression that gives a dict, which is locked as it is from then on -/
def tLockA (H0 : Hp) (td : TE) : TE := fun σ H Q => td σ H fun x H1 => ∃ d kvs, x = .ref d ∧ ((H1 d = some (.dK kvs) ∧ ∀ od, (∀ o' u', H0 d ≠ some (.frz o' u')) → Q x (upd H1 d (.frz od (.dK kvs)))) ∨ ∃ od, H1 d = some (.frz od (.dK kvs)) ∧ Q x H1)
theorem pe_lockA {td : TE} (he : PE X e td) : PE X e (tLockA X.H_0 td) := ⟨fun pins s σ H Q I h => thn (he.run pins s σ H _ I h) fun v s1 ⟨x, H1, I1, r1, d, kvs, ex, q⟩ => by
  rcases q with ⟨hd, q⟩ | ⟨od, hd, q⟩
  · obtain ⟨od, I2⟩ := I1.lock hd trivial
    exact ⟨x, _, I2, r1, q od fun o' u' z => by rw [I1.base.frzs d o' u' z] at hd; cases hd⟩
  · exact ⟨x, H1, I1, r1, q⟩⟩
def Unl (H0 : Hp) (P : Hp → Prop) : Hp → Prop := fun H => P H ∨ ∃ d od u, H d = some (.frz od u) ∧ (∀ o' u', H0 d ≠ some (.frz o' u')) ∧ P (upd H d u)
def tUnl (H0 : Hp) (t : TS) : TS := fun D σ H => t { nx := fun σ => Unl H0 (D.nx σ), rt := fun v => Unl H0 (D.rt v), bk := fun σ => Unl H0 (D.bk σ), ct := fun σ => Unl H0 (D.ct σ) } σ H
theorem ps_unl {st : Stmt} {t : TS} (h : PS X st t) : PS X st (tUnl X.H_0 t) := ⟨fun pins s σ H D I q => thn (h.run pins s σ H _ I q) fun fl s1 q1 => by
  have go : ∀ {σ' : L2.St} {H' : Hp} {P : Hp → Prop}, Inv X pins σ' H' s1 → Unl X.H_0 P H' → ∃ H2, Inv X pins σ' H2 s1 ∧ P H2 := fun {σ' H' P} I1 q => by
    rcases q with q | ⟨d, od, u, h1, h2, q⟩
    · exact ⟨_, I1, q⟩
    · exact ⟨_, I1.unlock h1 h2, q⟩
  match fl, q1 with
  | .next, ⟨σ', H', I1, q⟩ => obtain ⟨H2, I2, q⟩ := go I1 q; exact ⟨σ', H2, I2, q⟩
  | .brk, ⟨σ', H', I1, q⟩ => obtain ⟨H2, I2, q⟩ := go I1 q; exact ⟨σ', H2, I2, q⟩
  | .cont, ⟨σ', H', I1, q⟩ => obtain ⟨H2, I2, q⟩ := go I1 q; exact ⟨σ', H2, I2, q⟩
  | .ret u, ⟨v, σ', H', I1, r, q⟩ => obtain ⟨H2, I2, q⟩ := go I1 q; exact ⟨v, σ', H2, I2, r, q⟩⟩
def keyS : Key → SD
  | .inl i => .int i
  | .inr x => .str x
theorem keyS_rep {F : Hp} (k : Key) : RepS K F (keyS k) (kV k) := by cases k <;> constructor
theorem RepK.get {F : Hp} {ds : List (Key × SD)} {vs : List (Key × V)} (r : RepK K F ds vs) {i : Nat} {k : Key} {v : V} (h : vs[i]? = some (k, v)) : ∃ d, ds[i]? = some (k, d) ∧ RepS K F d v := by
  have h1 : (vs.map (·.2))[i]? = some v := by rw [List.getElem?_map, h]; rfl
  obtain ⟨d, h2, h3⟩ := r.vals.getV h1
  have h4 : (ds.map (·.1))[i]? = some k := by rw [← r.keys, List.getElem?_map, h]; rfl
  rw [List.getElem?_map] at h2 h4
  cases e : ds[i]? with
  | none => rw [e] at h2; cases h2
  | some p =>
    rw [e] at h2 h4
    obtain ⟨a, b⟩ := p
    cases h2; cases h4
    exact ⟨_, rfl, h3⟩
end
end DS
namespace DS
open PySem PySem.Spec PyProof.Rows L2
/-- the inside of a for loop, lifted -/
theorem for_core {K : PySem.W.Frag} {g : DTG} {tb : DTS} {D : Ends} {D' : DEnds} {F1 H1 : Hp} {μ1 : Mu} {σ0 : L2.St} {ρ0 : Rho} {J : It} {ds : List SD} {ok : Mu → Prop} (R1 : HReal K F1 H1 μ1) (S1 : Slots K F1 σ0 ρ0) (src : Src K F1 H1 μ1 J ds ok)
    (t : ∃ W : Nat → Rho → Mu → Prop, W 0 ρ0 μ1 ∧ (∀ i ρ μ, i ≤ ds.length → W i ρ μ → ok μ) ∧ (∀ i d ρ μ, ds[i]? = some d → W i ρ μ → g d ρ μ fun ρ2 μ2 => tb { D' with nx := W (i + 1), ct := W (i + 1), bk := D'.nx } ρ2 μ2) ∧ ∀ ρ μ, W ds.length ρ μ → D'.nx ρ μ)
    (k : ∀ ρ' μ', D'.nx ρ' μ' → ∀ F' H' σ', Stp F1 H1 μ1 F' H' μ' → HReal K F' H' μ' → Slots K F' σ' ρ' → D.nx σ' H')
    (k2 : ∀ d μ', D'.rt d μ' → ∀ F' H' v, Stp F1 H1 μ1 F' H' μ' → HReal K F' H' μ' → RepS K F' d v → D.rt v H') :
    ∃ W : Nat → Nat → L2.St → Hp → Prop, (∃ m, W 0 m σ0 H1) ∧ ∀ i m σ H, W i m σ H →
  (J.stop i H ∧ D.nx σ H) ∨ (J.go i H ∧ ∃ N : L2.St → Hp → Prop, (∀ σ' H', N σ' H' → ∃ m', m' < m ∧ W (i + 1) m' σ' H') ∧ ∀ x H', J.yld i H x H' → LG K g x σ H' fun σ2 H2 => LS K tb { D with nx := N, ct := N, bk := D.nx } σ2 H2) := by
  obtain ⟨W, w0, hok, turn, fin⟩ := t
  refine ⟨fun i m σ' H' => i + m = ds.length ∧ ∃ F ρ μ, Stp F1 H1 μ1 F H' μ ∧ HReal K F H' μ ∧ Slots K F σ' ρ ∧ W i ρ μ, ⟨ds.length, by omega, F1, ρ0, μ1, Stp.refl _ _ _, R1, S1, w0⟩, ?_⟩
  rintro i m σ' H' ⟨him, F, ρ, μ, s, R, S, w⟩
  have hle : i ≤ ds.length := by omega
  by_cases hi : i < ds.length
  · refine .inr ⟨src.go i F H' μ s R (hok i ρ μ hle w) hi, fun σ2 H2 => ∃ F ρ μ, Stp F1 H1 μ1 F H2 μ ∧ HReal K F H2 μ ∧ Slots K F σ2 ρ ∧ W (i + 1) ρ μ, ?_, ?_⟩
    · rintro σ2 H2 ⟨F', ρ', μ', s', R', S', w'⟩
      exact ⟨ds.length - (i + 1), by omega, by omega, F', ρ', μ', s', R', S', w'⟩
    · intro x H2 y
      obtain ⟨F', s', R', r'⟩ := src.yld i F H' μ x H2 s R (hok i ρ μ hle w) y _ (List.getElem?_eq_getElem hi)
      refine ⟨F', ρ, μ, _, _, R', S.mono s'.ext, r', turn i _ ρ μ (List.getElem?_eq_getElem hi) w, fun ρ2 μ2 t2 F2 H3 σ2 s2 R2 S2 => ?_⟩
      refine ⟨F2, ρ2, μ2, _, R2, S2, t2, ?_, ?_, ?_, ?_⟩
      · exact fun ρ' μ' q F'' H'' σ'' s'' R'' S'' => ⟨F'', ρ', μ', ((s.trans s').trans s2).trans s'', R'', S'', q⟩
      · exact fun d μ' q F'' H'' v s'' R'' r'' => k2 d μ' q F'' H'' v (((s.trans s').trans s2).trans s'') R'' r''
      · exact fun ρ' μ' q F'' H'' σ'' s'' R'' S'' => k ρ' μ' q F'' H'' σ'' (((s.trans s').trans s2).trans s'') R'' S''
      · exact fun ρ' μ' q F'' H'' σ'' s'' R'' S'' => ⟨F'', ρ', μ', ((s.trans s').trans s2).trans s'', R'', S'', q⟩
  · have e : i = ds.length := by omega
    subst e
    exact .inl ⟨src.stop F H' μ s R (hok _ ρ μ hle w), k ρ μ (fin ρ μ w) F H' σ' s R S⟩
end DS
namespace DS
open PySem PySem.Spec PyProof.Rows L2
section
variable {X : Cx} {K : PySem.W.Frag} {a : Expr} {pos pos' : Pos} {j : Nat} {ta : DTE}
def isNon : SD → Bool
  | .non => true
  | _ => false
theorem isNon_rep {F : Hp} {d : SD} {v : V} (r : RepS K F d v) : decide (v = .non) = isNon d := by
  cases r <;> simp [isNon]
abbrev dIsN (ta : DTE) : DTE := fun ρ μ Q => ta ρ μ fun x μ1 => Q (.bl (isNon x)) μ1
theorem dt_isN {j pos'} (ha : DE X a ta) : DT X (.Compare a [.Is] [.Constant .none j pos'] pos) (dTest (dIsN ta)) := weakT (pt_cmp (pc_isN ha) rfl) fun σ H Q h => by
  obtain ⟨F, ρ, μ, Q', R, S, t, k⟩ := h
  exact ⟨F, ρ, μ, _, R, S, t, fun d μ1 t1 F1 H1 v s1 R1 r1 => ⟨_, by rw [isNon_rep r1], k _ μ1 t1 F1 H1 s1 R1⟩⟩
abbrev dGt : DR2 := dCmp (fun i j => decide (j < i)) fun s t => decide (t < s)
theorem opr_gt : OpR X (compareOp .Gt) (rCmp (fun i j => decide (j < i)) fun s t => decide (t < s)) := op_gt.or op_gt_str
abbrev dLe : DR2 := dCmp (fun i j => decide (i ≤ j)) fun s t => !decide (t < s)
theorem opr_le : OpR X (compareOp .LtE) (rCmp (fun i j => decide (i ≤ j)) fun s t => !decide (t < s)) := op_le.or op_le_str
abbrev dGe : DR2 := dCmp (fun i j => decide (j ≤ i)) fun s t => !decide (s < t)
theorem opr_ge : OpR X (compareOp .GtE) (rCmp (fun i j => decide (j ≤ i)) fun s t => !decide (s < t)) := op_ge.or op_ge_str
def tyD (μ : Mu) : SD → Option String
  | .non => some "NoneType"
  | .bl _ => some "bool"
  | .int _ => some "int"
  | .str _ => some "str"
  | .tup _ => some "tuple"
  | .lst _ => some "list"
  | .rol _ => some "list"
  | .dic _ => some "dict"
  | .ref a => match μ a with
    | some (.lst _) => some "list"
    | some (.dic _) => some "dict"
    | _ => none
  | .ty _ => none
  | .exc _ _ => none
  | .ptp _ => none
theorem HReal.ty {F H : Hp} {μ : Mu} (R : HReal K F H μ) {d : SD} {v : V} {t : String} (r : RepS K F d v) (h : tyD μ d = some t) : TyX K H v (.type t) := by
  cases r with
  | non => cases h; exact .base .non
  | bl b => cases h; exact .base (.bl b)
  | int i => cases h; exact .base (.int i)
  | str x => cases h; exact .base (.str x)
  | ty n => cases h
  | tup q _ =>
    cases h
    rcases R.ext.sqT q with (q | ⟨o, q⟩) | ⟨o, its, n, q, c, _⟩
    · exact .base (.tup q)
    · exact .fTuple q
    · exact .kTuple q c
  | lst q _ => cases h; exact .base (.lst (R.ext.ls _ _ q))
  | rol q _ =>
    cases h
    rcases R.ext.sqL q with (q | ⟨o, q⟩) | ⟨o, its, n, q, c, _⟩
    · exact .base (.lst q)
    · exact .base (.frz q)
    · exact .kList q c
  | dic q _ _ =>
    cases h
    rcases R.ext.rd _ _ q with q | ⟨o, q⟩
    · exact .base (.dK q)
    · exact .fDict q
  | ref a =>
    simp only [tyD] at h
    split at h
    · rename_i xs e
      cases h
      obtain ⟨_, o, q, ro⟩ := R.mus a _ e
      cases ro; exact .base (.lst q)
    · rename_i xs e
      cases h
      obtain ⟨_, o, q, ro⟩ := R.mus a _ e
      cases ro; exact .base (.dK q)
    · cases h
  | exc0 _ _ => cases h
  | exc _ _ _ _ _ => cases h
  | ptp _ _ _ => cases h
def isiB (μ : Mu) (d : SD) (n : String) : Option Bool := match tyD μ d with
  | some t => kitB t n
  | none => none
def drIsi : DRc := fun ds μ Q => match ds with
  | [d, .ty n] => match isiB μ d n with
    | some b => Q (.bl b) μ
    | none => False
  | _ => False
theorem lc_isi : LRc K drIsi (rIsi K) := fun F H μ xs ds Q' Q R r t k => by
  unfold drIsi at t
  split at t
  · rename_i d n
    cases r with
    | cons r1 r2 => cases r2 with
      | cons r2 r3 =>
        cases r2; cases r3
        split at t
        · rename_i b e
          unfold isiB at e
          split at e
          · rename_i T eT
            exact ⟨_, _, _, _, b, rfl, .ty n, R.ty r1 eT, kit_ty e, k _ _ t _ _ _ (Stp.refl _ _ _) R (.bl b)⟩
          · cases e
        · exact t.elim
  · exact t.elim
/-- the name of a built-in type -/
theorem de_ty {x : Str} {T : String} {p : Pos} (hg : Gl X x) (hm : X.mg x = none) (hv : bootBuiltins x = some (.type T)) (hn : x ≠ "__name__" := by decide) (hd : (x == ("__debug__" : Str)) = false := by decide) : DE X (.Name x p) (dC (.ty T)) :=
  liftC (t := tC (.ty T)) (pe_bltn hg hm hv (show RelV (.ty T) (Value.type T) from rfl) hn hd) rfl
end
/-- a def that stands in the written part -/
structure Def (K : PySem.W.Frag) (mg : Str → Option Value) (x : Str) (st : Stmt) (ps : List Str) where
  f : Addr
  fd : FuncData
  F : Fun K x x st f fd
  m : mg x = some (.ref f)
  b : Binds K fd ps []
section
variable {X : Cx} {k n : Nat} {x : Str} {st : Stmt} {ps ks : List Str} {sp : DSp} {p pos : Pos} {e : Expr} {es : List Expr} {kws : List Keyword} {t tk : DTA}
abbrev FnD (P : Program) (w : World) (base : Heap) {K : PySem.W.Frag} {mg : Str → Option Value} {x : Str} {st : Stmt} {ps : List Str} (D : Def K mg x st ps) (k : Nat) (sp : DSp) : Prop := FnG P w K mg base CX0 k D.f D.fd ps (LSp K sp)
theorem Room.le {A : Around} (h : Room n A) (hk : k ≤ n) : Room k A := h.mono hk
theorem de_def {D : Def X.K X.mg x st ps} (F : FnD X.prog X.w X.base D k sp) (hq : Quiet X.A) (hr : Room n X.A) (ha : DA X (e :: es) t) (hk : k ≤ n := by omega) (hg : Gl X x := by rfl)
    (hdb : (x == ("__debug__" : Str)) = false := by decide) (he : starEach (e :: es) X.env = (false, eval e X.env) :: starEach es X.env := by rfl) (hpl : (backTo pos (starEach es X.env)).any (·.1) = false := by rfl) :
    DE X (.Call (.Name x p) (e :: es) [] pos) (dCall sp [] t) := de_call F hq (hr.mono hk) hg D.m D.F.kp D.b pass0 ha hdb he hpl
theorem dv (i : Nat) {x : Str} {pos : Pos} (hN : X.N[i]? = some x := by rfl) (hv : Vis X.env.scope x := by first | exact Or.inl rfl | exact Or.inr (Or.inl rfl) | exact Or.inr (Or.inr rfl)) (hd : (x == ("__debug__" : Str)) = false := by decide)
    (hcd : (x == ("__classdict__" : Str)) = false := by decide) : DE X (.Name x pos) (dVar i) := de_var hN hv hd hcd
end
theorem bt_len : bootBuiltins "len" = some (.builtin "len") := by decide +kernel
theorem bt_repr : bootBuiltins "repr" = some (.builtin "repr") := by decide +kernel
theorem bt_abs : bootBuiltins "abs" = some (.builtin "abs") := by decide +kernel
theorem bt_min : bootBuiltins "min" = some (.builtin "min") := by decide +kernel
theorem bt_max : bootBuiltins "max" = some (.builtin "max") := by decide +kernel
theorem bt_all : bootBuiltins "all" = some (.builtin "all") := by decide +kernel
theorem bt_isinstance : bootBuiltins "isinstance" = some (.builtin "isinstance") := by decide +kernel
theorem bt_int : bootBuiltins "int" = some (.type "int") := by decide +kernel
theorem bt_str : bootBuiltins "str" = some (.type "str") := by decide +kernel
theorem bt_tuple : bootBuiltins "tuple" = some (.type "tuple") := by decide +kernel
end DS
namespace DS
open PySem PySem.Spec PyProof.Rows L2
section
variable {X : Cx} {o e i a b : Expr} {es : List Expr} {apos cpos p pos : Pos} {to te ti td ty : DTE} {t : DTA} {k : Nat}
theorem de_append (ho : DE X o to) (ha : DE X e te) (hs : starEach [e] X.env = (false, eval e X.env) :: starEach [] X.env := by rfl) (hbase : attributeBase o "append" X.env (eval o X.env) = eval o X.env := by rfl)
    (hfew : ((backTo cpos (starEach [e] X.env)).all (fun x => !x.1) && (backToKw cpos (keywordEach [] X.env)).all (fun x => x.1.isSome) && decide (([e] : List Expr).length + ([] : List Keyword).length + (if ([] : List Keyword).isEmpty then 0 else 1) < 30)) = true := by rfl)
    (hline : (apos.endLine == cpos.line) = true := by rfl) (hplain : (backTo cpos (starEach [] X.env)).any (·.1) = false := by rfl) :
    DE X (.Call (.Attribute o "append" apos) [e] [] cpos) (dLM dmAppend to (dCons te dNil)) := de_lm F.plainAttrs_list F.slot_list_append F.type_list_append mt_append lm_append ho (da_cons ha da_nil hs) hbase hfew hline hs hplain
theorem de_insert (ho : DE X o to) (hi : DE X i ti) (ha : DE X e te) (hs : starEach [i, e] X.env = (false, eval i X.env) :: starEach [e] X.env := by rfl) (hs2 : starEach [e] X.env = (false, eval e X.env) :: starEach [] X.env := by rfl) (hbase : attributeBase o "insert" X.env (eval o X.env) = eval o X.env := by rfl)
    (hfew : ((backTo cpos (starEach [i, e] X.env)).all (fun x => !x.1) && (backToKw cpos (keywordEach [] X.env)).all (fun x => x.1.isSome) && decide (([i, e] : List Expr).length + ([] : List Keyword).length + (if ([] : List Keyword).isEmpty then 0 else 1) < 30)) = true := by rfl)
    (hline : (apos.endLine == cpos.line) = true := by rfl) (hplain : (backTo cpos (starEach [e] X.env)).any (·.1) = false := by rfl) :
    DE X (.Call (.Attribute o "insert" apos) [i, e] [] cpos) (dLM dmInsert to (dCons ti (dCons te dNil))) := de_lm F.plainAttrs_list F.slot_list_insert F.type_list_insert mt_insert lm_insert ho (da_cons hi (da_cons ha da_nil hs2) hs) hbase hfew hline hs hplain
theorem dt_din (hu : X.A.units + 1 < cLine) (hi : DE X i ty) (ho : DE X o td) (hm : behindInMarks .In o = false := by with_unfolding_all rfl) : DT X (.Compare i [.In] [o] pos) (dTest (dDIn false ty td)) := weakT (pt_cmp (pc_din hu hi ho) hm) fun σ H Q h => by
  obtain ⟨F, ρ, μ, Q', R, S, t, k⟩ := h
  have := lift_din (neg := false) σ H (fun x H' => ∃ c, x = V.bl c ∧ Q c H') ⟨F, ρ, μ, _, R, S, t, fun d μ' q F' H' v s R' r' => ?_⟩
  · simpa [tB, tDIn] using this
  cases r' with
  | bl b => exact ⟨b, rfl, k b μ' q F' H' s R'⟩
  | _ => exact q.elim
end
theorem len_of {sp : DSp} {n : Nat} (h : ∀ ds μ Q E, sp ds μ Q E → ds.length = n) {ps : List Str} (e : ps.length = n := by rfl) : ∀ ds μ Q E, sp ds μ Q E → ds.length = ps.length := fun ds μ Q E q => (h ds μ Q E q).trans e.symm
theorem unit64 {A : Around} {k : Nat} (h : Room k A) : A.units + 64 < cLine := by have := h.un; omega
theorem unit66 {A : Around} {k : Nat} (h : Room k A) : A.units + 66 < cLine := by have := h.un; omega
end DS
namespace DS
open PySem PySem.Spec PyProof.Rows L2
section
variable {K : PySem.W.Frag} {F0 H0 : Hp} {μ0 : Mu} {a : Addr} {od : Obj} {kvs : List (Key × SD)} {vs : List (Key × V)}
theorem fdic_at {F H : Hp} {μ : Mu} {o : HO} (R : HReal K F H μ) (h : μ a = some (.fdic kvs o)) : H a = some o ∧ ∃ ob vs, o = .frz ob (.dK vs) ∧ RepK K F kvs vs := by
  obtain ⟨_, o', e, r⟩ := R.mus a _ h
  cases r with
  | fdic q r => exact ⟨e, _, _, rfl, ⟨q, r⟩⟩
def keysS (kvs : List (Key × SD)) : List SD := kvs.map fun kv => keyS kv.1
theorem src_keysM (rk : RepK K F0 kvs vs) : Src K F0 H0 μ0 (Itk a od vs) (keysS kvs) fun μ => μ a = some (.fdic kvs (.frz od (.dK vs))) where
  go := fun i F H μ s R h hi => ⟨(fdic_at R h).1, by rw [← rk.len]; simpa [keysS] using hi⟩
  stop := fun F H μ s R h => ⟨(fdic_at R h).1, by rw [← rk.len]; simp [keysS]⟩
  yld := fun i F H μ x H' s R _ y e hd => by
    obtain ⟨rfl, k, v, h1, rfl⟩ := y
    obtain ⟨dd, h2, h3⟩ := rk.get h1
    have : (keysS kvs)[i]? = some (keyS k) := by simp [keysS, h2]
    rw [this] at hd; cases hd
    exact ⟨F, Stp.refl _ _ _, R, keyS_rep k⟩
end
/-- a loop over (the items of) a dict in memory -/
def dForM (items : List (Key × SD) → List SD) (te : DTE) (g : DTG) (tb : DTS) : DTS := fun D ρ μ => te ρ μ fun d μ1 => match d with
  | .ref a => match μ1 a with
    | some (.dic kvs) => ∀ o, ∃ W : Nat → Rho → Mu → Prop, W 0 ρ (up μ1 a (.fdic kvs o)) ∧ (∀ i ρ μ, i ≤ (items kvs).length → W i ρ μ → μ a = some (.fdic kvs o)) ∧
      (∀ i d ρ μ, (items kvs)[i]? = some d → W i ρ μ → g d ρ μ fun ρ2 μ2 => tb { nx := W (i + 1), ct := W (i + 1), bk := fun ρ μ => μ a = some (.fdic kvs o) ∧ D.nx ρ (up μ a (.dic kvs)), rt := fun d μ => μ a = some (.fdic kvs o) ∧ D.rt d (up μ a (.dic kvs)) } ρ2 μ2) ∧
      ∀ ρ μ, W (items kvs).length ρ μ → D.nx ρ (up μ a (.dic kvs))
    | _ => False
  | _ => False
section
variable {X : Cx} {e tg : Expr} {pos : Pos}
theorem lift_forM {items : List (Key × SD) → List SD} {mk : Addr → Obj → List (Key × V) → It} {g : DTG} {tb : DTS} {te : DTE} {K : PySem.W.Frag} {H_0 : Hp} {P : V → Hp → (It → Hp → Prop) → Prop} (hP : ∀ d o kvs H R, H d = some (.frz o (.dK kvs)) → R (mk d o kvs) H → P (.ref d) H R)
    (src : ∀ {F0 H0 : Hp} {μ0 : Mu} {a : Addr} {od : Obj} {kvs : List (Key × SD)} {vs : List (Key × V)}, RepK K F0 kvs vs → Src K F0 H0 μ0 (mk a od vs) (items kvs) fun μ => μ a = some (.fdic kvs (.frz od (.dK vs)))) :
    ∀ D σ H, LS K (dForM items te g tb) D σ H → tUnl H_0 (tFor (fun σ H R => tLockA H_0 (LE K te) σ H fun x H1 => P x H1 R) (LG K g) (LS K tb)) D σ H := fun D σ H h => by
  obtain ⟨F0, ρ0, μ0, D', R0, S0, t, k, k2, k3, k4⟩ := h
  refine ⟨F0, ρ0, μ0, _, R0, S0, t, fun d μ1 t1 F1 H1 v s1 R1 r1 => ?_⟩
  cases r1 with
  | ref a =>
    simp only at t1
    split at t1
    · rename_i kvs hm
      obtain ⟨hF, o, hH, ro⟩ := R1.mus a _ hm
      cases ro with
      | dic q r =>
        rename_i vs
        refine ⟨a, vs, rfl, .inl ⟨hH, fun od h0 => ?_⟩⟩
        obtain ⟨W, w0, hok, turn, fin⟩ := t1 (.frz od (.dK vs))
        have rk : RepK K F1 kvs vs := ⟨q, r⟩
        have R2 : HReal K F1 (upd H1 a (.frz od (.dK vs))) (up μ1 a (.fdic kvs (.frz od (.dK vs)))) := R1.put hm (.fdic q r)
        have s2 : Stp F1 H1 μ1 F1 (upd H1 a (.frz od (.dK vs))) (up μ1 a (.fdic kvs (.frz od (.dK vs)))) := Stp.put hm
        refine hP a od vs _ _ upd_same ?_
        have back : ∀ {F' H' : Hp} {μ' : Mu}, HReal K F' H' μ' → μ' a = some (.fdic kvs (.frz od (.dK vs))) → H' a = some (.frz od (.dK vs)) ∧ HReal K F' (upd H' a (.dK vs)) (up μ' a (.dic kvs)) ∧ Stp F' H' μ' F' (upd H' a (.dK vs)) (up μ' a (.dic kvs)) := fun R' e => by
          obtain ⟨h1, ob, vs', e2, rk'⟩ := fdic_at R' e
          cases e2
          exact ⟨h1, R'.put e (.dic rk'.keys rk'.vals), Stp.put e⟩
        refine for_core (D' := { nx := fun ρ μ => μ a = some (.fdic kvs (.frz od (.dK vs))) ∧ D'.nx ρ (up μ a (.dic kvs)), rt := fun d μ => μ a = some (.fdic kvs (.frz od (.dK vs))) ∧ D'.rt d (up μ a (.dic kvs)) }) R2 ((S0.mono s1.ext).mono s2.ext) (src rk) ⟨W, w0, hok, turn, fun ρ μ w => ⟨hok _ ρ μ (Nat.le_refl _) w, fin ρ μ w⟩⟩ ?_ ?_
        · rintro ρ' μ' ⟨e, qn⟩ F' H' σ' s R S
          obtain ⟨h1, R3, s3⟩ := back R e
          exact .inr ⟨a, od, _, h1, h0, k ρ' _ qn F' _ σ' (((s1.trans s2).trans s).trans s3) R3 S⟩
        · rintro d μ' ⟨e, qn⟩ F' H' v s R r
          obtain ⟨h1, R3, s3⟩ := back R e
          exact .inr ⟨a, od, _, h1, h0, k2 d _ qn F' _ v (((s1.trans s2).trans s).trans s3) R3 r⟩
    · exact t1.elim
  | _ => exact t1.elim
theorem ds_forKeysM {body : List Stmt} {te : DTE} {g : DTG} {tb : DTS} (hp : PassesOwn (model X.prog X.w) X.A X.env X.xe) (hc : X.calm = true) (he : DE X e te) (hg : DG X tg g) (hb : DSs X body tb) (hs : ∀ x, foldedSetIterable e X.env x = pure x := by intro _; rfl) :
    DS_ X (.For tg e body [] pos) (dForM keysS te g tb) := weakS (ps_unl (ps_for hp hc (pi_keys (pe_lockA he)) hg hb hs)) (lift_forM (mk := Itk) (fun d o kvs H R h r => ⟨d, o, rfl, .inl ⟨kvs, h, r⟩⟩) fun rk => src_keysM rk)
/-- texts of a list or tuple -/
def strsOf : List SD → Option (List Str)
  | [] => some []
  | .str s :: r => match strsOf r with
    | some l => some (s :: l)
    | none => none
  | _ :: _ => none
theorem strsOf_rep : ∀ {F : Hp} {K : PySem.W.Frag} {ds : List SD} {vs : List V} {l : List Str}, RepL K F ds vs → strsOf ds = some l → vs = l.map V.str
  | _, _, [], _, _, .nil, e => by cases e; rfl
  | _, _, d :: ds, _, l, .cons q r, e => by
    cases d with
    | str s =>
      unfold strsOf at e
      cases e2 : strsOf ds with
      | none => rw [e2] at e; cases e
      | some l2 => rw [e2] at e; cases e; cases q; rw [strsOf_rep r e2]; rfl
    | _ => cases e
theorem strsOf_map (l : List Str) : strsOf (l.map SD.str) = some l := by
  induction l with
  | nil => rfl
  | cons a r ih => rw [List.map_cons, strsOf, ih]
def drJoin (x y : SD) (μ : Mu) (Q : SD → Mu → Prop) : Prop := match x with
  | .str a => match seqD μ y with
    | some ds => match strsOf ds with
      | some ys => (ys.map (·.length)).sum + ys.length * a.length ≤ 16777216 ∧ Q (.str (Txt.join a ys)) μ
      | none => False
    | none => False
  | _ => False
def isStr : SD → Bool
  | .str _ => true
  | _ => false
abbrev dJoin (to te : DTE) : DTE := fun ρ μ Q => to ρ μ fun x μ1 => isStr x = true ∧ te ρ μ1 fun y μ2 => drJoin x y μ2 Q
theorem de_join {o e : Expr} {to te : DTE} {apos pos : Pos} (ho : DE X o to) (he : DE X e te) (hs : starEach [e] X.env = [(false, eval e X.env)] := by rfl) (hbase : attributeBase o "join" X.env (eval o X.env) = eval o X.env := by rfl) (hline : (apos.endLine == pos.line) = true := by rfl) :
    DE X (.Call (.Attribute o "join" apos) [e] [] pos) (dJoin to te) := weakE (pe_join ho he hs hbase hline) fun σ H Q h => by
  obtain ⟨F, ρ, μ, Q', R, S, t, k⟩ := h
  refine ⟨F, ρ, μ, _, R, S, t, fun d μ1 t1 F1 H1 v s1 R1 r1 => ?_⟩
  obtain ⟨hst, t1⟩ := t1
  cases d with
  | str a =>
    cases r1
    refine ⟨⟨a, rfl⟩, F1, ρ, μ1, _, R1, S.mono s1.ext, t1, fun y μ2 t2 F2 H2 w s2 R2 r2 => ?_⟩
    unfold drJoin at t2
    simp only at t2
    split at t2
    · rename_i ds e
      split at t2
      · rename_i ys e2
        obtain ⟨p, vs, rfl, rl, hq⟩ := R2.seq' r2 e
        obtain rfl := strsOf_rep rl e2
        exact ⟨a, p, ys, rfl, rfl, hq, t2.1, k _ _ t2.2 F2 H2 _ (s1.trans s2) R2 (.str _)⟩
      · exact t2.elim
    · exact t2.elim
  | _ => cases hst
/-- a text that the module has named -/
theorem de_gstr {x : Str} {y : Str} {p : Pos} (h : ∃ t, X.mg x = some (.str y t)) (hg : Gl X x := by rfl) (hd : (x == ("__debug__" : Str)) = false := by decide) : DE X (.Name x p) (dC (.str y)) := by
  obtain ⟨t, h⟩ := h
  exact liftC (t := tC (.str y)) (pe_glob hg h (show RelV (.str y) (Value.str y t) from ⟨t, rfl⟩) hd) rfl
theorem de_gint {x : Str} {i : Int} {p : Pos} (h : ∃ t, X.mg x = some (.int i t)) (hg : Gl X x := by rfl) (hd : (x == ("__debug__" : Str)) = false := by decide) : DE X (.Name x p) (dC (.int i)) := by
  obtain ⟨t, h⟩ := h
  exact liftC (t := tC (.int i)) (pe_glob hg h (show RelV (.int i) (Value.int i t) from ⟨t, rfl⟩) hd) rfl
end
end DS
namespace DS
open PySem PySem.Spec PyProof.Rows L2
/-- u: the different ones of l -/
structure Dist {α : Type} (l u : List α) : Prop where
  nd : u.Nodup
  mem : ∀ k, k ∈ u ↔ k ∈ l
theorem Dist.nil {α : Type} {l : List α} : Dist (l.take 0) [] := ⟨List.nodup_nil, fun k => by simp⟩
/-- the set at a: S says who is in, n how many; its table stands in order -/
def TxR (P : Program) (w : World) (h : Heap) (a : Addr) (S : Str → Bool) (n : Nat) : Prop := ∃ o es ep t, h.get? a = some o ∧ o.ExactSet ∧ o.data = .set es ep t ∧ ElemsOf (strKind P w) es.toList ∧ (∀ k, S k = true ↔ ∃ e ∈ es.toList, (strKind P w).is k e.2 = true) ∧
  es.size < scanBound ∧ t.fits es.size = true ∧ es.size = n ∧ Ris t.place.toList ∧ (w.params.followText "set-order" = true ∨ t.led = true)
section
variable {P : Program} {w : World} {A : Around} {E : Value → Shared → Prop} {s : Shared} {a : Addr} {S : Str → Bool} {n : Nat}
theorem TxR.keep {h h' : Heap} (R : TxR P w h a S n) (k : ∀ o, h.get? a = some o → h'.get? a = some o) : TxR P w h' a S n := by
  obtain ⟨o, es, ep, t, ho, r⟩ := R
  exact ⟨o, es, ep, t, k o ho, r⟩
end
/-- the set at a: who is in is in ns, as many as u has -/
def TxSet (P : Program) (w : World) (h : Heap) (a : Addr) (ns u : List Str) : Prop := TxR P w h a (fun j => decide (j ∈ ns)) u.length
section
variable {P : Program} {w : World} {A : Around} {E : Value → Shared → Prop} {s : Shared}
theorem TxSet.keep {h h' : Heap} {a : Addr} {ns u : List Str} (R : TxSet P w h a ns u) (k : ∀ o, h.get? a = some o → h'.get? a = some o) : TxSet P w h' a ns u := TxR.keep R k
end
end DS
namespace DS
open PySem PySem.Spec PyProof.Rows L2
section
variable {X : Cx} {K : PySem.W.Frag}
/-- xs + ys, a new list that may change -/
def dAddM : DR2 := fun x y μ Q => match lstD μ x, lstD μ y with
  | some xs, some ys => xs.length + ys.length ≤ sizeLine ∧ ∀ p, μ p = none → Q (.ref p) (up μ p (.lst (xs ++ ys)))
  | _, _ => False
theorem lr_addM : LR2 K dAddM rCat := fun F H μ x y dx dy Q' Q R rx ry t k => by
  unfold dAddM at t
  cases e1 : lstD μ dx with
  | none => rw [e1] at t; exact False.elim t
  | some xs => cases e2 : lstD μ dy with
    | none => rw [e1, e2] at t; exact False.elim t
    | some ys =>
      rw [e1, e2] at t
      obtain ⟨a, vs, rfl, ha, r1⟩ := R.lst rx e1
      obtain ⟨b, ws, rfl, hb, r2⟩ := R.lst ry e2
      refine ⟨a, b, vs, ws, rfl, rfl, ha, hb, by rw [← r1.length, ← r2.length]; exact t.1, fun q hq => ?_⟩
      exact k _ _ (t.2 q (R.freeM hq)) _ _ _ (Stp.newM R hq) (R.newM hq (.lst (r1.append r2))) (.ref q)
theorem lift_chain {r r' : R2} {dr dr' : DR2} {ta tb tc : DTE} (hl : LR2 K dr r) (hl' : LR2 K dr' r') : ∀ σ H Q, LE K (dChain dr dr' ta tb tc) σ H Q → tChain r r' (LE K ta) (LE K tb) (LE K tc) σ H Q := fun σ H Q h => by
  obtain ⟨F, ρ, μ, Q', R, S, t, k⟩ := h
  refine ⟨F, ρ, μ, _, R, S, t, fun d1 μ1 t1 F1 H1 v1 s1 R1 r1 => ?_⟩
  refine ⟨F1, ρ, μ1, _, R1, S.mono s1.ext, t1, fun d2 μ2 t2 F2 H2 v2 s2 R2 r2 => ?_⟩
  refine hl F2 H2 μ2 v1 v2 d1 d2 _ _ R2 (r1.mono s2.ext) r2 t2 fun d3 μ3 t3 F3 H3 v3 s3 R3 r3 => ?_
  cases r3 with
  | bl z =>
    refine ⟨z, rfl, ?_⟩
    cases z with
    | true =>
      refine ⟨F3, ρ, μ3, _, R3, S.mono ((s1.trans s2).trans s3).ext, t3, fun d4 μ4 t4 F4 H4 v4 s4 R4 r4 => ?_⟩
      exact hl' F4 H4 μ4 v2 v4 d2 d4 Q' Q R4 (r2.mono (s3.trans s4).ext) r4 t4 fun d μ' q F' H' v s R' r' => k d μ' q F' H' v ((((s1.trans s2).trans s3).trans s4).trans s) R' r'
    | false => exact k _ μ3 t3 F3 H3 _ ((s1.trans s2).trans s3) R3 (.bl false)
  | _ => exact t3.elim
theorem dt_chain {op op' : CmpOp} {r r' : R2} {dr dr' : DR2} {ta tb tc : DTE} {a b c : Expr} {pos : Pos} (ho : OpR X (compareOp op) r) (hl : LR2 X.K dr r) (ho' : OpR X (compareOp op') r') (hl' : LR2 X.K dr' r') (ha : DE X a ta) (hb : DE X b tb) (hc : DE X c tc) (hm : lastMarks [op, op'] [b, c] = false := by rfl) :
    DT X (.Compare a [op, op'] [b, c] pos) (dTest (dChain dr dr' ta tb tc)) := weakT (pt_chain ho ho' ha hb hc hm) fun σ H Q h => by
  obtain ⟨F, ρ, μ, Q', R, S, t, k⟩ := h
  refine lift_chain hl hl' σ H _ ⟨F, ρ, μ, _, R, S, t, fun d μ' q F' H' v s R' r' => ?_⟩
  cases r' with
  | bl b => exact ⟨b, rfl, k b μ' q F' H' s R'⟩
  | _ => exact q.elim
end
end DS
namespace DS
open PySem PySem.Spec PyProof.Rows L2
mutual
/-- the value shows as the datum; empty dicts among it stand at no place of the machine's own -/
inductive Shw (h : Heap) : Value → PyData → Prop
  | non : Shw h .none .none
  | bl (b : Bool) : Shw h (.bool b) (.bool b)
  | int (i : Int) (t : Tok) : Shw h (.int i t) (.int i)
  | str (x : Str) (t : Tok) : Shw h (.str x t) (.str x)
  | lst {a : Addr} {o : Obj} {vs : Array Value} {n : Nat} {xs : List PyData} : h.get? a = some o → o.cls = .type "list" → o.data = .seq vs n → ShwL h vs.toList xs → Shw h (.ref a) (.list xs)
  | tup {a : Addr} {o : Obj} {vs : Array Value} {n : Nat} {xs : List PyData} : h.get? a = some o → o.cls = .type "tuple" → o.data = .seq vs n → ShwL h vs.toList xs → Shw h (.ref a) (.tuple xs)
  | dic {a : Addr} {o : Obj} {n : Nat} : (a == sysModules) = false → h.get? a = some o → o.cls = .type "dict" → o.data = .dict #[] n → Shw h (.ref a) (.dict [])
inductive ShwL (h : Heap) : List Value → List PyData → Prop
  | nil : ShwL h [] []
  | cons {v : Value} {vs : List Value} {d : PyData} {ds : List PyData} : Shw h v d → ShwL h vs ds → ShwL h (v :: vs) (d :: ds)
end
mutual
theorem Shw.reads {h : Heap} : ∀ {v : Value} {d : PyData}, Shw h v d → ∃ as, Reads h v d as
  | _, _, .non => ⟨_, .none⟩
  | _, _, .bl b => ⟨_, .bool b⟩
  | _, _, .int i t => ⟨_, .int i t⟩
  | _, _, .str x t => ⟨_, .str x t⟩
  | _, _, .lst a b c r => let ⟨_, q⟩ := ShwL.reads r; ⟨_, .list a b c q⟩
  | _, _, .tup a b c r => let ⟨_, q⟩ := ShwL.reads r; ⟨_, .tuple a b c q⟩
  | _, _, .dic _ a b c => ⟨_, .dict (kvs := []) a b c .nil .nil⟩
theorem ShwL.reads {h : Heap} : ∀ {vs : List Value} {ds : List PyData}, ShwL h vs ds → ∃ as, ReadsAll h vs ds as
  | _, _, .nil => ⟨_, .nil⟩
  | _, _, .cons h r => let ⟨_, p⟩ := Shw.reads h; let ⟨_, q⟩ := ShwL.reads r; ⟨_, .cons p q⟩
end
section
variable {prog : Program} {w : World} {h₀ : Heap}
theorem dict0_shown : (PyData.dict []).shown = dictText [] := by simp only [PyData.shown, PyData.shownKv]
mutual
theorem Shw.K : ∀ {v : Value} {d : PyData}, Shw h₀ v d → d.showable = true → d.shown.length ≤ sizeLine → ∃ bs, ReadAtMost h₀ d.depth bs ∧ ReprK prog w bs h₀ d.depth v d.shown
  | _, _, .non, hs, hz => ReprK.of_reads Reads.none hs (fun z => by simp [PyData.hasDict] at z) hz
  | _, _, .bl b, hs, hz => ReprK.of_reads (Reads.bool b) hs (fun z => by simp [PyData.hasDict] at z) hz
  | _, _, .int i t, hs, hz => ReprK.of_reads (Reads.int i t) hs (fun z => by simp [PyData.hasDict] at z) hz
  | _, _, .str x t, hs, hz => ReprK.of_reads (Reads.str x t) hs (fun z => by simp [PyData.hasDict] at z) hz
  | _, _, .lst (a := a) (vs := vs) (xs := xs) h1 h2 h3 h4, hs, hz => by
    have fits : (listText (PyData.shownAll xs)).length ≤ sizeLine := by simpa only [PyData.shown] using hz
    obtain ⟨bs, hb, hk⟩ := ShwL.K h4 (by simpa [PyData.showable] using hs) fun t ht => Nat.le_trans (listText_mem_le ht) fits
    obtain ⟨as, q⟩ := ShwL.reads h4
    have r : Reads h₀ (.ref a) (.list xs) (a :: as) := .list h1 h2 h3 q
    have apart : a ∉ bs := not_mem_of_deeper r (by simp only [PyData.depth]; omega) hb
    refine ⟨a :: bs, ReadAtMost.cons r (by simp only [PyData.depth]; omega) hb, ?_⟩
    simp only [PyData.depth, PyData.shown]
    obtain ⟨l⟩ := vs
    cases l with
    | nil =>
      have e : ShwL h₀ [] xs := h4
      cases e
      simp only [PyData.shownAll, listText_nil]
      exact ReprK.listEmpty h1 h2 h3
    | cons x l => exact ReprK.list h1 h2 h3 apart (by simpa using hk.length_eq) fun i y e => hk.item i y (by simpa using e)
  | _, _, .tup (a := a) (xs := xs) h1 h2 h3 h4, hs, hz => by
    have fits : (tupleText (PyData.shownAll xs)).length ≤ sizeLine := by simpa only [PyData.shown] using hz
    obtain ⟨bs, hb, hk⟩ := ShwL.K h4 (by simpa [PyData.showable] using hs) fun t ht => Nat.le_trans (tupleText_mem_le ht) fits
    obtain ⟨as, q⟩ := ShwL.reads h4
    have r : Reads h₀ (.ref a) (.tuple xs) as := .tuple h1 h2 h3 q
    have apart : a ∉ bs := not_mem_of_deeper r (by simp only [PyData.depth]; omega) hb
    refine ⟨a :: bs, ReadAtMost.cons r (by simp only [PyData.depth]; omega) hb, ?_⟩
    simp only [PyData.depth, PyData.shown]
    exact ReprK.tuple h1 h2 h3 apart hk
  | _, _, .dic (a := a) h0 h1 h2 h3, hs, hz => by
    have r : Reads h₀ (.ref a) (.dict []) _ := .dict (kvs := []) h1 h2 h3 .nil .nil
    refine ⟨[a], fun b hb => ⟨_, _, List.mem_singleton.mp hb ▸ r, Nat.le_refl _⟩, ?_⟩
    rw [dict0_shown]
    exact ReprK.dict h1 h2 h3 h0 (List.not_mem_nil) .nil
theorem ShwL.K : ∀ {vs : List Value} {ds : List PyData}, ShwL h₀ vs ds → PyData.showableAll ds = true → (∀ t ∈ PyData.shownAll ds, t.length ≤ sizeLine) →
    ∃ bs, ReadAtMost h₀ (PyData.depthAll ds) bs ∧ ReprAllK prog w bs h₀ (PyData.depthAll ds) vs (PyData.shownAll ds)
  | _, _, .nil, _, _ => ⟨[], (fun _ h => nomatch h), by simp only [PyData.shownAll]; exact .nil⟩
  | _, _, .cons (d := d) (ds := ds) r rs, hs, hz => by
    have both : d.showable = true ∧ PyData.showableAll ds = true := by simpa [PyData.showableAll] using hs
    obtain ⟨b1, hb1, k1⟩ := Shw.K r both.1 (hz _ (by simp only [PyData.shownAll]; exact List.mem_cons_self ..))
    obtain ⟨b2, hb2, k2⟩ := ShwL.K rs both.2 fun t ht => hz t (by simp only [PyData.shownAll]; exact List.mem_cons_of_mem _ ht)
    refine ⟨b1 ++ b2, ?_, ?_⟩
    · simp only [PyData.depthAll]
      exact (hb1.mono (Nat.le_max_left _ _)).append (hb2.mono (Nat.le_max_right _ _))
    · simp only [PyData.depthAll, PyData.shownAll]
      exact .cons ((k1.more fun b hb => List.mem_append_left b2 hb).level_le (Nat.le_max_left _ _)) (k2.more_le (fun b hb => List.mem_append_right b1 hb) (Nat.le_max_right _ _))
end
theorem Shw.by {a : Addr} {d : PyData} (r : Shw h₀ (.ref a) d) (hs : d.showable = true) (hz : d.shown.length ≤ sizeLine) : ∃ T idr, ShowsBy prog w h₀ a d T idr := by
  cases r with
  | lst h1 h2 h3 h4 =>
    rename_i o vs n xs
    have fits : (listText (PyData.shownAll xs)).length ≤ sizeLine := by simpa only [PyData.shown] using hz
    obtain ⟨bs, hb, hk⟩ := ShwL.K (prog := prog) (w := w) h4 (by simpa [PyData.showable] using hs) fun t ht => Nat.le_trans (listText_mem_le ht) fits
    obtain ⟨as, q⟩ := ShwL.reads h4
    have apart : a ∉ bs := not_mem_of_deeper (.list h1 h2 h3 q) (by simp only [PyData.depth]; omega) hb
    refine ⟨"list", "list.__repr__", F.slot_list_repr.toG, F.slot_list_str, F.slot_list_format, fun s keep => ⟨o, keep _ _ h1, h2⟩, fun A E s Q hg hu keep hQ => ?_⟩
    simp only [PyData.depth] at hu
    simp only [PyData.shown] at hQ
    obtain ⟨l⟩ := vs
    cases l with
    | nil =>
      have e : ShwL h₀ [] xs := h4
      cases e
      simp only [PyData.shownAll, listText_nil] at hQ
      exact call_list_repr_empty ⟨o, keep _ _ h1, h2⟩ (keep _ _ h1) h3 (hQ s.heap _ _ fun _ _ e => e)
    | cons x l => exact call_list_reprK h1 h2 h3 apart (by simpa using hk.length_eq) (fun i y e => hk.item i y (by simpa using e)) hg (fun b _ => Clear.nil b) hu keep hQ fits
  | tup h1 h2 h3 h4 =>
    rename_i o vs n xs
    have fits : (tupleText (PyData.shownAll xs)).length ≤ sizeLine := by simpa only [PyData.shown] using hz
    obtain ⟨bs, hb, hk⟩ := ShwL.K (prog := prog) (w := w) h4 (by simpa [PyData.showable] using hs) fun t ht => Nat.le_trans (tupleText_mem_le ht) fits
    obtain ⟨as, q⟩ := ShwL.reads h4
    have apart : a ∉ bs := not_mem_of_deeper (.tuple h1 h2 h3 q) (by simp only [PyData.depth]; omega) hb
    refine ⟨"tuple", "tuple.__repr__", F.slot_tuple_repr, F.slot_tuple_str, F.slot_tuple_format, fun s keep => ⟨o, keep _ _ h1, h2⟩, fun A E s Q hg hu keep hQ => ?_⟩
    simp only [PyData.depth] at hu
    simp only [PyData.shown] at hQ
    exact call_tuple_reprK h1 h2 h3 apart hk hg (fun b _ => Clear.nil b) hu keep hQ fits
  | dic h0 h1 h2 h3 =>
    rename_i o n
    refine ⟨"dict", "dict.__repr__", F.slot_dict_repr, F.slot_dict_str, F.slot_dict_format, fun s keep => ⟨o, keep _ _ h1, h2⟩, fun A E s Q hg hu keep hQ => ?_⟩
    rw [dict0_shown] at hQ hz
    simp only [PyData.depth] at hu
    exact call_dict_reprK h1 h2 h3 h0 (List.not_mem_nil) .nil hg (fun b _ => Clear.nil b) hu keep hQ hz
end
mutual
inductive Dq (K : PySem.W.Frag) (H : Hp) : V → PyData → Prop
  | non : Dq K H .non .none
  | bl (b : Bool) : Dq K H (.bl b) (.bool b)
  | int (i : Int) : Dq K H (.int i) (.int i)
  | str (x : Str) : Dq K H (.str x) (.str x)
  | lst {a : Addr} {xs : List V} {ds : List PyData} : SqL K H a xs → DqL K H xs ds → Dq K H (.ref a) (.list ds)
  | tup {a : Addr} {xs : List V} {ds : List PyData} : SqT K H a xs → DqL K H xs ds → Dq K H (.ref a) (.tuple ds)
  | dic {a : Addr} : Rd H a (.dK []) → Dq K H (.ref a) (.dict [])
inductive DqL (K : PySem.W.Frag) (H : Hp) : List V → List PyData → Prop
  | nil : DqL K H [] []
  | cons {v : V} {vs : List V} {d : PyData} {ds : List PyData} : Dq K H v d → DqL K H vs ds → DqL K H (v :: vs) (d :: ds)
end
section
variable {X : Cx} {K : PySem.W.Frag} {pins : List (Addr × Obj)} {σ : L2.St} {H : Hp} {s : Shared}
mutual
theorem Dq.shw (I : Inv X pins σ H s) : ∀ {v : V} {d : PyData} {u : Value}, Dq X.K H v d → RelV v u → Shw s.heap u d
  | _, _, u, .non, r => by cases r; exact .non
  | _, _, u, .bl b, r => by cases r; exact .bl b
  | _, _, u, .int i, r => by obtain ⟨t, rfl⟩ := r; exact .int i t
  | _, _, u, .str x, r => by obtain ⟨t, rfl⟩ := r; exact .str x t
  | _, _, u, .lst hs ha, r => by
    cases r
    obtain ⟨its, rv, ⟨o, n, ho, hc, _, hd⟩, _⟩ := I.list hs
    exact .lst ho hc hd (DqL.shw I ha rv)
  | _, _, u, .tup hs ha, r => by
    cases r
    obtain ⟨its, rv, ⟨o, ho, hc, n, hd⟩, _⟩ := I.tuple hs
    exact .tup ho hc hd (DqL.shw I ha rv)
  | _, _, u, .dic e, r => by
    cases r
    obtain ⟨_, h0, vs, rel, o, es, ep, ho, hex, hd, _, hp, _⟩ := dk_rd I.hok e
    cases rel
    have e0 : es.toList = [] := by
      generalize es.toList = l at hp
      cases hp; rfl
    have : es = #[] := by
      cases es
      simp at e0; subst e0; rfl
    subst this
    exact .dic h0 ho hex.1 hd
theorem DqL.shw (I : Inv X pins σ H s) : ∀ {vs : List V} {ds : List PyData} {us : List Value}, DqL X.K H vs ds → Vals vs us → ShwL s.heap us ds
  | _, _, _, .nil, .nil => .nil
  | _, _, _, .cons h r, .cons q t => .cons (Dq.shw I h q) (DqL.shw I r t)
end
end
end DS
namespace DS
open PySem PySem.Spec PyProof.Rows L2
section
variable {X : Cx} {K : PySem.W.Frag}
def rL0 (K : PySem.W.Frag) (neg : Bool) : R2 := fun x y H Q => ∃ a b xs, x = .ref a ∧ y = .ref b ∧ SqL K H a xs ∧ SqL K H b [] ∧ Q (.bl (neg != xs.isEmpty)) H
theorem opr_neL0 (hu : X.A.units + 64 < cLine) : OpR X (compareOp .NotEq) (rL0 X.K true) := by
  intro pins s σ H x y v u Q I rx ry h
  obtain ⟨a, b, xs, rfl, rfl, ha, hb, q⟩ := h
  cases rx; cases ry
  obtain ⟨its, r, ht, _⟩ := I.list ha
  obtain ⟨its2, r2, ht2, _⟩ := I.list hb
  cases r2
  have l1 : s.heap.IsList a its.toArray := ht.isList
  have l2 : s.heap.IsList b #[] := ht2.isList
  cases r with
  | nil => exact SeqAt.RcNeAt.lists (e := fun _ => true) l1 l2 rfl (by omega) (fun j _ h2 => absurd h2 (Nat.not_lt_zero _)) X.prog X.w X.xe _ ⟨.bl _, H, I, rfl, q⟩
  | cons _ _ => exact SeqAt.RcNeAt.lists_lengths l1 l2 (by simp) (by omega) X.prog X.w X.xe _ ⟨.bl _, H, I, rfl, q⟩
def dL0 (neg : Bool) : DR2 := fun x y μ Q => match lstD μ x, lstD μ y with
  | some xs, some [] => Q (.bl (neg != xs.isEmpty)) μ
  | _, _ => False
theorem lr_L0 {neg : Bool} : LR2 K (dL0 neg) (rL0 K neg) := fun F H μ x y dx dy Q' Q R rx ry t k => by
  unfold dL0 at t
  cases e1 : lstD μ dx with
  | none => rw [e1] at t; exact False.elim t
  | some xs => cases e2 : lstD μ dy with
    | none => rw [e1, e2] at t; exact False.elim t
    | some ys => cases ys with
      | cons _ _ => rw [e1, e2] at t; exact False.elim t
      | nil =>
        rw [e1, e2] at t
        obtain ⟨a, vs, rfl, ha, r1⟩ := R.lst rx e1
        obtain ⟨b, ws, rfl, hb, r2⟩ := R.lst ry e2
        cases r2
        refine ⟨a, b, vs, rfl, rfl, SqL.of ha, SqL.of hb, ?_⟩
        have : xs.isEmpty = vs.isEmpty := by cases r1 <;> rfl
        exact k _ μ t F H _ (Stp.refl _ _ _) R (by rw [this]; exact .bl _)
end
end DS
namespace PySem.DSX
end PySem.DSX
namespace DS
open PySem PySem.Spec PyProof.Rows L2
/-- an own __init__ of an error's class: B.__init__(self, y); self.f = y -/
def spI (C : Addr) (f : Str) : Sp := fun vs H Q _ => ∃ (a : Addr) (y : V), vs = [.ref a, y] ∧ H a = some (exo a C none) ∧ ∀ dx, H dx = none → dx ≠ a → Q .non (upd (upd H dx (exd dx [(f, y)])) a (exo a C (some dx)))
/-- all that is known of an error's class with an __init__ of its own -/
structure XDef (K : PySem.W.Frag) (mg : Str → Option Value) (x f p qual : Str) (st : Stmt) where
  C : Addr
  fI : Addr
  fd : FuncData
  F : Fun K "__init__" qual st fI fd
  m : mg x = some (.ref C)
  o : OexC K C
  ini : PySem.W.findIn K (.ref C) "__init__" = some (some (.ref fI))
  fn : PySem.W.typeIn K (.ref fI) = some (.type "function")
  b : Binds K fd ["self", p] []
  kb : KBinds K fd ["self", p] [p] (kwG [.inl 0, .inr 0] 1 1) (kwG [.inl 0, .inr 0] 1 1)
  xk : XcK K x C [f]
abbrev XIni (P : Program) (w : World) (base : Heap) {K : PySem.W.Frag} {mg : Str → Option Value} {x f p qual : Str} {st : Stmt} (D : XDef K mg x f p qual st) (k : Nat) : Prop := FnG P w K mg base CX0 k D.fI D.fd ["self", p] (spI D.C f)
/-- what is known of the class whose __init__ is asked -/
structure XBase (K : PySem.W.Frag) (mg : Str → Option Value) (x : Str) where
  C : Addr
  m : mg x = some (.ref C)
  sp : PySem.W.specialIn K (.ref C) "__getattribute__" = some (some (.builtin "type.__getattribute__"))
  rd : PySem.W.readsIn K C (.type "type") = true
  at_ : PySem.W.findCls K (.ref C) (.type "type") "__init__" = some (.val (.builtin "ValueError.__init__"))
section
variable {X : Cx} {x f q qual B : Str} {st : Stmt} {k n : Nat} {e : Expr} {es : List Expr} {te : TE} {t : TA} {p p1 p2 p3 p4 p5 p6 p7 p8 p9 p10 pos kpos : Pos}
/-- B.__init__(e, ..), B an own class of errors -/
theorem pe_bini (D : XBase X.K X.mg B) (hg : Gl X B) (ha : PA X (e :: es) t) (hdb : (B == ("__debug__" : Str)) = false) {pl : Sem Bool}
    (hc : eval (.Call (.Attribute (.Name B p1) "__init__" p2) (e :: es) [] pos) X.env = (do
      let ov ← eval (.Name B p1) X.env
      standAt p2.atName
      let (f, first) ← holding [ov] (getMethod ov "__init__" pl)
      callWith pos f first (backTo pos (starEach (e :: es) X.env)) (backToKw pos (keywordEach [] X.env))))
    (he : starEach (e :: es) X.env = (false, eval e X.env) :: starEach es X.env := by rfl) (hpl : (backTo pos (starEach es X.env)).any (·.1) = false := by rfl) :
    PE X (.Call (.Attribute (.Name B p1) "__init__" p2) (e :: es) [] pos) (tVeI X.K t) := by
  refine ⟨fun pins s σ H Q I h => ?_⟩
  refine PySem.W.methodCall_KW (ld_glob I hg D.m ?_ hdb) hc
  refine PySem.W.method_cls I.kIn D.sp (PySem.W.cls_value I.kIn D.rd D.at_ (by decide +kernel) ?_)
  show wpAny _ _ (callWith pos (Value.builtin "ValueError.__init__") [] (backTo pos (starEach (e :: es) X.env)) []) _ _ _
  refine PyProof.Rows.callWith_method1 (thn (ha.run pos pins _ σ H _ (I.tok _) h) fun us s1 ⟨vs, H1, I1, r1, a, C, ws, ev, hl, T, ea, q⟩ => ?_) he hpl
  subst ev
  match us, r1 with
  | _ :: us, .cons r0 r1 =>
    cases r0
    exact oinit_ok T I1 ea (by rw [← r1.length, sizeLine_eq]; omega) fun s' J => ⟨.non, H1, J, rfl, q⟩
/-- self.f = y behind it: the whole __init__ -/
theorem xini_ok {P : Program} {w : World} {K : PySem.W.Frag} {mg : Str → Option Value} {base : Heap} (D : XDef K mg x f q qual st) (Z : XBase K mg B) (S : FnScope ["self", q] ["self", q] (defScope st))
    (hb : defBody st = [.Expr (.Call (.Attribute (.Name B p1) "__init__" p2) [.Name "self" p3, .Name q p4] [] p5) p6, .Assign [.Attribute (.Name "self" p7) f p8] (.Name q p9) p10])
    (hg : (defScope st).names.lookup B = some .globalImplicit) (v0 : Vis (defScope st) "self") (v1 : Vis (defScope st) q) (hdb : (B == ("__debug__" : Str)) = false) (hq1 : (q == ("__debug__" : Str)) = false) (hq2 : (q == ("__classdict__" : Str)) = false)
    (hc : ∀ (L : Addr) (cdv : Value), ∃ pl : Sem Bool, eval (.Call (.Attribute (.Name B p1) "__init__" p2) [.Name "self" p3, .Name q p4] [] p5) (envOfC qual (defScope st) L D.fI cdv) = (do
      let ov ← eval (.Name B p1) (envOfC qual (defScope st) L D.fI cdv)
      standAt p2.atName
      let (f, first) ← holding [ov] (getMethod ov "__init__" pl)
      callWith p5 f first (backTo p5 (starEach [.Name "self" p3, .Name q p4] (envOfC qual (defScope st) L D.fI cdv))) (backToKw p5 (keywordEach [] (envOfC qual (defScope st) L D.fI cdv))))) : XIni P w base D 2 := by
  obtain ⟨oc, od, kV, doc, pm, an, cdv, ct, osl, e, lk, hcd⟩ := D.F.ex
  unfold XIni
  rw [e] at lk ⊢
  refine fnG_of lk hcd S (fun vs H Q E h => by obtain ⟨_, _, rfl, _⟩ := h; rfl) fun A outer s H vs Q E quiet room want => ?_
  obtain ⟨a, y, rfl, ea, k⟩ := want
  obtain ⟨pl, hpl⟩ := hc s.heap.objs.size cdv
  refine ⟨_, by
    rw [hb]
    exact pss_cons (ps_expr (pe_bini (t := tCons (tVar 0) (tCons (tVar 1) tNil)) Z hg (pa_cons (pe_var (i := 0) rfl v0) (pa_cons (pe_var (i := 1) rfl v1 hq1 hq2) pa_nil)) hdb hpl)) (pss_one (ps_ost (pe_var (i := 0) rfl v0) (pe_var (i := 1) rfl v1 hq1 hq2))), ?_⟩
  exact ⟨.ref a, rfl, y, rfl, a, D.C, [y], rfl, (by show 1 ≤ 1000; decide), D.o, ea, y, rfl, .ref a, rfl, a, D.C, rfl, D.o, D.xk.no f (List.mem_cons_self ..), .inl ⟨ea, k⟩⟩
end
def rX (K : PySem.W.Frag) (c : V) (cv : Value) : List V → Hp → VK → Prop := fun xs H Q => ∃ (a C : Addr) (od : Option Addr) (b : Bool) (x : Str) (fs : List Str), xs = [.ref a, c] ∧ H a = some (exq a C od) ∧ (∀ d, od = some d → ∃ vs, H d = some (.xd vs)) ∧ XcK K x C fs ∧ PySem.W.kitOne K (.ref C) cv = some b ∧ Q (.bl b) H
section
variable {X : Cx} {c : V} {cv : Value}
theorem call_x (hcv : ∀ u, RelV c u → u = cv) : CallR X (.builtin "isinstance") (rX X.K c cv) := by
  intro pins s σ H xs us Q I r h
  obtain ⟨a, C, od, b, x, fs, rfl, ea, ed, T, e, q⟩ := h
  match us, r with
  | [_, u], .cons r0 (.cons r1 .nil) =>
    cases r0
    have eu := hcv _ r1
    subst eu
    obtain ⟨⟨oe, vs, e1, ⟨z1, z2⟩, e3⟩, _, _⟩ := I.hok a _ ea
    have cls : (PySem.W.clsIn X.K C).isSome = true := by
      obtain ⟨cd, hc, _⟩ := PySem.W.any_some T.hd
      rw [hc]; rfl
    have no : PySem.W.notCls oe = true := by unfold PySem.W.notCls; rw [e3] <;> rfl
    have at_ : ∃ o : Option Obj, PySem.W.InstAt s.heap a oe C o := by
      cases q2 : od with
      | none => exact ⟨none, e1, z1, no, by rw [z2, q2]; exact True.intro⟩
      | some d =>
        obtain ⟨ws, hd⟩ := ed d q2
        have hx : ObjOk X.prog X.w H s.heap d (.xd ws) := I.hok d _ hd
        obtain ⟨mA, ⟨o, es, ep, ho, _⟩, _⟩ := hx
        exact ⟨some o, e1, z1, no, by rw [z2, q2]; exact ho⟩
    obtain ⟨o, J⟩ := at_
    exact PySem.W.kia_one (PySem.W.kitx_exc cls T.ga T.gg T.sub T.cl T.sp T.tk T.mro) I.kIn J e (fun z => nomatch z) fun tk => ⟨.bl b, H, I.kept (t' := tk) fun _ _ z => z, rfl, q⟩
end
/-- isinstance(an error, one class): kx says what for the class named -/
def isQ (kx : Str → Option Bool) (Q : SD → Mu → Prop) : SD → Mu → Prop := fun d μ => match d with
  | .exc x _ => (match kx x with
    | some b => Q (.bl b) μ
    | none => False)
  | _ => False
abbrev dIsX (kx : Str → Option Bool) (te : DTE) : DTE := fun ρ μ Q => te ρ μ (isQ kx Q)
section
variable {X : Cx} {x f : Str} {C : Addr} {e : Expr} {te : DTE} {p p2 pos : Pos} {kx : Str → Option Bool} {T : String}
theorem isx_go {c : SD} {v : V} {cv : Value} {Q' : SD → Mu → Prop} {Q : VK} {K : PySem.W.Frag} {F H : Hp} {μ : Mu} (hc : plain c = some v) (hk : ∀ x b C, kx x = some b → PySem.W.nsIn K mainGlobals x = some (some (.ref C)) → PySem.W.kitOne K (.ref C) cv = some b) {d : SD} {w : V} (R : HReal K F H μ) (r1 : RepS K F d w) (t : isQ kx Q' d μ)
    (k : ∀ d' μ', Q' d' μ' → ∀ F' H' v, Stp F H μ F' H' μ' → HReal K F' H' μ' → RepS K F' d' v → Q v H') : rX K v cv [w, v] H Q := by
  unfold isQ at t
  cases r1 with
  | exc0 T q =>
    simp only at t
    split at t
    · rename_i b e
      exact ⟨_, _, none, b, _, [], rfl, R.sub _ _ q, fun _ z => (by cases z), T, hk _ _ _ e T.at_, k _ _ t _ _ _ (Stp.refl _ _ _) R (.bl b)⟩
    · exact t.elim
  | exc T q q2 z r3 =>
    simp only at t
    split at t
    · rename_i b e
      exact ⟨_, _, some _, b, _, _, rfl, R.sub _ _ q, fun d z => (by cases z; exact ⟨_, R.sub _ _ q2⟩), T, hk _ _ _ e T.at_, k _ _ t _ _ _ (Stp.refl _ _ _) R (.bl b)⟩
    · exact t.elim
  | _ => exact t.elim
theorem isx_lift {c : SD} {v : V} {cv : Value} (hc : plain c = some v) (hk : ∀ x b C, kx x = some b → PySem.W.nsIn X.K mainGlobals x = some (some (.ref C)) → PySem.W.kitOne X.K (.ref C) cv = some b) (σ : L2.St) (H : Hp) (Q : VK) (h : LE X.K (dIsX kx te) σ H Q) :
    LA X.K (dCons te (dCons (dC c) dNil)) σ H (fun xs H1 => rX X.K v cv xs H1 Q) := by
  obtain ⟨F, ρ, μ, Q', R, S, t, k⟩ := h
  refine ⟨F, ρ, μ, fun ds μ1 => match ds with
    | [d, c'] => c' = c ∧ isQ kx Q' d μ1
    | _ => False, R, S, ?_, fun ds μ1 t1 F1 H1 vs s1 R1 r1 => ?_⟩
  · have mono : (fun (d : SD) (μ1 : Mu) => c = c ∧ isQ kx Q' d μ1) = isQ kx Q' := by
      funext d μ1
      exact propext ⟨fun z => z.2, fun z => ⟨rfl, z⟩⟩
    show te ρ μ (fun d μ1 => c = c ∧ isQ kx Q' d μ1)
    rw [mono]
    exact t
  · match ds, vs, r1, t1 with
    | [d, c'], [w, w'], .cons ra (.cons rb .nil), t2 =>
      have t3 : c' = c ∧ isQ kx Q' d μ1 := t2
      have ew : w' = v := by
        rw [t3.1] at rb
        exact rb.isPlain hc
      rw [ew]
      exact isx_go hc hk R1 ra t3.2 fun d' μ' q F' H' v' s R' r' => k d' μ' q F' H' v' (s1.trans s) R' r'
    | [], _, _, t1 => exact t1.elim
    | [_], _, _, t1 => exact t1.elim
    | _ :: _ :: _ :: _, _, _, t1 => exact t1.elim
theorem de_isX {D : Addr} (ha : DE X e te) (hI : Gl X "isinstance") (zI : X.mg "isinstance" = none) (hg : Gl X x) (hm : X.mg x = some (.ref D)) (hk : ∀ y b C, kx y = some b → PySem.W.nsIn X.K mainGlobals y = some (some (.ref C)) → PySem.W.kitOne X.K (.ref C) (.ref D) = some b)
    (hdb : (x == ("__debug__" : Str)) = false := by decide) (he : starEach [e, .Name x p2] X.env = (false, eval e X.env) :: starEach [.Name x p2] X.env := by rfl) (he2 : starEach [.Name x p2] X.env = (false, eval (.Name x p2) X.env) :: starEach [] X.env := by rfl)
    (hpl : (backTo pos (starEach [.Name x p2] X.env)).any (·.1) = false := by rfl) : DE X (.Call (.Name "isinstance" p) [e, .Name x p2] [] pos) (dIsX kx te) :=
  weakE (pe_callB (call_x (c := .ref D) (cv := .ref D) fun u r => r) hI zI bt_isinstance (da_cons ha (da_cons (de_glob (d := .ref D) (v := .ref D) hg hm rfl rfl hdb) da_nil he2) he) (by decide) (by decide) he hpl) (isx_lift (v := .ref D) rfl hk)
theorem de_isXT (ha : DE X e te) (hI : Gl X "isinstance") (zI : X.mg "isinstance" = none) (hg : Gl X x) (hm : X.mg x = none) (hv : bootBuiltins x = some (.type T)) (hk : ∀ y b C, kx y = some b → PySem.W.nsIn X.K mainGlobals y = some (some (.ref C)) → PySem.W.kitOne X.K (.ref C) (.type T) = some b)
    (hdb : (x == ("__debug__" : Str)) = false := by decide) (hn : x ≠ "__name__" := by decide) (he : starEach [e, .Name x p2] X.env = (false, eval e X.env) :: starEach [.Name x p2] X.env := by rfl) (he2 : starEach [.Name x p2] X.env = (false, eval (.Name x p2) X.env) :: starEach [] X.env := by rfl)
    (hpl : (backTo pos (starEach [.Name x p2] X.env)).any (·.1) = false := by rfl) : DE X (.Call (.Name "isinstance" p) [e, .Name x p2] [] pos) (dIsX kx te) :=
  weakE (pe_callB (call_x (c := .ty T) (cv := .type T) fun u r => r) hI zI bt_isinstance (da_cons ha (da_cons (de_ty hg hm hv hn hdb) da_nil he2) he) (by decide) (by decide) he hpl) (isx_lift (v := .ty T) rfl hk)
end
def tXfl (K : PySem.W.Frag) (f : Str) (te : TE) : TE := fun σ H Q => te σ H fun x H1 => ∃ (a C dx : Addr) (fs : List (Str × V)) (v : V) (y : Str) (ns : List Str), x = .ref a ∧ H1 a = some (exq a C (some dx)) ∧ H1 dx = some (.xd fs) ∧ fs.lookup f = some v ∧ XcK K y C ns ∧ f ∈ ns ∧ Q v H1
def dFld (f : Str) (te : DTE) : DTE := fun ρ μ Q => te ρ μ fun d μ1 => match d with
  | .exc _ fs => (match fs.lookup f with
    | some v => Q v μ1
    | none => False)
  | _ => False
theorem fld_at {K : PySem.W.Frag} {F : Hp} {f : Str} {d : SD} : ∀ {ds : List (Str × SD)} {vs : List (Str × V)}, vs.map (·.1) = ds.map (·.1) → RepL K F (ds.map (·.2)) (vs.map (·.2)) → ds.lookup f = some d → ∃ v, vs.lookup f = some v ∧ RepS K F d v ∧ f ∈ ds.map (·.1)
  | [], _, _, _, h => by cases h
  | (g, e) :: ds, [], h, _, _ => by simp at h
  | (g, e) :: ds, (g', w) :: vs, h, .cons r rs, hl => by
    simp only [List.map_cons, List.cons.injEq] at h
    obtain ⟨rfl, h⟩ := h
    simp only [List.lookup_cons] at hl ⊢
    split at hl
    · rename_i z
      cases hl
      exact ⟨w, rfl, r, by rw [beq_iff_eq.mp z]; exact List.mem_cons_self ..⟩
    · obtain ⟨v, a, b, c⟩ := fld_at h rs hl
      exact ⟨v, a, b, List.mem_cons_of_mem _ c⟩
section
variable {X : Cx} {f : Str} {e : Expr} {te : TE} {td : DTE} {pos : Pos}
theorem pe_xfl (he : PE X e te) (hb : attributeBase e f X.env (eval e X.env) = eval e X.env := by rfl) : PE X (.Attribute e f pos) (tXfl X.K f te) := by
  refine ⟨fun pins s σ H Q I h => attr_of hb (thn (he.run pins s σ H _ I h) fun u s1 z => ?_)⟩
  obtain ⟨x, H1, I1, rx, a, C, dx, fs, v, y, ns, rfl, ea, ed, l, T, hf, q⟩ := z
  cases rx
  obtain ⟨⟨oe, vs, e1, ⟨z1, z2⟩, e3⟩, _, _⟩ := I1.hok a _ ea
  have hx : ObjOk X.prog X.w H1 s1.heap dx (.xd fs) := I1.hok dx _ ed
  obtain ⟨mA, hns, hr⟩ := hx
  obtain ⟨o, ho, hl⟩ := lookIn_ns hns
  obtain ⟨u, hu, ru⟩ := RelO.some_of (v := v) (o := mA f) (by rw [← l]; exact hr f)
  have J : PySem.W.InstAt s1.heap a oe C (some o) := ⟨e1, z1, by unfold PySem.W.notCls; rw [e3] <;> rfl, by rw [z2]; exact ho⟩
  exact PySem.HandSPX.exc_get I1.kIn J T.ga T.gg T.sub (PySem.W.findObj_own T.hd (T.no f hf) rfl (by rw [hl, hu])) (handed_of ru) ⟨v, H1, I1.tok _, ru, q⟩
theorem de_fld (he : DE X e td) (hb : attributeBase e f X.env (eval e X.env) = eval e X.env := by rfl) : DE X (.Attribute e f pos) (dFld f td) := weakE (pe_xfl he hb) fun σ H Q h => by
  obtain ⟨F, ρ, μ, Q', R, S, t, k⟩ := h
  refine ⟨F, ρ, μ, _, R, S, t, fun d μ1 t1 F1 H1 v s1 R1 r1 => ?_⟩
  cases r1 with
  | exc0 T q => exact t1.elim
  | exc T q q2 z r3 =>
    simp only at t1
    split at t1
    · rename_i w e
      obtain ⟨v, l, r, m⟩ := fld_at z r3 e
      exact ⟨_, _, _, _, v, _, _, rfl, R1.sub _ _ q, R1.sub _ _ q2, l, T, m, k _ μ1 t1 F1 H1 v s1 R1 r⟩
    · exact t1.elim
  | _ => exact t1.elim
end
end DS
namespace DS
open PySem PySem.Spec PyProof.Rows L2
def inCls : Stmt → List Stmt
  | .ClassDef (body := b) .. => b
  | _ => []
/-- the plain facts of a class of errors (C the class, fI its own __init__, f its field) -/
structure XF (K : PySem.W.Frag) (C : Addr) : Prop where
  sa : PySem.W.findIn K (.ref C) "__setattr__" = some (some (.builtin "object.__setattr__"))
  ex : PySem.W.subIn K (.ref C) (.type "BaseException") = some true
  ty : PySem.W.typeIn K (.ref C) = some (.type "type")
  kc : PySem.W.keepIn K (.ref C) = true
  ga : PySem.W.findIn K (.ref C) "__getattribute__" = some (some (.builtin "BaseException.__getattribute__"))
  gg : PySem.W.findIn K (.ref C) "__getattr__" = some none
  hd : PySem.W.hasDictIn K C = true
  cl : PySem.W.findIn K (.ref C) "__class__" = some (some (.builtin "object.__class__"))
  sp : PySem.W.specialIn K (.builtin "object.__class__") "__get__" = some (some (.builtin "getset_descriptor.__get__"))
  tk : PySem.W.takesIn K (.builtin "object.__class__") = some true
  mro : PySem.W.mroIn K C (.type "object") = some true
/-- the class object: its name, address and the classes behind it -/
def XRow (K : PySem.W.Frag) (r : Str × Addr × List Value) : Prop := PySem.W.nsIn K mainGlobals r.1 = some (some (.ref r.2.1)) ∧ PySem.HandSPX.refsVE r.2.2 = true ∧
  ∃ nm q N bs sn sub ab col dd k0 k1 k2 k3 k5, K.lookup r.2.1 = some (excClassObj nm q r.2.1 N bs r.2.2 true sn sub ab col dd k0 k1 k2 k3 k5 "ValueError.__new__")
section
variable {K : PySem.W.Frag} {mg : Str → Option Value} {h : Heap} {x f : Str} {C fI D : Addr} {bm : List Value}
theorem XF.xck (F : XF K C) (a : PySem.W.nsIn K mainGlobals x = some (some (.ref C))) {fs : List Str} (no : ∀ f ∈ fs, PySem.W.findIn K (.ref C) f = some none) : XcK K x C fs := ⟨a, F.ga, F.gg, F.ex, F.hd, F.cl, F.sp, F.tk, F.mro, no⟩
theorem XF.oex (F : XF K C) (r : XRow K (x, C, bm)) : OexC K C := ⟨let ⟨_, v, nm, q, N, bs, sn, sub, ab, col, dd, k0, k1, k2, k3, k5, e⟩ := r; ⟨nm, q, N, bs, bm, sn, sub, ab, col, dd, k0, k1, k2, k3, k5, e, v⟩, F.sa, F.ex, F.ty, F.kc⟩
theorem xrow_cls {r : Str × Addr × List Value} (h : XRow K r) : ∃ cd, PySem.W.clsIn K r.2.1 = some cd ∧ cd.mro = .ref r.2.1 :: r.2.2 := by
  obtain ⟨_, _, nm, q, N, bs, sn, sub, ab, col, dd, k0, k1, k2, k3, k5, e⟩ := h
  refine ⟨_, by unfold PySem.W.clsIn; rw [e], rfl⟩
theorem xrow_mro {r : Str × Addr × List Value} (h : XRow K r) (b : Value) : PySem.W.mroIn K r.2.1 b = some ((Value.ref r.2.1 :: r.2.2).contains b) := by
  obtain ⟨cd, e, m⟩ := xrow_cls h
  unfold PySem.W.mroIn
  rw [e, Option.bind_some, m]
  rfl
/-- kX names c y: what isinstance says of an error of the class y asked for c -/
def kX (names : List Str) (c y : Str) : Option Bool := if y ∈ names then some (y == c || c == "KeyedError" || c == "ValueError") else none
theorem kit_row {r : Str × Addr × List Value} (h : XRow K r) (hD : (PySem.W.clsIn K D).isSome = true) (tD : PySem.W.typeIn K (.ref D) = some (.type "type")) : PySem.W.kitOne K (.ref r.2.1) (.ref D) = some (r.2.1 == D || r.2.2.contains (.ref D)) := by
  unfold PySem.W.kitOne
  by_cases e : r.2.1 = D
  · rw [if_pos (by rw [e]; exact beq_self_eq_true _), e]
    simp
  · rw [if_neg (by intro z; exact e (Value.ref.inj (beq_iff_eq.mp z)))]
    unfold PySem.W.kitCls
    dsimp only
    rw [hD, tD]
    show PySem.W.mroIn K r.2.1 (.ref D) = _
    rw [xrow_mro h, List.contains_cons]
    have : (Value.ref D == Value.ref r.2.1) = false := by
      rw [beq_eq_false_iff_ne]
      intro z
      exact e (Value.ref.inj z).symm
    rw [this, Bool.false_or]
    have : (r.2.1 == D) = false := by rw [beq_eq_false_iff_ne]; exact e
    rw [this, Bool.false_or]
def kitQ (rows : List (Str × Addr × List Value)) (c : Str) (D : Addr) : Bool := rows.all fun r => (r.2.1 == D || r.2.2.contains (.ref D)) == (r.1 == c || c == "KeyedError" || c == "ValueError")
theorem bt_ValueError : bootBuiltins "ValueError" = some (.type "ValueError") := by decide +kernel
theorem kit_ok {rows : List (Str × Addr × List Value)} {c : Str} (q : kitQ rows c D = true) (h : ∀ r ∈ rows, XRow K r) (hD : (PySem.W.clsIn K D).isSome = true) (tD : PySem.W.typeIn K (.ref D) = some (.type "type")) (y : Str) (b : Bool) (C : Addr) (e : kX (rows.map (·.1)) c y = some b)
    (a : PySem.W.nsIn K mainGlobals y = some (some (.ref C))) : PySem.W.kitOne K (.ref C) (.ref D) = some b := by
  unfold kX at e
  split at e
  · rename_i hm
    obtain ⟨r, hr, rfl⟩ := List.mem_map.mp hm
    have hx := h r hr
    obtain rfl : r.2.1 = C := by
      have z := hx.1.symm.trans a
      cases z; rfl
    rw [kit_row hx hD tD]
    have z := List.all_eq_true.mp q r hr
    rw [beq_iff_eq.mp z, e]
  · cases e
theorem kit_ve {rows : List (Str × Addr × List Value)} (h : ∀ r ∈ rows, XRow K r) (y : Str) (b : Bool) (C : Addr) (e : kX (rows.map (·.1)) "ValueError" y = some b)
    (a : PySem.W.nsIn K mainGlobals y = some (some (.ref C))) : PySem.W.kitOne K (.ref C) (.type "ValueError") = some b := by
  unfold kX at e
  split at e
  · rename_i hm
    obtain ⟨r, hr, rfl⟩ := List.mem_map.mp hm
    have hx := h r hr
    obtain rfl : r.2.1 = C := by
      have z := hx.1.symm.trans a
      cases z; rfl
    unfold PySem.W.kitOne
    rw [if_neg (by intro z; cases beq_iff_eq.mp z)]
    unfold PySem.W.kitCls
    dsimp only
    have km : PySem.W.kitMeta "ValueError" = true := by decide +kernel
    rw [if_pos km]
    show PySem.W.mroIn K r.2.1 _ = _
    rw [xrow_mro hx, List.contains_cons, PySem.HandSPX.refsVE_contains "ValueError" _ hx.2.1, ← e]
    simp
  · cases e
end
end DS
namespace DS
end DS
namespace DS
end DS
namespace DS
open PySem PySem.Spec PyProof.Rows L2
/-- what is known of an own class -/
structure OCls (K : PySem.W.Frag) (mg : Str → Option Value) (x : Str) where
  C : Addr
  m : mg x = some (.ref C)
  k : OcK K x C
/-- a method -/
structure MDef {K : PySem.W.Frag} {mg : Str → Option Value} {x : Str} (D : OCls K mg x) (m qual : Str) (st : Stmt) (ps : List Str) where
  f : Addr
  fd : FuncData
  F : Fun K m qual st f fd
  me : Meth K D.C m f
  b : Binds K fd ps []
/-- the own __init__ -/
structure IDef {K : PySem.W.Frag} {mg : Str → Option Value} {x : Str} (D : OCls K mg x) (qual : Str) (st : Stmt) (ps : List Str) where
  f : Addr
  fd : FuncData
  F : Fun K "__init__" qual st f fd
  maker : Mk K D.C f
  b : Binds K fd ps []
abbrev FnM (P : Program) (w : World) (base : Heap) {K : PySem.W.Frag} {mg : Str → Option Value} {x m qual : Str} {D : OCls K mg x} {st : Stmt} {ps : List Str} (M : MDef D m qual st ps) (k : Nat) (sp : DSp) : Prop := FnG P w K mg base CX0 k M.f M.fd ps (LSp K sp)
abbrev FnI (P : Program) (w : World) (base : Heap) {K : PySem.W.Frag} {mg : Str → Option Value} {x qual : Str} {D : OCls K mg x} {st : Stmt} {ps : List Str} (M : IDef D qual st ps) (k : Nat) (sp : DSp) : Prop := FnG P w K mg base CX0 k M.f M.fd ps (LSp K sp)
section
variable {K : PySem.W.Frag} {F H : Hp} {μ : Mu} {p a : Addr} {x f : Str}
/-- an object that is nobody's business -/
theorem HReal.newU (R : HReal K F H μ) {o : HO} (h : H p = none) : HReal K F (upd H p o) μ := by
  have hF := R.freeF h
  refine ⟨fun b u e => by rw [upd_ne (ne_of_none e hF)]; exact R.sub b u e, fun b m e => ?_⟩
  obtain ⟨z, u, q, r⟩ := R.mus b m e
  exact ⟨z, u, by rw [upd_ne (ne_of_none q h)]; exact q, r⟩
theorem Stp.newU {o : HO} (h : H p = none) : Stp F H μ F (upd H p o) μ :=
  ⟨Ext.refl F, fun b h1 h2 h3 => ⟨upd_ne fun z => by subst z; exact h1 h, h2, h3⟩⟩
def putS (f : Str) (v : SD) : List (Str × SD) → List (Str × SD)
  | [] => [(f, v)]
  | (g, x) :: r => if g = f then (g, v) :: r else (g, x) :: putS f v r
theorem put_rep {d : SD} {y : V} (r : RepS K F d y) : ∀ {ds : List (Str × SD)} {vs : List (Str × V)}, vs.map (·.1) = ds.map (·.1) → RepL K F (ds.map (·.2)) (vs.map (·.2)) →
    (putF f y vs).map (·.1) = (putS f d ds).map (·.1) ∧ RepL K F ((putS f d ds).map (·.2)) ((putF f y vs).map (·.2))
  | [], [], _, _ => ⟨rfl, .one r⟩
  | [], _ :: _, h, _ => by cases h
  | _ :: _, [], h, _ => by cases h
  | (g, e) :: ds, (g', w) :: vs, h, .cons ra rb => by
    simp only [List.map_cons, List.cons.injEq] at h
    obtain ⟨rfl, h⟩ := h
    by_cases q : g' = f
    · rw [putF, putS, if_pos q, if_pos q]
      exact ⟨by simp [h], .cons r rb⟩
    · rw [putF, putS, if_neg q, if_neg q]
      obtain ⟨i1, i2⟩ := put_rep r h rb
      exact ⟨by simp [i1], .cons ra i2⟩
theorem OcK.one {C D : Addr} (a : OcK K x C) (b : OcK K x D) : C = D := by
  have z := a.at_.symm.trans b.at_
  cases z; rfl
theorem look_none {ds : List (Str × SD)} {vs : List (Str × V)} (h : vs.map (·.1) = ds.map (·.1)) (e : ds.lookup f = none) : vs.lookup f = none := by
  have key : ∀ {α : Type} {l : List (Str × α)}, l.lookup f = none ↔ f ∉ l.map (·.1) := fun {α l} => by
    induction l with
    | nil => simp
    | cons q l ih =>
      obtain ⟨g, z⟩ := q
      rw [List.lookup_cons]
      split
      · rename_i hg
        have := beq_iff_eq.mp hg
        simp [this]
      · rename_i hg
        have : f ≠ g := fun z => by rw [z] at hg; simp at hg
        simp [this, ih]
  rw [key] at e ⊢
  rw [h]
  exact e
end
def aQ (x f : Str) (Q : SD → Mu → Prop) : SD → Mu → Prop := fun d μ => match d with
  | .ref a => (match μ a with
    | some (.obj y fs) => y = x ∧ (match fs.lookup f with
      | some v => Q v μ
      | none => False)
    | _ => False)
  | _ => False
abbrev dAttr (x f : Str) (te : DTE) : DTE := fun ρ μ Q => te ρ μ (aQ x f Q)
/-- o.f = e -/
def sQ (x f : Str) (y : SD) (R : Mu → Prop) : SD → Mu → Prop := fun d μ => match d with
  | .ref a => (match μ a with
    | some (.obj z fs) => z = x ∧ fs.length < 900 ∧ R (up μ a (.obj x (putS f y fs)))
    | _ => False)
  | _ => False
abbrev dPutA (x f : Str) (to tv : DTE) : DTS := fun D ρ μ => tv ρ μ fun y μ1 => to ρ μ1 (sQ x f y fun μ2 => D.nx ρ μ2)
/-- o.m(e, ..) -/
def mQ (x m : Str) (R : SD → Mu → Prop) : SD → Mu → Prop := fun d μ => match d with
  | .ref a => (match μ a with
    | some (.obj z fs) => z = x ∧ fs.lookup m = none ∧ R d μ
    | _ => False)
  | _ => False
abbrev dMeth (x m : Str) (sp : DSp) (to : DTE) (t : DTA) : DTE := fun ρ μ Q => to ρ μ (mQ x m fun d μ1 => t ρ μ1 fun ds μ2 => sp (d :: ds) μ2 Q fun _ _ _ => False)
/-- C(e, ..) -/
abbrev dMkC (x : Str) (sp : DSp) (t : DTA) : DTE := fun ρ μ Q => t ρ μ fun ds μ1 => ∀ a, μ1 a = none → sp (.ref a :: ds) (up μ1 a (.obj x [])) (fun d μ2 => d = .non ∧ Q (.ref a) μ2) fun _ _ _ => False
section
variable {X : Cx} {x m f qual : Str} {st : Stmt} {ps : List Str} {k n : Nat} {e o : Expr} {es : List Expr} {te to tv : DTE} {t : DTA} {p pos apos pos' : Pos} {sp : DSp}
theorem HReal.obj {K : PySem.W.Frag} {mg : Str → Option Value} {F H : Hp} {μ : Mu} {a : Addr} {fs : List (Str × SD)} (R : HReal K F H μ) (D : OCls K mg x) (h : μ a = some (.obj x fs)) : ∃ dx vs, H a = some (.ins D.C dx vs) ∧ vs.map (·.1) = fs.map (·.1) ∧ RepL K F (fs.map (·.2)) (vs.map (·.2)) := by
  obtain ⟨_, o, ho, r⟩ := R.mus a _ h
  cases r with
  | obj c q r =>
    obtain rfl := c.one D.k
    exact ⟨_, _, ho, q, r⟩
theorem de_attr (D : OCls X.K X.mg x) (nf : NoAttr X.K D.C f) (he : DE X e te) (hb : attributeBase e f X.env (eval e X.env) = eval e X.env := by rfl) : DE X (.Attribute e f pos) (dAttr x f te) := weakE (pe_fld he hb) fun σ H Q h => by
  obtain ⟨F, ρ, μ, Q', R, S, t, k⟩ := h
  refine ⟨F, ρ, μ, _, R, S, t, fun d μ1 t1 F1 H1 v s1 R1 r1 => ?_⟩
  unfold aQ at t1
  cases r1 with
  | ref a =>
    simp only at t1
    split at t1
    · rename_i y fs e1
      obtain ⟨rfl, t1⟩ := t1
      split at t1
      · rename_i w e2
        obtain ⟨dx, vs, h1, h2, h3⟩ := R1.obj D e1
        obtain ⟨u, l, r, _⟩ := fld_at h2 h3 e2
        exact ⟨a, D.C, dx, vs, u, rfl, h1, D.k.c, nf, l, k _ μ1 t1 F1 H1 u s1 R1 r⟩
      · exact t1.elim
    · exact t1.elim
  | _ => exact t1.elim
theorem ds_putA (D : OCls X.K X.mg x) (nf : NoAttr X.K D.C f) (ho : DE X o to) (hv : DE X e tv) (hs : swapsWith e (some (.Attribute o f pos')) pos.line X.env = pure false := by rfl) : DS_ X (.Assign [.Attribute o f pos'] e pos) (dPutA x f to tv) := weakS (ps_fld ho hv hs) fun D' σ H h => by
  obtain ⟨F, ρ, μ, E, R, S, t, k1, _⟩ := h
  refine ⟨F, ρ, μ, _, R, S, t, fun y μ1 t1 F1 H1 yv s1 R1 r1 => ?_⟩
  refine ⟨F1, ρ, μ1, _, R1, S.mono s1.ext, t1, fun d μ2 t2 F2 H2 v s2 R2 r2 => ?_⟩
  unfold sQ at t2
  cases r2 with
  | ref a =>
    simp only at t2
    split at t2
    · rename_i z fs e1
      obtain ⟨rfl, hl, t2⟩ := t2
      obtain ⟨dx, vs, h1, h2, h3⟩ := R2.obj D e1
      have len : vs.length = fs.length := by simpa using congrArg List.length h2
      obtain ⟨q1, q2⟩ := put_rep (f := f) (r1.mono s2.ext) h2 h3
      refine ⟨a, D.C, dx, vs, rfl, h1, D.k.c, nf, by omega, ?_⟩
      have s3 := Stp.put (F := F2) (H := H2) (o := .ins D.C dx (putF f yv vs)) (m := .obj z (putS f y fs)) e1
      exact k1 ρ _ t2 F2 _ _ ((s1.trans s2).trans s3) (R2.put e1 (.obj D.k q1 q2)) ((S.mono s1.ext).mono s2.ext)
    · exact t2.elim
  | _ => exact t2.elim
theorem de_meth {D : OCls X.K X.mg x} {M : MDef D m qual st ps} (G : FnM X.prog X.w X.base M k sp) (hq : Quiet X.A) (hr : Room n X.A) (he : DE X o to) (ha : DA X (e :: es) t) (hk : k ≤ n := by omega)
    (hst : starEach (e :: es) X.env = (false, eval e X.env) :: starEach es X.env := by rfl) (hpl : (backTo pos (starEach es X.env)).any (·.1) = false := by rfl) {pl : Sem Bool}
    (ht : eval (.Call (.Attribute o m apos) (e :: es) [] pos) X.env = (do
      let ov ← eval o X.env
      standAt apos.atName
      let (f, first) ← holding [ov] (getMethod ov m pl)
      callWith pos f first (backTo pos (starEach (e :: es) X.env)) (backToKw pos (keywordEach [] X.env))) := by rfl) : DE X (.Call (.Attribute o m apos) (e :: es) [] pos) (dMeth x m sp to t) := by
  refine ⟨fun pins s σ H Q I h => ?_⟩
  obtain ⟨F, ρ, μ, Q', R, S, t0, kk⟩ := h
  refine PySem.W.methodCall_KW (pl := pl) (thn (he.run pins s σ H (fun v H1 => ∃ a d F1 μ1, v = .ref a ∧ RepS X.K F1 d v ∧ Stp F H μ F1 H1 μ1 ∧ HReal X.K F1 H1 μ1 ∧ (∃ dx vs, H1 a = some (.ins D.C dx vs) ∧ vs.lookup m = none) ∧ t ρ μ1 fun ds μ2 => sp (d :: ds) μ2 Q' fun _ _ _ => False) I ⟨F, ρ, μ, _, R, S, t0, fun d μ1 t1 F1 H1 v s1 R1 r1 => ?_⟩) fun u s1 z => ?_) ht
  · unfold mQ at t1
    cases r1 with
    | ref a =>
      simp only at t1
      split at t1
      · rename_i z fs e1
        obtain ⟨rfl, hl, t1⟩ := t1
        obtain ⟨dx, vs, h1, h2, h3⟩ := R1.obj D e1
        exact ⟨a, _, F1, μ1, rfl, .ref a, s1, R1, ⟨dx, vs, h1, look_none h2 hl⟩, t1⟩
      · exact t1.elim
    | _ => exact t1.elim
  · obtain ⟨v, H1, I1, rx, a, d, F1, μ1, rfl, rd, sa, R1, ⟨dx, vs, h1, h2⟩, t1⟩ := z
    obtain rfl : u = Value.ref a := rx
    refine getmeth_ok I1 h1 D.k.c M.me h2 ?_
    refine PySem.W.callWith_K (first := [.ref a]) (h₀ := X.base) I.ok.mod.kin M.me.kp (thn (ha.run pos pins s1 σ H1 (fun vs H2 => ∃ F2 μ2 ds, Stp F1 H1 μ1 F2 H2 μ2 ∧ HReal X.K F2 H2 μ2 ∧ RepL X.K F2 ds vs ∧ sp (d :: ds) μ2 Q' fun _ _ _ => False) I1
      ⟨F1, ρ, μ1, _, R1, S.mono sa.ext, t1, fun ds μ2 t2 F2 H2 vs s2 R2 r2 => ⟨F2, μ2, ds, s2, R2, r2, t2⟩⟩) fun us s2 z => ?_) hst hpl
    obtain ⟨ws, H2, I2, r, F2, μ2, ds, s2, R2, r2, t2⟩ := z
    refine ⟨I2.kIn, ?_⟩
    refine call_g (us := .ref a :: us) (vs := .ref a :: ws) (dvs := []) (ds := []) (E := E0) G hq (hr.mono hk) M.b .nil pass0 I2 (.cons rfl r) ?_
    rw [List.append_nil]
    exact ⟨F2, μ2, d :: ds, Q', _, R2, .cons (rd.mono s2.ext) r2, t2, fun d' μ' q F' H' v s' R' r' => kk d' μ' q F' H' v ((sa.trans s2).trans s') R' r', fun _ _ _ q => q.elim⟩
end
end DS
namespace DS
end DS
namespace DS
end DS
namespace DS
open PySem PySem.Spec PyProof.Rows L2
def EsAre : List DictEntry → List (Str × Int) → Prop
  | [], [] => True
  | e :: r, (k, i) :: s => (∃ t, e.key = .str k t) ∧ (∃ t, e.val = .int i t) ∧ EsAre r s
  | _, _ => False
structure GDic (K : PySem.W.Frag) (wp : Params) (mg : Str → Option Value) (x : Str) (kvs : List (Str × Int)) where
  a : Addr
  m : mg x = some (.ref a)
  low : (a == sysModules) = false
  ex : ∃ es n, K.lookup a = some ⟨.type "dict", none, .dict es n, #[]⟩ ∧ PySem.W.KeysLit wp es.toList ∧ EsAre es.toList kvs
theorem es_find {z : Str} : ∀ {l : List DictEntry} {kvs : List (Str × Int)}, EsAre l kvs → (∀ i, kvs.lookup z = some i → ∃ e t, l.find? (·.key.isStr z) = some e ∧ e.val = .int i t) ∧ (kvs.lookup z = none → l.find? (·.key.isStr z) = none) ∧ l.any (·.refKey) = false
  | [], [], _ => ⟨(fun i h => by cases h), (fun _ => rfl), rfl⟩
  | [], _ :: _, h => h.elim
  | _ :: _, [], h => h.elim
  | e :: r, (k, i) :: s, h => by
    obtain ⟨⟨t, hk⟩, ⟨u, hv⟩, hr⟩ := h
    obtain ⟨i1, i2, i3⟩ := es_find (z := z) hr
    have key : e.key.isStr z = (z == k) := by
      rw [hk]
      show (k == z) = (z == k)
      exact Bool.eq_iff_iff.mpr ⟨fun q => beq_iff_eq.mpr (beq_iff_eq.mp q).symm, fun q => beq_iff_eq.mpr (beq_iff_eq.mp q).symm⟩
    have nr : e.refKey = false := by
      unfold DictEntry.refKey
      rw [hk]
    refine ⟨fun j hj => ?_, fun hn => ?_, by rw [List.any_cons, nr, i3]; rfl⟩
    · rw [List.lookup_cons] at hj
      rw [List.find?_cons, key]
      cases q : (z == k) with
      | true =>
        rw [q] at hj
        cases hj
        exact ⟨e, u, rfl, hv⟩
      | false =>
        rw [q] at hj
        exact i1 j hj
    · rw [List.lookup_cons] at hn
      rw [List.find?_cons, key]
      cases q : (z == k) with
      | true => rw [q] at hn; cases hn
      | false =>
        rw [q] at hn
        exact i2 hn
section
variable {K : PySem.W.Frag} {wp : Params} {mg : Str → Option Value} {x : Str} {kvs : List (Str × Int)}
theorem GDic.at_ (D : GDic K wp mg x kvs) (z : Str) : (∀ i, kvs.lookup z = some i → ∃ t, PySem.W.nsIn K D.a z = some (some (.int i t))) ∧ (kvs.lookup z = none → PySem.W.nsIn K D.a z = some none) := by
  obtain ⟨es, n, lk, _, ok⟩ := D.ex
  obtain ⟨i1, i2, i3⟩ := es_find (z := z) ok
  refine ⟨fun i h => ?_, fun h => ?_⟩
  · obtain ⟨e, t, e1, e2⟩ := i1 i h
    refine ⟨t, ?_⟩
    unfold PySem.W.nsIn
    rw [lk]
    simp only
    rw [e1]
    simp only
    rw [e2]
  · unfold PySem.W.nsIn
    rw [lk]
    simp only
    rw [i2 h]
    simp only
    rw [i3]
    rfl
end
section
variable {X : Cx} {x : Str} {kvs : List (Str × Int)} {e : Expr} {te : TE} {td : DTE} {p pos : Pos}
theorem GDic.hit (D : GDic X.K X.w.params X.mg x kvs) (z : Str) : ∃ r : Option Value, PySem.W.nsIn X.K D.a z = some r ∧ r.isSome = (kvs.lookup z).isSome := by
  obtain ⟨h1, h2⟩ := D.at_ z
  cases e : kvs.lookup z with
  | none => exact ⟨none, h2 e, rfl⟩
  | some i =>
    obtain ⟨t, q⟩ := h1 i e
    exact ⟨_, q, rfl⟩
end
end DS
namespace DS
end DS
namespace DS
end DS
namespace DS
end DS
namespace DS
end DS
namespace DS
open PySem PySem.Spec PyProof.Rows L2
def rLenK : List V → Hp → VK → Prop := fun xs H Q => ∃ (a : Addr) (kvs : List (Key × V)), xs = [V.ref a] ∧ H a = some (.dK kvs) ∧ Q (.int kvs.length) H
def drLenD : DRc := fun ds μ Q => match ds with
  | [d] => (match mdic μ d with
    | some (_, kvs) => Q (.int kvs.length) μ
    | none => False)
  | _ => False
theorem lc_lenD {K : PySem.W.Frag} : LRc K drLenD rLenK := fun F H μ xs ds Q' Q R r t k => by
  unfold drLenD at t
  split at t
  · rename_i d
    cases e : mdic μ d with
    | none => rw [e] at t; exact t.elim
    | some pr =>
      obtain ⟨b, kvs⟩ := pr
      rw [e] at t
      simp only at t
      match xs, r with
      | [v], .cons r1 .nil =>
        obtain ⟨rfl, hm, ws, hb, rk⟩ := R.mdic r1 e
        exact ⟨b, ws, rfl, hb, by rw [← rk.len]; exact k _ μ t _ _ _ (Stp.refl _ _ _) R (.int _)⟩
  · exact t.elim
end DS
namespace DS
end DS
namespace DS
end DS
namespace DS
open PySem PySem.Spec PyProof.Rows L2
section
variable {X : Cx} {K : PySem.W.Frag} {F H : Hp} {μ : Mu}
/-- each row of the one looked up in the other -/
inductive HitsV (K : PySem.W.Frag) (H : Hp) (ls : List (Key × V)) : List (Key × V) → Bool → Prop
  | nil : HitsV K H ls [] true
  | miss {k : Key} {v : V} {r : List (Key × V)} : valV ls k = none → HitsV K H ls ((k, v) :: r) false
  | hit {k : Key} {v u : V} {p q : PyData} {r : List (Key × V)} {b : Bool} : valV ls k = some u → Dp K H v p → Dp K H u q → SeqAt.shaped p = true → SeqAt.shaped q = true → HitsV K H ls r b → HitsV K H ls ((k, v) :: r) (PyData.eqv p q && b)
theorem HitsV.run {pins : List (Addr × Obj)} {σ : L2.St} {s : Shared} {A : Around} (I : Inv X pins σ H s) (hu : A.in1.units + 64 < cLine) {ls : List (Key × V)} {vb : List (Key × Value)} (rb : KV ls vb) {ks : List (Key × V)} {b : Bool} (h : HitsV X.K H ls ks b) :
    ∀ {va : List (Key × Value)}, KV ks va → PySem.W.KeqHits A.in1 s vb va b := by
  induction h with
  | nil => intro va ra; cases ra; exact .nil
  | @miss k v r hn =>
    intro va ra
    cases ra with
    | @cons _ y _ _ a b =>
      obtain ⟨h1, h2⟩ := a
      obtain ⟨key, v2⟩ := y
      have h1' : k = key := h1
      subst h1'
      have rr : RelO none (valueAt vb k) := by rw [← hn]; exact rb.val k
      refine .miss ?_
      cases e : valueAt vb k with
      | none => rfl
      | some z => rw [e] at rr; exact rr.elim
  | @hit k v u p q r b hy hp hq sp sq _ ih =>
    intro va ra
    cases ra with
    | @cons _ y _ _ a b =>
      obtain ⟨h1, h2⟩ := a
      obtain ⟨key, v2⟩ := y
      have h1' : k = key := h1
      subst h1'
      have rr : RelO (some u) (valueAt vb k) := by rw [← hy]; exact rb.val k
      obtain ⟨y, e, ry⟩ := rr.some_of
      obtain ⟨as, r1⟩ := Dp.reads I p _ _ hp h2
      obtain ⟨bs, r2⟩ := Dp.reads I q _ _ hq ry
      exact .hit e (PySem.W.keq_at r1 r2 sp sq hu) (ih b)
end
end DS
namespace DS
end DS
namespace DS
end DS
namespace DS
end DS
namespace DS
end DS
namespace DS
end DS
namespace DS
end DS
namespace DS
end DS
namespace DS
open PySem PySem.Spec PyProof.Rows L2
def IsSI (h : Heap) (v : Value) (p : Str × Int) : Prop := ∃ a o t u n, v = .ref a ∧ h.get? a = some o ∧ o.cls = .type "tuple" ∧ o.data = .seq #[.str p.1 t, .int p.2 u] n
theorem IsSI.keep {h h' : Heap} {v : Value} {p : Str × Int} (x : IsSI h v p) (k : ∀ b o, h.get? b = some o → o.cls = .type "tuple" → h'.get? b = some o) : IsSI h' v p := by
  obtain ⟨a, o, t, u, n, e, ho, hc, hd⟩ := x
  exact ⟨a, o, t, u, n, e, k _ _ ho hc, hc, hd⟩
theorem IsSI.uniq {h : Heap} {v : Value} {p q : Str × Int} (x : IsSI h v p) (y : IsSI h v q) : p = q := by
  obtain ⟨a, o, t, u, n, e, ho, hc, hd⟩ := x
  obtain ⟨a', o', t', u', n', e', ho', hc', hd'⟩ := y
  rw [e] at e'
  cases e'
  rw [ho] at ho'
  cases ho'
  rw [hd] at hd'
  injection hd' with h1 _
  have h2 := congrArg Array.toList h1
  injection h2 with h3 h4
  injection h3 with h3 _
  injection h4 with h4 _
  injection h4 with h4 _
  exact Prod.ext h3 h4
end DS
namespace DS
end DS
namespace DS
end DS
namespace DS
open PySem PySem.Spec PyProof.Rows L2
def IsRo (h : Heap) (v : Value) (l : List Str) : Prop := ∃ a o its n, v = .ref a ∧ h.get? a = some o ∧ o.cls = .type "tuple" ∧ o.data = .seq its n ∧ StrsAre its.toList l
theorem IsRo.keep {h h' : Heap} {v : Value} {l : List Str} (x : IsRo h v l) (k : ∀ b o, h.get? b = some o → o.cls = .type "tuple" → h'.get? b = some o) : IsRo h' v l := by
  obtain ⟨a, o, its, n, e, ho, hc, hd, r⟩ := x
  exact ⟨a, o, its, n, e, k _ _ ho hc, hc, hd, r⟩
theorem strs_uniq : ∀ {us : List Value} {a b : List Str}, StrsAre us a → StrsAre us b → a = b
  | [], _, _, .nil, .nil => rfl
  | _ :: _, _, _, .cons x t r, h => by
    cases h with
    | cons y t' r' => rw [strs_uniq r r']
theorem IsRo.uniq {h : Heap} {v : Value} {p q : List Str} (x : IsRo h v p) (y : IsRo h v q) : p = q := by
  obtain ⟨a, o, its, n, e, ho, hc, hd, r⟩ := x
  obtain ⟨a', o', its', n', e', ho', hc', hd', r'⟩ := y
  rw [e] at e'
  cases e'
  rw [ho] at ho'
  cases ho'
  rw [hd] at hd'
  injection hd' with h1 _
  rw [← h1] at r'
  exact strs_uniq r r'
end DS
namespace DS
open PySem PySem.Spec PyProof.Rows L2
/-- the set at a: S says who is in, n how many; its table stands in order -/
def TxRI (P : Program) (w : World) (h : Heap) (a : Addr) (S : Int → Bool) (n : Nat) : Prop := ∃ o es ep t, h.get? a = some o ∧ o.ExactSet ∧ o.data = .set es ep t ∧ ElemsOf (PySem.intKind P w) es.toList ∧ (∀ k, S k = true ↔ ∃ e ∈ es.toList, (PySem.intKind P w).is k e.2 = true) ∧
  es.size < scanBound ∧ t.fits es.size = true ∧ es.size = n ∧ Ris t.place.toList ∧ (w.params.followText "set-order" = true ∨ t.led = true)
section
variable {P : Program} {w : World} {A : Around} {E : Value → Shared → Prop} {s : Shared} {a : Addr} {S : Int → Bool} {n : Nat}
theorem TxRI.keep {h h' : Heap} (R : TxRI P w h a S n) (k : ∀ o, h.get? a = some o → h'.get? a = some o) : TxRI P w h' a S n := by
  obtain ⟨o, es, ep, t, ho, r⟩ := R
  exact ⟨o, es, ep, t, k o ho, r⟩
end
/-- the set at a: who is in is in ns, as many as u has -/
def TxSetI (P : Program) (w : World) (h : Heap) (a : Addr) (ns u : List Int) : Prop := TxRI P w h a (fun j => decide (j ∈ ns)) u.length
section
variable {P : Program} {w : World} {A : Around} {E : Value → Shared → Prop} {s : Shared}
theorem TxSetI.keep {h h' : Heap} {a : Addr} {ns u : List Int} (R : TxSetI P w h a ns u) (k : ∀ o, h.get? a = some o → h'.get? a = some o) : TxSetI P w h' a ns u := TxRI.keep R k
end
end DS
namespace DS
end DS
namespace DS
end DS
namespace DS
end DS
namespace SKT
end SKT
namespace DS
open PySem PySem.Spec PyProof.Rows L2
/-- the lambda's code object was there, or is new and told by the table at P -/
def MadeL (H : Hp) (P : Addr) (q : Str) (H1 : Hp) : Prop := H1 = H ∨ ∃ (ps more : Array Value) (c' : Addr), H P = some (.tbl ps) ∧ H c' = none ∧ H1 = upd (upd H P (.tbl (ps ++ more))) c' (LamX.CodeO c' q) ∧ TriplesOk (ps ++ more).toList ∧
  ∀ (pos : Pos) (cv : Value), codeAmong pos (ps ++ more).toList = some cv → codeAmong pos ps.toList = some cv ∨ cv = .ref c'
/-- the module of the builtins, as the beginning has it -/
def BM (base : Heap) (mg : Str → Option Value) : Prop := ∃ (bm : Addr) (o : Obj), mg "__builtins__" = some (.ref bm) ∧ bm ≠ builtinsNs ∧ bm ≠ mainGlobals ∧ base.get? bm = some o ∧ o.cls = .type "module" ∧ o.dict = some builtinsNs ∧ o.data = .plain
/-- it is the code of the def named x that runs -/
def OwnC (X : Cx) (x : Str) : Prop := ∃ (f : Addr) (oc : Value) (od : Option Addr) (fd : FuncData) (osl : Array (Option Value)), X.mg x = some (.ref f) ∧ X.K.lookup f = some ⟨oc, od, .func fd, osl⟩ ∧ fd.code = X.env.code
theorem tabB_of {X : Cx} {pins : List (Addr × Obj)} {σ : L2.St} {H : Hp} {s : Shared} {x : Str} {P : Addr} {ps : Array Value} (I : Inv X pins σ H s) (hb : BM X.base X.mg) (hw : OwnC X x) (hT : TabAt X.K x P) (hP : H P = some (.tbl ps)) : ∃ c, X.env.code = .ref c ∧ LamX.TabB X.base X.mg c P := by
  obtain ⟨f, c, oc, od, fd, osl, h1, h2, h3, h4⟩ := hT
  obtain ⟨f', oc', od', fd', osl', g1, g2, g3⟩ := hw
  have e := PySem.W.mg_of I.mod.kin I.mod.glob h1
  rw [g1] at e; cases e
  rw [h2] at g2; cases g2
  have atP : s.heap.get? P = some { cls := .none, data := .fields ps } := I.hok P _ hP
  obtain ⟨bm, o, b1, b2, b3, b4, b5, b6, b7⟩ := hb
  refine ⟨c, by rw [← g3, h3], PySem.W.codeHd_of_K I.mod.kin h4, ⟨bm, o, b1, b2, b3, fun z => ?_, b4, b5, b6, b7⟩, fun z => ?_⟩
  · have := I.bk _ _ b4
    rw [z, atP] at this; cases this; cases b7
  · obtain ⟨o, es, ep, ho, hd, _⟩ := I.mod.glob
    have := I.bk _ _ ho
    rw [z, atP] at this; cases this; cases hd
end DS
namespace DS
end DS
namespace DS
open PySem PySem.Spec PyProof.Rows L2
/-- the table has grown by the lambda's code object -/
theorem HReal.made {K : PySem.W.Frag} {F H H2 : Hp} {μ : Mu} {P : Addr} {x q : Str} (R : HReal K F H μ) (hP : μ P = some (.tab P x q)) (m : MadeL H P q H2) : ∃ F2, HReal K F2 H2 μ ∧ Stp F H μ F2 H2 μ := by
  rcases m with rfl | ⟨ps, more, c', h1, h2, rfl, h3, h4⟩
  · exact ⟨F, R, Stp.refl _ _ _⟩
  · have hF := R.freeF h2
    have hPF := (R.mus P _ hP).1
    have Pc : P ≠ c' := fun z => by rw [z, h2] at h1; cases h1
    have ex : Ext F (upd F c' (LamX.CodeO c' q)) := Ext.new hF
    refine ⟨upd F c' (LamX.CodeO c' q), ⟨fun a o e => ?_, fun a n e => ?_⟩, ⟨ex, fun a z1 z2 z3 => ?_⟩⟩
    · by_cases ha : a = c'
      · subst ha; rw [upd_same] at e ⊢; exact e
      · rw [upd_ne ha] at e
        have aP : a ≠ P := fun z => by rw [z, hPF] at e; cases e
        rw [upd_ne ha, upd_ne aP]; exact R.sub a o e
    · obtain ⟨z, o, q1, r⟩ := R.mus a n e
      have ha : a ≠ c' := fun z => by rw [z, h2] at q1; cases q1
      refine ⟨by rw [upd_ne ha]; exact z, ?_⟩
      by_cases aP : a = P
      · subst aP
        rw [hP] at e; cases e
        rw [h1] at q1; cases q1
        refine ⟨_, by rw [upd_ne Pc, upd_same], ?_⟩
        cases r with
        | tab t1 t2 t3 =>
          refine .tab t1 h3 fun pos cv hc => ?_
          rcases h4 pos cv hc with hc | rfl
          · obtain ⟨c, e1, e2⟩ := t3 pos cv hc
            exact ⟨c, e1, ex.st _ _ rfl e2⟩
          · exact ⟨c', rfl, upd_same⟩
      · exact ⟨o, by rw [upd_ne ha, upd_ne aP]; exact q1, r.mono ex⟩
    · have ha : a ≠ c' := fun z => z1 (by rw [z]; exact h2)
      have aP : a ≠ P := fun z => by rw [z, hP] at z3; cases z3
      exact ⟨by rw [upd_ne ha, upd_ne aP], by rw [upd_ne ha]; exact z2, z3⟩
section
variable {P : Program} {w : World} {K : PySem.W.Frag} {mg : Str → Option Value} {base : Heap}
theorem def_okL {x : Str} {st : Stmt} {N ps : List Str} {k : Nat} {sp : DSp} (D : Def K mg x st ps) (S : FnScope N ps (defScope st)) (t : DTS) (len : ∀ ds μ Q E, sp ds μ Q E → ds.length = ps.length)
    (walk : ∀ (cdv : Value) (A : Around) (outer : List Env) (s : Shared) (H : Hp) (E : XK), Quiet A → Room k (A.deeper (envOfC x (defScope st) s.heap.objs.size D.f cdv)) → OwnC (cxOf CX0 P w K mg base N x (defScope st) D.f cdv A outer s H E).nox x →
      DSs (cxOf CX0 P w K mg base N x (defScope st) D.f cdv A outer s H E).nox (defBody st) t)
    (read : ∀ ds μ Q E, sp ds μ Q E → t { nx := fun _ μ' => Q .non μ', rt := Q } (begin_ N ds) μ) : FnD P w base D (k + 1) sp := by
  obtain ⟨f, fd, DF, Dm, Db⟩ := D
  obtain ⟨oc, od, kV, doc, pm, an, cdv, ct, osl, rfl, lk, hcd⟩ := DF.ex
  refine fnG_of lk hcd S (fun vs H Q E h => ?_) fun A outer s H vs Q E quiet room want => ?_
  · obtain ⟨F, μ, ds, Q', E', _, r, q, _⟩ := h
    rw [← r.length]; exact len ds μ Q' E' q
  · obtain ⟨F, μ, ds, Q', E', R, r, q, k1, _⟩ := want
    refine ⟨_, (walk cdv A outer s H E quiet room ⟨f, _, _, _, _, Dm, lk, rfl⟩).nox, F, begin_ N ds, μ, _, R, slots_begin r, read ds μ Q' E' q, ?_, k1, fun _ _ z => False.elim z, fun _ _ z => False.elim z⟩
    exact fun ρ' μ' q F' H' σ' s' R' _ => k1 .non μ' q F' H' .non s' R' .non
end
end DS
namespace DS
open PySem PySem.Spec PyProof.Rows L2
theorem lawGT {P : Program} {w : World} {K : PySem.W.Frag} {mg mb : Str → Option Value} {CX : CXT} {k : Nat} {fa a T : Addr} {fd : FuncData} {x : Str} {sp : Sp} {s₁ : Shared} {vs : List Value} {ns : List Int}
    (KX : K.In s₁.heap) (hns : s₁.heap.Ns mainGlobals mg) (hb : s₁.heap.Ns builtinsNs mb) (hbb : ∀ x : Str, x ≠ "__name__" → mb x = bootBuiltins x) (hlim : s₁.heap.NoLimit) (hgens : s₁.gens = #[])
    (tT : s₁.heap.get? T = some { cls := .none, data := .fields #[] }) (tK : K.lookup T = none) (tC : isCodeTable s₁.heap T)
    (hbm : ∃ (bm : Addr) (o : Obj), mg "__builtins__" = some (.ref bm) ∧ bm ≠ builtinsNs ∧ s₁.heap.get? bm = some o ∧ o.cls = .type "module" ∧ o.dict = some builtinsNs ∧ o.data = .plain)
    (script : s₁.heap.get? a = some { cls := .type "list", data := .seq vs.toArray }) (hi : IntsAre vs ns) (hl : ns.length ≤ sizeLine) (hr : Room k callerA)
    (F : ∀ base : Heap, K.In base → base.Ns mainGlobals mg → BM base mg → FnG P w K mg base CX k fa fd [x] sp) (hbind : ∀ (s : Shared) (u : Value), BindsTo s fd ⟨[u], []⟩ [(x, u)])
    (promise : ∀ H : Hp, H T = some (.tbl #[]) → SqL K H a (ns.map V.int) → sp [.ref a] H (fun v _ => v = .bl true) fun _ _ _ => False) (quiet : ∀ H e s', CX [] H s₁ (fun _ _ _ => False) e s' → False) :
    codeAny (model P w) callerA (.call (.ref fa) ⟨[.ref a], []⟩) (fun r s' => r = .ok (.ret (.bool true)) ∧ OldK s₁.heap s'.heap ∧ s'.os = s₁.os ∧ AllBare s'.gens) s₁ := by
  have vals := vals_ints hi
  have same := hi.length
  have aT : a ≠ T := fun z => by
    rw [z, tT] at script
    exact nomatch (congrArg Obj.data (Option.some.inj script) : Data.fields #[] = Data.seq vs.toArray _)
  have main : ∀ H : Hp, H T = some (.tbl #[]) → (∀ b, b ≠ T → H b = none ∨ ∃ ob xs, H b = some (.frz ob (.lst xs))) → SqL K H a (ns.map V.int) → HOk P w H s₁.heap → (∀ b, b ≠ T → H b ≠ none → b = a ∧ K.lookup a = none) →
      codeAny (model P w) callerA (.call (.ref fa) ⟨[.ref a], []⟩) (fun r s' => r = .ok (.ret (.bool true)) ∧ OldK s₁.heap s'.heap ∧ s'.os = s₁.os ∧ AllBare s'.gens) s₁ := by
    intro H hT only seen holds only_a
    have none_at : ∀ b, b ≠ T → (b = a → K.lookup a ≠ none) → H b = none := fun b bT hb => by
      cases q : H b with
      | none => rfl
      | some u =>
        obtain ⟨e1, e2⟩ := only_a b bT (by rw [q]; exact fun z => nomatch z)
        exact absurd e2 (hb e1)
    have other : ∀ {b : Addr} {o : Obj}, s₁.heap.get? b = some o → (∀ us n, o.data ≠ .seq us n) → o.data ≠ .fields #[] → H b = none := fun {b o} e d1 d2 => by
      have bT : b ≠ T := fun z => by
        rw [z, tT] at e
        exact d2 (congrArg Obj.data (Option.some.inj e)).symm
      cases q : H b with
      | none => rfl
      | some u =>
        obtain ⟨ea, _⟩ := only_a b bT (by rw [q]; exact fun z => nomatch z)
        rw [ea, script] at e
        exact absurd (congrArg Obj.data (Option.some.inj e)).symm (d1 _ _)
    have ns_of : ∀ {b : Addr} {m : Str → Option Value}, s₁.heap.Ns b m → (hidT s₁.heap H).Ns b m := fun ⟨o, es, ep, e, d, r⟩ =>
      ⟨o, es, ep, hidT_get e (other e (fun us n z => by rw [d] at z; cases z) fun z => by rw [d] at z; cases z), d, r⟩
    have kb : K.In (hidT s₁.heap H) := fun b o e => hidT_get (KX b o e) (none_at b (fun z => by rw [z, tK] at e; cases e) fun z => by subst z; rw [e]; exact fun q => nomatch q)
    have md : Mod K mg (hidT s₁.heap H) := ⟨kb, ns_of hns, ⟨mb, ns_of hb, hbb⟩, let ⟨mc, h1, h2⟩ := hlim; ⟨mc, ns_of h1, h2⟩⟩
    have bmd : BM (hidT s₁.heap H) mg := by
      obtain ⟨bm, o, b1, b2, b3, b4, b5, b6⟩ := hbm
      refine ⟨bm, o, b1, b2, fun z => ?_, hidT_get b3 (other b3 (fun us n z => by rw [b6] at z; cases z) fun z => by rw [b6] at z; cases z), b4, b5, b6⟩
      obtain ⟨o', es, ep, e, d, _⟩ := hns
      rw [z, e] at b3
      cases b3
      rw [d] at b6; cases b6
    have e0 : Env0 P w K mg (hidT s₁.heap H) callerA [] s₁ H := ⟨rfl, md, fun b o e => of_hidT e, Nat.le_of_eq (hidT_size _ _), trivial, fun b hb => absurd (show b ∈ ([] : List Addr) from hb) (by simp), holds, .of_eq hgens⟩
    refine codeAny_mono ((F _ kb (ns_of hns) bmd).go callerA [] s₁ H ⟨[.ref a], []⟩ [.ref a] [.ref a] _ _ rfl hr e0 (hbind s₁ (.ref a)) (.cons rfl .nil) (promise H hT seen)) fun out s' h => ?_
    match out, h with
    | .error e, h => exact (quiet H e s' h).elim
    | .ok .next, h => exact False.elim h
    | .ok .brk, h => exact False.elim h
    | .ok .cont, h => exact False.elim h
    | .ok (.ret u), h =>
      obtain ⟨v, H', os, bare, un, holds', rel, q⟩ := h
      obtain rfl : v = .bl true := q
      obtain rfl : u = Value.bool true := rel
      have stays : ∀ b o, b ≠ T → s₁.heap.get? b = some o → s'.heap.get? b = some o := fun b o bT e => by
        rcases only b bT with z | ⟨ob, xs, z⟩
        · exact un.keep b o e z (by intro z; exact absurd (show b ∈ ([] : List Addr) from z) (by simp)) (by simp)
        · have now := un.frzs b ob _ z
          obtain ⟨e1, _⟩ := holds b _ z
          obtain ⟨e2, _⟩ := holds' b _ now
          rw [e] at e1; cases e1
          exact e2
      obtain ⟨more, hm⟩ := un.tbls T #[] hT
      have grown : s'.heap.get? T = some { cls := .none, data := .fields (#[] ++ more) } := holds' T _ hm
      refine ⟨rfl, ⟨fun b o e => ?_, fun b o e => ?_⟩, os, bare⟩
      · by_cases bT : b = T
        · subst bT
          rw [tT] at e; cases e
          exact .inr (.inl ⟨tC, rfl, #[], more, rfl, grown⟩)
        · exact .inl (stays b o bT e)
      · by_cases bT : b = T
        · subst bT; exact ⟨_, grown⟩
        · exact ⟨o, stays b o bT e⟩
  by_cases hk : K.lookup a = none
  · refine main (fun b => if b = T then some (.tbl #[]) else if b = a then some (.frz { cls := .type "list", data := .seq vs.toArray } (.lst (ns.map V.int))) else none) (if_pos rfl) (fun b bT => ?_) (.inl (.inr ⟨{ cls := .type "list", data := .seq vs.toArray }, by show (if a = T then _ else _) = _; rw [if_neg aT, if_pos rfl]⟩)) (fun b u z => ?_) fun b bT z => ?_
    · by_cases hb : b = a
      · exact .inr ⟨_, _, by show (if b = T then _ else _) = _; rw [if_neg bT, if_pos hb]⟩
      · exact .inl (by show (if b = T then _ else _) = _; rw [if_neg bT, if_neg hb])
    · by_cases bT : b = T
      · have z : some (HO.tbl #[]) = some u := (if_pos bT).symm.trans z
        cases z
        subst bT
        exact tT
      · have z : (if b = a then some (HO.frz { cls := .type "list", data := .seq vs.toArray } (.lst (ns.map V.int))) else none) = some u := (if_neg bT).symm.trans z
        by_cases hb : b = a
        · cases (if_pos hb).symm.trans z
          subst hb
          exact ⟨script, by rw [List.length_map]; exact hl, vs, _, vals, script⟩
        · cases (if_neg hb).symm.trans z
    · by_cases hb : b = a
      · exact ⟨hb, hk⟩
      · exact absurd (by show (if b = T then _ else _) = _; rw [if_neg bT, if_neg hb]) z
  · obtain ⟨o, ho⟩ := Option.ne_none_iff_exists'.mp hk
    have e := KX a o ho
    rw [script] at e
    cases e
    refine main (fun b => if b = T then some (.tbl #[]) else none) (if_pos rfl) (fun b bT => .inl (if_neg bT)) (.inr ⟨_, vs.toArray, _, ho, rfl, rfl, rfl, by rw [List.size_toArray, same]; exact hl, by simpa using vals⟩) (fun b u z => ?_) fun b bT z => absurd (if_neg bT) z
    by_cases bT : b = T
    · have z : some (HO.tbl #[]) = some u := (if_pos bT).symm.trans z
      cases z
      subst bT
      exact tT
    · exact nomatch (if_neg bT).symm.trans z
/-- x0: the def that makes functions -/
theorem walkGT {l : PySem.W.OpenLaw} {n k : Nat} {q : Program} {loose : List Str} {XP : (Str → Option Value) → Heap → Prop} {YP : World → Heap → Prop} {d : DefRec} {K : Params → PySem.W.Frag} {CX : CXT} {sp : PySem.W.Frag → Sp} {x x0 : Str}
    (hn : l.most = some n) (hn2 : n ≤ sizeLine) (hdf : d.params.defaults = []) (hr : Room k callerA) (hY : ∀ (w : World) (h : Heap), YP w h → (K w.params).In h) (hrec : ((recsOf q).any fun e => e.name == x0) = true)
    (F : ∀ (w : World) (mg : Str → Option Value) (fa : Addr) (h : Heap), (K w.params).In h → h.Ns mainGlobals mg → mg d.name = some (.ref fa) →
      ∃ (T : Addr) (fd : FuncData), TabAt (K w.params) x0 T ∧ (K w.params).lookup T = none ∧ (∀ (s : Shared) (u : Value), BindsTo s fd ⟨[u], []⟩ [(x, u)]) ∧ ∀ base : Heap, (K w.params).In base → base.Ns mainGlobals mg → BM base mg → FnG l.prog w (K w.params) mg base CX k fa fd [x] (sp (K w.params)))
    (hsp : ∀ (K : PySem.W.Frag) (H : Hp) (a T : Addr) (ns : List Int), ns.length ≤ n → TabAt K x0 T → H T = some (.tbl #[]) → SqL K H a (ns.map V.int) → sp K [.ref a] H (fun v _ => v = .bl true) fun _ _ _ => False)
    (hCX : ∀ (H : Hp) (s : Shared) (e : Value) (s' : Shared), CX [] H s (fun _ _ _ => False) e s' → False) : PySem.W.WalkO q loose XP YP l.row.toRowW d [] (fun f vs => PySem.call f vs) :=
  Att.attach_call hn hdf fun w s₀ s₁ mg mb fa o pm cd doc a vs ns G Y ho hd hcd hmg hobj hints hlen hg => by
    have KX := hY w _ Y
    obtain ⟨T, fd, hT, nT, hb, hF⟩ := F w mg fa _ KX G.T.g hmg
    obtain ⟨dL, hm, hn1⟩ := List.any_eq_true.mp hrec
    have hn2' : dL.name = x0 := beq_iff_eq.mp hn1
    obtain ⟨f', o', fd', c', T', t1, t2, t3, t4, t5, t6⟩ := G.T.tab dL hm
    have hT0 := hT
    obtain ⟨f, c, oc, od, fd0, osl, g1, g2, g3, g4⟩ := hT
    rw [hn2', PySem.W.mg_of KX G.T.g g1] at t1
    cases t1
    rw [KX _ _ g2] at t2
    cases t2
    cases t3
    rw [g3] at t4
    cases t4
    have hd' := PySem.W.codeHd_of_K KX g4
    obtain ⟨o1, us, file, tf, flags, tg, inF, text, tt, e1, r1, r2, r3, _⟩ := hd'
    obtain ⟨⟨o2, us2, e2, _, q2, q3⟩, q4⟩ := id t6
    rw [e1] at e2
    cases e2
    rw [r2] at q2
    cases q2
    rw [r3] at q3
    cases q3
    exact lawGT KX G.T.g G.T.b G.T.builtins G.T.nolimit hg q4 nT t6.isCodeTable G.T.bmain hobj hints (Nat.le_trans hlen hn2) hr hF hb (fun H h1 h2 => hsp _ H a _ ns hlen hT0 h1 h2) fun H e s' => hCX H s₁ e s'
/-- the script is handed in, the table is empty -/
theorem law_startT {K : PySem.W.Frag} {H : Hp} {a T : Addr} {ns : List Int} {sp : DSp} {x q : Str} (hA : TabAt K x T) (hT : H T = some (.tbl #[])) (hS : SqL K H a (ns.map V.int)) (h : ∀ μ, μ T = some (.tab T x q) → sp [.rol (ns.map SD.int)] μ (fun d _ => d = .bl true) (fun _ _ _ => False)) : LSp K sp [.ref a] H (fun v _ => v = .bl true) fun _ _ _ => False := by
  have sq : SqL K (fun b => if b = T then none else H b) a (ns.map V.int) := by
    rcases hS with (z | ⟨o, z⟩) | z
    · refine .inl (.inl ?_)
      show (if a = T then none else H a) = _
      rw [if_neg (fun e => by rw [e, hT] at z; cases z)]; exact z
    · refine .inl (.inr ⟨o, ?_⟩)
      show (if a = T then none else H a) = _
      rw [if_neg (fun e => by rw [e, hT] at z; cases z)]; exact z
    · exact .inr z
  refine ⟨fun b => if b = T then none else H b, fun b => if b = T then some (.tab T x q) else none, [.rol (ns.map SD.int)], _, _, ⟨fun b o e => ?_, fun b m e => ?_⟩, .one (.rol sq (RepL.ofInts ns)), h _ (if_pos rfl), fun d μ' q F' H' v s R r => by subst q; cases r; rfl, fun _ _ _ q => q.elim⟩
  · by_cases hb : b = T
    · exact nomatch (if_pos hb).symm.trans e
    · exact (if_neg hb).symm.trans e
  · by_cases hb : b = T
    · cases (if_pos hb).symm.trans e
      subst hb
      exact ⟨if_pos rfl, _, hT, .tab hA trivial fun pos cv hc => by
        have z : codeAmong pos [] = some cv := hc
        simp [codeAmong] at z⟩
    · exact nomatch (if_neg hb).symm.trans e
end DS
namespace DS
open PySem PySem.Spec PyProof.Rows L2
/-- the code object of the def at f, and its table -/
def tabOf (K : PySem.W.Frag) (f : Addr) : Addr × Addr := match K.lookup f with
  | some ⟨_, _, .func fd, _⟩ => (match fd.code with
    | .ref c => (match K.lookup c with
      | some ⟨_, _, .fields vs, _⟩ => (match (vs[11]? : Option Value) with
        | some (.ref P) => (c, P)
        | _ => (0, 0))
      | _ => (0, 0))
    | _ => (0, 0))
  | _ => (0, 0)
end DS
namespace DS
end DS
namespace DS
end DS
namespace DS
end DS
namespace DS
open PySem PySem.Spec PyProof.Rows L2
def ItK (b : Bool) (h : Heap) (it a : Addr) (i : Nat) : Prop := if b = true then h.IsTupleIter it a i else h.IsListIter it a i
def itO (b : Bool) (a : Addr) : Obj := { cls := .type (if b = true then "tuple_iterator" else "list_iterator"), data := .fields #[.ref a, .int 0 0] }
theorem ItK.ob {b : Bool} {h : Heap} {it a : Addr} {i : Nat} (x : ItK b h it a i) : ∃ o, h.get? it = some o ∧ ∀ v, o.data ≠ .cell v := by
  unfold ItK at x
  cases b with
  | true =>
    obtain ⟨o, e, _, d⟩ := (show h.IsTupleIter it a i from x)
    exact ⟨o, e, fun v z => by rw [d] at z; cases z⟩
  | false =>
    obtain ⟨o, e, _, d⟩ := (show h.IsListIter it a i from x)
    exact ⟨o, e, fun v z => by rw [d] at z; cases z⟩
theorem ItK.start {b : Bool} {h : Heap} {it a : Addr} (e : h.get? it = some (itO b a)) : ItK b h it a 0 := by
  unfold ItK
  cases b with
  | true => exact ⟨_, e, rfl, rfl⟩
  | false => exact ⟨_, e, rfl, rfl⟩
end DS
namespace DS
open PySem PySem.Spec PyProof.Rows L2
/-- divmod by a positive divisor -/
def drDivmod : DRc := fun ds μ Q => match ds with
  | [.int i, .int j] => CDivP i j ∧ Q (.tup [.int (i / j), .int (i % j)]) μ
  | _ => False
section
variable {K : PySem.W.Frag}
theorem lc_divmod : LRc K drDivmod (fun xs H Q => ∃ i j, xs = [.int i, .int j] ∧ CDivP i j ∧ ∀ p, H p = none → Q (.ref p) (upd H p (.tup [.int (i / j), .int (i % j)]))) := fun F H μ xs ds Q' Q R r t k => by
  unfold drDivmod at t
  split at t
  · cases r with
    | cons r1 r2 => cases r2 with
      | cons r3 r4 =>
        cases r4; cases r1; cases r3
        obtain ⟨c, t⟩ := t
        exact ⟨_, _, rfl, c, fun q hq => k _ μ t _ _ _ (Stp.newS R hq) (R.newS hq) (.tup (.inl (.inl upd_same)) (.cons (.int _) (.one (.int _))))⟩
  · exact t.elim
theorem bt_divmod : bootBuiltins "divmod" = some (.builtin "divmod") := by decide +kernel
theorem divP {i j : Int} (h0 : 0 ≤ i) (hj : 0 < j) (h : i < 2 ^ 1000) : CDivP i j := divp_ok hj (by
  have := PyProof.Rows.intBits_le (a := i) (k := 1000) (by omega)
  omega)
end
end DS
namespace DS
end DS
namespace DS
end DS
namespace DS
end DS
namespace DS
open PySem PySem.Spec PyProof.Rows L2
/-- what the clause 'except c as n' wishes: behind the suite the error's object is known -/
def wTrk (K : PySem.W.Frag) (c : Value) (i : Nat) (ts : Addr → Value → Option Addr → TS) (Wout : WX) (D : Ends) : WX := fun cls d σ H =>
  ∃ b, PySem.W.exmOne K cls c = some b ∧ (b = true → ∃ C, cls = .ref C ∧ ∀ a, H a = none → ts a cls d
    { nx := fun σ' H' => D.nx (σ'.set i none) (upd H' a (exq a C d)), rt := fun v H' => D.rt v (upd H' a (exq a C d)), bk := fun σ' H' => D.bk (σ'.set i none) (upd H' a (exq a C d)), ct := fun σ' H' => D.ct (σ'.set i none) (upd H' a (exq a C d)) } (σ.set i (some (.ref a))) H) ∧
    (b = false → Wout cls d σ H)
section
variable {X : Cx} {pins : List (Addr × Obj)} {σ : L2.St} {H : Hp} {s : Shared}
theorem inv_unsuite {a : Addr} {q : Addr × Obj} {pn' : List (Addr × Obj)} (I : Inv (X.suite a (q :: (X.pn ++ pins))) pn' σ H s) (ok : X.Ok) : Inv X (q :: pins) σ H s :=
  ⟨ok, I.os, I.bare, I.base, I.loc, I.cell, I.free, I.freeC, fun p hp => I.pin p (List.mem_append_left _ (by
    rcases List.mem_append.mp hp with h | h
    · exact List.mem_cons_of_mem _ (List.mem_append_left _ h)
    · rcases List.mem_cons.mp h with h | h
      · rw [h]; exact List.mem_cons_self ..
      · exact List.mem_cons_of_mem _ (List.mem_append_right _ h))), I.hok, I.len⟩
/-- an error's object that has come since the def was entered is known from now on -/
theorem inv_track {a C : Addr} {d : Option Addr} {oe : Obj} {vs : Array Value} (I : Inv X ((a, oe) :: pins) σ H s) (fresh : X.s_0.heap.get? a = none) (hd : oe.data = .fields vs) (hz : Zc (.ref C) d oe) (np : ∀ p ∈ X.pn ++ pins, p.1 ≠ a) : Inv X pins σ (upd H a (exq a C d)) s := by
  obtain ⟨e1, e2, e3, e4, e5⟩ := I.pin (a, oe) (List.mem_append_right _ (List.mem_cons_self ..))
  have e1 : s.heap.get? a = some oe := e1
  have e2 : H a = none := e2
  have sub : ∀ {p : Addr × Obj}, p ∈ X.pn ++ pins → p ∈ X.pn ++ ((a, oe) :: pins) := fun {p} hp => by
    rcases List.mem_append.mp hp with h | h
    · exact List.mem_append_left _ h
    · exact List.mem_append_right _ (List.mem_cons_of_mem _ h)
  have nb : ∀ {b : Addr} {o : Obj}, X.s_0.heap.get? b = some o → b ≠ a := fun {b o} e z => by rw [z, fresh] at e; cases e
  have nH : ∀ {b : Addr} {u : HO}, H b = some u → b ≠ a := fun {b u} e => ne_of_none e e2
  refine ⟨I.ok, I.os, I.bare, ⟨I.base.keep, I.base.slot, fun b o e n hx => ?_, I.base.there, fun b xs e => ?_, fun b o u e => ?_, fun b ps e => ?_⟩, I.loc, I.cell, ?_, fun y c e => ?_, fun p hp => ?_, fun b u e => ?_, I.len⟩
  · rw [upd_ne (nb e)]; exact I.base.free b o e n hx
  · have := I.base.tups b xs e
    rw [upd_ne (nH this)]; exact this
  · have := I.base.frzs b o u e
    rw [upd_ne (nH this)]; exact this
  · obtain ⟨more, this⟩ := I.base.tbls b ps e
    exact ⟨more, by rw [upd_ne (nH this)]; exact this⟩
  · rw [upd_ne (fun z => e3 z.symm)]; exact I.free
  · have hc : c ≠ a := fun z => by
      obtain ⟨v, o, ho, hcd⟩ := I.cell y c e
      rw [z, e1] at ho
      cases ho
      rw [hd] at hcd; cases hcd
    rw [upd_ne hc]; exact I.freeC y c e
  · obtain ⟨f1, f2, f3, f4, f5⟩ := I.pin p (sub hp)
    exact ⟨f1, by rw [upd_ne (np p hp)]; exact f2, f3, f4, f5⟩
  · by_cases hb : b = a
    · subst hb
      rw [upd_same] at e
      cases e
      exact ⟨⟨oe, vs, e1, hz, hd⟩, ⟨oe, e1⟩, fun h1 h2 ⟨oe, vs, g1, g2, g3⟩ st => ⟨oe, vs, st _ g1, g2, g3⟩⟩
    · rw [upd_ne hb] at e
      exact (I.hok b u e).stay (fun _ _ _ q => q) (fun d q => by rw [upd_ne (nH q)]; exact q) fun d xs q => by rw [upd_ne (nH q)]; exact q
end
section
variable {X : Cx} {x n : Str} {c : Value} {i : Nat} {body suite : List Stmt} {b₀ : Stmt} {np pos pos' : Pos} {tb : WX → TS} {ts : Addr → Value → Option Addr → TS} {Wout : WX}
theorem ps_try_trk (hs : X.stack = X.env :: X.outer) (hf : X.env.frame = some X.env.locals) (hex : X.ex = []) (hN : X.N.Nodup) (hi : X.N[i]? = some n) (hln : X.env.kindOf n = some .local) (hc : Names X x c) (tk : Takes X Wout)
    (hb : ∀ (W : WX) (pn : List (Addr × Obj)) (xe : Value → Shared → Prop), Takes (X.tr pn xe) W → PassesOwn (model X.prog X.w) X.A X.env xe → PSs (X.tr pn xe) body (tb W))
    (hsu : ∀ (a : Addr) (oe : Obj) (cls : Value) (d : Option Addr) (pn : List (Addr × Obj)), Zc cls d oe → (∃ vs, oe.data = .fields vs) → PSs (X.suite a ((a, oe) :: pn)) (b₀ :: suite) (ts a cls d)) :
    PS X (.Try body [.ExceptHandler (some (.Name x np)) (some n) (b₀ :: suite) pos'] [] [] pos) (fun D σ H => tb (wTrk X.K c i ts Wout D) D σ H) := by
  refine ⟨fun pins s σ H D I h => ?_⟩
  have ok := I.ok
  have hfr : X.A.frames = some (X.env :: X.outer) := by rw [ok.frames, hs]
  have hloc : Loc X.env.scope n := .inl hln
  refine wpAny_Try_except ?_
  refine wpAny_mono ((hb (wTrk X.K c i ts Wout D) (X.pn ++ pins) (fun e s₁ => wpAny (model X.prog X.w) X.A (noteFrame e X.env) (fun _ s₂ => wpAny (model X.prog X.w) X.A (setFlight e none) (fun _ s₃ =>
    wpAny (model X.prog X.w) X.A (handleBy e X.env [.ExceptHandler (some (.Name x np)) (some n) (b₀ :: suite) pos']) (SP X pins D) X.xe s₃) X.xe s₂) X.xe s₁) (fun u s' xx => ?_) PassesOwn.looking).run [] s σ H D (I.toTry _) h) (fun f s1 hsp => ?_) (fun e s1 he => he)
  · obtain ⟨a, B, sI, pins', σ', H', cls, d, rfl, J', nb, up, sky, na, os, ag, b, hb1, hyes, hno⟩ := xx
    have J : Inv X pins σ' H' sI := J'.ofTry ok
    have sky' : Sky B (X.env :: X.outer) a (Zc cls d) X.env.locals s'.heap := by rw [← hs]; exact sky
    show wpAny (model X.prog X.w) X.A (noteFrame (.ref a) X.env) _ _ _
    refine Sky.land Zc.steady hfr hf sky' fun h3 fl3 up3 => ?_
    have J3 : Inv X pins σ' H' { s' with heap := h3 } := J.landed nb fl3.1 (up.trans up3) os ag
    obtain ⟨oe3, vs3, he3, hz3, hd3⟩ := fl3.there
    have notFr : ∀ {h : Heap} {o : Obj} {vs : Array Value}, h.FunFrames B (X.env :: X.outer) → h.get? a = some o → o.data = .fields vs → a ∉ frs (X.env :: X.outer) := fun {h o vs} ff e dd hm => by
      obtain ⟨_, o', e', hnf⟩ := ff.mem hm
      rw [e] at e'; cases e'
      exact hnf _ dd
    have nfr := notFr fl3.2.2.1 he3 hd3
    have nL : a ≠ X.env.locals := fun z => nfr (List.mem_filterMap.mpr ⟨X.env, List.mem_cons_self, by rw [hf, z]⟩)
    have nF : a ∉ X.fs := fun hm => by
      obtain ⟨e, he, q⟩ := List.mem_filterMap.mp hm
      exact nfr (List.mem_filterMap.mpr ⟨e, List.mem_cons_of_mem _ he, q⟩)
    have notI : ∀ o, sI.heap.get? a ≠ some o := fun o e => by
      have := nb a o e (by rw [hs]; exact nfr)
      rw [fl3.2.1] at this; cases this
    have fresh : X.s_0.heap.get? a = none := by
      cases q : X.s_0.heap.get? a with
      | none => rfl
      | some o =>
        obtain ⟨o', e'⟩ := J.base.there a o q (by rw [hex]; simp)
        exact (notI o' e').elim
    have npin : ∀ p ∈ X.pn ++ pins, p.1 ≠ a := fun p hp z => notI p.2 (by have := (J.pin p hp).1; rw [z] at this; exact this)
    have S3 := J3.suite he3 hd3 na nL nF
    refine wpAny_handleBy_cons (codeAny_handlers_test ?_) (by intro q; cases q)
    have LT : PySem.W.Looks (model X.prog X.w) h3 (typeOf (.ref a)) cls := fun A Q E s k q => wpAny_typeOf_ref (k _ _ he3) (by rw [hz3.1]; exact q)
    have LM := PySem.W.exm_one (M := model X.prog X.w) (J3.kIn) LT hb1
    have test : ∀ {Q : Value → Shared → Prop} {E : Value → Shared → Prop}, Q c { s' with heap := h3 } → wpAny (model X.prog X.w) (X.A.mark (some (.ref a))) (eval (.Name x np) X.env) Q E { s' with heap := h3 } := fun {Q E} q => by
      obtain ⟨hg, hdbg, hm | ⟨hm, hv, hnn⟩⟩ := hc
      · exact ld_glob (X := X.suite a ((a, oe3) :: (X.pn ++ pins))) S3 hg hm q hdbg
      · exact ld_blt (X := X.suite a ((a, oe3) :: (X.pn ++ pins))) S3 hg hm hv q hnn hdbg
    refine test (LM.here ?_)
    cases b with
    | true =>
      obtain ⟨C, eC, hyes⟩ := hyes rfl
      subst eC
      refine codeAny_handlers_suite_as ?_
      refine HandSPX.lands_againZ fl3 fun h4 fl4 up4 => ?_
      have J4 : Inv X pins σ' H' { s' with heap := h4 } := J.landed nb fl4.1 ((up.trans up3).trans up4) os ag
      obtain ⟨oe4, vs4, he4, hz4, hd4⟩ := fl4.there
      have S4 := J4.suite he4 hd4 na nL nF
      refine store_ok (X := X.suite a ((a, oe4) :: (X.pn ++ pins))) (v := .ref a) S4 hN hi hloc rfl (fun s5 S5 => ?_) (.inr hln)
      refine wpAny_mono ((hsu a oe4 (.ref C) d (X.pn ++ pins) hz4 ⟨_, hd4⟩).run [] s5 _ H' _ S5 (hyes a na)) (fun f s6 hsp => ?_) (fun _ _ z => False.elim z)
      have end_ : ∀ {σ6 : L2.St} {H6 : Hp} {Q : Shared → Prop}, Inv (X.suite a ((a, oe4) :: (X.pn ++ pins))) [] σ6 H6 s6 → (∀ s7, Inv X pins (σ6.set i none) (upd H6 a (exq a C d)) s7 → Q s7) →
          wpAny (model X.prog X.w) X.A (do bindName X.env n .none; unbindBehindTheSuite X.env n pos') (fun _ s7 => Q s7) X.xe s6 := fun {σ6 H6 Q} S6 hq => gone_ok (inv_unsuite S6 ok) hN hi hln fun s7 J7 => hq s7 (inv_track J7 fresh hd4 hz4 npin)
      cases f with
      | next =>
        obtain ⟨σ6, H6, S6, q6⟩ := hsp
        exact end_ S6 fun s7 J7 => ⟨_, _, J7, q6⟩
      | brk =>
        obtain ⟨σ6, H6, S6, q6⟩ := hsp
        exact end_ S6 fun s7 J7 => ⟨_, _, J7, q6⟩
      | cont =>
        obtain ⟨σ6, H6, S6, q6⟩ := hsp
        exact end_ S6 fun s7 J7 => ⟨_, _, J7, q6⟩
      | ret u =>
        obtain ⟨v6, σ6, H6, S6, r6, q6⟩ := hsp
        exact end_ S6 fun s7 J7 => ⟨_, _, _, J7, r6, q6⟩
    | false =>
      show wpAny _ X.A (handleBy (.ref a) X.env []) _ _ _
      refine wpAny_handleBy_nil ?_
      obtain ⟨k1, k2, k3, oe, vs, T, oT, ts', he, hz, hd, h1, hr⟩ := id fl3
      unfold PySem.passOn
      refine wpAny_bind (wpAny_field he hd h1 ?_)
      rw [if_neg (show ¬ ((Value.ref T == Value.none) = true) from by simp)]
      have fin : wpAny (model X.prog X.w) X.A (setFlight (.ref a) X.env.frame) (fun _ s4 => wpAny (model X.prog X.w) X.A (throw (.ref a) : Sem Flow) (SP X pins D) X.xe s4) X.xe { s' with heap := h3 } := by
        rw [hf]
        refine HandSPX.setFlight_upZ fl3 fun h4 hh4 up4 => wpAny_throw (tk _ _ ?_)
        exact ⟨a, B, sI, pins, σ', H', cls, d, rfl, J, nb, (up.trans up3).trans up4, .inr (.inr (by rw [hs]; exact hh4)), na, os, ag, hno rfl⟩
      first
        | exact wpAny_bind (wpAny_pure (wpAny_bind fin))
        | exact wpAny_bind fin
  · cases f with
    | next =>
      obtain ⟨σ', H', J', q⟩ := hsp
      exact wpAny_execs_nil ⟨σ', H', J'.ofTry ok, q⟩
    | brk =>
      obtain ⟨σ', H', J', q⟩ := hsp
      exact ⟨σ', H', J'.ofTry ok, q⟩
    | cont =>
      obtain ⟨σ', H', J', q⟩ := hsp
      exact ⟨σ', H', J'.ofTry ok, q⟩
    | ret u =>
      obtain ⟨v, σ', H', J', r, q⟩ := hsp
      exact ⟨v, σ', H', J'.ofTry ok, r, q⟩
end
end DS
namespace DS
open PySem PySem.Spec PyProof.Rows L2 LamX
section
variable {X : Cx} {pins : List (Addr × Obj)} {σ : L2.St} {H HZ : Hp} {s s1 : Shared}
/-- x(), in the def that got the lambda -/
theorem pe_actS {CXg : CXT} {Eg : XK} {Ng : List Str} {qg : Str} {sg : Scope} {g f c' : Addr} {cdg pm ctv : Value} {params : Arguments} {body : Expr} {scope : Scope} {k i : Nat} {a : Str} {pn : List (Addr × Obj)} {xe : Value → Shared → Prop} {W : WX} {tb : XK → TE} {p1 p2 : Pos}
    (I : Inv X pins σ H s) (L : LamS X.env.scope scope) (hf : s.heap.get? f = some (PySem.W.kla_obj "<lambda>" (X.env.qual ++ "<lambda>") params body scope (cloFrom X.env.cells scope.names []) pm c' ctv)) (hfn : H f = none) (hfr : f ∉ frs X.stack)
    (hbind : bindArgs (PySem.W.kla_fn "<lambda>" (X.env.qual ++ "<lambda>") params body scope (cloFrom X.env.cells scope.names []) pm (.ref c') ctv) ⟨[], []⟩ = pure [])
    (tk : Takes ((cxOf CXg X.prog X.w X.K X.mg X.base Ng qg sg g cdg X.A X.stack s H Eg).tr pn xe) W) (hr : Room (k + 1) (X.A.deeper (envOfC qg sg s.heap.objs.size g cdg)))
    (hbody : ∀ (A : Around) (outer : List Env) (s : Shared) (H : Hp) (E : XK), A.guards = X.A.guards → Room k (A.deeper (lamEnv X scope s.heap.objs.size f c')) → PE (lamCx X A outer s H E scope f c') body (tb E))
    (hN : Ng[i]? = some a) (hv : Vis sg a) (hd : (a == ("__debug__" : Str)) = false := by decide) (hcd : (a == ("__classdict__" : Str)) = false := by decide) :
    PE ((cxOf CXg X.prog X.w X.K X.mg X.base Ng qg sg g cdg X.A X.stack s H Eg).tr pn xe) (.Call (.Name a p1) [] [] p2)
      (fun σZ HZ Q => σZ[i]? = some (some (.ref f)) ∧ HZ c' = some (CodeO c' (X.env.qual ++ "<lambda>")) ∧ ∃ E : XK, (∀ cls d H', E cls d H' → W cls d σZ H') ∧ tb E σ HZ Q) := by
  refine ⟨fun pinsZ sZ σZ HZ Q IZ h => ?_⟩
  obtain ⟨hs, hc, E, hW, ht⟩ := h
  refine wpAny_Call_Name_kw (thn ((pe_var (pos := p1) (i := i) hN hv hd hcd).run pinsZ sZ σZ HZ (fun v H1 => v = .ref f ∧ H1 = HZ) IZ ⟨.ref f, hs, rfl, rfl⟩) fun u s1 ⟨v, H1, I1, r1, q1⟩ => ?_)
  obtain ⟨ev, eH⟩ := q1
  subst ev
  rw [eH] at I1
  obtain rfl : u = Value.ref f := r1
  have of1 : s1.heap.get? f = some (PySem.W.kla_obj "<lambda>" (X.env.qual ++ "<lambda>") params body scope (cloFrom X.env.cells scope.names []) pm c' ctv) := I1.base.keep f _ hf hfn hfr (fun z => nomatch (show f ∈ ([] : List Addr) from z))
  refine PySem.W.callWith_F0 ⟨_, _, _, _, of1⟩ ?_
  have un : Un (frs X.stack) [] H HZ s.heap s1.heap := I1.base
  obtain ⟨⟨oc, vs, t, hoc, hdc, hvc⟩, _, _⟩ := I1.hok c' _ hc
  have rc : codeAny (model X.prog X.w) (X.A.deeper (envOfC qg sg s.heap.objs.size g cdg)) (.call (.ref f) ⟨[], []⟩) (CR (L2.CX X.prog X.w) (envOfC qg sg s.heap.objs.size g cdg :: X.stack) X.prog X.w HZ s1 Q E) s1 := by
    refine PySem.W.kla_callFunE hr.depth of1 rfl L.co L.gen rfl ⟨c', oc, vs, t, rfl, hoc, hdc, hvc⟩ ?_
    rw [hbind]
    refine wpAny_pure (wpAny_newFunctionEnv (fun y hy => (L.own y hy).2) (fun y hy => absurd hy (by simp)) (fun h₁ hns hsb => ⟨I1.nolimit.fresh _ hsb, ?_⟩) L.kind)
    show codeAny _ _ (.expr body (lamEnv X scope s1.heap.objs.size f c')) _ _
    have kp : ∀ b o, s1.heap.get? b = some o → h₁.get? b = some o := fun b o e => hsb.extBut b o (Nat.ne_of_lt (Heap.lt_size e)) (Heap.get?_push_of_some _ e)
    have J : Inv (lamCx X (X.A.deeper (envOfC qg sg s.heap.objs.size g cdg)) (envOfC qg sg s.heap.objs.size g cdg :: X.stack) s1 HZ E scope f c') [] σ HZ { s1 with heap := h₁, toks := s1.toks + ([] : List (Str × Value)).length } :=
      lam_start2 I L I1.env0 hr.hd un hns kp
    refine PySem.W.kla_codeExpr (wpAny_mono ((hbody (X.A.deeper (envOfC qg sg s.heap.objs.size g cdg)) _ s1 HZ E rfl (hr.deeper _)).run [] _ _ HZ Q J ht) (fun v s' hq => ?_) fun e s' hq => hq)
    obtain ⟨w', H', J', rv, q⟩ := hq
    exact ⟨w', H', J'.os, J'.bare, J'.base, J'.hok, rv, q⟩
  refine wpAny_call (codeAny_mono rc fun r s' hq => ?_)
  cases r with
  | error e => exact tk e s' (XE.of_call I1 hW hq)
  | ok fl =>
    cases fl with
    | ret u => exact I1.after hq
    | next => exact False.elim hq
    | brk => exact False.elim hq
    | cont => exact False.elim hq
/-- the lambda's code object at c' is the table's, or new and now in the table -/
def MadeC (H : Hp) (P : Addr) (q : Str) (c' : Addr) (H1 : Hp) : Prop := (H1 = H ∧ ∃ (ps : Array Value) (pos : Pos), H P = some (.tbl ps) ∧ codeAmong pos ps.toList = some (.ref c')) ∨
  ∃ ps more, H P = some (.tbl ps) ∧ H c' = none ∧ H1 = upd (upd H P (.tbl (ps ++ more))) c' (CodeO c' q) ∧ TriplesOk (ps ++ more).toList ∧ ∀ (pos : Pos) (cv : Value), codeAmong pos (ps ++ more).toList = some cv → codeAmong pos ps.toList = some cv ∨ cv = .ref c'
/-- the lambda is made; its address is new -/
theorem lam_make4 {c P : Addr} {q : Str} {params : Arguments} {body : Expr} {scope : Scope} {pos : Pos} {ps : Array Value} {E : Value → Shared → Prop} {Q : Value → Shared → Prop} (I : Inv X pins σ H s) (TB : LamX.TabB X.base X.mg c P) (hcode : X.env.code = .ref c)
    (hq : q = X.env.qual ++ "<lambda>") (hP : H P = some (.tbl ps)) (ht : TriplesOk ps.toList) (ha : ∀ (pos : Pos) (cv : Value), codeAmong pos ps.toList = some cv → ∃ c, cv = .ref c ∧ H c = some (LamX.CodeO c q))
    (hdef : defaultsOf params X.env = ([], [])) (hfree : ∀ y ∈ scope.names, y.2 = .free → ∃ c, X.env.cells.lookup y.1 = some c)
    (h : ∀ (f c' : Addr) (pm ctv : Value) (H1 : Hp) (s' : Shared), Inv X pins σ H1 s' → MadeC H P q c' H1 → H1 f = none → f ∉ frs X.stack →
      s'.heap.get? f = some (PySem.W.kla_obj "<lambda>" q params body scope (cloFrom X.env.cells scope.names []) pm c' ctv) → H1 c' = some (LamX.CodeO c' q) → Q (.ref f) s') :
    wpAny (model X.prog X.w) X.A (eval (.Lambda params body scope pos) X.env) Q E s := by
  subst hq
  refine PySem.W.kla_eval hdef ?_
  have bP : s.heap.BuiltinsAt X.mg P := TB.bm.keeps I.bk
  have hP' : s.heap.get? P = some { cls := .none, data := .fields ps } := I.hok P _ hP
  have nofr : ∀ f, s.heap.objs.size ≤ f → f ∉ frs X.stack := fun f hf z => by
    rcases List.mem_cons.mp (I.stkSub _ z) with e | e
    · have h1 := I.lt
      rw [← e] at h1
      exact Nat.lt_irrefl _ (Nat.lt_of_lt_of_le h1 hf)
    · exact I.nofs hf e
  cases hc : codeAmong pos ps.toList with
  | none =>
    refine PySem.W.kla_makeFunction (mg := X.mg) (c := c) (P := P) (ps := ps) (closure_ok hfree) I.ok.glob (I.mod.glob.keeps I.bk) hcode (TB.code.keeps I.bk) hP' ht hc TB.gP bP fun c' ctv h' tk hx hge hlt hrec htb => ?_
    obtain ⟨c2, oc, vs, t, e2, hoc, hd, hv⟩ := hrec
    cases e2
    have nC : H c' = none := I.hok.fresh hge
    have hsz : s.heap.objs.size ≤ h'.objs.size := Nat.le_trans hge (Nat.le_of_lt hlt)
    have I1 := LamX.inv_table (t' := tk) (more := #[rawInt pos.line, rawInt pos.col, .ref c']) (h' := h'.push (PySem.W.kla_obj "<lambda>" (X.env.qual ++ "<lambda>") params body scope (cloFrom X.env.cells scope.names []) ((X.mg "__name__").getD .none) c' ctv)) I hP
      (fun b o hb e => Heap.get?_push_of_some _ (hx b o hb e)) (Heap.get?_push_of_some _ htb) hge ⟨oc, vs, t, Heap.get?_push_of_some _ hoc, hd, hv⟩
    have eL : (ps ++ #[rawInt pos.line, rawInt pos.col, .ref c']).toList = ps.toList ++ [rawInt pos.line, rawInt pos.col, .ref c'] := by simp
    refine h h'.objs.size c' ((X.mg "__name__").getD .none) ctv _ _ I1 (.inr ⟨ps, _, hP, nC, rfl, by rw [eL]; exact PySem.TriplesOk_snoc _ _ _ _ ht, fun p' cv hcv => ?_⟩) ?_ (nofr _ hsz) (Heap.get?_push_size _ rfl) upd_same
    · rw [eL] at hcv
      exact LamX.among_app _ ht hcv
    · have n1 : h'.objs.size ≠ c' := Nat.ne_of_gt hlt
      have n2 : h'.objs.size ≠ P := Nat.ne_of_gt (Nat.lt_of_lt_of_le (Heap.lt_size hP') hsz)
      rw [upd_ne n1, upd_ne n2]
      exact I.hok.fresh hsz
  | some cv =>
    obtain ⟨c', e, hco⟩ := ha pos cv hc
    subst e
    refine PySem.W.kla_makeFunctionHit (mg := X.mg) (c := c) (P := P) (ps := ps) (closure_ok hfree) I.ok.glob (I.mod.glob.keeps I.bk) hcode (TB.code.keeps I.bk) hP' ht hc bP fun ctv h' tk hx hsz => ?_
    have I1 : Inv X pins σ H { s with heap := h'.push (PySem.W.kla_obj "<lambda>" (X.env.qual ++ "<lambda>") params body scope (cloFrom X.env.cells scope.names []) ((X.mg "__name__").getD .none) c' ctv), toks := tk } := I.kept fun b o e => Heap.get?_push_of_some _ (hx b o e)
    exact h h'.objs.size c' ((X.mg "__name__").getD .none) ctv H _ I1 (.inl ⟨rfl, ps, pos, hP, hc⟩) (I.hok.fresh hsz) (nofr _ hsz) (Heap.get?_push_size _ rfl) hco
end
/-- the def g that calls what it got (its first parameter a): TT: what it makes of the lambda's reading -/
def GivesS (X : Cx) (Ng : List Str) (x : Str) (sg : Scope) (g : Addr) (cdg : Value) (bg : List Stmt) (a : Str) (q : Str) (TT : Addr → Addr → (XK → Hp → VK → Prop) → Hp → VK → Prop) : Prop :=
  ∀ (f c' : Addr) (s : Shared) (H : Hp) (Q : VK) (tl : XK → Hp → VK → Prop),
    (∀ (W : WX) (pn : List (Addr × Obj)) (xe : Value → Shared → Prop) (p1 p2 : Pos), Takes ((cxOf C8.CX0 X.prog X.w X.K X.mg X.base Ng x sg g cdg X.A X.stack s H C8.E0).tr pn xe) W →
      PE ((cxOf C8.CX0 X.prog X.w X.K X.mg X.base Ng x sg g cdg X.A X.stack s H C8.E0).tr pn xe) (.Call (.Name a p1) [] [] p2) (fun σZ HZ Q => σZ[0]? = some (some (.ref f)) ∧ HZ c' = some (CodeO c' q) ∧ ∃ E : XK, (∀ cls d H', E cls d H' → W cls d σZ H') ∧ tl E HZ Q)) →
    H c' = some (CodeO c' q) → TT f c' tl H Q →
    ∃ t, PSs (cxOf C8.CX0 X.prog X.w X.K X.mg X.base Ng x sg g cdg X.A X.stack s H C8.E0).nox bg t ∧ t { nx := fun _ H' => Q .non H', rt := Q } (L2.start Ng [.ref f]) H
def tLamS (K : PySem.W.Frag) (y q : Str) (TT : Addr → Addr → (XK → Hp → VK → Prop) → Hp → VK → Prop) (t : XK → TE) : TE := fun σ H Q => ∃ (P : Addr) (ps : Array Value), TabAt K y P ∧ H P = some (.tbl ps) ∧ TriplesOk ps.toList ∧
  (∀ (pos : Pos) (cv : Value), codeAmong pos ps.toList = some cv → ∃ c, cv = .ref c ∧ H c = some (LamX.CodeO c q)) ∧
  ∀ (f c' : Addr) (H1 : Hp), MadeC H P q c' H1 → H1 f = none → H1 c' = some (LamX.CodeO c' q) → TT f c' (fun E H' Q' => t E σ H' Q') H1 Q
section
variable {X : Cx}
/-- x(lambda: body), in the def named y -/
theorem pe_lamcallS {TT : Addr → Addr → (XK → Hp → VK → Prop) → Hp → VK → Prop} {x a y q : Str} {g : Addr} {k : Nat} {pg : Arguments} {bg : List Stmt} {sg : Scope} {dV kV doc pm cdv ct oc : Value} {an od : Option Addr} {osl : Array (Option Value)} {Ng : List Str}
    {params : Arguments} {body : Expr} {scope : Scope} {t : XK → TE} {p lpos pos : Pos} (hbm : BM X.base X.mg) (hw : OwnC X y) (hq : q = X.env.qual ++ "<lambda>") (hg : Gl X x) (hm : X.mg x = some (.ref g)) (hk : PySem.W.keepIn X.K (.ref g) = true)
    (lk : X.K.lookup g = some ⟨oc, od, .func (PySem.W.fnOf x x pg bg sg dV kV doc pm an cdv ct), osl⟩) (hcg : PySem.W.codeIn X.K cdv x = true) (hb : L2.Binds X.K (PySem.W.fnOf x x pg bg sg dV kV doc pm an cdv ct) [a] []) (Sg : FnScope Ng [a] sg) (hNg : Ng[0]? = some a) (hva : Vis sg a)
    (hG : GivesS X Ng x sg g cdv bg a q TT)
    (hr : Room (k + 2) X.A) (L : LamS X.env.scope scope) (hdef : defaultsOf params X.env = ([], []))
    (hbind : ∀ (q : Str) (cl : List (Str × Addr)) (pm cv ctv : Value), bindArgs (PySem.W.kla_fn "<lambda>" q params body scope cl pm cv ctv) ⟨[], []⟩ = pure [])
    (hbody : ∀ (A : Around) (outer : List Env) (s : Shared) (H : Hp) (E : XK) (f c' : Addr), A.guards = X.A.guards → Room k (A.deeper (lamEnv X scope s.heap.objs.size f c')) → PE (lamCx X A outer s H E scope f c') body (t E))
    (hdb : (x == ("__debug__" : Str)) = false := by decide) (hd : (a == ("__debug__" : Str)) = false := by decide) (hcd : (a == ("__classdict__" : Str)) = false := by decide) :
    PE X (.Call (.Name x p) [.Lambda params body scope lpos] [] pos) (tLamS X.K y q TT t) := by
  refine ⟨fun pins s σ H Q I h => ?_⟩
  obtain ⟨P, ps, hTA, hP, ht, ha, h⟩ := h
  obtain ⟨c, hcode, TB⟩ := tabB_of I hbm hw hTA hP
  refine wpAny_Call_Name_kw (ld_glob I hg hm ?_ hdb)
  refine PySem.W.callWith_K (h₀ := X.base) I.ok.mod.kin hk ?_ (by rfl) (by rfl)
  show wpAny _ _ (spliced ((false, eval (.Lambda params body scope lpos) X.env) :: backTo pos (starEach [] X.env))) _ _ s
  refine Calls.spliced_cons (lam_make4 I TB hcode hq hP ht ha hdef (L.has I.ok) fun f c' pm' ctv H1 s' I1 made hfn hfr hf hco => ?_)
  refine Calls.spliced_nil ⟨I1.kIn, ?_⟩
  subst hq
  have rc : codeAny (model X.prog X.w) X.A (.call (.ref g) ⟨[.ref f], []⟩) (CR C8.CX0 X.stack X.prog X.w H1 s' Q C8.E0) s' := by
    refine run_ofS (N := Ng) (ps := [a]) (us := [.ref f]) (vs := [.ref f]) lk hcg Sg hr I1.env0 (hb s' [.ref f] I1.kIn rfl) (.cons rfl .nil) rfl fun hr' => ?_
    obtain ⟨t', ht', hq'⟩ := hG f c' s' H1 Q (fun E H' Q' => t E σ H' Q') (fun W pn xe p1 p2 tk => pe_actS (i := 0) I1 L hf hfn hfr (hbind _ _ _ _ _) tk hr' (fun A outer s H E hgd hr2 => hbody A outer s H E f c' hgd hr2) hNg hva hd hcd) hco (h f c' H1 made hfn hco)
    exact ⟨t', ht'.nox, hq'⟩
  refine wpAny_call (codeAny_mono rc fun r s2 hq => ?_)
  cases r with
  | error e => exact (show False from hq).elim
  | ok fl =>
    cases fl with
    | ret u => exact I1.after hq
    | next => exact False.elim hq
    | brk => exact False.elim hq
    | cont => exact False.elim hq
end
end DS
namespace DS
open PySem PySem.Spec PyProof.Rows L2
/-- the wish for errors: the class by its name, the fields -/
abbrev DXX := Str → List (Str × SD) → Mu → Prop
abbrev DSpX := List SD → Mu → (SD → Mu → Prop) → DXX → Prop
abbrev HInv := Hp → Hp → Mu → Prop
def Grows (An : HInv) : Prop := ∀ F H μ F' H' μ', An F H μ → Stp F H μ F' H' μ' → An F' H' μ'
theorem grows_stp (F H : Hp) (μ : Mu) : Grows (Stp F H μ) := fun _ _ _ _ _ _ a b => a.trans b
/-- the own dict of an error, known for good -/
def XRepF (K : PySem.W.Frag) (F : Hp) (od : Option Addr) (fs : List (Str × SD)) : Prop :=
  (od = none ∧ fs = []) ∨ ∃ d vs, od = some d ∧ F d = some (.xd vs) ∧ vs.map (·.1) = fs.map (·.1) ∧ RepL K F (fs.map (·.2)) (vs.map (·.2))
/-- an error in the air, told in data -/
def EX (K : PySem.W.Frag) (An : HInv) (Ex : DXX) : XK := fun cls od H => ∃ F μ C x fs, cls = .ref C ∧ An F H μ ∧ HReal K F H μ ∧ XcK K x C (fs.map (·.1)) ∧ XRepF K F od fs ∧ Ex x fs μ
def LSpX (K : PySem.W.Frag) (sp : DSpX) : Sp := fun vs H Q E => ∃ F μ ds Q' E', HReal K F H μ ∧ RepL K F ds vs ∧ sp ds μ Q' E' ∧
  (∀ d μ', Q' d μ' → ∀ F' H' v, Stp F H μ F' H' μ' → HReal K F' H' μ' → RepS K F' d v → Q v H') ∧ ∀ cls od H', EX K (Stp F H μ) E' cls od H' → E cls od H'
theorem EX.mono {K : PySem.W.Frag} {An An' : HInv} {Ex : DXX} {cls : Value} {od : Option Addr} {H : Hp} (h : EX K An Ex cls od H) (k : ∀ F H μ, An F H μ → An' F H μ) : EX K An' Ex cls od H := by
  obtain ⟨F, μ, C, x, fs, e, a, r⟩ := h
  exact ⟨F, μ, C, x, fs, e, k _ _ _ a, r⟩
def LEA (K : PySem.W.Frag) (An : HInv) (t : DTE) : TE := fun σ H Q => ∃ F ρ μ Q', HReal K F H μ ∧ Slots K F σ ρ ∧ An F H μ ∧ t ρ μ Q' ∧
  ∀ d μ', Q' d μ' → ∀ F' H' v, Stp F H μ F' H' μ' → HReal K F' H' μ' → RepS K F' d v → Q v H'
def LTA (K : PySem.W.Frag) (An : HInv) (t : DTT) : TT := fun σ H Q => ∃ F ρ μ Q', HReal K F H μ ∧ Slots K F σ ρ ∧ An F H μ ∧ t ρ μ Q' ∧
  ∀ b μ', Q' b μ' → ∀ F' H', Stp F H μ F' H' μ' → HReal K F' H' μ' → Q b H'
def LAA (K : PySem.W.Frag) (An : HInv) (t : DTA) : TA := fun σ H Q => ∃ F ρ μ Q', HReal K F H μ ∧ Slots K F σ ρ ∧ An F H μ ∧ t ρ μ Q' ∧
  ∀ ds μ', Q' ds μ' → ∀ F' H' vs, Stp F H μ F' H' μ' → HReal K F' H' μ' → RepL K F' ds vs → Q vs H'
def LSA (K : PySem.W.Frag) (An : HInv) (t : DTS) : TS := fun D σ H => ∃ F ρ μ D', HReal K F H μ ∧ Slots K F σ ρ ∧ An F H μ ∧ t D' ρ μ ∧
  (∀ ρ' μ', D'.nx ρ' μ' → ∀ F' H' σ', Stp F H μ F' H' μ' → HReal K F' H' μ' → Slots K F' σ' ρ' → D.nx σ' H') ∧
  (∀ d μ', D'.rt d μ' → ∀ F' H' v, Stp F H μ F' H' μ' → HReal K F' H' μ' → RepS K F' d v → D.rt v H') ∧
  (∀ ρ' μ', D'.bk ρ' μ' → ∀ F' H' σ', Stp F H μ F' H' μ' → HReal K F' H' μ' → Slots K F' σ' ρ' → D.bk σ' H') ∧
  (∀ ρ' μ', D'.ct ρ' μ' → ∀ F' H' σ', Stp F H μ F' H' μ' → HReal K F' H' μ' → Slots K F' σ' ρ' → D.ct σ' H')
abbrev EA (An : HInv) (X : Cx) (e : Expr) (t : DTE) : Prop := PE X e (LEA X.K An t)
abbrev TA_ (An : HInv) (X : Cx) (e : Expr) (t : DTT) : Prop := PT X e (LTA X.K An t)
abbrev AA (An : HInv) (X : Cx) (es : List Expr) (t : DTA) : Prop := PA X es (LAA X.K An t)
abbrev SA (An : HInv) (X : Cx) (s : Stmt) (t : DTS) : Prop := PS X s (LSA X.K An t)
abbrev SAs (An : HInv) (X : Cx) (s : List Stmt) (t : DTS) : Prop := PSs X s (LSA X.K An t)
section
variable {An : HInv} {X : Cx} {pos p : Pos} {a b c e o iter tg : Expr} {es : List Expr} {x : Str} {st : Stmt} {rest body ss uu : List Stmt} {te ta tb : DTE} {tt : DTT} {t u : DTS} {ts : DTA}
/-- what raises nothing -/
theorem ea (h : DE X e te) : EA An X e te := weakE h fun _ _ _ ⟨F, ρ, μ, Q', R, S, _, t, k⟩ => ⟨F, ρ, μ, Q', R, S, t, k⟩
theorem ta_ (h : DT X e tt) : TA_ An X e tt := weakT h fun _ _ _ ⟨F, ρ, μ, Q', R, S, _, t, k⟩ => ⟨F, ρ, μ, Q', R, S, t, k⟩
theorem aa (h : DA X es ts) : AA An X es ts := weakA h fun _ _ _ ⟨F, ρ, μ, Q', R, S, _, t, k⟩ => ⟨F, ρ, μ, Q', R, S, t, k⟩
theorem sa (h : DS_ X st t) : SA An X st t := weakS h fun _ _ _ ⟨F, ρ, μ, D', R, S, _, t, k⟩ => ⟨F, ρ, μ, D', R, S, t, k⟩
theorem sas (h : DSs X body t) : SAs An X body t := weakSs h fun _ _ _ ⟨F, ρ, μ, D', R, S, _, t, k⟩ => ⟨F, ρ, μ, D', R, S, t, k⟩
theorem sas_cons (hA : Grows An) (h1 : SA An X st t) (h2 : SAs An X rest u) : SAs An X (st :: rest) (dSeq t u) := weakSs (pss_cons h1 h2) fun D σ H h => by
  obtain ⟨F, ρ, μ, D', R, S, an, t, k, k2, k3, k4⟩ := h
  exact ⟨F, ρ, μ, _, R, S, an, t, fun ρ1 μ1 t1 F1 H1 σ1 s1 R1 S1 => ⟨F1, ρ1, μ1, D', R1, S1, hA _ _ _ _ _ _ an s1, t1, fun ρ' μ' q F' H' σ' s => k ρ' μ' q F' H' σ' (s1.trans s), fun d μ' q F' H' v s => k2 d μ' q F' H' v (s1.trans s),
    fun ρ' μ' q F' H' σ' s => k3 ρ' μ' q F' H' σ' (s1.trans s), fun ρ' μ' q F' H' σ' s => k4 ρ' μ' q F' H' σ' (s1.trans s)⟩, k2, k3, k4⟩
theorem sas_one (h1 : SA An X st t) : SAs An X [st] t := pss_one h1
theorem sa_if (hA : Grows An) (hc : TA_ An X c tt) (ha : SAs An X ss t) (hb : SAs An X uu u) : SA An X (.If c ss uu pos) (dIfS tt t u) := weakS (ps_if hc ha hb) fun D σ H h => by
  obtain ⟨F, ρ, μ, D', R, S, an, t, k, k2, k3, k4⟩ := h
  refine ⟨F, ρ, μ, _, R, S, an, t, fun d μ1 t1 F1 H1 s1 R1 => ?_⟩
  cases d with
  | true => exact ⟨F1, ρ, μ1, D', R1, S.mono s1.ext, hA _ _ _ _ _ _ an s1, t1, fun ρ' μ' q F' H' σ' s => k ρ' μ' q F' H' σ' (s1.trans s), fun d μ' q F' H' v s => k2 d μ' q F' H' v (s1.trans s),
    fun ρ' μ' q F' H' σ' s => k3 ρ' μ' q F' H' σ' (s1.trans s), fun ρ' μ' q F' H' σ' s => k4 ρ' μ' q F' H' σ' (s1.trans s)⟩
  | false => exact ⟨F1, ρ, μ1, D', R1, S.mono s1.ext, hA _ _ _ _ _ _ an s1, t1, fun ρ' μ' q F' H' σ' s => k ρ' μ' q F' H' σ' (s1.trans s), fun d μ' q F' H' v s => k2 d μ' q F' H' v (s1.trans s),
    fun ρ' μ' q F' H' σ' s => k3 ρ' μ' q F' H' σ' (s1.trans s), fun ρ' μ' q F' H' σ' s => k4 ρ' μ' q F' H' σ' (s1.trans s)⟩
theorem sa_for {wi : DTI} {g : DTG} (hA : Grows An) (hp : PassesOwn (model X.prog X.w) X.A X.env X.xe) (hc : X.calm = true) (hi : DI X tg iter wi) (hg : DG X tg g) (hb : SAs An X body t)
    (hs : ∀ x, foldedSetIterable iter X.env x = pure x := by intro _; rfl) : SA An X (.For tg iter body [] pos) (dFor wi g t) := weakS (ps_for hp hc hi hg hb hs) fun D σ H h => by
  obtain ⟨F0, ρ0, μ0, D', R0, S0, an, t, k, k2, k3, k4⟩ := h
  refine ⟨F0, ρ0, μ0, _, R0, S0, t, fun ds ok μ1 t1 F1 H1 J s1 R1 src => ?_⟩
  obtain ⟨W, w0, hok, turn, fin⟩ := t1
  refine ⟨fun i m σ' H' => i + m = ds.length ∧ ∃ F ρ μ, Stp F1 H1 μ1 F H' μ ∧ HReal X.K F H' μ ∧ Slots X.K F σ' ρ ∧ W i ρ μ, ⟨ds.length, by omega, F1, ρ0, μ1, Stp.refl _ _ _, R1, S0.mono s1.ext, w0⟩, ?_⟩
  rintro i m σ' H' ⟨him, F, ρ, μ, s, R, S, w⟩
  have hle : i ≤ ds.length := by omega
  by_cases hi : i < ds.length
  · refine .inr ⟨src.go i F H' μ s R (hok i ρ μ hle w) hi, fun σ2 H2 => ∃ F ρ μ, Stp F1 H1 μ1 F H2 μ ∧ HReal X.K F H2 μ ∧ Slots X.K F σ2 ρ ∧ W (i + 1) ρ μ, ?_, ?_⟩
    · rintro σ2 H2 ⟨F', ρ', μ', s', R', S', w'⟩
      exact ⟨ds.length - (i + 1), by omega, by omega, F', ρ', μ', s', R', S', w'⟩
    · intro x H2 y
      obtain ⟨F', s', R', r'⟩ := src.yld i F H' μ x H2 s R (hok i ρ μ hle w) y _ (List.getElem?_eq_getElem hi)
      refine ⟨F', ρ, μ, _, _, R', S.mono s'.ext, r', turn i _ ρ μ (List.getElem?_eq_getElem hi) w, fun ρ2 μ2 t2 F2 H3 σ2 s2 R2 S2 => ?_⟩
      refine ⟨F2, ρ2, μ2, _, R2, S2, hA _ _ _ _ _ _ an (s1.trans ((s.trans s').trans s2)), t2, ?_, ?_, ?_, ?_⟩
      · exact fun ρ' μ' q F'' H'' σ'' s'' R'' S'' => ⟨F'', ρ', μ', ((s.trans s').trans s2).trans s'', R'', S'', q⟩
      · exact fun d μ' q F'' H'' v s'' R'' r'' => k2 d μ' q F'' H'' v (s1.trans (((s.trans s').trans s2).trans s'')) R'' r''
      · exact fun ρ' μ' q F'' H'' σ'' s'' R'' S'' => k ρ' μ' q F'' H'' σ'' (s1.trans (((s.trans s').trans s2).trans s'')) R'' S''
      · exact fun ρ' μ' q F'' H'' σ'' s'' R'' S'' => ⟨F'', ρ', μ', ((s.trans s').trans s2).trans s'', R'', S'', q⟩
  · have e : i = ds.length := by omega
    subst e
    exact .inl ⟨src.stop F H' μ s R (hok _ ρ μ hle w), k ρ μ (fin ρ μ w) F H' σ' (s1.trans s) R S⟩
end
/-- C(e), about to be raised: the error is not known, its dict is -/
def tMkX (C : Addr) (f : Str) (te : TE) : L2.St → Hp → XK → Prop := fun σ H Q => te σ H fun y H1 => ∀ dx, H1 dx = none → Q (.ref C) (some dx) (upd H1 dx (.xd [(f, y)]))
section
variable {X : Cx} {x f q qual : Str} {st : Stmt} {k n : Nat} {e : Expr} {te : TE} {p pos : Pos}
theorem pmk_x {D : XDef X.K X.mg x f q qual st} (F : XIni X.prog X.w X.base D k) (hq : Quiet X.A) (hr : Room n X.A) (ha : PE X e te) (hk : k + 1 ≤ n := by omega) (hg : Gl X x := by rfl) (hdb : (x == ("__debug__" : Str)) = false := by decide)
    (he : starEach [e] X.env = (false, eval e X.env) :: starEach [] X.env := by rfl) : PMk X (.Call (.Name x p) [e] [] pos) (tMkX D.C f te) := by
  intro pins s σ H Q I h
  refine wpAny_Call_Name_kw (ld_glob I hg D.m ?_ hdb)
  refine PySem.W.callWith_K (h₀ := X.base) I.ok.mod.kin D.o.kC (thn ((pa_cons ha pa_nil he).run pos pins s σ H (fun vs H1 => match vs with | [y] => ∀ dx, H1 dx = none → Q (.ref D.C) (some dx) (upd H1 dx (.xd [(f, y)])) | _ => False) I h) fun us s1 z => ?_) he (by rfl)
  obtain ⟨vs, H1, I1, r1, q1⟩ := z
  match vs, us, r1, q1 with
  | [y], [u], .cons r0 .nil, q1 =>
    refine ⟨I1.kIn, ?_⟩
    have hr := hr.mono hk
    obtain ⟨nm, qn, N, bs, bm, sn, sub, ab, col, dd, k0, k1, k2, k3, k5, hC, hbm⟩ := D.o.cls
    obtain ⟨hp, g, dr, tk, os⟩ := s1
    have old : ∀ b o, hp.get? b = some o → ((hp.push (PySem.W.kdv_tup [u])).push (PySem.HandSPX.excO D.C hp.objs.size)).get? b = some o := fun b o e => Heap.get?_push_of_some _ (Heap.get?_push_of_some _ e)
    have new : ((hp.push (PySem.W.kdv_tup [u])).push (PySem.HandSPX.excO D.C hp.objs.size)).get? (hp.objs.size + 1) = some (PySem.HandSPX.excO D.C hp.objs.size) := by heap_get
    have na : H1 (hp.objs.size + 1) = none := I1.hok.fresh (Nat.le_succ _)
    have J := I1.laid (t' := tk) (a := hp.objs.size + 1) (o := exo (hp.objs.size + 1) D.C none) (h' := (hp.push (PySem.W.kdv_tup [u])).push (PySem.HandSPX.excO D.C hp.objs.size)) old (Nat.le_succ _) (exo_ok new)
    have want : spI D.C f [.ref (hp.objs.size + 1), y] (upd H1 (hp.objs.size + 1) (exo (hp.objs.size + 1) D.C none))
        (fun v H2 => v = .non ∧ ∃ dx, H1 dx = none ∧ dx ≠ hp.objs.size + 1 ∧ H2 = upd (upd (upd H1 (hp.objs.size + 1) (exo (hp.objs.size + 1) D.C none)) dx (exd dx [(f, y)])) (hp.objs.size + 1) (exo (hp.objs.size + 1) D.C (some dx))) E0 :=
      ⟨_, y, rfl, upd_same, fun dx n ne => ⟨rfl, dx, by rw [upd_ne ne] at n; exact n, ne, rfl⟩⟩
    have vals : Vals [V.ref (hp.objs.size + 1), y] [Value.ref (hp.objs.size + 1), u] := .cons rfl (.cons r0 .nil)
    have binds : BindsTo ⟨(hp.push (PySem.W.kdv_tup [u])).push (PySem.HandSPX.excO D.C hp.objs.size), g, dr, tk, os⟩ D.fd ⟨.ref (hp.objs.size + 1) :: [u], []⟩ ((["self", q] : List Str).zip [.ref (hp.objs.size + 1), u]) := D.b _ [_, _] J.kIn rfl
    have go := F.go (X.A.under (.builtin "type.__call__" ⟨.ref D.C :: [u], []⟩)) X.stack _ _ _ _ _ _ E0 (quiet_make hq D.C [u] []) (hr.make D.C [u] []) (J.env0.make D.C [u] []) binds vals want
    show wpAny _ _ (call (.ref D.C) [u]) _ _ _
    refine wpAny_call (PySem.HandSPX.call_own PySem.F.excBase_ValueError (fun Y => PySem.HandSPX.refsVE_contains Y bm hbm) (I1.kIn _ _ hC) (PySem.W.looks_findIn I1.kIn D.ini) (fun self => PySem.W.bind_fn I1.kIn self D.fn) (by show 1 ≤ sizeLine; decide)
      (codeAny_mono go fun r s' hq' => ?_))
    match r, hq' with
    | .error _, z => exact False.elim z
    | .ok .next, z => exact False.elim z
    | .ok .brk, z => exact False.elim z
    | .ok .cont, z => exact False.elim z
    | .ok (.ret w), z =>
      obtain ⟨v, H2, os2, bare2, un2, hok2, rv, ev, dx, nx, nex, eH⟩ := z
      subst ev
      obtain ⟨h2, g2, d2, t2, os'⟩ := s'
      have e1 : H2 (hp.objs.size + 1) = some (exo (hp.objs.size + 1) D.C (some dx)) := by rw [eH, upd_same]
      have e2 : H2 dx = some (exd dx [(f, y)]) := by rw [eH, upd_ne nex, upd_same]
      have e3 : upd (del H2 (hp.objs.size + 1)) dx (.xd [(f, y)]) = upd H1 dx (.xd [(f, y)]) := by
        funext b
        by_cases h1 : b = dx
        · rw [h1, upd_same, upd_same]
        · rw [upd_ne h1, upd_ne h1]
          by_cases h2 : b = hp.objs.size + 1
          · rw [h2, del_same, na]
          · rw [del_ne h2, eH, upd_ne h2, upd_ne h1, upd_ne h2]
      exact ⟨rv, mk_end (raises_own D.o.exC D.o.tyC) I1 (Nat.le_succ _) old un2 hok2 os2 bare2 e1 e2 nx (by rw [e3]; exact q1 dx nx)⟩
  | [], _, _, q1 => exact q1.elim
  | _ :: _ :: _, _, _, q1 => exact q1.elim
end
/-- where errors may leave: what is wished of them -/
structure Rz (An : HInv) (Ex : DXX) (X : Cx) : Prop where
  gr : Grows An
  tk : Takes X fun cls od _ H => EX X.K An Ex cls od H
theorem takes_mono {X : Cx} {W W' : WX} (t : Takes X W) (h : ∀ cls d σ H, W' cls d σ H → W cls d σ H) : Takes X W' := fun u s' z => t u s' (by
  obtain ⟨a, B, sI, pins, σ, H, cls, d, e1, e2, e3, e4, e5, e6, e7, e8, w⟩ := z
  exact ⟨a, B, sI, pins, σ, H, cls, d, e1, e2, e3, e4, e5, e6, e7, e8, h _ _ _ _ w⟩)
theorem Rz.mono {An : HInv} {Ex Ex' : DXX} {X : Cx} (R : Rz An Ex X) (h : ∀ x fs μ, Ex' x fs μ → Ex x fs μ) : Rz An Ex' X := ⟨R.gr, takes_mono R.tk fun cls d σ H z => by
  obtain ⟨F, μ, C, x, fs, e, a, r, c, o, q⟩ := z
  exact ⟨F, μ, C, x, fs, e, a, r, c, o, h _ _ _ q⟩⟩
abbrev dRaise (x f : Str) (Ex : DXX) (te : DTE) : DTS := fun _ ρ μ => te ρ μ fun d μ1 => Ex x [(f, d)] μ1
section
variable {An : HInv} {Ex : DXX} {X : Cx} {x f q qual : Str} {st : Stmt} {k n : Nat} {e : Expr} {es : List Expr} {te : DTE} {ta : DTA} {p pos cpos : Pos} {ps ks : List Str} {sp : DSpX}
theorem sa_raise {D : XDef X.K X.mg x f q qual st} (F : XIni X.prog X.w X.base D k) (hq : Quiet X.A) (hr : Room n X.A) (z : Rz An Ex X) (ha : EA An X e te) (hk : k + 1 ≤ n := by omega) (hg : Gl X x := by rfl) (hc : X.calm = true := by rfl) (hdb : (x == ("__debug__" : Str)) = false := by decide)
    (he : starEach [e] X.env = (false, eval e X.env) :: starEach [] X.env := by rfl) : SA An X (.Raise (some (.Call (.Name x p) [e] [] cpos)) none pos) (dRaise x f Ex te) := weakS (ps_raise hc z.tk (pmk_x F hq hr ha hk hg hdb he)) fun D' σ H h => by
  obtain ⟨F, ρ, μ, _, R, S, an, t, _⟩ := h
  refine ⟨F, ρ, μ, _, R, S, an, t, fun d μ1 t1 F1 H1 v s1 R1 r1 dx hdx => ?_⟩
  exact ⟨_, μ1, D.C, x, [(f, d)], rfl, z.gr _ _ _ _ _ _ an (s1.trans (Stp.newS R1 hdx)), R1.newS hdx, D.xk, .inr ⟨dx, [(f, v)], rfl, upd_same, rfl, RepL.one (r1.mono (Ext.new (R1.freeF hdx)))⟩, t1⟩
abbrev FnX (P : Program) (w : World) (base : Heap) {K : PySem.W.Frag} {mg : Str → Option Value} {x : Str} {st : Stmt} {ps : List Str} (D : Def K mg x st ps) (k : Nat) (sp : DSpX) : Prop := FnG P w K mg base (L2.CX P w) k D.f D.fd ps (LSpX K sp)
abbrev dCallX (sp : DSpX) (dvs : List SD) (Ex : DXX) (t : DTA) : DTE := fun ρ μ Q => t ρ μ fun ds μ1 => sp (ds ++ dvs) μ1 Q Ex
theorem LSpX_E {K : PySem.W.Frag} {F1 H1 : Hp} {μ1 : Mu} {E' : DXX} {E : XK} (gr : Grows An) (an : An F1 H1 μ1) (h : ∀ cls od H', EX K An E' cls od H' → E cls od H') : ∀ cls od H', EX K (Stp F1 H1 μ1) E' cls od H' → E cls od H' := fun _ _ _ z => h _ _ _ (z.mono fun _ _ _ s => gr _ _ _ _ _ _ an s)
theorem ea_call {dvs : List SD} {dvV : List V} {dv : List Value} {f : Addr} {fd : FuncData} (F : FnG X.prog X.w X.K X.mg X.base (L2.CX X.prog X.w) k f fd ps (LSpX X.K sp)) (hq : Quiet X.A) (hr : Room k X.A) (z : Rz An Ex X) (hg : Gl X x) (hm : X.mg x = some (.ref f)) (hk : PySem.W.keepIn X.K (.ref f) = true)
    (hb : Binds X.K fd ps dv) (hd : Vals dvV dv) (hp : Paired (fun d v => plain d = some v) dvs dvV) (ha : AA An X (e :: es) ta) (hdb : (x == ("__debug__" : Str)) = false := by decide) (he : starEach (e :: es) X.env = (false, eval e X.env) :: starEach es X.env := by rfl) (hpl : (backTo pos (starEach es X.env)).any (·.1) = false := by rfl) :
    EA An X (.Call (.Name x p) (e :: es) [] pos) (dCallX sp dvs Ex ta) := weakE (pe_g (E := EX X.K An Ex) F hq hr hg hm hk hb hd (passes_call z.tk fun _ _ _ _ h => h) ha hdb he hpl) fun σ H Q h => by
  obtain ⟨F, ρ, μ, Q', R, S, an, t, k⟩ := h
  refine ⟨F, ρ, μ, _, R, S, an, t, fun ds μ1 t1 F1 H1 vs s1 R1 r1 => ?_⟩
  exact ⟨F1, μ1, ds ++ dvs, Q', Ex, R1, r1.append (RepL.plain hp), t1, fun d μ' q F' H' v s R' r' => k d μ' q F' H' v (s1.trans s) R' r', LSpX_E z.gr (z.gr _ _ _ _ _ _ an s1) fun _ _ _ h => h⟩
theorem ea_def {D : Def X.K X.mg x st ps} (F : FnX X.prog X.w X.base D k sp) (hq : Quiet X.A) (hr : Room n X.A) (z : Rz An Ex X) (ha : AA An X (e :: es) ta) (hk : k ≤ n := by omega) (hg : Gl X x := by rfl)
    (hdb : (x == ("__debug__" : Str)) = false := by decide) (he : starEach (e :: es) X.env = (false, eval e X.env) :: starEach es X.env := by rfl) (hpl : (backTo pos (starEach es X.env)).any (·.1) = false := by rfl) :
    EA An X (.Call (.Name x p) (e :: es) [] pos) (dCallX sp [] Ex ta) := ea_call F hq (hr.mono hk) z hg D.m D.F.kp D.b .nil .nil ha hdb he hpl
end
section
variable {P : Program} {w : World} {K : PySem.W.Frag} {mg : Str → Option Value} {base : Heap}
/-- a def that may raise -/
theorem def_okR {x : Str} {st : Stmt} {N ps : List Str} {k : Nat} {sp : DSpX} {f : Addr} {fd : FuncData} (F : Fun K x x st f fd) (S : FnScope N ps (defScope st)) (t : DXX → DTS) (len : ∀ ds μ Q E, sp ds μ Q E → ds.length = ps.length)
    (walk : ∀ (cdv : Value) (A : Around) (outer : List Env) (s : Shared) (H : Hp) (E : XK) (Ex : DXX) (An : HInv), Quiet A → Room k (A.deeper (envOfC x (defScope st) s.heap.objs.size f cdv)) → Rz An Ex (cxOf (L2.CX P w) P w K mg base N x (defScope st) f cdv A outer s H E) →
      SAs An (cxOf (L2.CX P w) P w K mg base N x (defScope st) f cdv A outer s H E) (defBody st) (t Ex))
    (read : ∀ ds μ Q E, sp ds μ Q E → t E { nx := fun _ μ' => Q .non μ', rt := Q } (begin_ N ds) μ) : FnG P w K mg base (L2.CX P w) (k + 1) f fd ps (LSpX K sp) := by
  obtain ⟨oc, od, kV, doc, pm, an, cdv, ct, osl, rfl, lk, hcd⟩ := F.ex
  refine fnG_of lk hcd S (fun vs H Q E h => ?_) fun A outer s H vs Q E quiet room want => ?_
  · obtain ⟨F, μ, ds, Q', E', _, r, q, _⟩ := h
    rw [← r.length]; exact len ds μ Q' E' q
  · obtain ⟨F, μ, ds, Q', E', R, r, q, k1, k2⟩ := want
    refine ⟨_, walk cdv A outer s H E E' (Stp F H μ) quiet room ⟨grows_stp _ _ _, takes_mono (takes_of rfl rfl rfl rfl) fun cls d σ H' z => k2 cls d H' z⟩, F, begin_ N ds, μ, _, R, slots_begin r, Stp.refl _ _ _, read ds μ Q' E' q, ?_, k1, fun _ _ z => False.elim z, fun _ _ z => False.elim z⟩
    exact fun ρ' μ' q F' H' σ' s' R' _ => k1 .non μ' q F' H' .non s' R' .non
end
end DS
namespace DS
open PySem PySem.Spec PyProof.Rows L2 LamX
/-- what a function without parameters does, over data -/
abbrev DTH := Mu → (SD → Mu → Prop) → DXX → Prop
theorem HReal.madeC {K : PySem.W.Frag} {F H H2 : Hp} {μ : Mu} {P c' : Addr} {x q : Str} (R : HReal K F H μ) (hP : μ P = some (.tab P x q)) (m : MadeC H P q c' H2) : ∃ F2, HReal K F2 H2 μ ∧ Stp F H μ F2 H2 μ ∧ F2 c' = some (CodeO c' q) := by
  rcases m with ⟨rfl, ps, pos, h1, h2⟩ | ⟨ps, more, h1, h2, rfl, h3, h4⟩
  · obtain ⟨_, o, hPH, ro⟩ := R.mus P _ hP
    rw [h1] at hPH; cases hPH
    cases ro with
    | tab t1 t2 t3 =>
      obtain ⟨c, e1, e2⟩ := t3 pos _ h2
      cases e1
      exact ⟨F, R, Stp.refl _ _ _, e2⟩
  · have hF := R.freeF h2
    have hPF := (R.mus P _ hP).1
    have Pc : P ≠ c' := fun z => by rw [z, h2] at h1; cases h1
    have ex : Ext F (upd F c' (LamX.CodeO c' q)) := Ext.new hF
    refine ⟨upd F c' (LamX.CodeO c' q), ⟨fun a o e => ?_, fun a n e => ?_⟩, ⟨ex, fun a z1 z2 z3 => ?_⟩, upd_same⟩
    · by_cases ha : a = c'
      · subst ha; rw [upd_same] at e ⊢; exact e
      · rw [upd_ne ha] at e
        have aP : a ≠ P := fun z => by rw [z, hPF] at e; cases e
        rw [upd_ne ha, upd_ne aP]; exact R.sub a o e
    · obtain ⟨z, o, q1, r⟩ := R.mus a n e
      have ha : a ≠ c' := fun z => by rw [z, h2] at q1; cases q1
      refine ⟨by rw [upd_ne ha]; exact z, ?_⟩
      by_cases aP : a = P
      · subst aP
        rw [hP] at e; cases e
        rw [h1] at q1; cases q1
        refine ⟨_, by rw [upd_ne Pc, upd_same], ?_⟩
        cases r with
        | tab t1 t2 t3 =>
          refine .tab t1 h3 fun pos cv hc => ?_
          rcases h4 pos cv hc with hc | rfl
          · obtain ⟨c, e1, e2⟩ := t3 pos cv hc
            exact ⟨c, e1, ex.st _ _ rfl e2⟩
          · exact ⟨c', rfl, upd_same⟩
      · exact ⟨o, by rw [upd_ne ha, upd_ne aP]; exact q1, r.mono ex⟩
    · have ha : a ≠ c' := fun z => z1 (by rw [z]; exact h2)
      have aP : a ≠ P := fun z => by rw [z, hP] at z3; cases z3
      exact ⟨by rw [upd_ne ha, upd_ne aP], by rw [upd_ne ha]; exact z2, z3⟩
/-- the function's reading at the heap is th -/
def Lnk (K : PySem.W.Frag) (F H : Hp) (μ : Mu) (th : DTH) (tl : XK → Hp → VK → Prop) : Prop := ∀ (F1 H1 : Hp) (μ1 : Mu) (Q1 : VK) (Q1' : SD → Mu → Prop) (Ex : DXX), Stp F H μ F1 H1 μ1 → HReal K F1 H1 μ1 → th μ1 Q1' Ex →
  (∀ d μ', Q1' d μ' → ∀ F' H' v, Stp F1 H1 μ1 F' H' μ' → HReal K F' H' μ' → RepS K F' d v → Q1 v H') → tl (EX K (Stp F1 H1 μ1) Ex) H1 Q1
/-- what the def that got it makes of it -/
def TTd (K : PySem.W.Frag) (q : Str) (ttd : DTH → Mu → (SD → Mu → Prop) → Prop) : Addr → Addr → (XK → Hp → VK → Prop) → Hp → VK → Prop := fun _ c' tl H Q => ∃ F μ th Q', HReal K F H μ ∧ F c' = some (CodeO c' q) ∧ Lnk K F H μ th tl ∧ ttd th μ Q' ∧
  ∀ d μ', Q' d μ' → ∀ F' H' v, Stp F H μ F' H' μ' → HReal K F' H' μ' → RepS K F' d v → Q v H'
/-- in the def that got it: its parameter a, called -/
def AskOk (X : Cx) (An : HInv) (a : Str) (f : Addr) (th : DTH) : Prop := ∀ (W : WX) (pn : List (Addr × Obj)) (xe : Value → Shared → Prop) (p1 p2 : Pos), Takes (X.tr pn xe) W → PE (X.tr pn xe) (.Call (.Name a p1) [] [] p2) fun σ H Q =>
  ∃ F ρ μ Q' Ex, HReal X.K F H μ ∧ Slots X.K F σ ρ ∧ An F H μ ∧ ρ[0]? = some (some (.ref f)) ∧ th μ Q' Ex ∧
    (∀ d μ', Q' d μ' → ∀ F' H' v, Stp F H μ F' H' μ' → HReal X.K F' H' μ' → RepS X.K F' d v → Q v H') ∧ ∀ cls d H', EX X.K (Stp F H μ) Ex cls d H' → W cls d σ H'
theorem gives_d {X : Cx} {Ng : List Str} {x a q : Str} {sg : Scope} {g : Addr} {cdg : Value} {bg : List Stmt} {ttd : DTH → Mu → (SD → Mu → Prop) → Prop} (t : Addr → DTH → DTS)
    (walk : ∀ (s : Shared) (H : Hp) (f : Addr) (An : HInv) (th : DTH), Grows An → AskOk (cxOf C8.CX0 X.prog X.w X.K X.mg X.base Ng x sg g cdg X.A X.stack s H C8.E0).nox An a f th → SAs An (cxOf C8.CX0 X.prog X.w X.K X.mg X.base Ng x sg g cdg X.A X.stack s H C8.E0).nox bg (t f th))
    (read : ∀ f th μ Q, ttd th μ Q → t f th { nx := fun _ μ' => Q .non μ', rt := Q } (begin_ Ng [.ref f]) μ) : GivesS X Ng x sg g cdg bg a q (TTd X.K q ttd) := by
  intro f c' s H Q tl hcall hco h
  obtain ⟨F, μ, th, Q', R, hc', lnk, tt, k⟩ := h
  refine ⟨_, walk s H f (Stp F H μ) th (grows_stp _ _ _) (fun W pn xe p1 p2 tk => weakE (hcall W pn xe p1 p2 tk) fun σ HZ Q1 z => ?_), F, begin_ Ng [.ref f], μ, _, R, slots_begin (.cons (.ref f) .nil), Stp.refl _ _ _, read f th μ Q' tt, ?_, k, fun _ _ z => False.elim z, fun _ _ z => False.elim z⟩
  · obtain ⟨F1, ρ1, μ1, Q1', Ex, R1, S1, an, h0, th1, lift, hW⟩ := z
    obtain ⟨v, e1, e2⟩ := S1.at_ 0 _ h0
    cases e2
    exact ⟨e1, R1.sub _ _ (an.ext.st _ _ rfl hc'), EX X.K (Stp F1 HZ μ1) Ex, hW, lnk F1 HZ μ1 Q1 Q1' Ex an R1 th1 lift⟩
  · exact fun ρ' μ' q F' H' σ' s' R' _ => k .non μ' q F' H' .non s' R' .non
/-- x(lambda: body), in the def named y -/
def dLam (y q : Str) (ttd : DTH → Mu → (SD → Mu → Prop) → Prop) (tb : DXX → DTE) : DTE := fun ρ μ Q => ∃ P, μ P = some (.tab P y q) ∧ ttd (fun μ' Q' Ex => tb Ex ρ μ' Q') μ Q
section
variable {X : Cx} {ttd : DTH → Mu → (SD → Mu → Prop) → Prop} {tb : DXX → DTE} {x a y q : Str} {st : Stmt} {k n : Nat} {Ng : List Str} {params : Arguments} {body : Expr} {scope : Scope} {p lpos pos : Pos}
theorem de_lam {D : Def X.K X.mg x st [a]} (hbm : BM X.base X.mg) (hw : OwnC X y) (hquiet : Quiet X.A) (hr : Room n X.A) (hG : ∀ cdv : Value, GivesS X Ng x (defScope st) D.f cdv (defBody st) a q (TTd X.K q ttd)) (Sg : FnScope Ng [a] (defScope st)) (L : LamS X.env.scope scope)
    (hbody : ∀ (A : Around) (outer : List Env) (s : Shared) (H : Hp) (E : XK) (f c' : Addr) (An : HInv) (Ex : DXX), Quiet A → Room k (A.deeper (lamEnv X scope s.heap.objs.size f c')) → Rz An Ex (lamCx X A outer s H E scope f c') → EA An (lamCx X A outer s H E scope f c') body (tb Ex))
    (hk : k + 2 ≤ n := by omega) (hq : q = X.env.qual ++ "<lambda>" := by rfl) (hg : Gl X x := by rfl) (hNg : Ng[0]? = some a := by rfl) (hva : Vis (defScope st) a := by first | exact Or.inl rfl | exact Or.inr (Or.inl rfl) | exact Or.inr (Or.inr rfl))
    (hdef : defaultsOf params X.env = ([], []) := by rfl)
    (hbind : ∀ (q : Str) (cl : List (Str × Addr)) (pm cv ctv : Value), bindArgs (PySem.W.kla_fn "<lambda>" q params body scope cl pm cv ctv) ⟨[], []⟩ = pure [] := by intros; rfl)
    (hdb : (x == ("__debug__" : Str)) = false := by decide) (hd : (a == ("__debug__" : Str)) = false := by decide) (hcd : (a == ("__classdict__" : Str)) = false := by decide) :
    DE X (.Call (.Name x p) [.Lambda params body scope lpos] [] pos) (dLam y q ttd tb) := by
  obtain ⟨f, fd, DF, Dm, Db⟩ := D
  obtain ⟨oc, od, kV, doc, pm, an, cdv, ct, osl, rfl, lk, hcc⟩ := id DF.ex
  refine weakE (pe_lamcallS (TT := TTd X.K q ttd) (a := a) (k := k) (Ng := Ng) (t := fun E σ H Q => ∃ An Ex, Grows An ∧ (∀ cls od H', EX X.K An Ex cls od H' → E cls od H') ∧ LEA X.K An (tb Ex) σ H Q)
    hbm hw hq hg Dm DF.kp lk hcc Db Sg hNg hva (hG cdv) (hr.mono hk) L hdef hbind (fun A outer s H E f c' hgd hr2 => ⟨fun pins s' σ H' Q I z => ?_⟩) hdb hd hcd) fun σ H Q h => ?_
  · obtain ⟨An, Ex, gr, hE, h⟩ := z
    exact (hbody A outer s H E f c' An Ex (hgd.trans hquiet) hr2 ⟨gr, takes_mono (takes_of rfl rfl rfl rfl) fun cls d σ H z => hE cls d H z⟩).run pins s' σ H' Q I h
  · obtain ⟨F, ρ, μ, Q', R, S, ⟨P, hP, tt⟩, k⟩ := h
    obtain ⟨hPF, o, hPH, ro⟩ := R.mus P _ hP
    cases ro with
    | tab ta tt' tc =>
      refine ⟨P, _, ta, hPH, tt', fun pos cv hcv => ?_, fun f c' H1 made hf hco => ?_⟩
      · obtain ⟨c, e1, e2⟩ := tc pos cv hcv
        exact ⟨c, e1, R.sub _ _ e2⟩
      · obtain ⟨F2, R2, s2, hc'⟩ := R.madeC hP made
        refine ⟨F2, μ, _, Q', R2, hc', fun F1 H1' μ1 Q1 Q1' Ex s R1 th1 lift => ?_, tt, fun d μ' q F' H' v s R' r' => k d μ' q F' H' v (s2.trans s) R' r'⟩
        exact ⟨Stp F1 H1' μ1, Ex, grows_stp _ _ _, fun _ _ _ z => z, F1, ρ, μ1, Q1', R1, S.mono (s2.trans s).ext, Stp.refl _ _ _, th1, lift⟩
end
theorem rep_err {K : PySem.W.Frag} {F H : Hp} {μ : Mu} {x : Str} {C a : Addr} {od : Option Addr} {fs : List (Str × SD)} (R : HReal K F H μ) (c : XcK K x C (fs.map (·.1))) (r : XRepF K F od fs) (n : H a = none) : RepS K (upd F a (exq a C od)) (.exc x fs) (.ref a) := by
  have ex : Ext F (upd F a (exq a C od)) := Ext.new (R.freeF n)
  rcases r with ⟨rfl, rfl⟩ | ⟨d, vs, rfl, e, hm, rl⟩
  · exact .exc0 c upd_same
  · exact .exc c upd_same (ex.st _ _ rfl e) hm (rl.mono ex)
/-- try: slot k = a() / except .. as (slot i): slot j = the error -/
def dTryA (f : Addr) (th : DTH) (kx : Str → Option Bool) (k i j : Nat) : DTS := fun D ρ μ => (ρ[0]? = some (some (.ref f)) ∧ i < ρ.length) ∧ th μ (fun d μ1 => D.nx (ρ.set k (some d)) μ1) fun x fs μ1 => kx x = some true ∧
  D.nx (((ρ.set i (some (.exc x fs))).set j (some (.exc x fs))).set i none) μ1
section
variable {An : HInv} {X : Cx} {c a n v cn : Str} {cv : Value} {f : Addr} {th : DTH} {k i j : Nat} {kx : Str → Option Bool} {np p1 p2 p3 p4 p5 p6 p7 pos' pos : Pos}
theorem sa_try (hA : Grows An) (ask : AskOk X An a f th) (hs : X.stack = X.env :: X.outer) (hf : X.env.frame = some X.env.locals) (hex : X.ex = []) (hN : X.N.Nodup) (hc : Names X c cv)
    (hkx : ∀ x b C, kx x = some b → PySem.W.nsIn X.K mainGlobals x = some (some (.ref C)) → PySem.W.exmOne X.K (.ref C) cv = some b)
    (hi : X.N[i]? = some n) (hk : X.N[k]? = some v) (hj : X.N[j]? = some cn) (hln : X.env.kindOf n = some .local) (hlv : Loc X.env.scope v) (hlj : Loc X.env.scope cn) (hlvn : Vis X.env.scope n)
    (hfk : X.fn v = true ∨ X.env.scope.names.lookup v = some .local := by first | exact .inl rfl | exact .inr rfl) (hfj : X.fn cn = true ∨ X.env.scope.names.lookup cn = some .local := by first | exact .inl rfl | exact .inr rfl)
    (hsw : swapsWith (.Call (.Name a p1) [] [] p2) (some (.Name v p3)) p4.line X.env = pure false := by rfl) (hsw2 : swapsWith (.Name n p5) (some (.Name cn p6)) p7.line X.env = pure false := by rfl)
    (hnd : (n == ("__debug__" : Str)) = false := by decide) (hncd : (n == ("__classdict__" : Str)) = false := by decide) :
    SA An X (.Try [.Assign [.Name v p3] (.Call (.Name a p1) [] [] p2) p4] [.ExceptHandler (some (.Name c np)) (some n) [.Assign [.Name cn p6] (.Name n p5) p7] pos'] [] [] pos) (dTryA f th kx k i j) := by
  refine weakS (ps_try_trk (c := cv) (i := i) (Wout := fun _ _ _ _ => False) (ts := fun _ _ _ D σ H => tVar i σ H fun w H' => D.nx (σ.set j (some w)) H')
    (tb := fun W D σ H => ∃ F ρ μ Q' Ex, HReal X.K F H μ ∧ Slots X.K F σ ρ ∧ An F H μ ∧ ρ[0]? = some (some (.ref f)) ∧ th μ Q' Ex ∧
      (∀ d μ', Q' d μ' → ∀ F' H' w, Stp F H μ F' H' μ' → HReal X.K F' H' μ' → RepS X.K F' d w → D.nx (σ.set k (some w)) H') ∧ ∀ cls d H', EX X.K (Stp F H μ) Ex cls d H' → W cls d σ H')
    hs hf hex hN hi hln hc L2.takes0 (fun W pn xe tk _ => ?_) (fun ea oe cls d pn _ _ => ?_)) fun D σ H h => ?_
  · exact pss_one (ps_set (X := X.tr pn xe) hN hk hlv (ask W pn xe p1 p2 tk) hsw hfk)
  · exact pss_one (ps_set (X := X.suite ea ((ea, oe) :: pn)) hN hj hlj (pe_var (X := X.suite ea ((ea, oe) :: pn)) hi hlvn hnd hncd) hsw2 hfj)
  · obtain ⟨F, ρ, μ, D', R, S, an, ⟨⟨h0, hl⟩, t⟩, kn, _⟩ := h
    refine ⟨F, ρ, μ, _, _, R, S, an, h0, t, fun d μ' q F' H' w s R' r' => kn _ μ' q F' H' _ s R' ((S.mono s.ext).set k r'), fun cls od H' z => ?_⟩
    obtain ⟨F', μ', C, x, fs, rfl, s, R', xc, xr, e, q⟩ := z
    refine ⟨true, hkx x true C e xc.at_, fun _ => ⟨C, rfl, fun a' na => ?_⟩, fun z => by cases z⟩
    have SA' := Stp.newS R' (o := exq a' C od) na
    have RA := R'.newS (o := exq a' C od) na
    have rr := rep_err R' xc xr na
    refine ⟨.ref a', List.getElem?_set_self (by rw [S.len]; exact hl), ?_⟩
    exact kn _ μ' q _ _ _ (s.trans SA') RA ((((S.mono (s.trans SA').ext).set i rr).set j rr).setN i)
end
end DS
namespace DS
open PySem PySem.Spec PyProof.Rows L2
theorem exm_row {K : PySem.W.Frag} {D : Addr} {r : Str × Addr × List Value} (h : XRow K r) (hD : (PySem.W.clsIn K D).isSome = true) (tD : PySem.W.typeIn K (.ref D) = some (.type "type")) (sD : PySem.W.subIn K (.ref D) (.type "BaseException") = some true) : PySem.W.exmOne K (.ref r.2.1) (.ref D) = some (r.2.1 == D || r.2.2.contains (.ref D)) := by
  unfold PySem.W.exmOne
  rw [if_pos (by rw [sD]; rfl)]
  unfold PySem.W.kitCls
  dsimp only
  rw [hD, tD]
  show PySem.W.mroIn K r.2.1 (.ref D) = _
  rw [xrow_mro h, List.contains_cons]
  have : (Value.ref D == Value.ref r.2.1) = (r.2.1 == D) := by
    by_cases e : r.2.1 = D
    · rw [e]; simp
    · rw [beq_eq_false_iff_ne.mpr e, beq_eq_false_iff_ne]
      intro z
      exact e (Value.ref.inj z).symm
  rw [this]
theorem exm_ok {K : PySem.W.Frag} {D : Addr} {rows : List (Str × Addr × List Value)} {c : Str} (q : kitQ rows c D = true) (h : ∀ r ∈ rows, XRow K r) (hD : (PySem.W.clsIn K D).isSome = true) (tD : PySem.W.typeIn K (.ref D) = some (.type "type")) (sD : PySem.W.subIn K (.ref D) (.type "BaseException") = some true) (y : Str) (b : Bool) (C : Addr) (e : kX (rows.map (·.1)) c y = some b)
    (a : PySem.W.nsIn K mainGlobals y = some (some (.ref C))) : PySem.W.exmOne K (.ref C) (.ref D) = some b := by
  unfold kX at e
  split at e
  · rename_i hm
    obtain ⟨r, hr, rfl⟩ := List.mem_map.mp hm
    have hx := h r hr
    obtain rfl : r.2.1 = C := by
      have z := hx.1.symm.trans a
      cases z; rfl
    rw [exm_row hx hD tD sD]
    have z := List.all_eq_true.mp q r hr
    rw [beq_iff_eq.mp z, e]
  · cases e
end DS
namespace DS
end DS
namespace DS
open PySem PySem.Spec PyProof.Rows L2
def anyX : List (Str → Option Bool) → Str → Option Bool
  | [], _ => some false
  | k :: r, x => match k x with
    | some true => some true
    | some false => anyX r x
    | none => none
def KitsX (K : PySem.W.Frag) (kxs : List (Str → Option Bool)) (cs : List Addr) : Prop := ∀ y b C, anyX kxs y = some b → PySem.W.nsIn K mainGlobals y = some (some (.ref C)) → PySem.W.kitAny K (.ref C) (cs.map Value.ref) = some b
theorem KitsX.nil {K : PySem.W.Frag} : KitsX K [] [] := fun _ _ _ e _ => e
theorem KitsX.cons {K : PySem.W.Frag} {kx : Str → Option Bool} {kxs : List (Str → Option Bool)} {D : Addr} {cs : List Addr} (h : ∀ y b C, kx y = some b → PySem.W.nsIn K mainGlobals y = some (some (.ref C)) → PySem.W.kitOne K (.ref C) (.ref D) = some b) (r : KitsX K kxs cs) : KitsX K (kx :: kxs) (D :: cs) := fun y b C e n => by
  unfold anyX at e
  rw [List.map_cons]
  unfold PySem.W.kitAny
  cases q : kx y with
  | none => rw [q] at e; cases e
  | some v =>
    rw [q] at e
    rw [h y v C q n]
    cases v with
    | true => exact e
    | false => exact r y b C e n
def rXT (K : PySem.W.Frag) (cs : List Addr) : List V → Hp → VK → Prop := fun xs H Q => ∃ (a C tp : Addr) (od : Option Addr) (b : Bool) (x : Str) (fs : List Str), xs = [.ref a, .ref tp] ∧ H a = some (exq a C od) ∧ (∀ d, od = some d → ∃ vs, H d = some (.xd vs)) ∧ XcK K x C fs ∧ SqT K H tp (cs.map V.ref) ∧ PySem.W.kitAny K (.ref C) (cs.map Value.ref) = some b ∧ Q (.bl b) H
theorem vals_refs : ∀ {cs : List Addr} {its : List Value}, Vals (cs.map V.ref) its → its = cs.map Value.ref
  | [], _, .nil => rfl
  | _ :: _, _, .cons r t => by rw [vals_refs t]; cases r; rfl
section
variable {X : Cx} {cs : List Addr}
theorem call_xt : CallR X (.builtin "isinstance") (rXT X.K cs) := by
  intro pins s σ H xs us Q I r h
  obtain ⟨a, C, tp, od, b, x, fs, rfl, ea, ed, T, ht, e, q⟩ := h
  match us, r with
  | [_, _], .cons r0 (.cons r1 .nil) =>
    cases r0
    cases r1
    obtain ⟨⟨oe, vs, e1, ⟨z1, z2⟩, e3⟩, _, _⟩ := I.hok a _ ea
    have cls : (PySem.W.clsIn X.K C).isSome = true := by
      obtain ⟨cd, hc, _⟩ := PySem.W.any_some T.hd
      rw [hc]; rfl
    have no : PySem.W.notCls oe = true := by unfold PySem.W.notCls; rw [e3] <;> rfl
    have at_ : ∃ o : Option Obj, PySem.W.InstAt s.heap a oe C o := by
      cases q2 : od with
      | none => exact ⟨none, e1, z1, no, by rw [z2, q2]; exact True.intro⟩
      | some d =>
        obtain ⟨ws, hd⟩ := ed d q2
        have hx : ObjOk X.prog X.w H s.heap d (.xd ws) := I.hok d _ hd
        obtain ⟨mA, ⟨o, es, ep, ho, _⟩, _⟩ := hx
        exact ⟨some o, e1, z1, no, by rw [z2, q2]; exact ho⟩
    obtain ⟨o, J⟩ := at_
    obtain ⟨its, rv, ⟨⟨tc, td, tda, tsl⟩, th, tcl, n, tdt⟩, _⟩ := I.tuple ht
    simp only at tcl tdt
    subst tcl tdt
    obtain rfl := vals_refs rv
    exact PySem.W.kia_tup (PySem.W.kitx_exc cls T.ga T.gg T.sub T.cl T.sp T.tk T.mro) I.kIn J th e (fun z => nomatch z) fun tk => ⟨.bl b, H, I.kept (t' := tk) fun _ _ z => z, rfl, q⟩
end
def isQT (kxs : List (Str → Option Bool)) (Q : SD → Mu → Prop) : SD → Mu → Prop := fun d μ => match d with
  | .exc x _ => (match anyX kxs x with
    | some b => Q (.bl b) μ
    | none => False)
  | _ => False
abbrev dIsXT (kxs : List (Str → Option Bool)) (te : DTE) : DTE := fun ρ μ Q => te ρ μ (isQT kxs Q)
def tcs : List Addr → DTA
  | [] => dNil
  | c :: r => dCons (dC (.ref c)) (tcs r)
theorem tcs_eq : ∀ (cs : List Addr) (ρ : Rho) (μ : Mu) (Q : List SD → Mu → Prop), tcs cs ρ μ Q = Q (cs.map SD.ref) μ
  | [], _, _, _ => rfl
  | c :: r, ρ, μ, Q => by
    show tcs r ρ μ (fun xs μ2 => Q (.ref c :: xs) μ2) = _
    rw [tcs_eq r]; rfl
theorem repL_refs {K : PySem.W.Frag} {F : Hp} : ∀ {cs : List Addr} {vs : List V}, RepL K F (cs.map SD.ref) vs → vs = cs.map V.ref
  | [], _, .nil => rfl
  | _ :: _, _, .cons r t => by rw [repL_refs t]; cases r; rfl
theorem isxt_go {kxs : List (Str → Option Bool)} {cs : List Addr} {Q' : SD → Mu → Prop} {Q : VK} {K : PySem.W.Frag} {F H : Hp} {μ : Mu} (hk : KitsX K kxs cs) {d : SD} {w : V} {tp : Addr} (R : HReal K F H μ) (r1 : RepS K F d w) (ht : SqT K H tp (cs.map V.ref)) (t : isQT kxs Q' d μ)
    (k : ∀ d' μ', Q' d' μ' → ∀ F' H' v, Stp F H μ F' H' μ' → HReal K F' H' μ' → RepS K F' d' v → Q v H') : rXT K cs [w, .ref tp] H Q := by
  unfold isQT at t
  cases r1 with
  | exc0 T q =>
    simp only at t
    split at t
    · rename_i b e
      exact ⟨_, _, tp, none, b, _, [], rfl, R.sub _ _ q, fun _ z => (by cases z), T, ht, hk _ _ _ e T.at_, k _ _ t _ _ _ (Stp.refl _ _ _) R (.bl b)⟩
    · exact t.elim
  | exc T q q2 z r3 =>
    simp only at t
    split at t
    · rename_i b e
      exact ⟨_, _, tp, some _, b, _, _, rfl, R.sub _ _ q, fun d z => (by cases z; exact ⟨_, R.sub _ _ q2⟩), T, ht, hk _ _ _ e T.at_, k _ _ t _ _ _ (Stp.refl _ _ _) R (.bl b)⟩
    · exact t.elim
  | _ => exact t.elim
section
variable {X : Cx} {e : Expr} {es : List Expr} {te : DTE} {p pos tpos : Pos} {kxs : List (Str → Option Bool)} {cs : List Addr} {x1 : Nat}
theorem de_isXTup (ha : DE X e te) (hc : DA X es (tcs cs)) (hk : KitsX X.K kxs cs) (zI : X.mg "isinstance" = none) (hlen : cs.length ≤ sizeLine := by first | (show 1 ≤ 1000000000; decide) | decide) (hI : Gl X "isinstance" := by rfl)
    (he : starEach [e, .Tuple es x1 tpos] X.env = (false, eval e X.env) :: starEach [.Tuple es x1 tpos] X.env := by rfl) (he2 : starEach [.Tuple es x1 tpos] X.env = (false, eval (.Tuple es x1 tpos) X.env) :: starEach [] X.env := by rfl)
    (hpl : (backTo pos (starEach [.Tuple es x1 tpos] X.env)).any (·.1) = false := by rfl) : DE X (.Call (.Name "isinstance" p) [e, .Tuple es x1 tpos] [] pos) (dIsXT kxs te) :=
  weakE (pe_callB (call_xt (cs := cs)) hI zI bt_isinstance (da_cons ha (da_cons (de_tup hc) da_nil he2) he) (by decide) (by decide) he hpl) fun σ H Q h => by
    obtain ⟨F, ρ, μ, Q', R, S, t, k⟩ := h
    refine ⟨F, ρ, μ, fun ds μ1 => match ds with
      | [d, .tup ys] => ys = cs.map SD.ref ∧ isQT kxs Q' d μ1
      | _ => False, R, S, ?_, fun ds μ1 t1 F1 H1 vs s1 R1 r1 => ?_⟩
    · have mono : (fun (d : SD) (μ1 : Mu) => tcs cs ρ μ1 fun ys μ2 => ys.length ≤ sizeLine ∧ (ys = cs.map SD.ref ∧ isQT kxs Q' d μ2)) = isQT kxs Q' := by
        funext d μ1
        rw [tcs_eq]
        exact propext ⟨fun z => z.2.2, fun z => ⟨by rw [List.length_map]; exact hlen, rfl, z⟩⟩
      show te ρ μ (fun (d : SD) (μ1 : Mu) => tcs cs ρ μ1 fun ys μ2 => ys.length ≤ sizeLine ∧ (ys = cs.map SD.ref ∧ isQT kxs Q' d μ2))
      rw [mono]
      exact t
    · match ds, vs, r1, t1 with
      | [d, .tup ys], [w, w'], .cons ra (.cons rb .nil), t2 =>
        obtain ⟨rfl, t3⟩ := (show ys = cs.map SD.ref ∧ isQT kxs Q' d μ1 from t2)
        cases rb with
        | tup hq rq =>
          obtain rfl := repL_refs rq
          exact isxt_go hk R1 ra (R1.ext.sqT hq) t3 fun d' μ' q F' H' v' s R' r' => k d' μ' q F' H' v' (s1.trans s) R' r'
end
end DS
namespace DS
end DS
namespace DS
open PySem PySem.Spec PyProof.Rows L2
mutual
/-- the value shows as the datum; dicts among it stand at no place of the machine's own -/
inductive Shv (h : Heap) : Value → PyData → Prop
  | non : Shv h .none .none
  | bl (b : Bool) : Shv h (.bool b) (.bool b)
  | int (i : Int) (t : Tok) : Shv h (.int i t) (.int i)
  | str (x : Str) (t : Tok) : Shv h (.str x t) (.str x)
  | lst {a : Addr} {o : Obj} {vs : Array Value} {n : Nat} {xs : List PyData} : h.get? a = some o → o.cls = .type "list" → o.data = .seq vs n → ShvL h vs.toList xs → Shv h (.ref a) (.list xs)
  | tup {a : Addr} {o : Obj} {vs : Array Value} {n : Nat} {xs : List PyData} : h.get? a = some o → o.cls = .type "tuple" → o.data = .seq vs n → ShvL h vs.toList xs → Shv h (.ref a) (.tuple xs)
  | dic {a : Addr} {o : Obj} {es : Array DictEntry} {n : Nat} {kvs : List (PyData × PyData)} : (a == sysModules) = false → h.get? a = some o → o.cls = .type "dict" → o.data = .dict es n → ShvL h (es.toList.map (·.key)) (kvs.map (·.1)) → ShvL h (es.toList.map (·.val)) (kvs.map (·.2)) → Shv h (.ref a) (.dict kvs)
inductive ShvL (h : Heap) : List Value → List PyData → Prop
  | nil : ShvL h [] []
  | cons {v : Value} {vs : List Value} {d : PyData} {ds : List PyData} : Shv h v d → ShvL h vs ds → ShvL h (v :: vs) (d :: ds)
end
mutual
theorem Shv.reads {h : Heap} : ∀ {v : Value} {d : PyData}, Shv h v d → ∃ as, Reads h v d as
  | _, _, .non => ⟨_, .none⟩
  | _, _, .bl b => ⟨_, .bool b⟩
  | _, _, .int i t => ⟨_, .int i t⟩
  | _, _, .str x t => ⟨_, .str x t⟩
  | _, _, .lst a b c r => let ⟨_, q⟩ := ShvL.reads r; ⟨_, .list a b c q⟩
  | _, _, .tup a b c r => let ⟨_, q⟩ := ShvL.reads r; ⟨_, .tuple a b c q⟩
  | _, _, .dic _ a b c r1 r2 => let ⟨_, q1⟩ := ShvL.reads r1; let ⟨_, q2⟩ := ShvL.reads r2; ⟨_, .dict a b c q1 q2⟩
theorem ShvL.reads {h : Heap} : ∀ {vs : List Value} {ds : List PyData}, ShvL h vs ds → ∃ as, ReadsAll h vs ds as
  | _, _, .nil => ⟨_, .nil⟩
  | _, _, .cons h r => let ⟨_, p⟩ := Shv.reads h; let ⟨_, q⟩ := ShvL.reads r; ⟨_, .cons p q⟩
end
section
variable {prog : Program} {w : World} {h₀ : Heap}
mutual
theorem Shv.K : ∀ {v : Value} {d : PyData}, Shv h₀ v d → d.showable = true → d.shown.length ≤ sizeLine → ∃ bs, ReadAtMost h₀ d.depth bs ∧ ReprK prog w bs h₀ d.depth v d.shown
  | _, _, .non, hs, hz => ReprK.of_reads Reads.none hs (fun z => by simp [PyData.hasDict] at z) hz
  | _, _, .bl b, hs, hz => ReprK.of_reads (Reads.bool b) hs (fun z => by simp [PyData.hasDict] at z) hz
  | _, _, .int i t, hs, hz => ReprK.of_reads (Reads.int i t) hs (fun z => by simp [PyData.hasDict] at z) hz
  | _, _, .str x t, hs, hz => ReprK.of_reads (Reads.str x t) hs (fun z => by simp [PyData.hasDict] at z) hz
  | _, _, .lst (a := a) (vs := vs) (xs := xs) h1 h2 h3 h4, hs, hz => by
    have fits : (listText (PyData.shownAll xs)).length ≤ sizeLine := by simpa only [PyData.shown] using hz
    obtain ⟨bs, hb, hk⟩ := ShvL.K h4 (by simpa [PyData.showable] using hs) fun t ht => Nat.le_trans (listText_mem_le ht) fits
    obtain ⟨as, q⟩ := ShvL.reads h4
    have r : Reads h₀ (.ref a) (.list xs) (a :: as) := .list h1 h2 h3 q
    have apart : a ∉ bs := not_mem_of_deeper r (by simp only [PyData.depth]; omega) hb
    refine ⟨a :: bs, ReadAtMost.cons r (by simp only [PyData.depth]; omega) hb, ?_⟩
    simp only [PyData.depth, PyData.shown]
    obtain ⟨l⟩ := vs
    cases l with
    | nil =>
      have e : ShvL h₀ [] xs := h4
      cases e
      simp only [PyData.shownAll, listText_nil]
      exact ReprK.listEmpty h1 h2 h3
    | cons x l => exact ReprK.list h1 h2 h3 apart (by simpa using hk.length_eq) fun i y e => hk.item i y (by simpa using e)
  | _, _, .tup (a := a) (xs := xs) h1 h2 h3 h4, hs, hz => by
    have fits : (tupleText (PyData.shownAll xs)).length ≤ sizeLine := by simpa only [PyData.shown] using hz
    obtain ⟨bs, hb, hk⟩ := ShvL.K h4 (by simpa [PyData.showable] using hs) fun t ht => Nat.le_trans (tupleText_mem_le ht) fits
    obtain ⟨as, q⟩ := ShvL.reads h4
    have r : Reads h₀ (.ref a) (.tuple xs) as := .tuple h1 h2 h3 q
    have apart : a ∉ bs := not_mem_of_deeper r (by simp only [PyData.depth]; omega) hb
    refine ⟨a :: bs, ReadAtMost.cons r (by simp only [PyData.depth]; omega) hb, ?_⟩
    simp only [PyData.depth, PyData.shown]
    exact ReprK.tuple h1 h2 h3 apart hk
  | _, _, .dic (a := a) (es := es) (kvs := kvs) h0 h1 h2 h3 h4 h5, hs, hz => by
    have fits : (dictText (PyData.shownKv kvs)).length ≤ sizeLine := by simpa only [PyData.shown] using hz
    obtain ⟨s1, s2⟩ := PyData.showableKv_split kvs (by simpa [PyData.showable] using hs)
    obtain ⟨b1, hb1, k1⟩ := ShvL.K h4 s1 fun t ht => let ⟨p, hp, hl⟩ := PyData.shownKv_key_le kvs t ht; Nat.le_trans hl (Nat.le_trans (dictText_mem_le hp) fits)
    obtain ⟨b2, hb2, k2⟩ := ShvL.K h5 s2 fun t ht => let ⟨p, hp, hl⟩ := PyData.shownKv_val_le kvs t ht; Nat.le_trans hl (Nat.le_trans (dictText_mem_le hp) fits)
    obtain ⟨as, q⟩ := ShvL.reads h4
    obtain ⟨as2, q2⟩ := ShvL.reads h5
    have r : Reads h₀ (.ref a) (.dict kvs) _ := .dict h1 h2 h3 q q2
    have both : ReadAtMost h₀ (PyData.depthKv kvs) (b1 ++ b2) := (hb1.mono (PyData.depthAll_keys_le kvs)).append (hb2.mono (PyData.depthAll_vals_le kvs))
    have apart : a ∉ b1 ++ b2 := not_mem_of_deeper r (by simp only [PyData.depth]; omega) both
    refine ⟨a :: (b1 ++ b2), ReadAtMost.cons r (by simp only [PyData.depth]; omega) both, ?_⟩
    simp only [PyData.depth, PyData.shown, PyData.shownKv_eq]
    exact ReprK.dict h1 h2 h3 h0 apart (ReprEntriesK.of_two es.toList _ _ (k1.more_le (fun b z => List.mem_append_left b2 z) (PyData.depthAll_keys_le kvs)) (k2.more_le (fun b z => List.mem_append_right b1 z) (PyData.depthAll_vals_le kvs)))
theorem ShvL.K : ∀ {vs : List Value} {ds : List PyData}, ShvL h₀ vs ds → PyData.showableAll ds = true → (∀ t ∈ PyData.shownAll ds, t.length ≤ sizeLine) →
    ∃ bs, ReadAtMost h₀ (PyData.depthAll ds) bs ∧ ReprAllK prog w bs h₀ (PyData.depthAll ds) vs (PyData.shownAll ds)
  | _, _, .nil, _, _ => ⟨[], (fun _ h => nomatch h), by simp only [PyData.shownAll]; exact .nil⟩
  | _, _, .cons (d := d) (ds := ds) r rs, hs, hz => by
    have both : d.showable = true ∧ PyData.showableAll ds = true := by simpa [PyData.showableAll] using hs
    obtain ⟨b1, hb1, k1⟩ := Shv.K r both.1 (hz _ (by simp only [PyData.shownAll]; exact List.mem_cons_self ..))
    obtain ⟨b2, hb2, k2⟩ := ShvL.K rs both.2 fun t ht => hz t (by simp only [PyData.shownAll]; exact List.mem_cons_of_mem _ ht)
    refine ⟨b1 ++ b2, ?_, ?_⟩
    · simp only [PyData.depthAll]
      exact (hb1.mono (Nat.le_max_left _ _)).append (hb2.mono (Nat.le_max_right _ _))
    · simp only [PyData.depthAll, PyData.shownAll]
      exact .cons ((k1.more fun b hb => List.mem_append_left b2 hb).level_le (Nat.le_max_left _ _)) (k2.more_le (fun b hb => List.mem_append_right b1 hb) (Nat.le_max_right _ _))
end
theorem Shv.by {a : Addr} {d : PyData} (r : Shv h₀ (.ref a) d) (hs : d.showable = true) (hz : d.shown.length ≤ sizeLine) : ∃ T idr, ShowsBy prog w h₀ a d T idr := by
  cases r with
  | lst h1 h2 h3 h4 =>
    rename_i o vs n xs
    have fits : (listText (PyData.shownAll xs)).length ≤ sizeLine := by simpa only [PyData.shown] using hz
    obtain ⟨bs, hb, hk⟩ := ShvL.K (prog := prog) (w := w) h4 (by simpa [PyData.showable] using hs) fun t ht => Nat.le_trans (listText_mem_le ht) fits
    obtain ⟨as, q⟩ := ShvL.reads h4
    have apart : a ∉ bs := not_mem_of_deeper (.list h1 h2 h3 q) (by simp only [PyData.depth]; omega) hb
    refine ⟨"list", "list.__repr__", F.slot_list_repr.toG, F.slot_list_str, F.slot_list_format, fun s keep => ⟨o, keep _ _ h1, h2⟩, fun A E s Q hg hu keep hQ => ?_⟩
    simp only [PyData.depth] at hu
    simp only [PyData.shown] at hQ
    obtain ⟨l⟩ := vs
    cases l with
    | nil =>
      have e : ShvL h₀ [] xs := h4
      cases e
      simp only [PyData.shownAll, listText_nil] at hQ
      exact call_list_repr_empty ⟨o, keep _ _ h1, h2⟩ (keep _ _ h1) h3 (hQ s.heap _ _ fun _ _ e => e)
    | cons x l => exact call_list_reprK h1 h2 h3 apart (by simpa using hk.length_eq) (fun i y e => hk.item i y (by simpa using e)) hg (fun b _ => Clear.nil b) hu keep hQ fits
  | tup h1 h2 h3 h4 =>
    rename_i o vs n xs
    have fits : (tupleText (PyData.shownAll xs)).length ≤ sizeLine := by simpa only [PyData.shown] using hz
    obtain ⟨bs, hb, hk⟩ := ShvL.K (prog := prog) (w := w) h4 (by simpa [PyData.showable] using hs) fun t ht => Nat.le_trans (tupleText_mem_le ht) fits
    obtain ⟨as, q⟩ := ShvL.reads h4
    have apart : a ∉ bs := not_mem_of_deeper (.tuple h1 h2 h3 q) (by simp only [PyData.depth]; omega) hb
    refine ⟨"tuple", "tuple.__repr__", F.slot_tuple_repr, F.slot_tuple_str, F.slot_tuple_format, fun s keep => ⟨o, keep _ _ h1, h2⟩, fun A E s Q hg hu keep hQ => ?_⟩
    simp only [PyData.depth] at hu
    simp only [PyData.shown] at hQ
    exact call_tuple_reprK h1 h2 h3 apart hk hg (fun b _ => Clear.nil b) hu keep hQ fits
  | dic h0 h1 h2 h3 h4 h5 =>
    rename_i o es n kvs
    have fits : (dictText (PyData.shownKv kvs)).length ≤ sizeLine := by simpa only [PyData.shown] using hz
    obtain ⟨s1, s2⟩ := PyData.showableKv_split kvs (by simpa [PyData.showable] using hs)
    obtain ⟨b1, hb1, k1⟩ := ShvL.K (prog := prog) (w := w) h4 s1 fun t ht => let ⟨p, hp, hl⟩ := PyData.shownKv_key_le kvs t ht; Nat.le_trans hl (Nat.le_trans (dictText_mem_le hp) fits)
    obtain ⟨b2, hb2, k2⟩ := ShvL.K (prog := prog) (w := w) h5 s2 fun t ht => let ⟨p, hp, hl⟩ := PyData.shownKv_val_le kvs t ht; Nat.le_trans hl (Nat.le_trans (dictText_mem_le hp) fits)
    obtain ⟨as, q⟩ := ShvL.reads h4
    obtain ⟨as2, q2⟩ := ShvL.reads h5
    have r : Reads h₀ (.ref a) (.dict kvs) _ := .dict h1 h2 h3 q q2
    have both : ReadAtMost h₀ (PyData.depthKv kvs) (b1 ++ b2) := (hb1.mono (PyData.depthAll_keys_le kvs)).append (hb2.mono (PyData.depthAll_vals_le kvs))
    have apart : a ∉ b1 ++ b2 := not_mem_of_deeper r (by simp only [PyData.depth]; omega) both
    refine ⟨"dict", "dict.__repr__", F.slot_dict_repr, F.slot_dict_str, F.slot_dict_format, fun s keep => ⟨o, keep _ _ h1, h2⟩, fun A E s Q hg hu keep hQ => ?_⟩
    simp only [PyData.depth] at hu
    simp only [PyData.shown, PyData.shownKv_eq] at hQ
    exact call_dict_reprK h1 h2 h3 h0 apart (ReprEntriesK.of_two es.toList _ _ (k1.more_le (fun b z => List.mem_append_left b2 z) (PyData.depthAll_keys_le kvs)) (k2.more_le (fun b z => List.mem_append_right b1 z) (PyData.depthAll_vals_le kvs))) hg (fun b _ => Clear.nil b) hu keep hQ (by rw [← PyData.shownKv_eq]; exact fits)
end
/-- a key as a datum -/
def pyK : Key → PyData
  | .inl i => .int i
  | .inr x => .str x
mutual
inductive Dv (K : PySem.W.Frag) (H : Hp) : V → PyData → Prop
  | non : Dv K H .non .none
  | bl (b : Bool) : Dv K H (.bl b) (.bool b)
  | int (i : Int) : Dv K H (.int i) (.int i)
  | str (x : Str) : Dv K H (.str x) (.str x)
  | lst {a : Addr} {xs : List V} {ds : List PyData} : SqL K H a xs → DvL K H xs ds → Dv K H (.ref a) (.list ds)
  | tup {a : Addr} {xs : List V} {ds : List PyData} : SqT K H a xs → DvL K H xs ds → Dv K H (.ref a) (.tuple ds)
  | dic {a : Addr} {kvs : List (Key × V)} {ps : List (PyData × PyData)} : Rd H a (.dK kvs) → ps.map (·.1) = kvs.map (fun p => pyK p.1) → DvL K H (kvs.map (·.2)) (ps.map (·.2)) → Dv K H (.ref a) (.dict ps)
inductive DvL (K : PySem.W.Frag) (H : Hp) : List V → List PyData → Prop
  | nil : DvL K H [] []
  | cons {v : V} {vs : List V} {d : PyData} {ds : List PyData} : Dv K H v d → DvL K H vs ds → DvL K H (v :: vs) (d :: ds)
end
theorem keys_shv {h : Heap} {P : Program} {w : World} : ∀ {es : List DictEntry} {kvs : List (Key × V)} {vs : List (Key × Value)}, KV kvs vs → Pairs (mixKind P w) es vs → ShvL h (es.map (·.key)) (kvs.map fun p => pyK p.1) ∧ Vals (kvs.map (·.2)) (es.map (·.val))
  | _, _, _, .nil, .nil => ⟨.nil, .nil⟩
  | _, _, _, .cons r rs, .cons q1 q2 qs => by
    obtain ⟨a, b⟩ := keys_shv (h := h) rs qs
    obtain ⟨r1, r2⟩ := r
    refine ⟨.cons ?_ a, .cons (by dsimp only; rw [q2]; exact r2) b⟩
    dsimp only
    rw [r1]
    rcases keyIs_shape q1 with ⟨i, t, e1, e2⟩ | ⟨x, t, e1, e2⟩
    · rw [e1, e2]; exact .int i t
    · rw [e1, e2]; exact .str x t
section
variable {X : Cx} {K : PySem.W.Frag} {pins : List (Addr × Obj)} {σ : L2.St} {H : Hp} {s : Shared}
mutual
theorem Dv.shw (I : Inv X pins σ H s) : ∀ {v : V} {d : PyData} {u : Value}, Dv X.K H v d → RelV v u → Shv s.heap u d
  | _, _, u, .non, r => by cases r; exact .non
  | _, _, u, .bl b, r => by cases r; exact .bl b
  | _, _, u, .int i, r => by obtain ⟨t, rfl⟩ := r; exact .int i t
  | _, _, u, .str x, r => by obtain ⟨t, rfl⟩ := r; exact .str x t
  | _, _, u, .lst hs ha, r => by
    cases r
    obtain ⟨its, rv, ⟨o, n, ho, hc, _, hd⟩, _⟩ := I.list hs
    exact .lst ho hc hd (DvL.shw I ha rv)
  | _, _, u, .tup hs ha, r => by
    cases r
    obtain ⟨its, rv, ⟨o, ho, hc, n, hd⟩, _⟩ := I.tuple hs
    exact .tup ho hc hd (DvL.shw I ha rv)
  | _, _, u, .dic e hk hv, r => by
    cases r
    obtain ⟨_, h0, vs, rel, o, es, ep, ho, hex, hd, _, hp, _⟩ := dk_rd I.hok e
    obtain ⟨a, b⟩ := keys_shv (h := s.heap) rel hp
    exact .dic h0 ho hex.1 hd (by rw [hk]; exact a) (DvL.shw I hv b)
theorem DvL.shw (I : Inv X pins σ H s) : ∀ {vs : List V} {ds : List PyData} {us : List Value}, DvL X.K H vs ds → Vals vs us → ShvL s.heap us ds
  | _, _, _, .nil, .nil => .nil
  | _, _, _, .cons h r, .cons q t => .cons (Dv.shw I h q) (DvL.shw I r t)
end
def rReprV (K : PySem.W.Frag) : List V → Hp → VK → Prop := fun xs H Q => ∃ x d, xs = [x] ∧ Dv K H x d ∧ (PyData.showable d = true ∧ d.shown.length ≤ sizeLine ∧ d.depth ≤ 64) ∧ Q (.str d.shown) H
theorem cr_reprV (hq : Quiet X.A) (hu : X.A.units + 66 < cLine) : CallR X (.builtin "repr") (rReprV X.K) := by
  intro pins s σ H xs us Q I r h
  obtain ⟨x, d, rfl, hd, ⟨h1, h2, h3⟩, q⟩ := h
  obtain ⟨u, rfl, rx⟩ := vals1 r
  have far : ∀ a, u = .ref a → wpAny (model X.prog X.w) X.A (call (.builtin "repr") [u]) (EP X pins σ Q) X.xe s := fun a e => by
    subst e
    obtain ⟨T, idr, S⟩ := Shv.by (prog := X.prog) (w := X.w) (Dv.shw I hd rx) h1 h2
    have keep : ∀ b o, s.heap.get? b = some o → s.heap.get? b = some o := fun _ _ e => e
    refine call_repr_slot (by omega) (S.typeIs s keep) S.slotRepr (S.call X.A.in1 X.xe s _ hq (by show X.A.units + 1 + d.depth < cLine; omega) keep fun h' t tk hk => ⟨_, _, rfl, ?_⟩)
    exact ⟨.str _, H, I.kept (h' := h') (t' := tk) hk, ⟨_, rfl⟩, q⟩
  cases hd with
  | non => obtain rfl := rx; exact P.repr_of_none ⟨.str _, H, I.tok _, ⟨_, rfl⟩, q⟩
  | bl b => obtain rfl := rx; exact P.repr_of_bool ⟨.str _, H, I.tok _, ⟨_, rfl⟩, q⟩
  | int i =>
    obtain ⟨t, rfl⟩ := rx
    exact P.repr_of_int (of_decide_eq_true (by simpa [PyData.showable] using h1)) ⟨.str _, H, I.tok _, ⟨_, rfl⟩, q⟩
  | str z =>
    obtain ⟨t, rfl⟩ := rx
    exact P.repr_of_str (hsz := h2) ⟨.str _, H, I.tok _, ⟨_, rfl⟩, q⟩
  | lst hl hr => exact far _ rx
  | tup hl hr => exact far _ rx
  | dic e _ _ => exact far _ rx
end
mutual
def pvS : SD → Option PyData
  | .non => some .none
  | .bl b => some (.bool b)
  | .int i => some (.int i)
  | .str s => some (.str s)
  | .ref _ => none
  | .ty _ => none
  | .exc _ _ => none
  | .ptp xs => match pvL xs with
    | some ds => some (.tuple ds)
    | none => none
  | .tup xs => match pvL xs with
    | some ds => some (.tuple ds)
    | none => none
  | .lst xs => match pvL xs with
    | some ds => some (.list ds)
    | none => none
  | .rol xs => match pvL xs with
    | some ds => some (.list ds)
    | none => none
  | .dic kvs => match pvK kvs with
    | some ds => some (.dict ds)
    | none => none
def pvL : List SD → Option (List PyData)
  | [] => some []
  | d :: r => match pvS d, pvL r with
    | some x, some y => some (x :: y)
    | _, _ => none
def pvK : List (Key × SD) → Option (List (PyData × PyData))
  | [] => some []
  | (k, d) :: r => match pvS d, pvK r with
    | some x, some y => some ((pyK k, x) :: y)
    | _, _ => none
end
theorem pvK_split : ∀ {kvs : List (Key × SD)} {ps : List (PyData × PyData)}, pvK kvs = some ps → ps.map (·.1) = kvs.map (fun p => pyK p.1) ∧ pvL (kvs.map (·.2)) = some (ps.map (·.2))
  | [], _, e => by unfold pvK at e; cases e; exact ⟨rfl, by unfold pvL; rfl⟩
  | (k, d) :: r, _, e => by
    unfold pvK at e
    cases q : pvS d with
    | none => rw [q] at e; cases e
    | some x => cases q2 : pvK r with
      | none => rw [q, q2] at e; cases e
      | some y =>
        rw [q, q2] at e; cases e
        obtain ⟨a, b⟩ := pvK_split q2
        refine ⟨by rw [List.map_cons, List.map_cons, a], ?_⟩
        rw [List.map_cons, List.map_cons]
        unfold pvL
        rw [q, b]
def pv (μ : Mu) : SD → Option PyData
  | .ref a => match μ a with
    | some (.lst xs) => match pvL xs with
      | some ds => some (.list ds)
      | none => none
    | _ => none
  | d => pvS d
section
variable {K : PySem.W.Frag} {F H : Hp} {μ : Mu}
mutual
theorem RepS.dv (ex : Ext F H) (sub : ∀ a o, F a = some o → H a = some o) : ∀ {d : SD} {v : V} {p : PyData}, RepS K F d v → pvS d = some p → Dv K H v p
  | _, _, _, .non, e => by unfold pvS at e; cases e; exact .non
  | _, _, _, .bl b, e => by unfold pvS at e; cases e; exact .bl b
  | _, _, _, .int b, e => by unfold pvS at e; cases e; exact .int b
  | _, _, _, .str b, e => by unfold pvS at e; cases e; exact .str b
  | _, _, _, .ref _, e => by unfold pvS at e; cases e
  | _, _, _, .ty _, e => by unfold pvS at e; cases e
  | .tup ds, _, _, .tup h r, e => by
    unfold pvS at e
    cases q : pvL ds with
    | none => rw [q] at e; cases e
    | some ps => rw [q] at e; cases e; exact .tup (ex.sqT h) (RepL.dv ex sub r q)
  | .ptp ds, _, _, .ptp h h2 r, e => by
    unfold pvS at e
    cases q : pvL ds with
    | none => rw [q] at e; cases e
    | some ps => rw [q] at e; cases e; exact .tup (ex.sqT (.inl (.inr ⟨_, h⟩))) (RepL.dv ex sub r q)
  | .lst ds, _, _, .lst h r, e => by
    unfold pvS at e
    cases q : pvL ds with
    | none => rw [q] at e; cases e
    | some ps => rw [q] at e; cases e; exact .lst (SqL.of (sub _ _ h)) (RepL.dv ex sub r q)
  | .rol ds, _, _, .rol h r, e => by
    unfold pvS at e
    cases q : pvL ds with
    | none => rw [q] at e; cases e
    | some ps => rw [q] at e; cases e; exact .lst (ex.sqL h) (RepL.dv ex sub r q)
  | .dic kvs, _, _, .dic (vs := vs) h q r, e => by
    unfold pvS at e
    cases q2 : pvK kvs with
    | none => rw [q2] at e; cases e
    | some ps =>
      rw [q2] at e; cases e
      obtain ⟨a, b⟩ := pvK_split q2
      refine .dic (ex.rd _ _ h) ?_ (RepL.dv ex sub r b)
      rw [a]
      have := congrArg (List.map pyK) q
      rw [List.map_map, List.map_map] at this
      exact this.symm
  | _, _, _, .exc0 _ _, e => by unfold pvS at e; cases e
  | _, _, _, .exc _ _ _ _ _, e => by unfold pvS at e; cases e
theorem RepL.dv (ex : Ext F H) (sub : ∀ a o, F a = some o → H a = some o) : ∀ {ds : List SD} {vs : List V} {ps : List PyData}, RepL K F ds vs → pvL ds = some ps → DvL K H vs ps
  | _, _, _, .nil, e => by unfold pvL at e; cases e; exact .nil
  | d :: ds, _, _, .cons h r, e => by
    unfold pvL at e
    cases q : pvS d with
    | none => rw [q] at e; cases e
    | some x => cases q2 : pvL ds with
      | none => rw [q, q2] at e; cases e
      | some y => rw [q, q2] at e; cases e; exact .cons (RepS.dv ex sub h q) (RepL.dv ex sub r q2)
end
theorem HReal.dv (R : HReal K F H μ) {d : SD} {v : V} {p : PyData} (r : RepS K F d v) (e : pv μ d = some p) : Dv K H v p := by
  by_cases z : ∃ a, d = .ref a
  · obtain ⟨a, rfl⟩ := z
    cases r
    unfold pv at e
    simp only at e
    cases q : μ a with
    | none => rw [q] at e; cases e
    | some m =>
      rw [q] at e
      obtain ⟨_, o, h, ro⟩ := R.mus a m q
      cases ro with
      | lst r =>
        rename_i ds vs
        cases q2 : pvL ds with
        | none => simp only [q2] at e; cases e
        | some ps => simp only [q2] at e; cases e; exact .lst (SqL.of h) (RepL.dv R.ext R.sub r q2)
      | _ => cases e
  · have e2 : pvS d = some p := by
      unfold pv at e
      split at e
      · rename_i a; exact absurd ⟨a, rfl⟩ z
      · exact e
    exact RepS.dv R.ext R.sub r e2
def drReprV : DRc := fun ds μ Q => match ds with
  | [d] => match pv μ d with
    | some p => (PyData.showable p = true ∧ p.shown.length ≤ sizeLine ∧ p.depth ≤ 64) ∧ Q (.str p.shown) μ
    | none => False
  | _ => False
theorem lc_reprV : LRc K drReprV (rReprV K) := fun F H μ xs ds Q' Q R r t k => by
  cases r with
  | nil => exact False.elim t
  | cons r1 r2 => cases r2 with
    | cons _ _ => exact False.elim t
    | nil =>
      rename_i d v
      cases e : pv μ d with
      | none => simp only [drReprV, e] at t
      | some p =>
        simp only [drReprV, e] at t
        exact ⟨v, p, rfl, R.dv r1 e, t.1, k _ μ t.2 F H _ (Stp.refl _ _ _) R (.str _)⟩
end
end DS
namespace DS
end DS
namespace DS
end DS
namespace DS
end DS
namespace DS
open PySem PySem.Spec PyProof.Rows L2
def allO (f : SD → Option PyData) : List SD → Option (List PyData)
  | [] => some []
  | d :: r => match f d, allO f r with
    | some x, some y => some (x :: y)
    | _, _ => none
def pairO (f : SD → Option PyData) : List (Key × SD) → Option (List (PyData × PyData))
  | [] => some []
  | p :: r => match f p.2, pairO f r with
    | some x, some y => some ((pyK p.1, x) :: y)
    | _, _ => none
/-- what a value shows, n levels down -/
def pmS (μ : Mu) : Nat → SD → Option PyData
  | 0, _ => none
  | n + 1, d => match d with
    | .ref a => (match μ a with
      | some (.lst xs) => (allO (pmS μ n) xs).map .list
      | some (.dic kvs) => (pairO (pmS μ n) kvs).map .dict
      | _ => none)
    | .tup xs => (allO (pmS μ n) xs).map .tuple
    | .lst xs => (allO (pmS μ n) xs).map .list
    | .dic kvs => (pairO (pmS μ n) kvs).map .dict
    | d => pvS d
theorem pairO_split {f : SD → Option PyData} : ∀ {kvs : List (Key × SD)} {ps : List (PyData × PyData)}, pairO f kvs = some ps → ps.map (·.1) = kvs.map (fun p => pyK p.1) ∧ allO f (kvs.map (·.2)) = some (ps.map (·.2))
  | [], _, e => by unfold pairO at e; cases e; exact ⟨rfl, rfl⟩
  | p :: r, _, e => by
    unfold pairO at e
    cases q : f p.2 with
    | none => rw [q] at e; cases e
    | some x => cases q2 : pairO f r with
      | none => rw [q, q2] at e; cases e
      | some y =>
        rw [q, q2] at e; cases e
        obtain ⟨a, b⟩ := pairO_split q2
        refine ⟨by rw [List.map_cons, List.map_cons, a], ?_⟩
        rw [List.map_cons, List.map_cons]
        unfold allO
        rw [q, b]
section
variable {K : PySem.W.Frag} {F H : Hp} {μ : Mu}
theorem allO_dv {f : SD → Option PyData} (hf : ∀ {d v p}, RepS K F d v → f d = some p → Dv K H v p) : ∀ {ds : List SD} {vs : List V} {ps : List PyData}, RepL K F ds vs → allO f ds = some ps → DvL K H vs ps
  | _, _, _, .nil, e => by unfold allO at e; cases e; exact .nil
  | d :: ds, _, _, .cons h r, e => by
    unfold allO at e
    cases q : f d with
    | none => rw [q] at e; cases e
    | some x => cases q2 : allO f ds with
      | none => rw [q, q2] at e; cases e
      | some y => rw [q, q2] at e; cases e; exact .cons (hf h q) (allO_dv hf r q2)
theorem HReal.dm (R : HReal K F H μ) : ∀ (n : Nat) {d : SD} {v : V} {p : PyData}, RepS K F d v → pmS μ n d = some p → Dv K H v p
  | 0, _, _, _, _, e => by unfold pmS at e; cases e
  | n + 1, d, v, p, r, e => by
    have ih : ∀ {d v p}, RepS K F d v → pmS μ n d = some p → Dv K H v p := fun r e => HReal.dm R n r e
    unfold pmS at e
    cases r with
    | ref a =>
      dsimp only at e
      cases q : μ a with
      | none => rw [q] at e; cases e
      | some m =>
        rw [q] at e
        cases m with
        | lst xs =>
          dsimp only at e
          obtain ⟨_, o, h, ro⟩ := R.mus a _ q
          cases ro with
          | lst r =>
            cases q2 : allO (pmS μ n) xs with
            | none => rw [q2] at e; cases e
            | some ps => rw [q2] at e; cases e; exact .lst (SqL.of h) (allO_dv ih r q2)
        | dic kvs =>
          dsimp only at e
          obtain ⟨_, hd, ws, hH, hk, hr⟩ := HReal.mdic R (RepS.ref (K := K) (F := F) a) (show DS.mdic μ (.ref a) = some (a, kvs) by simp [DS.mdic, q])
          cases q2 : pairO (pmS μ n) kvs with
          | none => rw [q2] at e; cases e
          | some ps =>
            rw [q2] at e; cases e
            obtain ⟨a1, b1⟩ := pairO_split q2
            refine .dic (.inl hH) ?_ (allO_dv ih hr b1)
            rw [a1]
            have := congrArg (List.map pyK) hk
            rw [List.map_map, List.map_map] at this
            exact this.symm
        | _ => cases e
    | tup h r =>
      rename_i ds vs
      dsimp only at e
      cases q2 : allO (pmS μ n) ds with
      | none => rw [q2] at e; cases e
      | some ps => rw [q2] at e; cases e; exact .tup (R.ext.sqT h) (allO_dv ih r q2)
    | lst h r =>
      rename_i ds vs
      dsimp only at e
      cases q2 : allO (pmS μ n) ds with
      | none => rw [q2] at e; cases e
      | some ps => rw [q2] at e; cases e; exact .lst (SqL.of (R.sub _ _ h)) (allO_dv ih r q2)
    | dic h hk hr =>
      rename_i kvs vs
      dsimp only at e
      cases q2 : pairO (pmS μ n) kvs with
      | none => rw [q2] at e; cases e
      | some ps =>
        rw [q2] at e; cases e
        obtain ⟨a1, b1⟩ := pairO_split q2
        refine .dic (R.ext.rd _ _ h) ?_ (allO_dv ih hr b1)
        rw [a1]
        have := congrArg (List.map pyK) hk
        rw [List.map_map, List.map_map] at this
        exact this.symm
    | non => exact RepS.dv R.ext R.sub .non e
    | bl b => exact RepS.dv R.ext R.sub (.bl b) e
    | int b => exact RepS.dv R.ext R.sub (.int b) e
    | str b => exact RepS.dv R.ext R.sub (.str b) e
    | ty b => exact RepS.dv R.ext R.sub (.ty b) e
    | rol h r => exact RepS.dv R.ext R.sub (.rol h r) e
    | exc0 h1 h2 => exact RepS.dv R.ext R.sub (.exc0 h1 h2) e
    | exc h1 h2 h3 h4 h5 => exact RepS.dv R.ext R.sub (.exc h1 h2 h3 h4 h5) e
    | ptp h1 h2 h3 => exact RepS.dv R.ext R.sub (.ptp h1 h2 h3) e
end
end DS
namespace L2
open PySem PySem.Spec PyProof.Rows
section
variable {X : Cx} {a b c : Expr} {pos : Pos} {tA ta tb : TT}
def tIfT (tA ta tb : TT) : TT := fun σ H Q => tA σ H fun c H1 => if c = true then ta σ H1 Q else tb σ H1 Q
theorem pt_ifExp (hc : PT X c tA) (ha : PT X a ta) (hb : PT X b tb) : PT X (.IfExp c a b pos) (tIfT tA ta tb) := by
  refine ⟨fun pins s σ H Q I h => ?_⟩
  refine isTrue_IfExp (thn (hc.run pins s σ H _ I h) fun d s1 ⟨H1, I1, q1⟩ => ?_)
  cases d with
  | true => exact ha.run pins s1 σ H1 Q I1 q1
  | false => exact hb.run pins s1 σ H1 Q I1 q1
end
end L2
namespace DS
open PySem PySem.Spec PyProof.Rows L2
section
variable {X : Cx} {a b c : Expr} {pos : Pos}
abbrev dIfT (t ta tb : DTT) : DTT := fun ρ μ Q => t ρ μ fun c μ1 => if c = true then ta ρ μ1 Q else tb ρ μ1 Q
theorem dt_ifExp {t ta tb : DTT} (hc : DT X c t) (ha : DT X a ta) (hb : DT X b tb) : DT X (.IfExp c a b pos) (dIfT t ta tb) := weakT (pt_ifExp hc ha hb) fun σ H Q h => by
  obtain ⟨F, ρ, μ, Q', R, S, t, k⟩ := h
  refine ⟨F, ρ, μ, _, R, S, t, fun d μ1 t1 F1 H1 s1 R1 => ?_⟩
  cases d with
  | true => exact ⟨F1, ρ, μ1, Q', R1, S.mono s1.ext, t1, fun b μ' q F' H' s R' => k b μ' q F' H' (s1.trans s) R'⟩
  | false => exact ⟨F1, ρ, μ1, Q', R1, S.mono s1.ext, t1, fun b μ' q F' H' s R' => k b μ' q F' H' (s1.trans s) R'⟩
end
end DS
namespace DS
end DS
namespace DS
end DS
namespace DS
end DS
namespace DS
end DS
namespace DS
open PySem PySem.Spec PyProof.Rows L2
theorem repL_strs {K : PySem.W.Frag} {F : Hp} : ∀ l : List Str, RepL K F (l.map SD.str) (l.map V.str)
  | [] => .nil
  | x :: r => .cons (.str x) (repL_strs r)
/-- a method of a text with one argument -/
abbrev dText1 (r : SD → SD → Mu → (SD → Mu → Prop) → Prop) (to te : DTE) : DTE := fun ρ μ Q => to ρ μ fun x μ1 => isStr x = true ∧ te ρ μ1 fun y μ2 => r x y μ2 Q
def drSplit (x y : SD) (μ : Mu) (Q : SD → Mu → Prop) : Prop := match x, y with
  | .str a, .str b => ((b.length == 0) = false ∧ a.length + 2 ≤ sizeLine) ∧ Q (.lst ((Txt.split a b).map SD.str)) μ
  | _, _ => False
def drSplitM (x y : SD) (μ : Mu) (Q : SD → Mu → Prop) : Prop := match x, y with
  | .str a, .str b => ((b.length == 0) = false ∧ a.length + 2 ≤ sizeLine) ∧ ∀ p, μ p = none → Q (.ref p) (up μ p (.lst ((Txt.split a b).map SD.str)))
  | _, _ => False
def drLstrip (x y : SD) (μ : Mu) (Q : SD → Mu → Prop) : Prop := match x, y with
  | .str a, .str b => a.length ≤ sizeLine ∧ Q (.str (Txt.lstripChars a b)) μ
  | _, _ => False
theorem mt_lstripC {X : Cx} : MtR X "str.lstrip" (fun x xs H Q => ∃ a b, x = .str a ∧ xs = [.str b] ∧ a.length ≤ sizeLine ∧ Q (.str (Txt.lstripChars a b)) H) := by
  intro pins s σ H x xs v us Q I rx rs h
  obtain ⟨a, b, rfl, rfl, hc, h⟩ := h
  obtain ⟨t, rfl⟩ := rx
  cases rs with
  | cons r1 rs =>
    cases rs
    obtain ⟨u, rfl⟩ := r1
    exact PySem.SC.lstripChars (fun t' k => ⟨V.str (Txt.lstripChars a b), H, I.tok k, ⟨t', rfl⟩, h⟩) hc
section
variable {X : Cx} {o e : Expr} {to te : DTE} {apos pos : Pos}
theorem de_split (ho : DE X o to) (he : DE X e te) (hs : starEach [e] X.env = [(false, eval e X.env)] := by rfl) (hbase : attributeBase o "split" X.env (eval o X.env) = eval o X.env := by rfl) (hline : (apos.endLine == pos.line) = true := by rfl) :
    DE X (.Call (.Attribute o "split" apos) [e] [] pos) (dText1 drSplit to te) := weakE (pe_split ho he hs hbase hline) fun σ H Q h => by
  obtain ⟨F, ρ, μ, Q', R, S, t, k⟩ := h
  refine ⟨F, ρ, μ, _, R, S, t, fun d μ1 t1 F1 H1 v s1 R1 r1 => ?_⟩
  obtain ⟨hst, t1⟩ := t1
  cases d with
  | str a =>
    cases r1
    refine ⟨⟨a, rfl⟩, F1, ρ, μ1, _, R1, S.mono s1.ext, t1, fun y μ2 t2 F2 H2 w s2 R2 r2 => ?_⟩
    cases y with
    | str b =>
      cases r2
      obtain ⟨⟨h1, h2⟩, q⟩ := t2
      exact ⟨a, b, rfl, rfl, h1, h2, fun p hp => k _ _ q _ _ _ ((s1.trans s2).trans (Stp.newS R2 hp)) (R2.newS hp) (.lst upd_same (repL_strs _))⟩
    | _ => exact False.elim t2
  | _ => cases hst
theorem de_splitM (ho : DE X o to) (he : DE X e te) (hs : starEach [e] X.env = [(false, eval e X.env)] := by rfl) (hbase : attributeBase o "split" X.env (eval o X.env) = eval o X.env := by rfl) (hline : (apos.endLine == pos.line) = true := by rfl) :
    DE X (.Call (.Attribute o "split" apos) [e] [] pos) (dText1 drSplitM to te) := weakE (pe_split ho he hs hbase hline) fun σ H Q h => by
  obtain ⟨F, ρ, μ, Q', R, S, t, k⟩ := h
  refine ⟨F, ρ, μ, _, R, S, t, fun d μ1 t1 F1 H1 v s1 R1 r1 => ?_⟩
  obtain ⟨hst, t1⟩ := t1
  cases d with
  | str a =>
    cases r1
    refine ⟨⟨a, rfl⟩, F1, ρ, μ1, _, R1, S.mono s1.ext, t1, fun y μ2 t2 F2 H2 w s2 R2 r2 => ?_⟩
    cases y with
    | str b =>
      cases r2
      obtain ⟨⟨h1, h2⟩, q⟩ := t2
      exact ⟨a, b, rfl, rfl, h1, h2, fun p hp => k _ _ (q p (R2.freeM hp)) _ _ _ ((s1.trans s2).trans (Stp.newM R2 hp)) (R2.newM hp (.lst (repL_strs _))) (.ref p)⟩
    | _ => exact False.elim t2
  | _ => cases hst
theorem de_lstrip (ho : DE X o to) (he : DE X e te) (hs : starEach [e] X.env = [(false, eval e X.env)] := by rfl) (hbase : attributeBase o "lstrip" X.env (eval o X.env) = eval o X.env := by rfl) (hline : (apos.endLine == pos.line) = true := by rfl) :
    DE X (.Call (.Attribute o "lstrip" apos) [e] [] pos) (dText1 drLstrip to te) := weakE (pe_m1 F.slot_str_lstrip F.type_str_lstrip mt_lstripC ho he hs hbase hline) fun σ H Q h => by
  obtain ⟨F, ρ, μ, Q', R, S, t, k⟩ := h
  refine ⟨F, ρ, μ, _, R, S, t, fun d μ1 t1 F1 H1 v s1 R1 r1 => ?_⟩
  obtain ⟨hst, t1⟩ := t1
  cases d with
  | str a =>
    cases r1
    refine ⟨⟨a, rfl⟩, F1, ρ, μ1, _, R1, S.mono s1.ext, t1, fun y μ2 t2 F2 H2 w s2 R2 r2 => ?_⟩
    cases y with
    | str b =>
      cases r2
      exact ⟨a, b, rfl, rfl, t2.1, k _ _ t2.2 F2 H2 _ (s1.trans s2) R2 (.str _)⟩
    | _ => exact False.elim t2
  | _ => cases hst
end
end DS
namespace L2
open PySem PySem.Spec PyProof.Rows
theorem thnT {α : Type} {M : Model} {A : Around} {t : Sem α} {Q Q' : α → Shared → Prop} {E : Value → Shared → Prop} {s : Shared} (n0 : 1 ≤ s.toks) (h : wpAny M A t Q E s) (f : ∀ a s', 1 ≤ s'.toks → Q a s' → Q' a s') : wpAny M A t Q' E s :=
  wpAny_mono (PySem.wpAny_toks_of n0 h) (fun a s' q => f a s' q.1 q.2) fun _ _ x => x.2
/-- as PI, and behind it a token is out -/
def PIo (X : Cx) (tg iter : Expr) (wi : TI) : Prop :=
  ∀ (pins : List (Addr × Obj)) (s : Shared) (σ : St) (H : Hp) (R : It → Hp → Prop), Inv X pins σ H s → wi σ H R →
    wpAny (model X.prog X.w) X.A (eval iter X.env) (fun v s1 => wpAny (model X.prog X.w) X.A (pyIter v) (fun it s2 => 1 ≤ s2.toks ∧ PIE X pins σ tg R it s2) X.xe s1) X.xe s
/-- as PE, and behind it a token is out -/
def PEo (X : Cx) (e : Expr) (t : TE) : Prop :=
  ∀ (pins : List (Addr × Obj)) (s : Shared) (σ : St) (H : Hp) (Q : VK), Inv X pins σ H s → t σ H Q → wpAny (model X.prog X.w) X.A (eval e X.env) (fun v s1 => 1 ≤ s1.toks ∧ EP X pins σ Q v s1) X.xe s
section
variable {X : Cx} {o : Expr} {to : TE}
/-- a method of a text with one written text -/
theorem peo_m1 {id : String} {name c : Str} {k : Nat} {apos pos cp : Pos} {r : V → List V → Hp → VK → Prop} (slot : Slot "str" name id) (ty : typeOf (.builtin id) = pure (.type "method_descriptor")) (rule : MtR X id r) (ho : PE X o to)
    (hs : starEach [.Constant (.str c) k cp] X.env = [(false, eval (.Constant (.str c) k cp) X.env)] := by rfl) (hbase : attributeBase o name X.env (eval o X.env) = eval o X.env := by rfl) (hline : (apos.endLine == pos.line) = true := by rfl) :
    PEo X (.Call (.Attribute o name apos) [.Constant (.str c) k cp] [] pos) (tM1 r to (tC (.str c))) := by
  intro pins s σ H Q I h
  refine PySem.Call_method1 hbase hs hline (thn (ho.run pins s σ H _ I h) fun v s1 ⟨x, H1, I1, r1, q1⟩ => ?_)
  obtain ⟨⟨a, rfl⟩, q1⟩ := q1
  obtain ⟨t, rfl⟩ := _root_.id r1
  refine ⟨"str", _, F.plainAttrs_str, slot, ty, typeIs_str _ _ _, (fun _ e => nomatch e), Calls.callWith_builtin rfl (Calls.evalArgs_plain (Calls.spliced_cons ?_))⟩
  refine Calls.Constant_str (Calls.spliced_nil ?_)
  have I2 : Inv X pins σ H1 { s1 with toks := s1.toks + 1 } := I1.tok (s1.toks + 1)
  exact thnT (show 1 ≤ s1.toks + 1 by omega) (rule pins _ σ H1 _ [.str c] _ [.str c s1.toks] Q I2 r1 (.cons ⟨_, rfl⟩ .nil) q1) fun _ _ hn q => ⟨hn, q⟩
theorem pio_enum {e : Expr} {te : TE} {p pos tpos : Pos} {elts : List Expr} {kk : Nat} (hg : Gl X "enumerate") (hm : X.mg "enumerate" = none) (ha : PEo X e te) (hs : starEach [e] X.env = [(false, eval e X.env)] := by rfl) :
    PIo X (.Tuple elts kk tpos) (.Call (.Name "enumerate" p) [e] [] pos) (iEnum X.K (tCons te tNil)) := by
  intro pins s σ H R I h
  have sp : wpAny (model X.prog X.w) X.A (spliced (backTo pos (starEach [e] X.env))) (fun us s1 => 1 ≤ s1.toks ∧ AP X pins σ (fun vs H1 => ∃ a xs, vs = [.ref a] ∧ SqL X.K H1 a xs ∧ R (Ite X.K a) H1) us s1) X.xe s := by
    rw [hs]
    show wpAny _ _ (spliced ((false, eval e X.env) :: [])) _ _ s
    refine Calls.spliced_cons (thn (ha pins s σ H _ I h) fun v s1 q => ?_)
    obtain ⟨hn, x, H1, I1, r1, q1⟩ := q
    exact Calls.spliced_nil ⟨hn, [x], H1, I1, .cons r1 .nil, q1⟩
  refine Call_ (ld_blt I hg hm boot_enumerate (PyProof.Rows.callWith_type1 (thn sp fun us s1 ⟨hn, vs, H1, I1, r1, q1⟩ => ?_) hs rfl))
  obtain ⟨a, xs, ex, hq, q⟩ := q1
  subst ex
  cases r1 with
  | cons r rr =>
    cases rr
    cases r
    obtain ⟨its, rv, p', hz⟩ := I1.list hq
    refine call_enumerate_list p'.isList fun h' he hit hsz hk => wpAny_pyIter_enum he ?_
    have I2 : Inv X pins σ H1 { s1 with heap := h' } := I1.kept (t' := s1.toks) hk
    refine ⟨hn, s1.heap.objs.size + 1, [s1.heap.objs.size + 1, s1.heap.objs.size], _, _, H1, rfl, I2, turn_enum a (s1.heap.objs.size + 1) s1.heap.objs.size, ⟨⟨.none, he⟩, hit, Nat.succ_ne_self _⟩, fun b hb => ?_, q⟩
    have e' : b = s1.heap.objs.size + 1 ∨ b = s1.heap.objs.size := by simpa using hb
    have hle : s1.heap.objs.size ≤ b := by
      rcases e' with z | z
      · rw [z]; exact Nat.le_add_right _ _
      · rw [z]; exact Nat.le_refl _
    exact I1.fpOk hle (I1.hok.fresh hle)
/-- a loop whose body may ask that a token is out -/
theorem ps_forT {tg iter : Expr} {body : List Stmt} {wi : TI} {g : TG} {tb : TS} {pos : Pos} (hp : PassesOwn (model X.prog X.w) X.A X.env X.xe) (hc : X.calm = true) (hi : PIo X tg iter wi) (hg : PG X tg g) (hb : PSsT X body tb)
    (hs : ∀ x, foldedSetIterable iter X.env x = pure x := by intro _; rfl) : PS X (.For tg iter body [] pos) (tFor wi g tb) := by
  refine ⟨fun pins s σ H D I h => ?_⟩
  refine wpAny_For (thn (hi pins s σ H _ I h) fun v s1 h1 => thn h1 fun itv s2 h2 => ?_) hs
  obtain ⟨hn2, it, fp, tn, J, H2, e, I2, T, st2, f2, W, ⟨m0, w0⟩, turn⟩ := h2
  subst e
  have stat : ∀ {H' : Hp}, (∀ b ∈ fp, H' b = none) → ∀ b ∈ fp, FpOk X pins H' b := fun hn b hb => ⟨hn b hb, (f2 b hb).2⟩
  refine codeAny_forLoop_any (fun n s' => ∃ i σ' H', 1 ≤ s'.toks ∧ Inv X pins σ' H' s' ∧ tn i s'.heap ∧ (∀ b ∈ fp, H' b = none) ∧ W i n σ' H') ?_ m0 ⟨0, σ, H2, hn2, I2, st2, fun b hb => (f2 b hb).1, w0⟩
  rintro n s3 ⟨i, σ3, H3, hn3, I3, st3, fr3, w3⟩
  rcases turn i n σ3 H3 w3 with ⟨stop, qn⟩ | ⟨go, N, hN, step⟩
  · refine wpAny_passesOwn hp (thn (T.done X rfl rfl rfl hc i pins s3 σ3 H3 X.xe I3 (stat fr3) st3 stop) fun r s4 ⟨hr, I4⟩ => ?_)
    subst hr
    exact wpAny_execs_nil ⟨σ3, H3, I4, qn⟩
  · refine wpAny_passesOwn hp (thnT hn3 (T.item X rfl rfl rfl hc i pins s3 σ3 H3 X.xe I3 (stat fr3) st3 go) fun r s4 hn4 ⟨u, hr, h4⟩ => ?_)
    subst hr
    refine wpAny_passesOwn hp (thnT hn4 h4 fun _ s5 hn5 ⟨x, H5, I5, r5, y5, st5, fr5⟩ => ?_)
    have I5' := I5.pinned (stat fr5) (T.obj _ _ st5)
    refine wpAny_passesOwn hp (thnT hn5 (hg.run _ s5 σ3 H5 x u _ I5' r5 (step x H5 y5)) fun _ s6 hn6 ⟨σ6, H6, I6, q6⟩ => ?_)
    refine wpAny_passesOwn hp (thnT hn6 (hb _ s6 σ6 H6 _ hn6 I6 q6) fun f s7 hn7 q7 => ?_)
    have again : ∀ {σ7 : St} {H7 : Hp}, Inv X (pins ++ pinsAt fp s5.heap) σ7 H7 s7 → N σ7 H7 → ∃ m, m < n ∧ ∃ i σ' H', 1 ≤ s7.toks ∧ Inv X pins σ' H' s7 ∧ tn i s7.heap ∧ (∀ b ∈ fp, H' b = none) ∧ W i m σ' H' := fun {σ7 H7} I7 n7 => by
      obtain ⟨m', hm, w7⟩ := hN σ7 H7 n7
      refine ⟨m', hm, i + 1, σ7, H7, hn7, I7.unpinned, T.keep _ _ _ st5 fun b hb o e => (I7.pin (b, o) (List.mem_append_right _ (List.mem_append_right _ (mem_pinsAt hb e)))).1, fun b hb => ?_, w7⟩
      obtain ⟨o, e, d⟩ := T.obj _ _ st5 b hb
      exact (I7.pin (b, o) (List.mem_append_right _ (List.mem_append_right _ (mem_pinsAt hb e)))).2.1
    cases f with
    | next => obtain ⟨σ7, H7, I7, n7⟩ := q7; exact again I7 n7
    | cont => obtain ⟨σ7, H7, I7, n7⟩ := q7; exact again I7 n7
    | brk => obtain ⟨σ7, H7, I7, q7⟩ := q7; exact ⟨σ7, H7, I7.unpinned, q7⟩
    | ret v => obtain ⟨x7, σ7, H7, I7, r7, q7⟩ := q7; exact ⟨x7, σ7, H7, I7.unpinned, r7, q7⟩
def tRp (y z : Str) (to : TE) : TE := fun σ H Q => to σ H fun x H1 => ∃ a, x = .str a ∧ a.length + (a.length + 1) * z.length ≤ 16777216 ∧ Q (.str (Txt.replace a y z)) H1
/-- x.replace(y, z) of two written texts, a token out -/
theorem pet_rp {y z : Str} {k1 k2 : Nat} {apos pos c1 c2 : Pos} (hyz : (y == z) = false) (ho : PE X o to)
    (hst : starEach [.Constant (.str y) k1 c1, .Constant (.str z) k2 c2] X.env = [(false, eval (.Constant (.str y) k1 c1) X.env), (false, eval (.Constant (.str z) k2 c2) X.env)] := by rfl)
    (hbase : attributeBase o "replace" X.env (eval o X.env) = eval o X.env := by rfl) (hline : (apos.endLine == pos.line) = true := by rfl) :
    PET X (.Call (.Attribute o "replace" apos) [.Constant (.str y) k1 c1, .Constant (.str z) k2 c2] [] pos) (tRp y z to) := by
  intro pins s σ H Q hn I h
  refine PySem.Call_method2 hbase hst hline (thnT hn (ho.run pins s σ H _ I h) fun v s1 hn1 ⟨x, H1, I1, r1, q1⟩ => ?_)
  obtain ⟨a, rfl, hb, q⟩ := q1
  obtain ⟨t, rfl⟩ := _root_.id r1
  refine ⟨"str", _, F.plainAttrs_str, F.slot_str_replace, F.type_str_replace, typeIs_str _ _ _, (fun _ e => nomatch e), Calls.callWith_builtin rfl (Calls.evalArgs_plain (Calls.spliced_cons ?_))⟩
  refine Calls.Constant_str (Calls.spliced_cons (Calls.Constant_str (Calls.spliced_nil ?_)))
  exact PySem.SC.replace (show s1.toks ≠ 0 by omega) (show s1.toks + 1 ≠ 0 by omega) (show s1.toks ≠ s1.toks + 1 by omega) hyz hb fun t' k => ⟨.str (Txt.replace a y z), H1, I1.tok k, ⟨t', rfl⟩, q⟩
theorem pst_set {i : Nat} {x : Str} {e : Expr} {te : TE} {pos pos' : Pos} (hN : X.N.Nodup) (hi : X.N[i]? = some x) (hx : Loc X.env.scope x) (he : PET X e te) (hs : swapsWith e (some (.Name x pos')) pos.line X.env = pure false := by rfl) (hf : X.fn x = true ∨ X.env.scope.names.lookup x = some .local := by first | exact .inl rfl | exact .inr rfl | assumption) :
    PST X (.Assign [.Name x pos'] e pos) (tAsg te (gName i)) := by
  intro pins s σ H D hn I h
  refine wpAny_Assign_Name (thn (he pins s σ H _ hn I h) fun v s1 ⟨y, H1, I1, r1, q1⟩ => ?_) hs
  exact store_ok I1 hN hi hx r1 (fun s2 I2 => ⟨_, H1, I2, q1⟩) hf
end
end L2
namespace DS
open PySem PySem.Spec PyProof.Rows L2
def dRepl (y z : Str) (to : DTE) : DTE := fun ρ μ Q => to ρ μ fun x μ1 => match x with
  | .str a => a.length + (a.length + 1) * z.length ≤ 16777216 ∧ Q (.str (Txt.replace a y z)) μ1
  | _ => False
abbrev DIo (X : Cx) (tg e : Expr) (t : DTI) : Prop := PIo X tg e (LI X.K t)
theorem weakIo {X : Cx} {tg e : Expr} {t t' : TI} (h : PIo X tg e t) (w : ∀ σ H R, t' σ H R → t σ H R) : PIo X tg e t' := fun pins s σ H R I q => h pins s σ H R I (w σ H R q)
theorem weakEo {X : Cx} {e : Expr} {t t' : TE} (h : PEo X e t) (w : ∀ σ H R, t' σ H R → t σ H R) : PEo X e t' := fun pins s σ H R I q => h pins s σ H R I (w σ H R q)
section
variable {X : Cx} {o e iter tg : Expr} {to te : DTE} {apos pos p : Pos} {body rest : List Stmt}
theorem deo_split {c : Str} {k : Nat} {cp : Pos} (ho : DE X o to) (hs : starEach [.Constant (.str c) k cp] X.env = [(false, eval (.Constant (.str c) k cp) X.env)] := by rfl) (hbase : attributeBase o "split" X.env (eval o X.env) = eval o X.env := by rfl) (hline : (apos.endLine == pos.line) = true := by rfl) :
    PEo X (.Call (.Attribute o "split" apos) [.Constant (.str c) k cp] [] pos) (LE X.K (dText1 drSplit to (dC (.str c)))) := weakEo (peo_m1 F.slot_str_split F.type_str_split mt_split ho hs hbase hline) fun σ H Q h => by
  obtain ⟨F, ρ, μ, Q', R, S, t, k⟩ := h
  refine ⟨F, ρ, μ, _, R, S, t, fun d μ1 t1 F1 H1 v s1 R1 r1 => ?_⟩
  obtain ⟨hst, t1⟩ := t1
  cases d with
  | str a =>
    cases r1
    obtain ⟨⟨h1, h2⟩, q⟩ := t1
    exact ⟨⟨a, rfl⟩, ⟨a, c, rfl, rfl, h1, h2, fun p hp => k _ _ q _ _ _ (s1.trans (Stp.newS R1 hp)) (R1.newS hp) (.lst upd_same (repL_strs _))⟩⟩
  | _ => cases hst
theorem dio_enum {elts : List Expr} {kk : Nat} {tpos : Pos} (hg : Gl X "enumerate") (hm : X.mg "enumerate" = none) (ha : PEo X e (LE X.K te)) (hs : starEach [e] X.env = [(false, eval e X.env)] := by rfl) : DIo X (.Tuple elts kk tpos) (.Call (.Name "enumerate" p) [e] [] pos) (jEnum (dCons te dNil)) := weakIo (pio_enum hg hm ha hs) fun σ H R h => by
  obtain ⟨F, ρ, μ, Q', R0, S, t, k⟩ := h
  refine ⟨F, ρ, μ, _, R0, S, t, fun d μ1 t1 F1 H1 v s1 R1 r1 => ?_⟩
  obtain ⟨tt, t1⟩ := (show isTup d = false ∧ _ from t1)
  cases e : seqD μ1 d with
  | none => rw [e] at t1; exact t1.elim
  | some xs =>
    rw [e] at t1
    obtain ⟨a, ws, q1, q2, q3⟩ := R1.seq r1 e
    subst q1
    rcases q3 with ⟨_, q3⟩ | ⟨q, _⟩
    · refine ⟨a, ws, rfl, q3, k _ _ _ t1 F1 H1 _ s1 R1 (src_enum fun F' H' μ' ex R' kk => ?_)⟩
      obtain ⟨b, ys, p1, p2, p3⟩ := R'.seq (r1.mono ex.ext) kk
      cases p1
      rcases p3 with ⟨_, p3⟩ | ⟨p, _⟩
      · exact ⟨ys, p3, p2⟩
      · rw [tt] at p; cases p
    · rw [tt] at q; cases q
abbrev DSsT (X : Cx) (s : List Stmt) (t : DTS) : Prop := PSsT X s (LS X.K t)
theorem weakSsT {X : Cx} {e : List Stmt} {t t' : TS} (h : PSsT X e t) (w : ∀ D σ H, t' D σ H → t D σ H) : PSsT X e t' := fun pins s σ H D n I q => h pins s σ H D n I (w D σ H q)
theorem ds_forT {wi : DTI} {g : DTG} {tb : DTS} (hp : PassesOwn (model X.prog X.w) X.A X.env X.xe) (hc : X.calm = true) (hi : DIo X tg iter wi) (hg : DG X tg g) (hb : DSsT X body tb)
    (hs : ∀ x, foldedSetIterable iter X.env x = pure x := by intro _; rfl) : DS_ X (.For tg iter body [] pos) (dFor wi g tb) := weakS (ps_forT hp hc hi hg hb hs) fun D σ H h => by
  obtain ⟨F0, ρ0, μ0, D', R0, S0, t, k, k2, k3, k4⟩ := h
  refine ⟨F0, ρ0, μ0, _, R0, S0, t, fun ds ok μ1 t1 F1 H1 J s1 R1 src => ?_⟩
  obtain ⟨W, w0, hok, turn, fin⟩ := t1
  refine ⟨fun i m σ' H' => i + m = ds.length ∧ ∃ F ρ μ, Stp F1 H1 μ1 F H' μ ∧ HReal X.K F H' μ ∧ Slots X.K F σ' ρ ∧ W i ρ μ, ⟨ds.length, by omega, F1, ρ0, μ1, Stp.refl _ _ _, R1, S0.mono s1.ext, w0⟩, ?_⟩
  rintro i m σ' H' ⟨him, F, ρ, μ, s, R, S, w⟩
  have hle : i ≤ ds.length := by omega
  by_cases hi : i < ds.length
  · refine .inr ⟨src.go i F H' μ s R (hok i ρ μ hle w) hi, fun σ2 H2 => ∃ F ρ μ, Stp F1 H1 μ1 F H2 μ ∧ HReal X.K F H2 μ ∧ Slots X.K F σ2 ρ ∧ W (i + 1) ρ μ, ?_, ?_⟩
    · rintro σ2 H2 ⟨F', ρ', μ', s', R', S', w'⟩
      exact ⟨ds.length - (i + 1), by omega, by omega, F', ρ', μ', s', R', S', w'⟩
    · intro x H2 y
      obtain ⟨F', s', R', r'⟩ := src.yld i F H' μ x H2 s R (hok i ρ μ hle w) y _ (List.getElem?_eq_getElem hi)
      refine ⟨F', ρ, μ, _, _, R', S.mono s'.ext, r', turn i _ ρ μ (List.getElem?_eq_getElem hi) w, fun ρ2 μ2 t2 F2 H3 σ2 s2 R2 S2 => ?_⟩
      refine ⟨F2, ρ2, μ2, _, R2, S2, t2, ?_, ?_, ?_, ?_⟩
      · exact fun ρ' μ' q F'' H'' σ'' s'' R'' S'' => ⟨F'', ρ', μ', ((s.trans s').trans s2).trans s'', R'', S'', q⟩
      · exact fun d μ' q F'' H'' v s'' R'' r'' => k2 d μ' q F'' H'' v (s1.trans (((s.trans s').trans s2).trans s'')) R'' r''
      · exact fun ρ' μ' q F'' H'' σ'' s'' R'' S'' => k ρ' μ' q F'' H'' σ'' (s1.trans (((s.trans s').trans s2).trans s'')) R'' S''
      · exact fun ρ' μ' q F'' H'' σ'' s'' R'' S'' => ⟨F'', ρ', μ', ((s.trans s').trans s2).trans s'', R'', S'', q⟩
  · have e : i = ds.length := by omega
    subst e
    exact .inl ⟨src.stop F H' μ s R (hok _ ρ μ hle w), k ρ μ (fin ρ μ w) F H' σ' (s1.trans s) R S⟩
theorem dsst_repl {i : Nat} {x y z : Str} {tb : DTS} {k1 k2 : Nat} {cpos pos' c1 c2 : Pos} (hN : X.N.Nodup) (hi : X.N[i]? = some x) (hx : Loc X.env.scope x) (hyz : (y == z) = false) (ho : DE X o to) (hb : DSs X rest tb)
    (hst : starEach [.Constant (.str y) k1 c1, .Constant (.str z) k2 c2] X.env = [(false, eval (.Constant (.str y) k1 c1) X.env), (false, eval (.Constant (.str z) k2 c2) X.env)] := by rfl)
    (hbase : attributeBase o "replace" X.env (eval o X.env) = eval o X.env := by rfl) (hline : (apos.endLine == cpos.line) = true := by rfl)
    (hs : swapsWith (.Call (.Attribute o "replace" apos) [.Constant (.str y) k1 c1, .Constant (.str z) k2 c2] [] cpos) (some (.Name x pos')) pos.line X.env = pure false := by rfl) (hf : X.fn x = true ∨ X.env.scope.names.lookup x = some .local := by first | exact .inl rfl | exact .inr rfl | assumption) :
    DSsT X (.Assign [.Name x pos'] (.Call (.Attribute o "replace" apos) [.Constant (.str y) k1 c1, .Constant (.str z) k2 c2] [] cpos) pos :: rest) (dSeq (dSet (dRepl y z to) i) tb) :=
  weakSsT (psst_cons (pst_set hN hi hx (pet_rp hyz ho hst hbase hline) hs hf) (PSsT.of hb)) fun D σ H h => by
  obtain ⟨F, ρ, μ, D', R, S, t, k, k2, k3, k4⟩ := h
  refine ⟨F, ρ, μ, _, R, S, t, fun d μ1 t1 F1 H1 v s1 R1 r1 => ?_⟩
  cases d with
  | str a =>
    cases r1
    obtain ⟨hb, q⟩ := t1
    refine ⟨a, rfl, hb, ?_⟩
    exact ⟨F1, _, μ1, D', R1, (S.mono s1.ext).set i (.str _), q, fun ρ' μ' q F' H' σ' s => k ρ' μ' q F' H' σ' (s1.trans s), fun d μ' q F' H' v s => k2 d μ' q F' H' v (s1.trans s),
      fun ρ' μ' q F' H' σ' s => k3 ρ' μ' q F' H' σ' (s1.trans s), fun ρ' μ' q F' H' σ' s => k4 ρ' μ' q F' H' σ' (s1.trans s)⟩
  | _ => exact False.elim t1
end
section
variable {X : Cx} {x qual : Str} {st : Stmt} {ps : List Str} {k n : Nat} {p pos : Pos} {sp : DSp}
/-- C() of a class whose __init__ takes self alone -/
theorem de_mkC0 {D : OCls X.K X.mg x} {M : IDef D qual st ps} (G : FnI X.prog X.w X.base M k sp) (hq : Quiet X.A) (hr : Room n X.A) (hk : k + 1 ≤ n := by omega) (hg : Gl X x := by rfl) (hdb : (x == ("__debug__" : Str)) = false := by decide) :
    DE X (.Call (.Name x p) [] [] pos) (dMkC x sp dNil) := by
  refine ⟨fun pins s σ H Q I h => ?_⟩
  obtain ⟨F, ρ, μ, Q', R, S, t0, kk⟩ := h
  refine wpAny_Call_Name_kw (ld_glob I hg D.m ?_ hdb)
  refine PySem.W.callWith_K0 (first := []) I.kIn M.maker.kp ?_
  show wpAny _ _ (call (.ref D.C) []) _ _ _
  obtain ⟨vs, us, H1, s1, I1, r, F1, μ1, ds, sa, R1, rl, t1, hus, hs, _⟩ : ∃ (vs : List V) (us : List Value) (H1 : Hp) (s1 : Shared), Inv X pins σ H1 s1 ∧ Vals vs us ∧ ∃ F1 μ1 ds, Stp F H μ F1 H1 μ1 ∧ HReal X.K F1 H1 μ1 ∧ RepL X.K F1 ds vs ∧ (∀ a, μ1 a = none → sp (.ref a :: ds) (up μ1 a (.obj x [])) (fun d μ2 => d = .non ∧ Q' (.ref a) μ2) fun _ _ _ => False) ∧ us = [] ∧ s1 = s ∧ vs = [] :=
    ⟨[], [], H, s, I, .nil, F, μ, [], Stp.refl _ _ _, R, .nil, t0, rfl, rfl, rfl⟩
  subst hus
  subst hs
  have nx : H1 (s1.heap.objs.size + 1) = none := I1.hok.fresh (Nat.le_succ _)
  have nd : H1 s1.heap.objs.size = none := I1.hok.fresh (Nat.le_refl _)
  have ne : s1.heap.objs.size ≠ s1.heap.objs.size + 1 := Nat.ne_of_lt (Nat.lt_succ_self _)
  have I2 := Inv.made (C := D.C) I1
  have n2 : upd H1 s1.heap.objs.size (.own (s1.heap.objs.size + 1)) (s1.heap.objs.size + 1) = none := by rw [upd_ne (Ne.symm ne)]; exact nx
  have RA := R1.newU (o := .own (s1.heap.objs.size + 1)) nd
  have RB := RA.newM (o := .ins D.C s1.heap.objs.size []) (m := .obj x []) n2 (.obj D.k rfl .nil)
  have SB := (Stp.newU (F := F1) (μ := μ1) (o := .own (s1.heap.objs.size + 1)) nd).trans (Stp.newM RA (o := .ins D.C s1.heap.objs.size []) (m := .obj x []) n2)
  have want : LSp X.K sp (V.ref (s1.heap.objs.size + 1) :: vs) (upd (upd H1 s1.heap.objs.size (.own (s1.heap.objs.size + 1))) (s1.heap.objs.size + 1) (.ins D.C s1.heap.objs.size [])) (fun v H3 => v = .non ∧ Q (.ref (s1.heap.objs.size + 1)) H3) E0 :=
    ⟨F1, _, _, _, _, RB, .cons (.ref _) rl, t1 _ (R1.freeM nx), fun d μ' q F' H' v s' R' r' => by
      obtain ⟨rfl, q⟩ := q
      cases r'
      exact ⟨rfl, kk _ μ' q F' H' _ ((sa.trans SB).trans s') R' (.ref _)⟩, fun _ _ _ q => q.elim⟩
  have rv : Vals (V.ref (s1.heap.objs.size + 1) :: vs) (Value.ref (s1.heap.objs.size + 1) :: ([] : List Value)) := .cons rfl r
  have cnt : (Value.ref (s1.heap.objs.size + 1) :: ([] : List Value)).length = ps.length := rv.length.symm.trans (G.len _ _ _ _ want)
  have bnd := M.b _ (Value.ref (s1.heap.objs.size + 1) :: ([] : List Value)) I2.kIn (by simpa using cnt)
  rw [List.append_nil] at bnd
  refine wpAny_call (make_map (f := M.f) I1.kIn M.maker.makes M.maker.init (beq_iff_eq.mp M.maker.fn) (codeAny_mono (G.go _ X.stack _ _ ⟨Value.ref (s1.heap.objs.size + 1) :: ([] : List Value), []⟩ _ _ _ E0 (quiet_make hq D.C ([] : List Value) []) ((hr.mono hk).make D.C ([] : List Value) []) (I2.env0.make D.C ([] : List Value) []) bnd rv want) fun r s' z => ?_))
  match r, z with
  | .error _, z => exact False.elim z
  | .ok .next, z => exact False.elim z
  | .ok .brk, z => exact False.elim z
  | .ok .cont, z => exact False.elim z
  | .ok (.ret u), z =>
    obtain ⟨v, H', I3, rv', ev, q3⟩ := I2.after z
    subst ev
    exact ⟨rv', V.ref (s1.heap.objs.size + 1), H', I3, rfl, q3⟩
end
end DS
namespace MA
open PySem PySem.Spec PyProof.Rows L2 DS
structure Good (d : SD) (p : PyData) (D B : Nat) : Prop where
  e : pdS d = some p
  cl : p.canLay0 = true
  dp : p.depth ≤ D
  sh : p.showable = true
  ls : p.leavesShort 13 = true
  bk : p.bulk ≤ B
structure GoodL (ds : List SD) (ps : List PyData) (D B : Nat) : Prop where
  e : pdL ds = some ps
  cl : PyData.canLayAll0 ps = true
  dp : PyData.depthAll ps ≤ D
  sh : PyData.showableAll ps = true
  ls : PyData.leavesShortAll 13 ps = true
  bk : PyData.bulkAll ps ≤ B
theorem Good.mono {d p D B D' B'} (g : Good d p D B) (h1 : D ≤ D') (h2 : B ≤ B') : Good d p D' B' := ⟨g.e, g.cl, Nat.le_trans g.dp h1, g.sh, g.ls, Nat.le_trans g.bk h2⟩
theorem GoodL.mono {d p D B D' B'} (g : GoodL d p D B) (h1 : D ≤ D') (h2 : B ≤ B') : GoodL d p D' B' := ⟨g.e, g.cl, Nat.le_trans g.dp h1, g.sh, g.ls, Nat.le_trans g.bk h2⟩
theorem Good.non : Good .non .none 0 0 := ⟨rfl, by simp [PyData.canLay0], by simp [PyData.depth], by simp [PyData.showable], by simp [PyData.leavesShort], by simp [PyData.bulk]⟩
theorem Good.bl (b : Bool) : Good (.bl b) (.bool b) 0 0 := ⟨rfl, by simp [PyData.canLay0], by simp [PyData.depth], by simp [PyData.showable], by simp [PyData.leavesShort], by simp [PyData.bulk]⟩
theorem Good.str {x : Str} (h : PyData.strOk x = true) : Good (.str x) (.str x) 0 x.cps.size := by
  refine ⟨rfl, by simp [PyData.canLay0, h], by simp [PyData.depth], by simp [PyData.showable], ?_, by simp [PyData.bulk]⟩
  unfold PyData.leavesShort
  rw [List.all_eq_true]
  intro c hc
  have := (Array.all_eq_true_iff_forall_mem.mp h) c (by simpa using hc)
  simp at this ⊢
  omega
theorem GoodL.nil : GoodL [] [] 0 0 := ⟨rfl, by simp [PyData.canLayAll0], by simp [PyData.depthAll], by simp [PyData.showableAll], by simp [PyData.leavesShortAll], by simp [PyData.bulkAll]⟩
theorem GoodL.cons {d ds p ps D B C} (g : Good d p D B) (h : GoodL ds ps D C) : GoodL (d :: ds) (p :: ps) D (B + 1 + C) := by
  refine ⟨by rw [pdL, g.e, h.e], by simp [PyData.canLayAll0, g.cl, h.cl], ?_, by simp [PyData.showableAll, g.sh, h.sh], by simp [PyData.leavesShortAll, g.ls, h.ls], ?_⟩
  · have := g.dp; have := h.dp; rw [PyData.depthAll]; omega
  · have := g.bk; have := h.bk; rw [PyData.bulkAll]; omega
theorem Good.tup {ds ps D B} (h : GoodL ds ps D B) : Good (.tup ds) (.tuple ps) (D + 1) B :=
  ⟨by rw [pdS, h.e], by simp [PyData.canLay0, h.cl], by rw [PyData.depth]; exact Nat.succ_le_succ h.dp, by simp [PyData.showable, h.sh], by simp [PyData.leavesShort, h.ls], by rw [PyData.bulk]; exact h.bk⟩
theorem Good.lst {ds ps D B} (h : GoodL ds ps D B) : Good (.lst ds) (.list ps) (D + 1) B :=
  ⟨by rw [pdS, h.e], by simp [PyData.canLay0, h.cl], by rw [PyData.depth]; exact Nat.succ_le_succ h.dp, by simp [PyData.showable, h.sh], by simp [PyData.leavesShort, h.ls], by rw [PyData.bulk]; exact h.bk⟩
theorem GoodL.append {D B C} : ∀ {ds ps es qs}, GoodL ds ps D B → GoodL es qs D C → GoodL (ds ++ es) (ps ++ qs) D (B + C)
  | [], _, _, _, g, h => by
    have e := g.e; rw [pdL] at e; cases e
    exact h.mono (Nat.le_refl _) (by omega)
  | d :: ds, ps0, es, qs, g, h => by
    have e := g.e
    rw [pdL] at e
    split at e
    · rename_i p ps e1 e2
      cases e
      have cl := g.cl; have sh := g.sh; have ls := g.ls; have dp := g.dp; have bk := g.bk
      simp only [PyData.canLayAll0, Bool.and_eq_true] at cl
      simp only [PyData.showableAll, Bool.and_eq_true] at sh
      simp only [PyData.leavesShortAll, Bool.and_eq_true] at ls
      rw [PyData.depthAll] at dp
      rw [PyData.bulkAll] at bk
      have g1 : Good d p D p.bulk := ⟨e1, cl.1, by omega, sh.1, ls.1, Nat.le_refl _⟩
      have g2 : GoodL ds ps D (PyData.bulkAll ps) := ⟨e2, cl.2, by omega, sh.2, ls.2, Nat.le_refl _⟩
      exact (GoodL.cons g1 (GoodL.append g2 h)).mono (Nat.le_refl _) (by omega)
    · cases e
/-- each of so many good ones -/
theorem GoodL.of {D B} : ∀ {ds : List SD}, (∀ d ∈ ds, ∃ p, Good d p D B) → ∃ ps, GoodL ds ps D (ds.length * (B + 1))
  | [], _ => ⟨[], GoodL.nil.mono (Nat.zero_le _) (Nat.zero_le _)⟩
  | d :: ds, h => by
    obtain ⟨p, g⟩ := h d (List.mem_cons_self ..)
    obtain ⟨ps, gs⟩ := GoodL.of fun x hx => h x (List.mem_cons_of_mem _ hx)
    exact ⟨p :: ps, (GoodL.cons g gs).mono (Nat.le_refl _) (by rw [List.length_cons, Nat.add_mul]; omega)⟩
theorem Good.shaped {d p D B} (g : Good d p D B) (h : D ≤ 64) : SeqAt.shaped p = true := by
  unfold SeqAt.shaped
  rw [g.cl, Bool.true_and, decide_eq_true_eq]
  exact Nat.le_trans g.dp h
theorem Good.notref {d p D B} (g : Good d p D B) (μ : Mu) : pd μ d = some p := by
  have e := g.e
  cases d <;> first | exact e | (simp [pdS] at e)
theorem Good.repr {d p D B μ} {Q : SD → Mu → Prop} (g : Good d p D B) (h1 : D ≤ 64) (h2 : B ≤ 2 ^ 20) (q : Q (.str p.shown) μ) : drRepr [d] μ Q := by
  unfold drRepr
  simp only [g.notref μ]
  exact ⟨⟨g.sh, PyData.shown_fits_bulk (B := 13) (by decide) (by decide) g.ls (Nat.le_trans g.bk h2), Nat.le_trans g.dp h1⟩, q⟩
section
variable {α : Type} {k k' : Key} {v : α}
theorem valD_nil : valD ([] : List (Key × α)) k = none := rfl
theorem valD_cons {kv : Key × α} {r : List (Key × α)} : valD (kv :: r) k = if kv.1 = k then some kv.2 else valD r k := by
  unfold valD
  rw [List.find?_cons]
  by_cases h : kv.1 = k
  · simp [h]
  · simp [h]
theorem valD_append {xs ys : List (Key × α)} : valD (xs ++ ys) k = (valD xs k).or (valD ys k) := by
  induction xs with
  | nil => simp [valD_nil]
  | cons x r ih => rw [List.cons_append, valD_cons, valD_cons, ih]; split <;> simp
theorem valD_map {kvs : List (Key × α)} (h : (kvs.any fun kv => decide (kv.1 = k)) = true) : valD (kvs.map fun kv => if kv.1 = k then (kv.1, v) else kv) k' = if k = k' then some v else valD kvs k' := by
  induction kvs with
  | nil => simp at h
  | cons x r ih =>
    rw [List.map_cons, valD_cons, valD_cons]
    by_cases h1 : x.1 = k
    · rw [if_pos h1]
      by_cases h2 : k = k'
      · subst h2; simp [h1]
      · have h3 : x.1 ≠ k' := fun e => h2 (h1.symm.trans e)
        rw [if_neg h3, if_neg h3, if_neg h2]
        by_cases h4 : (r.any fun kv => decide (kv.1 = k)) = true
        · rw [ih h4, if_neg h2]
        · have : (r.map fun kv => if kv.1 = k then (kv.1, v) else kv) = r := by
            refine (List.map_congr_left fun y hy => ?_).trans (List.map_id _)
            rw [if_neg, id]
            intro e; exact h4 (List.any_eq_true.mpr ⟨y, hy, by simpa using e⟩)
          rw [this]
    · rw [if_neg h1]
      have h4 : (r.any fun kv => decide (kv.1 = k)) = true := by simpa [h1] using h
      rw [ih h4]
      by_cases h2 : k = k'
      · subst h2; simp [h1]
      · simp [h2]
theorem valD_put {kvs : List (Key × α)} : valD (putD kvs k v) k' = if k = k' then some v else valD kvs k' := by
  unfold putD
  split
  · rename_i h; exact valD_map h
  · rename_i h
    rw [valD_append, valD_cons, valD_nil]
    by_cases e : k = k'
    · subst e
      have : valD kvs k = none := by
        unfold valD
        rw [List.find?_eq_none.mpr, Option.map_none]
        intro x hx e; exact h (List.any_eq_true.mpr ⟨x, hx, e⟩)
      simp [this]
    · simp [e]
theorem putD_length {kvs : List (Key × α)} : (putD kvs k v).length ≤ kvs.length + 1 := by
  unfold putD
  split
  · simp
  · simp
end
def Le (μ μ' : Mu) : Prop := ∀ a m, μ a = some m → μ' a = some m
theorem Le.refl (μ : Mu) : Le μ μ := fun _ _ h => h
theorem Le.trans {μ μ1 μ2 : Mu} (h : Le μ μ1) (k : Le μ1 μ2) : Le μ μ2 := fun a m e => k a m (h a m e)
theorem Le.up {μ0 μ : Mu} {p : Addr} {m : MO} (h : Le μ0 μ) (hp : μ0 p = none) : Le μ0 (up μ p m) := fun a n e => by
  have : a ≠ p := fun z => by subst z; rw [hp] at e; cases e
  rw [up_ne this]; exact h a n e
theorem Le.rm {μ0 μ : Mu} {p : Addr} (h : Le μ0 μ) (hp : μ0 p = none) : Le μ0 (rm μ p) := fun a n e => by
  have : a ≠ p := fun z => by subst z; rw [hp] at e; cases e
  rw [rm_ne this]; exact h a n e
theorem Le.none {μ0 μ : Mu} {p : Addr} (h : Le μ0 μ) (hp : μ p = none) : μ0 p = none := by
  cases e : μ0 p with
  | none => rfl
  | some m => rw [h p m e] at hp; cases hp
/-- all but what stands at h stays -/
def LeX (h : Addr) (μ μ' : Mu) : Prop := ∀ a m, a ≠ h → μ a = some m → μ' a = some m
theorem LeX.refl (h : Addr) (μ : Mu) : LeX h μ μ := fun _ _ _ e => e
theorem Le.x {μ μ' : Mu} (h : Addr) (l : Le μ μ') : LeX h μ μ' := fun a m _ e => l a m e
theorem LeX.trans {h : Addr} {μ μ1 μ2 : Mu} (a : LeX h μ μ1) (b : LeX h μ1 μ2) : LeX h μ μ2 := fun x m n e => b x m n (a x m n e)
theorem LeX.put {h : Addr} {μ0 μ : Mu} {m : MO} (l : LeX h μ0 μ) : LeX h μ0 (up μ h m) := fun a n z e => by rw [up_ne z]; exact l a n z e
theorem LeX.up {h p : Addr} {μ0 μ : Mu} {m : MO} (l : LeX h μ0 μ) (hp : μ0 p = none) : LeX h μ0 (up μ p m) := fun a n z e => by
  have : a ≠ p := fun z => by subst z; rw [hp] at e; cases e
  rw [up_ne this]; exact l a n z e
theorem LeX.rm {h p : Addr} {μ0 μ : Mu} (l : LeX h μ0 μ) (hp : μ0 p = none) : LeX h μ0 (rm μ p) := fun a n z e => by
  have : a ≠ p := fun z => by subst z; rw [hp] at e; cases e
  rw [rm_ne this]; exact l a n z e
end MA
namespace MA
open PySem PySem.Spec PyProof.Rows L2 DS
inductive T where
  | node (k : Str) (cs : List T)
def T.key : T → Str
  | .node k _ => k
mutual
def enc : T → SD
  | .node k cs => .tup [.str k, .tup (encL cs)]
def encL : List T → List SD
  | [] => []
  | t :: r => enc t :: encL r
end
mutual
def pre : T → List Str
  | .node k cs => k :: preL cs
def preL : List T → List Str
  | [] => []
  | t :: r => pre t ++ preL r
end
mutual
def dep : T → Nat
  | .node _ cs => depL cs + 1
def depL : List T → Nat
  | [] => 0
  | t :: r => max (dep t) (depL r)
end
theorem encL_map : ∀ ts : List T, encL ts = ts.map enc
  | [] => by rw [encL]; rfl
  | t :: r => by rw [encL, encL_map r]; rfl
theorem encL_length (a : List T) : (encL a).length = a.length := by simp [encL_map]
theorem preL_mem {ts : List T} {k : Str} : k ∈ preL ts ↔ ∃ t ∈ ts, k ∈ pre t := by
  induction ts with
  | nil => simp [preL]
  | cons t r ih => rw [preL, List.mem_append, ih]; simp
theorem depL_mem {ts : List T} {t : T} (h : t ∈ ts) : dep t ≤ depL ts := by
  induction ts with
  | nil => cases h
  | cons u r ih =>
    rw [depL]
    rcases List.mem_cons.mp h with rfl | h
    · exact Nat.le_max_left _ _
    · exact Nat.le_trans (ih h) (Nat.le_max_right _ _)
theorem depL_le {ts : List T} {n : Nat} (h : ∀ t ∈ ts, dep t ≤ n) : depL ts ≤ n := by
  induction ts with
  | nil => rw [depL]; exact Nat.zero_le _
  | cons u r ih => rw [depL]; exact Nat.max_le.mpr ⟨h u (List.mem_cons_self ..), ih fun t ht => h t (List.mem_cons_of_mem _ ht)⟩
theorem key_mem (t : T) : t.key ∈ pre t := by cases t; rw [pre]; exact List.mem_cons_self ..
theorem preL_sub {ts : List T} {t : T} (h : t ∈ ts) : ∀ k ∈ pre t, k ∈ preL ts := fun k hk => preL_mem.mpr ⟨t, h, hk⟩
theorem preL_len {ts : List T} {t : T} (h : t ∈ ts) : (pre t).length ≤ (preL ts).length := by
  induction ts with
  | nil => cases h
  | cons u r ih =>
    rw [preL, List.length_append]
    rcases List.mem_cons.mp h with rfl | h
    · omega
    · have := ih h; omega
theorem pre_pos (t : T) : 0 < (pre t).length := by cases t; rw [pre]; simp
theorem len_le_preL : ∀ ts : List T, ts.length ≤ (preL ts).length
  | [] => by simp
  | t :: r => by have := pre_pos t; have := len_le_preL r; rw [preL, List.length_append, List.length_cons]; omega
def KeyOk (k : Str) : Prop := PyData.strOk k = true ∧ k.cps.size ≤ 61
structure TOk (t : T) : Prop where
  len : (pre t).length ≤ 1000
  dep : dep t ≤ 30
  keys : ∀ k ∈ pre t, KeyOk k
mutual
theorem enc_good : ∀ t : T, (∀ k ∈ pre t, KeyOk k) → ∃ p, Good (enc t) p (2 * dep t) (64 * (pre t).length - 1)
  | .node k cs, h => by
    rw [pre] at h
    obtain ⟨ps, gs⟩ := encL_good cs fun x hx => h x (List.mem_cons_of_mem _ hx)
    obtain ⟨k1, k2⟩ := h k (List.mem_cons_self ..)
    rw [enc, dep, pre]
    have g1 := Good.tup gs
    have g2 := GoodL.cons (g1.mono (Nat.le_refl _) (Nat.le_refl _)) (GoodL.nil.mono (Nat.zero_le _) (Nat.le_refl _))
    have g3 := GoodL.cons ((Good.str k1).mono (Nat.zero_le _) (Nat.le_refl _)) g2
    refine ⟨_, (Good.tup g3).mono (by omega) ?_⟩
    rw [List.length_cons]; omega
theorem encL_good : ∀ ts : List T, (∀ k ∈ preL ts, KeyOk k) → ∃ ps, GoodL (encL ts) ps (2 * depL ts) (64 * (preL ts).length)
  | [], _ => ⟨[], GoodL.nil.mono (Nat.zero_le _) (Nat.zero_le _)⟩
  | t :: r, h => by
    rw [preL] at h
    obtain ⟨p, g⟩ := enc_good t fun x hx => h x (List.mem_append_left _ hx)
    obtain ⟨ps, gs⟩ := encL_good r fun x hx => h x (List.mem_append_right _ hx)
    have := pre_pos t
    refine ⟨p :: ps, ?_⟩
    rw [encL, depL, preL]
    refine (GoodL.cons (g.mono (by omega) (Nat.le_refl _)) (gs.mono (by omega) (Nat.le_refl _))).mono (Nat.le_refl _) ?_
    rw [List.length_append]; omega
end
theorem TOk.good {t : T} (h : TOk t) : ∃ p, Good (enc t) p 60 64000 := by
  obtain ⟨p, g⟩ := enc_good t h.keys
  have := h.len; have := h.dep
  exact ⟨p, g.mono (by omega) (by omega)⟩
mutual
def Fits (f : Str → List Str) : T → Prop
  | .node k cs => f k = cs.map T.key ∧ FitsL f cs
def FitsL (f : Str → List Str) : List T → Prop
  | [] => True
  | t :: r => Fits f t ∧ FitsL f r
end
theorem FitsL_mem {f : Str → List Str} {ts : List T} : FitsL f ts ↔ ∀ t ∈ ts, Fits f t := by
  induction ts with
  | nil => simp [FitsL]
  | cons u r ih => rw [FitsL, ih]; simp
/-- par is the parent by f, wherever t has a key -/
structure Par (f : Str → List Str) (par : Str → Option Str) (t : T) : Prop where
  fits : Fits f t
  kid : ∀ k ∈ pre t, ∀ c ∈ f k, par c = some k
  root : par t.key = none
end MA
namespace MA
open PySem PySem.Spec PyProof.Rows L2 DS
section
variable {ρ : Rho} {μ : Mu} {i : Nat} {a : Addr} {d x y : SD} {xs ys : List SD} {Q : SD → Mu → Prop} {te ti tb : DTE}
theorem r_var (h : ρ[i]? = some (some d)) (q : Q d μ) : dVar i ρ μ Q := by unfold dVar; rw [h]; exact q
theorem isSome_ref (m : μ a = some (.lst xs)) : (lstD μ (.ref a)).isSome = true := by simp [lstD, m]
theorem dm_append (m : μ a = some (.lst xs)) (l : xs.length < sizeLine) (q : Q .non (up μ a (.lst (xs ++ [y])))) : dmAppend (.ref a) [y] μ Q := by
  unfold dmAppend
  have e : mlst μ (.ref a) = some (a, xs) := by simp [mlst, m]
  simp only [e]
  exact ⟨l, q⟩
theorem dm_insert {k : Int} (m : μ a = some (.lst xs)) (l : xs.length < sizeLine) (h0 : 0 ≤ k) (h1 : k < 2 ^ 63) (q : Q .non (up μ a (.lst (xs.take k.toNat ++ [y] ++ xs.drop k.toNat)))) : dmInsert (.ref a) [.int k, y] μ Q := by
  unfold dmInsert
  have e : mlst μ (.ref a) = some (a, xs) := by simp [mlst, m]
  simp only [e]
  exact ⟨⟨l, h0, h1⟩, q⟩
theorem dr_tupleL (q : Q (.tup xs) μ) : drTuple [.lst xs] μ Q := q
theorem ix_at {k : Int} (e : seqD μ x = some xs) (hs : ∀ z, x ≠ .str z) (h : atI xs k = some d) (q : Q d μ) : dIx x (.int k) μ Q := by
  unfold dIx
  cases x with
  | str z => exact (hs z rfl).elim
  | _ => simp only [e, h]; exact q
theorem ix_tup {k : Int} (h : atI xs k = some d) (q : Q d μ) : dIx (.tup xs) (.int k) μ Q := ix_at rfl (fun _ z => by cases z) h q
theorem ix_lst {k : Int} (h : atI xs k = some d) (q : Q d μ) : dIx (.lst xs) (.int k) μ Q := ix_at rfl (fun _ z => by cases z) h q
theorem ix_rol {k : Int} (h : atI xs k = some d) (q : Q d μ) : dIx (.rol xs) (.int k) μ Q := ix_at rfl (fun _ z => by cases z) h q
theorem ix_ref {k : Int} (m : μ a = some (.lst xs)) (h : atI xs k = some d) (q : Q d μ) : dIx (.ref a) (.int k) μ Q := ix_at (by simp [seqD, m]) (fun _ z => by cases z) h q
theorem put_ok {kvs : List (Key × SD)} {k : Key} {v : SD} {R : Mu → Prop} (m : μ a = some (.dic kvs)) (hk : keyD y = some k) (l : kvs.length < sizeLine) (q : R (up μ a (.dic (putD kvs k v)))) : drPut (.ref a) y v μ R := by
  unfold drPut
  have e : mdic μ (.ref a) = some (a, kvs) := by simp [mdic, m]
  simp only [e, hk]
  exact ⟨l, q⟩
theorem get_ok {kvs : List (Key × SD)} {k : Key} {v : SD} (m : dicD μ x = some kvs) (hk : keyD y = some k) (h : valD kvs k = some v) (q : Q v μ) : drGet x y μ Q := by
  unfold drGet; simp only [m, hk, h]; exact q
theorem din_ok {kvs : List (Key × SD)} {k : Key} {neg : Bool} (m : dicD μ x = some kvs) (hk : keyD y = some k) (q : Q (.bl (neg != (valD kvs k).isSome)) μ) : drDIn neg x y μ Q := by
  unfold drDIn; simp only [m, hk]; exact q
theorem dicD_ref {kvs : List (Key × SD)} (m : μ a = some (.dic kvs)) : dicD μ (.ref a) = some kvs := by simp [dicD, m]
theorem ifT {c : Bool} {A B : Prop} (hc : c = true) (h : A) : if c = true then A else B := by rw [if_pos hc]; exact h
theorem ifF {c : Bool} {A B : Prop} (hc : c = false) (h : B) : if c = true then A else B := by rw [if_neg (by rw [hc]; exact Bool.false_ne_true)]; exact h
theorem lt_line {n m : Nat} (h : n ≤ m) (h2 : m ≤ 1000000) : n < sizeLine := by rw [sizeLine_eq]; omega
theorem le_line {n m : Nat} (h : n ≤ m) (h2 : m ≤ 1000000) : n ≤ sizeLine := by rw [sizeLine_eq]; omega
/-- a comprehension that changes nothing -/
theorem lc_pure {ds zs : List SD} {ok : Mu → Prop} {j : Nat} {R : List SD → Mu → Prop} (hok : ok μ) (hl : ds.length ≤ 1000000) (hy : zs.length = ds.length) (el : ∀ (i : Nat) (d y : SD), ds[i]? = some d → zs[i]? = some y → ∀ R : SD → Mu → Prop, R y μ → te ((wipeR ρ [j]).set j (some d)) μ R) (q : R zs μ) :
    ds.length ≤ sizeLine ∧ ∃ W : Nat → List SD → Mu → Prop, W 0 [] μ ∧ (∀ i acc μ', i ≤ ds.length → W i acc μ' → ok μ') ∧ (∀ i d acc μ', ds[i]? = some d → W i acc μ' → hName j d (wipeR ρ [j]) μ' fun ρ2 μ2 => dYes ρ2 μ2 fun b μ3 => if b = true then te ρ2 μ3 fun y μ4 => W (i+1) (acc ++ [y]) μ4 else W (i+1) acc μ3) ∧ ∀ acc μ', W ds.length acc μ' → R acc μ' := by
  refine ⟨le_line hl (Nat.le_refl _), fun i acc μ' => acc = zs.take i ∧ μ' = μ, ⟨rfl, rfl⟩, ?_, ?_, ?_⟩
  · rintro i acc μ' _ ⟨_, rfl⟩; exact hok
  · rintro i d acc μ' hd ⟨rfl, rfl⟩
    have hi := (List.getElem?_eq_some_iff.mp hd).1
    have hz : zs[i]? = some zs[i] := List.getElem?_eq_getElem (by omega)
    refine ifT rfl (el i d _ hd hz _ ⟨?_, rfl⟩)
    rw [List.take_succ, hz]; rfl
  · rintro acc μ' ⟨rfl, rfl⟩
    rw [List.take_of_length_le (by omega)]; exact q
theorem isi_of {n t : String} {b : Bool} (ht : tyD μ d = some t) (hb : kitB t n = some b) (q : Q (.bl b) μ) : drIsi [d, .ty n] μ Q := by
  unfold drIsi
  have : isiB μ d n = some b := by unfold isiB; simp only [ht, hb]
  simp only [this]; exact q
variable {m n : Int}
theorem i_add (q : Q (.int (m + n)) μ) : dAdd (.int m) (.int n) μ Q := q
theorem i_sub (q : Q (.int (m - n)) μ) : dSub (.int m) (.int n) μ Q := q
theorem i_mul (h : IntMulOk m n) (q : Q (.int (m * n)) μ) : dMul (.int m) (.int n) μ Q := ⟨h, q⟩
theorem i_mod (h : 0 < n) (q : Q (.int (m % n)) μ) : dMod (.int m) (.int n) μ Q := ⟨h, q⟩
theorem i_div (h : CDivW m n) (q : Q (.int (m / n)) μ) : dDiv (.int m) (.int n) μ Q := ⟨h, q⟩
theorem i_pow (h : CPowW m n) (q : Q (.int (m ^ n.toNat)) μ) : dPow (.int m) (.int n) μ Q := ⟨h, q⟩
theorem i_lt (q : Q (.bl (decide (m < n))) μ) : dLt (.int m) (.int n) μ Q := q
theorem i_gt (q : Q (.bl (decide (n < m))) μ) : dGt (.int m) (.int n) μ Q := q
theorem i_le (q : Q (.bl (decide (m ≤ n))) μ) : dLe (.int m) (.int n) μ Q := q
theorem i_ge (q : Q (.bl (decide (n ≤ m))) μ) : dGe (.int m) (.int n) μ Q := q
theorem s_add {u v : Str} (h : u.length + v.length ≤ sizeLine) (q : Q (.str (u ++ v)) μ) : dAdd (.str u) (.str v) μ Q := ⟨h, q⟩
theorem s_mul {u : Str} (h : (0 ≤ n ∧ n ≤ 1000000 ∧ u.length * n.toNat ≤ sizeLine)) (q : Q (.str (repS u n.toNat)) μ) : dMul (.str u) (.int n) μ Q := ⟨h, q⟩
theorem l_add (h : xs.length + ys.length ≤ sizeLine) (q : Q (.lst (xs ++ ys)) μ) : dAdd (.lst xs) (.lst ys) μ Q := by
  unfold dAdd; exact ⟨h, q⟩
theorem l_mul (h : (-(2 ^ 63) ≤ n ∧ n < 2 ^ 63 ∧ xs.length * n.toNat ≤ sizeLine)) (q : Q (.lst (List.replicate n.toNat xs).flatten) μ) : dMul (.lst xs) (.int n) μ Q := by
  unfold dMul; exact ⟨h, q⟩
theorem l_len (q : Q (.int xs.length) μ) : drLen [.lst xs] μ Q := q
theorem l_lenR (hm : μ a = some (.lst xs)) (q : Q (.int xs.length) μ) : drLen [.ref a] μ Q := by
  unfold drLen; simp only [seqD, hm]; exact q
theorem l_lenO (q : Q (.int xs.length) μ) : drLen [.rol xs] μ Q := q
theorem l_lenS {u : Str} (h : u.length ≤ sizeLine) (q : Q (.int u.length) μ) : drLen [.str u] μ Q := ⟨h, q⟩
theorem ix_str {u : Str} {k : Int} {c : Nat} (h : u.length ≤ sizeLine) (e : atI u.cps.toList k = some c) (q : Q (.str ⟨#[c]⟩) μ) : dIx (.str u) (.int k) μ Q := by
  unfold dIx; simp only [e]; exact ⟨h, q⟩
/-- for i in range(n) -/
theorem for_R {n : Nat} {g : DTG} {tb : DTS} {D : DEnds} (h : ρ[i]? = some (some (.int n))) (hn : n ≤ 1000000) (k : ∃ W : Nat → Rho → Mu → Prop, W 0 ρ μ ∧ (∀ (j : Nat) ρ μ, j < n → W j ρ μ → g (.int j) ρ μ fun ρ2 μ2 => tb { D with nx := W (j + 1), ct := W (j + 1), bk := D.nx } ρ2 μ2) ∧ ∀ ρ μ, W n ρ μ → D.nx ρ μ) : dFor (jRng1 (dCons (dVar i) dNil)) g tb D ρ μ := by
  obtain ⟨W, h0, hs, hf⟩ := k
  unfold dFor
  refine r_var h ?_
  refine ⟨⟨by omega, by omega⟩, W, h0, fun _ _ _ _ _ => trivial, ?_, ?_⟩
  · intro j d ρ μ hd w
    simp only [Int.toNat_natCast] at hd
    rw [List.getElem?_map] at hd
    cases e : (List.range n)[j]? with
    | none => rw [e] at hd; cases hd
    | some x =>
      rw [e] at hd; cases hd
      obtain ⟨h1, h2⟩ := List.getElem?_eq_some_iff.mp e
      rw [List.getElem_range] at h2; subst h2
      exact hs j ρ μ (by simpa using h1) w
  · intro ρ μ w
    exact hf ρ μ (by simpa using w)
theorem sl_L {l u : Option Int} (q : Q (.lst (cutL xs l u)) μ) : drSl (.lst xs) l u μ Q := q
theorem cutL_from {α : Type} (xs : List α) (k : Nat) : cutL xs (some k) none = xs.drop k := by
  unfold cutL
  rw [HT.sIx_nat, HT.sIx_none]
  by_cases h : k ≤ xs.length
  · rw [Nat.min_eq_left h, List.take_of_length_le (by simp)]
  · rw [Nat.min_eq_right (by omega), List.drop_of_length_le (Nat.le_refl _), List.drop_of_length_le (by omega)]; simp
theorem cutL_to {α : Type} (xs : List α) (k : Nat) : cutL xs none (some k) = xs.take k := by
  unfold cutL
  rw [HT.sIx_nat, HT.sIx_none]
  simp
theorem valD_mapk {α : Type} {ks : List Str} {g : Str → α} {k : Str} : valD (ks.map fun k => ((Sum.inr k : Key), g k)) (.inr k) = if k ∈ ks then some (g k) else none := by
  induction ks with
  | nil => simp [valD_nil]
  | cons x r ih =>
    rw [List.map_cons, valD_cons, ih]
    by_cases h : x = k
    · subst h; simp
    · have : ¬ ((Sum.inr x : Key) = Sum.inr k) := fun z => h (by cases z; rfl)
      rw [if_neg this]
      by_cases h2 : k ∈ r
      · rw [if_pos h2, if_pos (List.mem_cons_of_mem _ h2)]
      · rw [if_neg h2, if_neg (by simp [Ne.symm h, h2])]
theorem putD_mapk {α : Type} {ks : List Str} {g : Str → α} {x : Str} {v : α} (h : x ∉ ks) : putD (ks.map fun k => ((Sum.inr k : Key), g k)) (.inr x) v = (ks.map fun k => ((Sum.inr k : Key), g k)) ++ [(.inr x, v)] := by
  unfold putD
  rw [if_neg]
  intro z
  rw [List.any_map] at z
  obtain ⟨k, hk, e⟩ := List.any_eq_true.mp z
  simp at e
  exact h (e ▸ hk)
theorem up_none {p : Addr} {o : MO} (h : up μ a o p = none) : p ≠ a ∧ μ p = none := by
  by_cases e : p = a
  · subst e; rw [up_same] at h; cases h
  · rw [up_ne e] at h; exact ⟨e, h⟩
theorem enums_at {k : Nat} {d : SD} (h : (enums xs)[k]? = some d) : ∃ y, xs[k]? = some y ∧ d = .tup [.int k, y] := by
  unfold enums at h
  rw [List.getElem?_mapIdx] at h
  cases e : xs[k]? with
  | none => rw [e] at h; cases h
  | some y => rw [e] at h; cases h; exact ⟨y, rfl, rfl⟩
theorem mul_okS {m n : Int} (h : -1000000 ≤ m ∧ m ≤ 1000000) (h2 : -1000000 ≤ n ∧ n ≤ 1000000) : IntMulOk m n := CMulW.ok (by
  have a : ∀ i : Int, -1000000 ≤ i ∧ i ≤ 1000000 → i.natAbs.log2 < 20 := fun i hi => by
    by_cases e : i.natAbs = 0
    · rw [e]; decide
    · exact (Nat.log2_lt e).mpr (by omega)
  have := a m h; have := a n h2; unfold CMulW; omega)
end
end MA
namespace LK
open PySem PySem.Spec PyProof.Rows L2 DS MA
def sts (ks : List Str) : List SD := ks.map SD.str
end LK
namespace LK
open PySem PySem.Spec PyProof.Rows L2 DS MA
/-- from k upwards -/
inductive Up (par : Str → Option Str) : Str → List Str → Prop where
  | root {k : Str} (h : par k = none) : Up par k [k]
  | step {k p : Str} {l : List Str} (h : par k = some p) (r : Up par p l) : Up par k (k :: l)
theorem Up.head {par : Str → Option Str} {k : Str} {l : List Str} (h : Up par k l) : ∃ r, l = k :: r := by cases h <;> exact ⟨_, rfl⟩
theorem Up.uniq {par : Str → Option Str} {k : Str} {l l' : List Str} (h : Up par k l) : Up par k l' → l = l' := by
  induction h generalizing l' with
  | root h => intro q; cases q with
    | root => rfl
    | step h2 _ => rw [h] at h2; cases h2
  | step h r ih => intro q; cases q with
    | root h2 => rw [h] at h2; cases h2
    | step h2 r2 => rw [h] at h2; cases h2; rw [ih r2]
/-- s is t, or inside it -/
inductive Sub : T → T → Prop where
  | refl (t : T) : Sub t t
  | kid {s c : T} {k : Str} {cs : List T} (h : c ∈ cs) (r : Sub s c) : Sub s (.node k cs)
theorem Sub.pre {s t : T} (h : Sub s t) : ∀ k ∈ pre s, k ∈ MA.pre t := by
  induction h with
  | refl => exact fun _ h => h
  | kid h r ih => intro k hk; rw [MA.pre]; exact List.mem_cons_of_mem _ (preL_sub h _ (ih k hk))
theorem Sub.len {s t : T} (h : Sub s t) : (MA.pre s).length ≤ (MA.pre t).length := by
  induction h with
  | refl => exact Nat.le_refl _
  | kid h r ih => rw [MA.pre, List.length_cons]; have := preL_len h; omega
theorem Sub.dep {s t : T} (h : Sub s t) : MA.dep s ≤ MA.dep t := by
  induction h with
  | refl => exact Nat.le_refl _
  | kid h r ih => rw [MA.dep]; have := depL_mem h; omega
theorem Sub.fits {f : Str → List Str} {s t : T} (h : Sub s t) : Fits f t → Fits f s := by
  induction h with
  | refl => exact fun h => h
  | kid h r ih => intro q; rw [Fits] at q; exact ih (FitsL_mem.mp q.2 _ h)
end LK
namespace LK
open PySem PySem.Spec PyProof.Rows L2 DS MA
theorem log2_lt {i : Int} {k : Nat} (hk : 0 < k) (h : i.natAbs < 2 ^ k) : i.natAbs.log2 < k := by
  by_cases e : i.natAbs = 0
  · rw [e]; simpa using hk
  · exact (Nat.log2_lt e).mpr h
theorem mul_ok {i j : Int} (hi : i.natAbs < 2 ^ 2000) (hj : j.natAbs < 2 ^ 2000) : IntMulOk i j := CMulW.ok (by
  have := log2_lt (by decide) hi; have := log2_lt (by decide) hj; unfold CMulW; omega)
theorem pow_ok {i : Int} {n : Nat} (hi : i.natAbs < 2 ^ 2000) (hn : n ≤ 60) : CPowW i n := by
  refine ⟨by omega, ?_⟩
  have h1 := log2_lt (by decide) hi
  have h2 : Builtin.Int.intBits i ≤ 2001 := by unfold Builtin.Int.intBits; split <;> omega
  have h3 : (Builtin.Int.intBits i : Int) * (n : Int) ≤ 2001 * 60 := by
    exact_mod_cast Nat.mul_le_mul h2 hn
  omega
theorem div_ok {i j : Int} (h0 : 0 < j) (h : j.natAbs < 2 ^ 2000) : CDivW i j := ⟨h0, by have := log2_lt (by decide) h; omega⟩
theorem abs_lt {i : Int} {a b : Nat} (h0 : 0 ≤ i) (h : i < (2 : Int) ^ a) (hab : a ≤ b) : i.natAbs < 2 ^ b := by
  have h1 : i.natAbs < 2 ^ a := by
    have : ((i.natAbs : Nat) : Int) = i := Int.natAbs_of_nonneg h0
    have h2 : ((2 ^ a : Nat) : Int) = (2 : Int) ^ a := by norm_cast
    omega
  exact Nat.lt_of_lt_of_le h1 (Nat.pow_le_pow_right (by decide) hab)
/-- the hand: a great number, a number to mix, the turn -/
structure HandAt (μ : Mu) (h : Addr) (T : Nat) : Prop where
  ex : ∃ g m t : Int, μ h = some (.lst [.int g, .int m, .int t]) ∧ 0 ≤ g ∧ 0 ≤ m ∧ m < 2305843009213693921 ∧ 0 ≤ t ∧ t ≤ T
theorem HandAt.mono {μ : Mu} {h : Addr} {T T' : Nat} (H : HandAt μ h T) (l : T ≤ T') : HandAt μ h T' := by
  obtain ⟨g, m, t, e, a, b, c, d, f⟩ := H.ex
  exact ⟨g, m, t, e, a, b, c, d, by omega⟩
theorem HandAt.le {μ μ' : Mu} {h : Addr} {T : Nat} (H : HandAt μ h T) (l : Le μ μ') : HandAt μ' h T := by
  obtain ⟨g, m, t, e, r⟩ := H.ex
  exact ⟨g, m, t, l _ _ e, r⟩
theorem HandAt.ne {μ : Mu} {h p : Addr} {T : Nat} (H : HandAt μ h T) (hp : μ p = none) : h ≠ p := by
  obtain ⟨g, m, t, e, r⟩ := H.ex
  intro z; subst z; rw [hp] at e; cases e
theorem HandAt.up {μ : Mu} {h p : Addr} {T : Nat} {m : MO} (H : HandAt μ h T) (hp : h ≠ p) : HandAt (up μ p m) h T := by
  obtain ⟨g, m, t, e, r⟩ := H.ex
  exact ⟨g, m, t, by rw [up_ne hp]; exact e, r⟩
theorem HandAt.rm {μ : Mu} {h p : Addr} {T : Nat} (H : HandAt μ h T) (hp : h ≠ p) : HandAt (rm μ p) h T := by
  obtain ⟨g, m, t, e, r⟩ := H.ex
  exact ⟨g, m, t, by rw [rm_ne hp]; exact e, r⟩
def sp__law_take : DSp := fun ds μ Q _ => ∃ h many T, ds = [.ref h, .int many] ∧ 0 < many ∧ many ≤ 10000000000000000000000000000000000000000 ∧ T ≤ 1000000000 ∧ HandAt μ h T ∧ ∀ (d : Int) μ', 0 ≤ d → d < many → HandAt μ' h (T + 1) → LeX h μ μ' → Q (.int d) μ'
theorem len__law_take : ∀ ds μ Q E, sp__law_take ds μ Q E → ds.length = 2 := by rintro ds μ Q E ⟨h, many, T, rfl, _⟩; rfl
def t__law_take : DTS := (dSeq (dIfS (dTest (dOp dGt (dOp dIx (dVar 0) (dC (.int 0))) (dC (.int 0)))) (dSeq (dSet (dOp dMod (dOp dIx (dVar 0) (dC (.int 0))) (dVar 1)) 5)
    (dSeq (dAsg (dOp dDiv (dOp dIx (dVar 0) (dC (.int 0))) (dVar 1)) (hSub (dVar 0) (dC (.int 0)) dsetL))
    (dRet (dVar 5)))) dNext)
    (dSeq (dSet (dOp dAdd (dOp dIx (dVar 0) (dC (.int 2))) (dC (.int 1))) 2)
    (dSeq (dAsg (dVar 2) (hSub (dVar 0) (dC (.int 2)) dsetL))
    (dSeq (dSet (dOp dIx (dLst (dCons (dC (.int 2147483647)) (dCons (dC (.int 2147483629)) (dCons (dC (.int 2147483587)) (dCons (dC (.int 2147483579)) (dCons (dC (.int 2147483563)) (dCons (dC (.int 2147483549)) dNil))))))) (dOp dMod (dVar 2) (dC (.int 6)))) 3)
    (dSeq (dSet (dOp dMod (dOp dPow (dOp dAdd (dOp dAdd (dOp dIx (dVar 0) (dC (.int 1))) (dOp dMul (dOp dMul (dC (.int 65537)) (dVar 2)) (dVar 2))) (dOp dMul (dC (.int 31)) (dVar 2))) (dC (.int 3))) (dVar 3)) 4)
    (dRet (dOp dMod (dOp dDiv (dOp dMod (dOp dMul (dVar 4) (dOp dAdd (dOp dMod (dVar 4) (dC (.int 10007))) (dOp dMul (dC (.int 13)) (dVar 2)))) (dC (.int 2305843009213693907))) (dC (.int 97))) (dVar 1))))))))
theorem setL_ok {μ : Mu} {a : Addr} {xs : List SD} {k : Int} {j : Nat} {v : SD} {R : Mu → Prop} (m : μ a = some (.lst xs)) (h : ixN xs.length k = some j) (q : R (up μ a (.lst (xs.set j v)))) : dsetL (.ref a) (.int k) v μ R := by
  unfold dsetL
  have e : mlst μ (.ref a) = some (a, xs) := by simp [mlst, m]
  simp only [e, h]; exact q
theorem read__law_take : ∀ ds μ Q E, sp__law_take ds μ Q E → t__law_take { nx := fun _ μ' => Q .non μ', rt := Q } (begin_ ["_law_hand_here", "_law_many", "_law_turn", "_law_prime", "_law_mixed", "_law_digit"] ds) μ := by
  rintro ds μ Q E ⟨h, many, T, rfl, hm0, hm1, hT, H, q⟩
  unfold t__law_take
  obtain ⟨g, m, t, e, g0, m0, m1, t0, t1⟩ := H.ex
  refine r_var rfl ?_
  refine ix_ref (d := .int g) e rfl ?_
  by_cases hg : 0 < g
  · refine ifT (decide_eq_true hg) ?_
    refine r_var rfl ?_
    refine ix_ref (d := .int g) e rfl ?_
    refine r_var rfl ?_
    refine ⟨hm0, ?_⟩
    dsimp only
    refine r_var rfl ?_
    refine ix_ref (d := .int g) e rfl ?_
    refine r_var rfl ?_
    refine ⟨div_ok hm0 (abs_lt (a := 140) (by omega) (by omega) (by decide)), ?_⟩
    refine r_var rfl ?_
    refine setL_ok (j := 0) e rfl ?_
    dsimp only
    refine r_var rfl ?_
    refine q _ _ (Int.emod_nonneg _ (by omega)) (Int.emod_lt_of_pos _ hm0) ⟨g / many, m, t, by rw [up_same]; rfl, Int.ediv_nonneg g0 (by omega), m0, m1, t0, by omega⟩ ((LeX.refl h μ).put)
  · refine ifF (decide_eq_false hg) ?_
    simp only [dNext]
    refine r_var rfl ?_
    refine ix_ref (d := .int t) e rfl ?_
    refine i_add ?_
    dsimp only
    refine r_var rfl ?_
    refine r_var rfl ?_
    refine setL_ok (j := 2) e rfl ?_
    dsimp only
    refine ⟨(by show 6 ≤ sizeLine; decide), ?_⟩
    refine r_var rfl ?_
    refine i_mod (by decide) ?_
    have hp : ∃ p : Int, atI [SD.int 2147483647, .int 2147483629, .int 2147483587, .int 2147483579, .int 2147483563, .int 2147483549] ((t + 1) % 6) = some (.int p) ∧ 0 < p ∧ p ≤ 2147483647 := by
      have h0 := Int.emod_nonneg (t + 1) (show (6 : Int) ≠ 0 by decide)
      have h1 := Int.emod_lt_of_pos (t + 1) (show (0 : Int) < 6 by decide)
      generalize (t + 1) % 6 = r at h0 h1
      have : r = 0 ∨ r = 1 ∨ r = 2 ∨ r = 3 ∨ r = 4 ∨ r = 5 := by omega
      rcases this with rfl | rfl | rfl | rfl | rfl | rfl <;> exact ⟨_, rfl, by decide, by decide⟩
    obtain ⟨p, hat, p0, p1⟩ := hp
    refine ix_lst hat ?_
    dsimp only
    have e2 : up μ h (.lst (([SD.int g, .int m, .int t] : List SD).set 2 (.int (t + 1)))) h = some (.lst [.int g, .int m, .int (t + 1)]) := by rw [up_same]; rfl
    refine r_var rfl ?_
    refine ix_ref (d := .int m) e2 rfl ?_
    have T1 : (t + 1).natAbs < 2 ^ 2000 := abs_lt (a := 40) (by omega) (by omega) (by decide)
    refine r_var rfl ?_
    refine i_mul (mul_ok (by decide) T1) ?_
    refine r_var rfl ?_
    have T2 : (65537 * (t + 1)).natAbs < 2 ^ 2000 := abs_lt (a := 60) (by omega) (by omega) (by decide)
    refine i_mul (mul_ok T2 T1) ?_
    refine i_add ?_
    refine r_var rfl ?_
    refine i_mul (mul_ok (by decide) T1) ?_
    refine i_add ?_
    have sq : 0 ≤ 65537 * (t + 1) * (t + 1) ∧ 65537 * (t + 1) * (t + 1) ≤ 65537 * 1000000001 * 1000000001 := by
      have a1 : 0 ≤ 65537 * (t + 1) := by omega
      have a2 : 65537 * (t + 1) ≤ 65537 * 1000000001 := by omega
      exact ⟨Int.mul_nonneg a1 (by omega), Int.mul_le_mul a2 (by omega) (by omega) (by decide)⟩
    refine i_pow (n := 3) (pow_ok (n := 3) (abs_lt (a := 100) (by omega) (by omega) (by decide)) (by decide)) ?_
    refine r_var rfl ?_
    refine i_mod p0 ?_
    dsimp only
    refine r_var rfl ?_
    refine r_var rfl ?_
    refine i_mod (by decide) ?_
    refine r_var rfl ?_
    refine i_mul (mul_ok (by decide) T1) ?_
    refine i_add ?_
    generalize hx : (m + 65537 * (t + 1) * (t + 1) + 31 * (t + 1)) ^ (Int.toNat 3) % p = x
    have x0 : 0 ≤ x := by rw [← hx]; exact Int.emod_nonneg _ (by omega)
    have x1 : x < p := by rw [← hx]; exact Int.emod_lt_of_pos _ p0
    have y0 := Int.emod_nonneg x (show (10007 : Int) ≠ 0 by decide)
    have y1 := Int.emod_lt_of_pos x (show (0 : Int) < 10007 by decide)
    refine i_mul (mul_ok (abs_lt (a := 40) x0 (by omega) (by decide)) (abs_lt (a := 60) (by omega) (by omega) (by decide))) ?_
    refine i_mod (by decide) ?_
    refine i_div (div_ok (by decide) (abs_lt (a := 40) (by omega) (by omega) (by decide))) ?_
    refine r_var rfl ?_
    refine i_mod hm0 ?_
    exact q _ _ (Int.emod_nonneg _ (by omega)) (Int.emod_lt_of_pos _ hm0) ⟨g, m, t + 1, e2, g0, m0, m1, by omega, by omega⟩ ((LeX.refl h μ).put)
end LK
namespace LK
open PySem PySem.Spec PyProof.Rows L2 DS MA
def sp__law_hand : DSp := fun ds μ Q _ => ∃ (ns : List Int) (k : Nat), ds = [.rol (ns.map SD.int), .int k] ∧ k ≤ 1000000 ∧ ∀ p μ', μ p = none → Le μ μ' → HandAt μ' p 0 → Q (.ref p) μ'
theorem len__law_hand : ∀ ds μ Q E, sp__law_hand ds μ Q E → ds.length = 2 := by rintro ds μ Q E ⟨ns, k, rfl, _⟩; rfl
def t__law_hand : DTS := (dSeq (dSet (dIf (dTest (dOp dLt (dVar 1) (dCB drLen (dCons (dVar 0) dNil)))) (dOp dIx (dVar 0) (dVar 1)) (dOp dAdd (dOp dMul (dC (.int 9)) (dVar 1)) (dC (.int 4)))) 2)
    (dSeq (dSet (dOp dMul (dOp dMod (dCB (drI1 fun i => if i < 0 then -i else i) (dCons (dVar 2) dNil)) (dOp dPow (dOp dPow (dC (.int 10)) (dC (.int 60))) (dC (.int 5)))) (dCB drInt (dCons (dOp dGe (dCB (drI1 fun i => if i < 0 then -i else i) (dCons (dVar 2) dNil)) (dOp dPow (dC (.int 10)) (dC (.int 18)))) dNil))) 3)
    (dRet (dLstM (dCons (dVar 3) (dCons (dOp dMod (dOp dMul (dOp dAdd (dOp dAdd (dOp dMod (dVar 2) (dC (.int 2305843009213693951))) (dOp dMul (dOp dMul (dC (.int 104729)) (dVar 1)) (dVar 1))) (dC (.int 37))) (dC (.int 48271))) (dC (.int 2305843009213693921))) (dCons (dC (.int 0)) dNil)))))))
theorem i_abs {μ : Mu} {Q : SD → Mu → Prop} {i : Int} (q : ∀ j : Int, 0 ≤ j → Q (.int j) μ) : drI1 (fun i => if i < 0 then -i else i) [.int i] μ Q := by
  refine q _ ?_
  dsimp only
  split <;> omega
theorem i_bool {μ : Mu} {Q : SD → Mu → Prop} {b : Bool} (q : Q (.int (if b then 1 else 0)) μ) : drInt [.bl b] μ Q := q
theorem ten_pow : (0 : Int) < (10 ^ Int.toNat 60) ^ Int.toNat 5 ∧ ((10 : Int) ^ Int.toNat 60) ^ Int.toNat 5 < 2 ^ 1000 := by decide +kernel
theorem ten60 : ((10 : Int) ^ Int.toNat 60).natAbs < 2 ^ 2000 := by decide +kernel
theorem read__law_hand : ∀ ds μ Q E, sp__law_hand ds μ Q E → t__law_hand { nx := fun _ μ' => Q .non μ', rt := Q } (begin_ ["_law_script", "_law_k", "_law_cell", "_law_great"] ds) μ := by
  rintro ds μ Q E ⟨ns, k, rfl, hk, q⟩
  unfold t__law_hand
  have cell : ∀ (D : DEnds), (∀ c : Int, D.nx ((begin_ ["_law_script", "_law_k", "_law_cell", "_law_great"] [.rol (ns.map SD.int), .int k]).set 2 (some (.int c))) μ) → dSet (dIf (dTest (dOp dLt (dVar 1) (dCB drLen (dCons (dVar 0) dNil)))) (dOp dIx (dVar 0) (dVar 1)) (dOp dAdd (dOp dMul (dC (.int 9)) (dVar 1)) (dC (.int 4)))) 2 D (begin_ ["_law_script", "_law_k", "_law_cell", "_law_great"] [.rol (ns.map SD.int), .int k]) μ := fun D h => by
    refine r_var rfl ?_
    refine r_var rfl ?_
    refine l_lenO ?_
    refine i_lt ?_
    by_cases hc : k < ns.length
    · refine ifT (by simpa using hc) ?_
      refine r_var rfl ?_
      refine r_var rfl ?_
      refine ix_rol (d := .int ns[k]) (atI_nat (by simp [hc])) (h _)
    · refine ifF (by simpa using hc) ?_
      refine r_var rfl ?_
      refine i_mul (mul_ok (by decide) (abs_lt (a := 40) (by omega) (by omega) (by decide))) ?_
      exact i_add (h _)
  refine cell _ fun c => ?_
  dsimp only
  refine r_var rfl ?_
  refine i_abs fun A hA => ?_
  refine i_pow (n := 60) (pow_ok (n := 60) (by decide) (by decide)) ?_
  refine i_pow (n := 5) (pow_ok (n := 5) ten60 (by decide)) ?_
  refine i_mod ten_pow.1 ?_
  refine r_var rfl ?_
  refine i_abs fun B hB => ?_
  refine i_pow (n := 18) (pow_ok (n := 18) (by decide) (by decide)) ?_
  refine i_ge ?_
  refine i_bool ?_
  have g0 := Int.emod_nonneg A (show ((10 : Int) ^ Int.toNat 60) ^ Int.toNat 5 ≠ 0 from Int.ne_of_gt ten_pow.1)
  have g1 := Int.lt_trans (Int.emod_lt_of_pos A ten_pow.1) ten_pow.2
  have b0 : ∀ b : Bool, (if b = true then (1 : Int) else 0).natAbs < 2 ^ 2000 ∧ 0 ≤ (if b = true then (1 : Int) else 0) := by decide
  refine i_mul (mul_ok (abs_lt (a := 1000) g0 g1 (by decide)) (b0 _).1) ?_
  dsimp only
  refine r_var rfl ?_
  refine r_var rfl ?_
  refine i_mod (by decide) ?_
  refine r_var rfl ?_
  refine i_mul (mul_ok (by decide) (abs_lt (a := 40) (by omega) (by omega) (by decide))) ?_
  refine r_var rfl ?_
  have k1 : 0 ≤ 104729 * (k : Int) * (k : Int) ∧ 104729 * (k : Int) * (k : Int) ≤ 104729 * 1000000 * 1000000 := ⟨Int.mul_nonneg (by omega) (by omega), Int.mul_le_mul (by omega) (by omega) (by omega) (by decide)⟩
  refine i_mul (mul_ok (abs_lt (a := 60) (by omega) (by omega) (by decide)) (abs_lt (a := 40) (by omega) (by omega) (by decide))) ?_
  refine i_add ?_
  refine i_add ?_
  have c0 := Int.emod_nonneg c (show (2305843009213693951 : Int) ≠ 0 by decide)
  have c1 := Int.emod_lt_of_pos c (show (0 : Int) < 2305843009213693951 by decide)
  refine i_mul (mul_ok (abs_lt (a := 100) (by omega) (by omega) (by decide)) (by decide)) ?_
  refine i_mod (by decide) ?_
  refine ⟨(by show 3 ≤ sizeLine; decide), fun p hp => ?_⟩
  exact q p _ hp ((Le.refl μ).up hp) ⟨_, _, _, up_same, Int.mul_nonneg g0 (b0 _).2, Int.emod_nonneg _ (by decide), Int.emod_lt_of_pos _ (by decide), Int.le_refl 0, Int.le_refl 0⟩
def sp__law_of : DSp := fun ds μ Q _ => ∃ h x xs T, ds = [.ref h, x] ∧ (x = .lst xs ∨ ∃ u : Str, x = .str u ∧ xs = u.cps.toList.map fun c => .str ⟨#[c]⟩) ∧ xs ≠ [] ∧ xs.length ≤ 1000000 ∧ T ≤ 1000000000 ∧ HandAt μ h T ∧ ∀ (i : Nat) d μ', xs[i]? = some d → HandAt μ' h (T + 1) → LeX h μ μ' → Q d μ'
theorem len__law_of : ∀ ds μ Q E, sp__law_of ds μ Q E → ds.length = 2 := by rintro ds μ Q E ⟨h, x, xs, T, rfl, _⟩; rfl
def t__law_of : DTS := (dRet (dOp dIx (dVar 1) (dCall sp__law_take [] (dCons (dVar 0) (dCons (dCB drLen (dCons (dVar 1) dNil)) dNil)))))
theorem read__law_of : ∀ ds μ Q E, sp__law_of ds μ Q E → t__law_of { nx := fun _ μ' => Q .non μ', rt := Q } (begin_ ["_law_hand_here", "_law_some"] ds) μ := by
  rintro ds μ Q E ⟨h, x, xs, T, rfl, hx, hne, hl, hT, H, q⟩
  unfold t__law_of
  refine r_var rfl ?_
  refine r_var rfl ?_
  refine r_var rfl ?_
  have hpos : 0 < xs.length := List.length_pos_iff.mpr hne
  rcases hx with rfl | ⟨u, rfl, rfl⟩
  · refine l_len ?_
    refine ⟨h, xs.length, T, rfl, by omega, by omega, hT, H, fun d μ' d0 d1 H' l => ?_⟩
    obtain ⟨i, rfl⟩ := Int.eq_ofNat_of_zero_le d0
    have hi : i < xs.length := by omega
    have e : xs[i]? = some xs[i] := List.getElem?_eq_getElem hi
    exact ix_lst (atI_nat e) (q i _ μ' e H' l)
  · rw [List.length_map] at hpos hl
    have hu : u.length = u.cps.toList.length := rfl
    refine l_lenS (le_line (by rw [hu]; exact hl) (by omega)) ?_
    refine ⟨h, u.length, T, rfl, by omega, by omega, hT, H, fun d μ' d0 d1 H' l => ?_⟩
    obtain ⟨i, rfl⟩ := Int.eq_ofNat_of_zero_le d0
    have hi : i < u.cps.toList.length := by omega
    have e : u.cps.toList[i]? = some u.cps.toList[i] := List.getElem?_eq_getElem hi
    refine ix_str (le_line (by rw [hu]; exact hl) (by omega)) (atI_nat e) (q i _ μ' ?_ H' l)
    rw [List.getElem?_map, e]; rfl
end LK
namespace LK
open PySem PySem.Spec PyProof.Rows L2 DS MA
theorem lex_none {h p : Addr} {μ μ' : Mu} {T : Nat} (l : LeX h μ μ') (H : HandAt μ' h T) (hp : μ' p = none) : μ p = none ∧ h ≠ p := by
  have hne := H.ne hp
  refine ⟨?_, hne⟩
  cases e : μ p with
  | none => rfl
  | some m => rw [l p m (Ne.symm hne) e] at hp; cases hp
theorem abc : ("abcdefghijklmnopqrstuvwxyz" : Str).cps.toList = (List.range 26).map (97 + ·) := by decide +kernel
theorem abc_at {x : Int} (h0 : 0 ≤ x) (h1 : x < 26) : atI ("abcdefghijklmnopqrstuvwxyz" : Str).cps.toList x = some (97 + x.toNat) := by
  obtain ⟨i, rfl⟩ := Int.eq_ofNat_of_zero_le h0
  rw [abc]
  have hi : i < 26 := by omega
  exact atI_nat (by rw [List.getElem?_map, List.getElem?_range hi]; rfl)
end LK
namespace LK
open PySem PySem.Spec PyProof.Rows L2 DS MA
/-- 1 to 8 small letters -/
def LowK (k : Str) : Prop := 1 ≤ k.cps.size ∧ k.cps.size ≤ 8 ∧ ∀ c ∈ k.cps.toList, 97 ≤ c ∧ c < 123
end LK
namespace LK
open PySem PySem.Spec PyProof.Rows L2 DS MA
theorem cpl_app5 (u v : Str) : (u ++ v).cps.toList = u.cps.toList ++ v.cps.toList := by
  show (u.cps ++ v.cps).toList = _
  simp
def keyM (f l : Int) (stem : Str) (i : Nat) : Str := stem ++ (⟨#[97 + ((f + l * i) % 26).toNat]⟩ : Str) ++ (⟨#[97 + ((f + (i : Int) / 26) % 26).toNat]⟩ : Str)
theorem keyM_cps (f l : Int) (stem : Str) (i : Nat) : (keyM f l stem i).cps.toList = stem.cps.toList ++ [97 + ((f + l * i) % 26).toNat, 97 + ((f + (i : Int) / 26) % 26).toNat] := by
  unfold keyM
  rw [show ∀ u v : Str, (u ++ v).cps.toList = u.cps.toList ++ v.cps.toList from cpl_app5, show ∀ u v : Str, (u ++ v).cps.toList = u.cps.toList ++ v.cps.toList from cpl_app5, List.append_assoc]; rfl
theorem keyM_inj {f l : Int} {stem : Str} {i j : Nat} (hl : l = 1 ∨ l = 3 ∨ l = 5 ∨ l = 7 ∨ l = 9 ∨ l = 11 ∨ l = 25) (hi : i < 600) (hj : j < 600) (e : keyM f l stem i = keyM f l stem j) : i = j := by
  have e1 : (keyM f l stem i).cps.toList = (keyM f l stem j).cps.toList := by rw [e]
  rw [keyM_cps, keyM_cps] at e1
  have e2 := List.append_cancel_left e1
  rw [List.cons.injEq, List.cons.injEq] at e2
  obtain ⟨e3, e4, _⟩ := e2
  have a := Int.emod_nonneg (f + l * i) (show (26 : Int) ≠ 0 by decide)
  have b := Int.emod_nonneg (f + l * j) (show (26 : Int) ≠ 0 by decide)
  have c := Int.emod_nonneg (f + (i : Int) / 26) (show (26 : Int) ≠ 0 by decide)
  have d := Int.emod_nonneg (f + (j : Int) / 26) (show (26 : Int) ≠ 0 by decide)
  have e6 : (f + l * i) % 26 = (f + l * j) % 26 := by omega
  have e7 : (f + (i : Int) / 26) % 26 = (f + (j : Int) / 26) % 26 := by omega
  have q8 : ∀ (a b : Int), 0 ≤ a → a < 26 → 0 ≤ b → b < 26 → (f + a) % 26 = (f + b) % 26 → a = b := by
    clear e3 e4 e6 e7 a b c d e1 e
    intro a b h1 h2 h3 h4 h5; omega
  have q9 : ∀ (a b : Int), (f + l * a) % 26 = (f + l * b) % 26 → a % 26 = b % 26 := by
    clear e3 e4 e6 e7 a b c d q8 e1 e
    intro a b h
    rcases hl with rfl | rfl | rfl | rfl | rfl | rfl | rfl <;> omega
  have e8 := q8 _ _ (by omega) (by omega) (by omega) (by omega) e7
  have e9 := q9 _ _ e6
  clear q8 q9 e3 e4 e6 e7 a b c d e1 e
  omega
def sp__law_keys : DSp := fun ds μ Q _ => ∃ h many T, ds = [.ref h, .int (many : Nat)] ∧ many ≤ 600 ∧ T ≤ 900000000 ∧ HandAt μ h T ∧ ∀ names μ', names.Nodup → names.length = many → (∀ k ∈ names, KeyOk k ∧ LowK k) → HandAt μ' h (T + 4) → LeX h μ μ' → Q (.lst (sts names)) μ'
theorem len__law_keys : ∀ ds μ Q E, sp__law_keys ds μ Q E → ds.length = 2 := by rintro ds μ Q E ⟨h, many, T, rfl, _⟩; rfl
def t__law_keys : DTS := (dSeq (dPar 2 3 (dCons (dC (.str "abcdefghijklmnopqrstuvwxyz")) (dCons (dLstM dNil) dNil)))
    (dSeq (dPar 4 5 (dCons (dCall sp__law_take [] (dCons (dVar 0) (dCons (dC (.int 26)) dNil))) (dCons (dCall sp__law_of [] (dCons (dVar 0) (dCons (dLst (dCons (dC (.int 1)) (dCons (dC (.int 3)) (dCons (dC (.int 5)) (dCons (dC (.int 7)) (dCons (dC (.int 9)) (dCons (dC (.int 11)) (dCons (dC (.int 25)) dNil)))))))) dNil))) dNil)))
    (dSeq (dSet (dOp dMul (dCall sp__law_of [] (dCons (dVar 0) (dCons (dVar 2) dNil))) (dCall sp__law_of [] (dCons (dVar 0) (dCons (dLst (dCons (dC (.int 0)) (dCons (dC (.int 0)) (dCons (dC (.int 0)) (dCons (dC (.int 1)) (dCons (dC (.int 2)) (dCons (dC (.int 6)) dNil))))))) dNil)))) 6)
    (dSeq (dFor (jRng1 (dCons (dVar 1) dNil)) (hName 7) (dSeq (dPar 8 9 (dCons (dOp dMod (dOp dAdd (dVar 4) (dOp dMul (dVar 5) (dVar 7))) (dC (.int 26))) (dCons (dOp dMod (dOp dAdd (dVar 4) (dOp dDiv (dVar 7) (dC (.int 26)))) (dC (.int 26))) dNil)))
    (dDrop (dLM dmAppend (dVar 3) (dCons (dOp dAdd (dOp dAdd (dVar 6) (dOp dIx (dVar 2) (dVar 8))) (dOp dIx (dVar 2) (dVar 9))) dNil)))))
    (dRetF (dVar 3))))))
theorem read__law_keys : ∀ ds μ Q E, sp__law_keys ds μ Q E → t__law_keys { nx := fun _ μ' => Q .non μ', rt := Q } (begin_ ["_law_hand_here", "_law_count", "_law_letters", "_law_found", "_law_start", "_law_leap", "_law_stem", "_law_nth", "_law_first", "_law_second"] ds) μ := by
  rintro ds μ Q E ⟨h, many, T, rfl, hm, hT, H, q⟩
  unfold t__law_keys
  refine ⟨Nat.zero_le _, fun p hp => ?_⟩
  dsimp only
  have hph := H.ne hp
  refine r_var rfl ?_
  refine ⟨h, 26, T, rfl, by decide, by decide, by omega, H.up hph, fun f μ1 f0 f1 H1 l1 => ?_⟩
  refine r_var rfl ?_
  refine ⟨(by show 7 ≤ sizeLine; decide), ?_⟩
  refine ⟨h, _, _, T + 1, rfl, .inl rfl, by simp, by simp, by omega, H1, fun i d μ2 hd H2 l2 => ?_⟩
  have hl : ∃ l : Int, d = .int l ∧ (l = 1 ∨ l = 3 ∨ l = 5 ∨ l = 7 ∨ l = 9 ∨ l = 11 ∨ l = 25) := by
    have := List.mem_of_getElem? hd
    simp at this
    rcases this with rfl | rfl | rfl | rfl | rfl | rfl | rfl <;> exact ⟨_, rfl, by decide⟩
  obtain ⟨l, rfl, hl⟩ := hl
  dsimp only
  refine r_var rfl ?_
  refine r_var rfl ?_
  have hal : ("abcdefghijklmnopqrstuvwxyz" : Str).cps.toList.length = 26 := by rw [abc]; simp
  refine ⟨h, _, _, T + 2, rfl, .inr ⟨_, rfl, rfl⟩, by intro z; have := congrArg List.length z; rw [List.length_map, hal] at this; simp at this, by rw [List.length_map, hal]; omega, by omega, H2, fun i d μ3 hd H3 l3 => ?_⟩
  obtain ⟨c, hc, rfl⟩ := List.mem_map.mp (List.mem_of_getElem? hd)
  have hc2 : 97 ≤ c ∧ c < 123 := by
    rw [abc] at hc; obtain ⟨j, hj, rfl⟩ := List.mem_map.mp hc; have := List.mem_range.mp hj; omega
  refine r_var rfl ?_
  refine ⟨(by show 6 ≤ sizeLine; decide), ?_⟩
  refine ⟨h, _, _, T + 3, rfl, .inl rfl, by simp, by simp, by omega, H3, fun i d μ4 hd H4 l4 => ?_⟩
  have hn : ∃ n : Nat, d = .int n ∧ n ≤ 6 := by
    have := List.mem_of_getElem? hd
    simp at this
    rcases this with rfl | rfl | rfl | rfl
    · exact ⟨0, rfl, by decide⟩
    · exact ⟨1, rfl, by decide⟩
    · exact ⟨2, rfl, by decide⟩
    · exact ⟨6, rfl, by decide⟩
  obtain ⟨n, rfl, hn⟩ := hn
  refine s_mul ⟨by omega, by omega, by show 1 * _ ≤ _; rw [sizeLine_eq]; omega⟩ ?_
  rw [Int.toNat_natCast]
  have hs : (repS (⟨#[c]⟩ : Str) n).cps.toList = List.replicate n c := by
    show ((List.replicate n [c]).flatten.toArray).toList = _
    simp
  generalize hst : repS (⟨#[c]⟩ : Str) n = stem at hs
  dsimp only
  have hp4 : μ4 p = some (.lst []) := l4 _ _ (Ne.symm hph) (l3 _ _ (Ne.symm hph) (l2 _ _ (Ne.symm hph) (l1 _ _ (Ne.symm hph) up_same)))
  have lx4 : LeX h μ μ4 := (((((LeX.refl h μ).up hp).trans l1).trans l2).trans l3).trans l4
  have kl : ∀ i, (keyM f l stem i).cps.toList.length ≤ 8 := fun i => by
    rw [keyM_cps, hs]; simp; omega
  refine for_R rfl (by omega) ⟨fun i ρ μ' => ∃ a b c : Option SD, ρ = [some (.ref h), some (.int many), some (.str "abcdefghijklmnopqrstuvwxyz"), some (.ref p), some (.int f), some (.int l), some (.str stem), a, b, c] ∧ μ' p = some (.lst (sts ((List.range i).map (keyM f l stem)))) ∧ LeX h μ μ' ∧ HandAt μ' h (T + 4), ?_, ?_, ?_⟩
  · exact ⟨_, _, _, rfl, hp4, lx4, H4⟩
  · rintro i ρ μ' hi ⟨a, b, c, rfl, hp', lx, HH⟩
    dsimp only
    have r0 := Int.emod_nonneg (f + l * i) (show (26 : Int) ≠ 0 by decide)
    have r1 := Int.emod_lt_of_pos (f + l * i) (show (0 : Int) < 26 by decide)
    have r2 := Int.emod_nonneg (f + (i : Int) / 26) (show (26 : Int) ≠ 0 by decide)
    have r3 := Int.emod_lt_of_pos (f + (i : Int) / 26) (show (0 : Int) < 26 by decide)
    refine r_var rfl ?_
    refine r_var rfl ?_
    refine r_var rfl ?_
    refine i_mul (mul_okS (by omega) (by omega)) ?_
    refine i_add ?_
    refine i_mod (by decide) ?_
    refine r_var rfl ?_
    refine r_var rfl ?_
    refine i_div (div_ok (by decide) (by decide)) ?_
    refine i_add ?_
    refine i_mod (by decide) ?_
    dsimp only
    refine r_var rfl ⟨isSome_ref hp', ?_⟩
    refine r_var rfl ?_
    refine r_var rfl ?_
    refine r_var rfl ?_
    refine ix_str (by show ("abcdefghijklmnopqrstuvwxyz" : Str).cps.toList.length ≤ _; rw [hal]; decide) (abc_at r0 r1) ?_
    have sl : stem.length ≤ 6 := by show stem.cps.toList.length ≤ 6; rw [hs]; simp; omega
    refine s_add (by rw [sizeLine_eq]; show stem.length + 1 ≤ _; omega) ?_
    refine r_var rfl ?_
    refine r_var rfl ?_
    refine ix_str (by show ("abcdefghijklmnopqrstuvwxyz" : Str).cps.toList.length ≤ _; rw [hal]; decide) (abc_at r2 r3) ?_
    refine s_add ?_ ?_
    · have a1 : (stem ++ (⟨#[97 + ((f + l * i) % 26).toNat]⟩ : Str)).length ≤ 7 := by
        show (stem.cps ++ _).size ≤ 7
        rw [Array.size_append]
        have : stem.cps.size ≤ 6 := sl
        simp; omega
      rw [sizeLine_eq]
      show _ + 1 ≤ _
      omega
    · refine dm_append hp' (lt_line (m := 600) (by simp [sts]; omega) (by omega)) ?_
      refine ⟨_, _, _, rfl, ?_, lx.up hp, HH.up hph⟩
      rw [up_same, List.range_succ, List.map_append]
      simp [sts, keyM]
  · rintro ρ μ' ⟨a, b, c, rfl, hp', lx, HH⟩
    dsimp only
    refine r_var rfl ?_
    unfold frz
    simp only [hp']
    refine q _ _ ?_ (by simp) ?_ (HH.rm hph) (lx.rm hp)
    · refine List.pairwise_map.mpr (List.Pairwise.imp_of_mem ?_ List.nodup_range)
      intro a b ha hb hab e
      have h1 := List.mem_range.mp ha
      have h2 := List.mem_range.mp hb
      exact hab (keyM_inj hl (by omega) (by omega) e)
    · intro k hk
      obtain ⟨i, hi, rfl⟩ := List.mem_map.mp hk
      have := kl i
      have low : ∀ x ∈ (keyM f l stem i).cps.toList, 97 ≤ x ∧ x < 123 := by
        intro x hx
        rw [keyM_cps, hs] at hx
        have r0 := Int.emod_nonneg (f + l * i) (show (26 : Int) ≠ 0 by decide)
        have r1 := Int.emod_lt_of_pos (f + l * i) (show (0 : Int) < 26 by decide)
        have r2 := Int.emod_nonneg (f + (i : Int) / 26) (show (26 : Int) ≠ 0 by decide)
        have r3 := Int.emod_lt_of_pos (f + (i : Int) / 26) (show (0 : Int) < 26 by decide)
        rcases List.mem_append.mp hx with hx | hx
        · have := (List.mem_replicate.mp hx).2; omega
        · simp at hx; omega
      have l1 : 1 ≤ (keyM f l stem i).cps.toList.length := by rw [keyM_cps]; simp
      refine ⟨?_, by rw [← Array.length_toList]; omega, by rw [← Array.length_toList]; omega, low⟩
      refine ⟨?_, by rw [← Array.length_toList]; omega⟩
      unfold PyData.strOk
      rw [← Array.all_toList, List.all_eq_true]
      intro x hx
      rw [keyM_cps, hs] at hx
      have r0 := Int.emod_nonneg (f + l * i) (show (26 : Int) ≠ 0 by decide)
      have r1 := Int.emod_lt_of_pos (f + l * i) (show (0 : Int) < 26 by decide)
      have r2 := Int.emod_nonneg (f + (i : Int) / 26) (show (26 : Int) ≠ 0 by decide)
      have r3 := Int.emod_lt_of_pos (f + (i : Int) / 26) (show (0 : Int) < 26 by decide)
      have : x < 1000 := by
        rcases List.mem_append.mp hx with hx | hx
        · have := (List.mem_replicate.mp hx).2; omega
        · simp at hx; omega
      simp; omega
end LK
namespace LK
open PySem PySem.Spec PyProof.Rows L2 DS MA
structure Grow (names : List Str) (deep n : Nat) (f : Str → List Str) (lev : Str → Nat) : Prop where
  l0 : ∀ k, names[0]? = some k → lev k = 1
  lv : ∀ k ∈ names.take n, 1 ≤ lev k ∧ lev k ≤ deep
  kid : ∀ k ∈ names.take n, ∀ c ∈ f k, c ∈ names.take n ∧ lev c = lev k + 1
  perm : ((names.take n).flatMap f).Perm (names.take n).tail
def putIn (f : Str → List Str) (home x : Str) (j : Nat) : Str → List Str := fun k => if k = x then [] else if k = home then (f home).take j ++ [x] ++ (f home).drop j else f k
def levIn (lev : Str → Nat) (home x : Str) : Str → Nat := fun k => if k = x then lev home + 1 else lev k
theorem flatMap_same {f g : Str → List Str} : ∀ {ks : List Str}, (∀ k ∈ ks, f k = g k) → ks.flatMap f = ks.flatMap g
  | [], _ => rfl
  | k :: r, h => by rw [List.flatMap_cons, List.flatMap_cons, h k (List.mem_cons_self ..), flatMap_same fun x hx => h x (List.mem_cons_of_mem _ hx)]
theorem perm_putIn {f : Str → List Str} {home x : Str} {j : Nat} : ∀ {ks : List Str}, ks.Nodup → home ∈ ks → x ∉ ks → (ks.flatMap (putIn f home x j)).Perm (x :: ks.flatMap f)
  | [], _, h, _ => by cases h
  | k :: r, nd, h, hx => by
    rw [List.flatMap_cons, List.flatMap_cons]
    have nd2 := List.nodup_cons.mp nd
    have hxk : k ≠ x := fun e => hx (by rw [e]; exact List.mem_cons_self ..)
    by_cases e : k = home
    · subst e
      have : r.flatMap (putIn f k x j) = r.flatMap f := flatMap_same fun y hy => by
        have h1 : y ≠ k := fun e => nd2.1 (e ▸ hy)
        have h2 : y ≠ x := fun e => hx (by rw [← e]; exact List.mem_cons_of_mem _ hy)
        unfold putIn; rw [if_neg h2, if_neg h1]
      rw [this]
      have e2 : putIn f k x j k = (f k).take j ++ [x] ++ (f k).drop j := by unfold putIn; rw [if_neg hxk, if_pos rfl]
      rw [e2]
      have : ((f k).take j ++ [x] ++ (f k).drop j).Perm (x :: f k) := by
        conv => rhs; rw [← List.take_append_drop j (f k)]
        rw [List.append_assoc]
        exact List.perm_middle
      exact this.append_right _
    · have h2 : home ∈ r := by
        rcases List.mem_cons.mp h with h | h
        · exact (e h.symm).elim
        · exact h
      have e2 : putIn f home x j k = f k := by unfold putIn; rw [if_neg hxk, if_neg e]
      rw [e2]
      have ih := perm_putIn (f := f) (j := j) nd2.2 h2 (fun z => hx (List.mem_cons_of_mem _ z))
      exact (ih.append_left (f k)).trans List.perm_middle
theorem take_snoc {names : List Str} {n : Nat} {x : Str} (h : names[n]? = some x) : names.take (n + 1) = names.take n ++ [x] := by
  rw [List.take_succ, h]; rfl
theorem not_in_take {names : List Str} {n : Nat} {x : Str} (nd : names.Nodup) (h : names[n]? = some x) : x ∉ names.take n := by
  have h1 : (names.take (n + 1)).Nodup := nd.sublist (List.take_sublist ..)
  rw [take_snoc h, List.nodup_append] at h1
  intro z; exact h1.2.2 x z x (List.mem_singleton.mpr rfl) rfl
theorem Grow.step {names : List Str} {deep n : Nat} {f : Str → List Str} {lev : Str → Nat} {home x : Str} {j : Nat} (G : Grow names deep n f lev) (nd : names.Nodup) (hn : 0 < n) (hx : names[n]? = some x) (hh : home ∈ names.take n) (hd : lev home < deep) :
    Grow names deep (n + 1) (putIn f home x j) (levIn lev home x) := by
  have xn := not_in_take nd hx
  have nx : ∀ k ∈ names.take n, k ≠ x := fun k hk e => xn (e ▸ hk)
  have mem : ∀ k ∈ names.take n, k ∈ names.take (n + 1) := fun k hk => by rw [take_snoc hx]; exact List.mem_append_left _ hk
  have split : ∀ k ∈ names.take (n + 1), k ∈ names.take n ∨ k = x := fun k hk => by rw [take_snoc hx] at hk; simpa using hk
  refine ⟨fun k hk => ?_, fun k hk => ?_, fun k hk c hc => ?_, ?_⟩
  · have hk2 : k ∈ names.take n := by
      have : (names.take n)[0]? = some k := by rw [List.getElem?_take]; simp [hn, hk]
      exact List.mem_of_getElem? this
    unfold levIn; rw [if_neg (nx k hk2)]; exact G.l0 k hk
  · unfold levIn
    rcases split k hk with hk | rfl
    · rw [if_neg (nx k hk)]; exact G.lv k hk
    · rw [if_pos rfl]; omega
  · rcases split k hk with hk | rfl
    · have hkx := nx k hk
      have key : ∀ c ∈ f k, c ∈ names.take (n + 1) ∧ levIn lev home x c = levIn lev home x k + 1 := fun c hc => by
        obtain ⟨a, b⟩ := G.kid k hk c hc
        refine ⟨mem c a, ?_⟩
        unfold levIn; rw [if_neg (nx c a), if_neg hkx]; exact b
      unfold putIn at hc
      rw [if_neg hkx] at hc
      by_cases e : k = home
      · subst e
        rw [if_pos rfl] at hc
        rcases List.mem_append.mp hc with hc | hc
        · rcases List.mem_append.mp hc with hc | hc
          · exact key c (List.mem_of_mem_take hc)
          · have : c = x := by simpa using hc
            subst this
            refine ⟨by rw [take_snoc hx]; simp, ?_⟩
            unfold levIn; rw [if_pos rfl, if_neg hkx]
        · exact key c (List.mem_of_mem_drop hc)
      · rw [if_neg e] at hc; exact key c hc
    · unfold putIn at hc; rw [if_pos rfl] at hc; cases hc
  · rw [take_snoc hx, List.flatMap_append]
    have e1 : [x].flatMap (putIn f home x j) = [] := by simp [putIn]
    rw [e1, List.append_nil]
    have h1 := perm_putIn (f := f) (j := j) (nd.sublist (List.take_sublist n names)) hh xn
    have e2 : (names.take n ++ [x]).tail = (names.take n).tail ++ [x] := by
      cases e : names.take n with
      | nil => rw [e] at hh; cases hh
      | cons a r => rfl
    rw [e2]
    exact (h1.trans (List.Perm.cons x G.perm)).trans (List.perm_append_singleton x _).symm
theorem Grow.init {names : List Str} {deep : Nat} {x : Str} (h0 : names[0]? = some x) (hd : 1 ≤ deep) : Grow names deep 1 (fun _ => []) (fun _ => 1) := by
  have e : names.take 1 = [x] := by rw [take_snoc h0]; rfl
  refine ⟨fun _ _ => rfl, fun _ _ => ⟨Nat.le_refl _, hd⟩, fun k _ c hc => (List.not_mem_nil hc).elim, ?_⟩
  rw [e]; simp
end LK
namespace LK
open PySem PySem.Spec PyProof.Rows L2 DS MA
theorem len_sub {α : Type} [DecidableEq α] : ∀ {a b : List α}, a.Nodup → (∀ x ∈ a, x ∈ b) → a.length ≤ b.length
  | [], _, _, _ => Nat.zero_le _
  | x :: r, b, nd, h => by
    have nd2 := List.nodup_cons.mp nd
    have hx := h x (List.mem_cons_self ..)
    have := len_sub (b := b.erase x) nd2.2 fun y hy => (List.mem_erase_of_ne (fun e => nd2.1 (by subst e; exact hy))).mpr (h y (List.mem_cons_of_mem _ hy))
    rw [List.length_erase_of_mem hx] at this
    have := List.length_pos_of_mem hx
    rw [List.length_cons]; omega
theorem uniq_block {f : Str → List Str} {c k k' : Str} : ∀ {ks : List Str}, (ks.flatMap f).Nodup → k ∈ ks → k' ∈ ks → c ∈ f k → c ∈ f k' → k = k'
  | [], _, h, _, _, _ => by cases h
  | a :: r, nd, h, h', hc, hc' => by
    rw [List.flatMap_cons, List.nodup_append] at nd
    have dis : ∀ y ∈ r, c ∈ f a → c ∈ f y → False := fun y hy h1 h2 => nd.2.2 c h1 c (List.mem_flatMap.mpr ⟨y, hy, h2⟩) rfl
    rcases List.mem_cons.mp h with e | h1 <;> rcases List.mem_cons.mp h' with e' | h2
    · rw [e, e']
    · rw [e] at hc; exact (dis k' h2 hc hc').elim
    · rw [e'] at hc'; exact (dis k h1 hc' hc).elim
    · exact uniq_block nd.2.1 h1 h2 hc hc'
def parOf (names : List Str) (f : Str → List Str) (c : Str) : Option Str := names.find? fun k => decide (c ∈ f k)
def build (f : Str → List Str) : Nat → Str → T
  | 0, k => .node k []
  | n + 1, k => .node k ((f k).map (build f n))
theorem build_key {f : Str → List Str} {n : Nat} {k : Str} : (build f n k).key = k := by cases n <;> rfl
theorem build_dep {f : Str → List Str} : ∀ {n : Nat} {k : Str}, dep (build f n k) ≤ n + 1
  | 0, k => by rw [build, dep, depL]; omega
  | n + 1, k => by
    rw [build, dep]
    have : depL ((f k).map (build f n)) ≤ n + 1 := depL_le fun t ht => by
      obtain ⟨c, _, rfl⟩ := List.mem_map.mp ht; exact build_dep
    omega
theorem Sub.trans {a b c : T} (h : Sub a b) (k : Sub b c) : Sub a c := by
  induction k with
  | refl => exact h
  | kid hc _ ih => exact .kid hc ih
theorem Up.next {par : Str → Option Str} {x y z : Str} {l : List Str} (h : Up par x l) : y ∈ l → par y = some z → z ∈ l := by
  induction h with
  | root h => intro hy e; have := List.mem_singleton.mp hy; subst this; rw [h] at e; cases e
  | step h r ih =>
    intro hy e
    rcases List.mem_cons.mp hy with rfl | hy
    · rw [h] at e; cases e
      obtain ⟨q, rfl⟩ := r.head; simp
    · exact List.mem_cons_of_mem _ (ih hy e)
/-- what is known of a grown tree -/
structure Plant (names : List Str) (n0 : Str) (f : Str → List Str) (par : Str → Option Str) (lev : Str → Nat) (t : T) : Prop where
  key : t.key = n0
  P : Par f par t
  kid : ∀ c p, par c = some p → p ∈ names ∧ c ∈ f p
  mem : ∀ k, k ∈ pre t ↔ k ∈ names
  nd : (pre t).Nodup
  dep : dep t ≤ 20
  sub : ∀ k ∈ names, ∃ s, Sub s t ∧ s.key = k
  upl : ∀ k l, k ∈ names → Up par k l → l.length = lev k
  up : ∀ k ∈ names, ∃ l, Up par k (k :: l) ∧ l.length ≤ 999 ∧ (∀ x ∈ l, x ∈ names) ∧ k ∉ l
theorem anc_eq {f : Str → List Str} {par : Str → Option Str} {lev : Str → Nat} {x : Str} : ∀ (n : Nat) (s : T), dep s ≤ n → Fits f s → (∀ k ∈ pre s, ∀ c ∈ f k, par c = some k ∧ lev c = lev k + 1) → x ∈ pre s → ∀ s', dep s' ≤ n → Fits f s' → (∀ k ∈ pre s', ∀ c ∈ f k, par c = some k ∧ lev c = lev k + 1) → x ∈ pre s' → lev s.key = lev s'.key → s.key = s'.key := by
  -- both lie on the way up from x
  have chain : ∀ (n : Nat) (s : T), dep s ≤ n → Fits f s → (∀ k ∈ pre s, ∀ c ∈ f k, par c = some k ∧ lev c = lev k + 1) → x ∈ pre s → ∃ d, lev x = lev s.key + d ∧ Nat.repeat (fun o : Option Str => o.bind par) d (some x) = some s.key := by
    intro n
    induction n with
    | zero => intro s h; cases s; rw [MA.dep] at h; omega
    | succ n ih =>
      intro s h fit hp hx
      obtain ⟨k, cs⟩ := s
      rw [Fits] at fit
      rw [MA.dep] at h
      rw [MA.pre] at hx hp
      rcases List.mem_cons.mp hx with rfl | hx
      · exact ⟨0, rfl, rfl⟩
      · obtain ⟨c, hc, hxc⟩ := preL_mem.mp hx
        have := depL_mem hc
        obtain ⟨d, h1, h2⟩ := ih c (by omega) (FitsL_mem.mp fit.2 c hc) (fun y hy => hp y (List.mem_cons_of_mem _ (preL_sub hc y hy))) hxc
        have h3 := hp k (List.mem_cons_self ..) c.key (by rw [fit.1]; exact List.mem_map.mpr ⟨c, hc, rfl⟩)
        refine ⟨d + 1, ?_, ?_⟩
        · show lev x = lev k + (d + 1); omega
        · show (Nat.repeat (fun o : Option Str => o.bind par) d (some x)).bind par = some k
          rw [h2]; exact h3.1
  intro n s h1 h2 h3 h4 s' g1 g2 g3 g4 e
  obtain ⟨d, a1, a2⟩ := chain n s h1 h2 h3 h4
  obtain ⟨d', b1, b2⟩ := chain n s' g1 g2 g3 g4
  have : d = d' := by omega
  subst this
  rw [a2] at b2; exact Option.some.inj b2
theorem preL_nodup : ∀ {cs : List T}, (∀ c ∈ cs, (pre c).Nodup) → cs.Pairwise (fun a b => ∀ x ∈ pre a, x ∉ pre b) → (preL cs).Nodup
  | [], _, _ => by rw [preL]; exact List.nodup_nil
  | c :: r, h, p => by
    have p2 := List.pairwise_cons.mp p
    rw [preL, List.nodup_append]
    refine ⟨h c (List.mem_cons_self ..), preL_nodup (fun d hd => h d (List.mem_cons_of_mem _ hd)) p2.2, fun x hx y hy e => ?_⟩
    subst e
    obtain ⟨d, hd, hxd⟩ := preL_mem.mp hy
    exact p2.1 d hd x hx hxd
end LK
namespace LK
open PySem PySem.Spec PyProof.Rows L2 DS MA
theorem plant_of {names : List Str} {n0 : Str} {deep : Nat} {f : Str → List Str} {lev : Str → Nat} (G : Grow names deep names.length f lev) (h0 : names[0]? = some n0) (nd : names.Nodup) (hl : names.length ≤ 600) (hd1 : 1 ≤ deep) (hd : deep ≤ 20) :
    Plant names n0 f (parOf names f) lev (build f (deep - 1) n0) := by
  obtain ⟨l0, lv, kid, perm⟩ := G
  rw [List.take_length] at lv kid perm
  have l0 := l0 n0 h0
  have n0in : n0 ∈ names := List.mem_of_getElem? h0
  have hcons : names = n0 :: names.tail := by
    cases names with
    | nil => cases n0in
    | cons a r => simp at h0; subst h0; rfl
  have ndt : names.tail.Nodup := by rw [hcons] at nd; exact (List.nodup_cons.mp nd).2
  have n0t : n0 ∉ names.tail := by rw [hcons] at nd; exact (List.nodup_cons.mp nd).1
  have fnd : (names.flatMap f).Nodup := perm.nodup_iff.mpr ndt
  have parS : ∀ c p, parOf names f c = some p → p ∈ names ∧ c ∈ f p := fun c p h => by
    refine ⟨List.mem_of_find?_eq_some h, ?_⟩
    have := List.find?_some h
    simpa using this
  have parK : ∀ k ∈ names, ∀ c ∈ f k, parOf names f c = some k := fun k hk c hc => by
    have : (parOf names f c).isSome = true := List.find?_isSome.mpr ⟨k, hk, by simpa using hc⟩
    obtain ⟨p, hp⟩ := Option.isSome_iff_exists.mp this
    obtain ⟨a, b⟩ := parS c p hp
    rw [hp, uniq_block fnd a hk b hc]
  have root : parOf names f n0 = none := by
    cases e : parOf names f n0 with
    | none => rfl
    | some p =>
      obtain ⟨a, b⟩ := parS _ _ e
      exact (n0t (perm.mem_iff.mp (List.mem_flatMap.mpr ⟨p, a, b⟩))).elim
  have fit : ∀ n k, k ∈ names → deep ≤ lev k + n → Fits f (build f n k) := by
    intro n
    induction n with
    | zero =>
      intro k hk h
      rw [build, Fits]
      refine ⟨List.eq_nil_iff_forall_not_mem.mpr fun c hc => ?_, trivial⟩
      obtain ⟨a, b⟩ := kid k hk c hc
      have := (lv c a).2; omega
    | succ n ih =>
      intro k hk h
      rw [build, Fits]
      refine ⟨?_, FitsL_mem.mpr fun t ht => ?_⟩
      · rw [List.map_map]
        exact ((List.map_congr_left fun c _ => build_key).trans (List.map_id _)).symm
      · obtain ⟨c, hc, rfl⟩ := List.mem_map.mp ht
        obtain ⟨a, b⟩ := kid k hk c hc
        exact ih c a (by omega)
  have inn : ∀ n k, k ∈ names → ∀ x ∈ pre (build f n k), x ∈ names ∧ lev k ≤ lev x := by
    intro n
    induction n with
    | zero => intro k hk x hx; rw [build, pre, preL] at hx; have := List.mem_singleton.mp hx; subst this; exact ⟨hk, Nat.le_refl _⟩
    | succ n ih =>
      intro k hk x hx
      rw [build, pre] at hx
      rcases List.mem_cons.mp hx with rfl | hx
      · exact ⟨hk, Nat.le_refl _⟩
      · obtain ⟨t, ht, hxt⟩ := preL_mem.mp hx
        obtain ⟨c, hc, rfl⟩ := List.mem_map.mp ht
        obtain ⟨a, b⟩ := kid k hk c hc
        obtain ⟨p, q⟩ := ih c a x hxt
        exact ⟨p, by omega⟩
  have fkn : ∀ k ∈ names, (f k).Nodup := fun k hk => by
    obtain ⟨s, t, e⟩ := List.append_of_mem hk
    rw [e, List.flatMap_append, List.flatMap_cons, List.nodup_append] at fnd
    exact (List.nodup_append.mp fnd.2.1).1
  have pn : ∀ n k, k ∈ names → deep ≤ lev k + n → (pre (build f n k)).Nodup := by
    intro n
    induction n with
    | zero => intro k hk h; rw [build, pre, preL]; simp
    | succ n ih =>
      intro k hk h
      rw [build, pre, List.nodup_cons]
      refine ⟨fun hx => ?_, preL_nodup (fun t ht => ?_) ?_⟩
      · obtain ⟨t, ht, hxt⟩ := preL_mem.mp hx
        obtain ⟨c, hc, rfl⟩ := List.mem_map.mp ht
        obtain ⟨a, b⟩ := kid k hk c hc
        obtain ⟨p, q⟩ := inn n c a k hxt
        omega
      · obtain ⟨c, hc, rfl⟩ := List.mem_map.mp ht
        obtain ⟨a, b⟩ := kid k hk c hc
        exact ih c a (by omega)
      · refine List.pairwise_map.mpr (List.Pairwise.imp_of_mem (R := fun a b => a ≠ b) ?_ (fkn k hk))
        intro a b ha hb hne x hxa hxb
        obtain ⟨a1, a2⟩ := kid k hk a ha
        obtain ⟨b1, b2⟩ := kid k hk b hb
        have := anc_eq (par := parOf names f) (lev := lev) (n + 1) _ (build_dep (f := f) (n := n) (k := a)) (fit n a a1 (by omega)) (fun y hy c hc => ⟨parK y (inn n a a1 y hy).1 c hc, (kid y (inn n a a1 y hy).1 c hc).2⟩) hxa _ (build_dep (f := f) (n := n) (k := b)) (fit n b b1 (by omega)) (fun y hy c hc => ⟨parK y (inn n b b1 y hy).1 c hc, (kid y (inn n b b1 y hy).1 c hc).2⟩) hxb (by rw [build_key, build_key, a2, b2])
        rw [build_key, build_key] at this
        exact hne this
  have fitT := fit (deep - 1) n0 n0in (by omega)
  have hpar : ∀ k ∈ names, k ≠ n0 → ∃ p ∈ names, k ∈ f p := fun k hk hne => by
    have : k ∈ names.tail := by rw [hcons] at hk; rcases List.mem_cons.mp hk with h | h
                                · exact (hne h).elim
                                · exact h
    obtain ⟨p, hp, hkp⟩ := List.mem_flatMap.mp (perm.mem_iff.mpr this)
    exact ⟨p, hp, hkp⟩
  have sub : ∀ m k, k ∈ names → lev k ≤ m → ∃ s, Sub s (build f (deep - 1) n0) ∧ s.key = k := by
    intro m
    induction m with
    | zero => intro k hk h; have := (lv k hk).1; omega
    | succ m ih =>
      intro k hk h
      by_cases e : k = n0
      · subst e; exact ⟨_, .refl _, build_key⟩
      · obtain ⟨p, hp, hkp⟩ := hpar k hk e
        have hb := (kid p hp k hkp).2
        obtain ⟨s, hs, rfl⟩ := ih p hp (by omega)
        obtain ⟨q, cs⟩ := s
        have fs := hs.fits fitT
        rw [Fits] at fs
        rw [show (T.node q cs).key = q from rfl, fs.1] at hkp
        obtain ⟨c, hc, rfl⟩ := List.mem_map.mp hkp
        exact ⟨c, Sub.trans (.kid hc (.refl c)) hs, rfl⟩
  have up : ∀ m k, k ∈ names → lev k ≤ m → ∃ l, Up (parOf names f) k (k :: l) ∧ l.length + 1 = lev k ∧ ∀ x ∈ l, x ∈ names ∧ lev x < lev k := by
    intro m
    induction m with
    | zero => intro k hk h; have := (lv k hk).1; omega
    | succ m ih =>
      intro k hk h
      by_cases e : k = n0
      · subst e; exact ⟨[], .root root, by simp [l0], fun x hx => by cases hx⟩
      · obtain ⟨p, hp, hkp⟩ := hpar k hk e
        have hb := (kid p hp k hkp).2
        obtain ⟨l, hu, hll, hx⟩ := ih p hp (by omega)
        refine ⟨p :: l, .step (parK p hp k hkp) hu, by simp; omega, fun x hx' => ?_⟩
        rcases List.mem_cons.mp hx' with rfl | hx'
        · exact ⟨hp, by omega⟩
        · exact ⟨(hx x hx').1, by have := (hx x hx').2; omega⟩
  refine ⟨build_key, ⟨fitT, fun k hk => parK k (inn _ _ n0in k hk).1, by rw [build_key]; exact root⟩, parS, fun k => ⟨fun h => (inn _ _ n0in k h).1, fun h => ?_⟩, pn _ _ n0in (by omega), Nat.le_trans build_dep (by omega), fun k hk => sub _ k hk (Nat.le_refl _), fun k l hk hu => ?_, fun k hk => ?_⟩
  · obtain ⟨s, hs, rfl⟩ := sub _ k h (Nat.le_refl _)
    exact hs.pre _ (key_mem s)
  · obtain ⟨l', hu', hll, hx⟩ := up _ k hk (Nat.le_refl _)
    rw [hu.uniq hu', List.length_cons, hll]
  · obtain ⟨l, hu, hll, hx⟩ := up _ k hk (Nat.le_refl _)
    have := (lv k hk).2
    exact ⟨l, hu, by omega, fun x h => (hx x h).1, fun h => by have := (hx k h).2; omega⟩
theorem Plant.ok {names : List Str} {n0 : Str} {f : Str → List Str} {par : Str → Option Str} {lev : Str → Nat} {t : T} (p : Plant names n0 f par lev t) (hl : names.length ≤ 600) (hk : ∀ k ∈ names, KeyOk k) : TOk t :=
  ⟨Nat.le_trans (len_sub p.nd fun x hx => (p.mem x).mp hx) (by omega), Nat.le_trans p.dep (by decide), fun k h => hk k ((p.mem k).mp h)⟩
end LK
namespace LK
open PySem PySem.Spec PyProof.Rows L2 DS MA
open TL (joinL tl_join join_eq)
def cpl (x : Str) : List Nat := x.cps.toList
theorem cpl_inj {x y : Str} (h : cpl x = cpl y) : x = y := by
  obtain ⟨a⟩ := x; obtain ⟨b⟩ := y
  have : a = b := Array.toList_inj.mp h
  rw [this]
theorem cpl_app (u v : Str) : cpl (u ++ v) = cpl u ++ cpl v := by
  show (u.cps ++ v.cps).toList = _
  simp [cpl]
theorem cpl_rep (x : Str) (n : Nat) : cpl (repS x n) = (List.replicate n (cpl x)).flatten := rfl
theorem cpl_join (y : Str) (parts : List Str) : cpl (Txt.join y parts) = joinL (cpl y) (parts.map cpl) := by
  rw [join_eq]; exact tl_join y parts
theorem joinL_cons {S p : List Nat} {r : List (List Nat)} (h : r ≠ []) : joinL S (p :: r) = p ++ (S ++ joinL S r) := by
  cases r with
  | nil => exact (h rfl).elim
  | cons q r => rw [joinL]
theorem joinL_append {S : List Nat} : ∀ {a b : List (List Nat)}, a ≠ [] → b ≠ [] → joinL S (a ++ b) = joinL S a ++ (S ++ joinL S b)
  | [], _, h, _ => (h rfl).elim
  | [p], b, _, h => by rw [List.singleton_append, joinL_cons h, joinL]
  | p :: q :: r, b, _, h => by
    rw [List.cons_append, joinL_cons (by simp), joinL_append (by simp) h, joinL_cons (r := q :: r) (by simp)]
    simp
theorem joinL_flat {S p : List Nat} : ∀ {gs : List (List (List Nat))}, (∀ g ∈ gs, g ≠ []) → joinL S (p :: gs.map (joinL S)) = joinL S (p :: gs.flatten)
  | [], _ => rfl
  | g :: r, h => by
    have hg := h g (List.mem_cons_self ..)
    have ih := joinL_flat (S := S) (p := p) (gs := r) fun x hx => h x (List.mem_cons_of_mem _ hx)
    rw [List.map_cons, List.flatten_cons]
    cases r with
    | nil => rw [List.map_nil, List.flatten_nil, List.append_nil, joinL_cons (by simp), joinL_cons hg]; simp [joinL]
    | cons g2 r =>
      have n1 : ((g2 :: r).map (joinL S)) ≠ [] := by simp
      have n2 : (g2 :: r).flatten ≠ [] := by
        have := h g2 (List.mem_cons_of_mem _ (List.mem_cons_self ..))
        intro z; rw [List.flatten_cons] at z; exact this (List.append_eq_nil_iff.mp z).1
      rw [joinL_cons n1, joinL_cons n2] at ih
      have ih2 := List.append_cancel_left (List.append_cancel_left ih)
      rw [joinL_cons (by simp), joinL_cons n1, joinL_cons (by simp [hg]), joinL_append hg n2, ih2]
mutual
def linesT : Nat → T → List Str
  | d, .node k cs => (repS "  " d ++ k) :: linesL (d + 1) cs
def linesL : Nat → List T → List Str
  | _, [] => []
  | d, t :: r => linesT d t ++ linesL d r
end
mutual
def textT : Nat → T → Str
  | d, .node k cs => Txt.join "\n" ((repS " " (2 * d) ++ k) :: textL (d + 1) cs)
def textL : Nat → List T → List Str
  | _, [] => []
  | d, t :: r => textT d t :: textL d r
end
theorem rep_two (d : Nat) : repS "  " d = repS " " (2 * d) := by
  apply cpl_inj
  rw [cpl_rep, cpl_rep]
  have e1 : cpl "  " = [32, 32] := by decide +kernel
  have e2 : cpl " " = [32] := by decide +kernel
  rw [e1, e2]
  induction d with
  | zero => rfl
  | succ d ih => rw [List.replicate_succ, List.flatten_cons, ih, show 2 * (d + 1) = (2 * d + 1) + 1 by omega, List.replicate_succ, List.flatten_cons, List.replicate_succ, List.flatten_cons]; rfl
theorem linesT_ne (d : Nat) (t : T) : linesT d t ≠ [] := by cases t; rw [linesT]; simp
mutual
theorem text_lines : ∀ (d : Nat) (t : T), textT d t = Txt.join "\n" (linesT d t)
  | d, .node k cs => by
    apply cpl_inj
    obtain ⟨gs, h1, h2, h3⟩ := textL_lines (d + 1) cs
    rw [textT, linesT, cpl_join, cpl_join, List.map_cons, List.map_cons, h1, h2, joinL_flat h3, rep_two]
theorem textL_lines : ∀ (d : Nat) (ts : List T), ∃ gs : List (List (List Nat)), (textL d ts).map cpl = gs.map (joinL (cpl "\n")) ∧ (linesL d ts).map cpl = gs.flatten ∧ ∀ g ∈ gs, g ≠ []
  | _, [] => ⟨[], by rw [textL]; rfl, by rw [linesL]; rfl, fun g hg => by cases hg⟩
  | d, t :: r => by
    obtain ⟨gs, h1, h2, h3⟩ := textL_lines d r
    refine ⟨(linesT d t).map cpl :: gs, ?_, ?_, fun g hg => ?_⟩
    · rw [textL, List.map_cons, List.map_cons, h1, text_lines d t, cpl_join]
    · rw [linesL, List.map_append, List.flatten_cons, h2]
    · rcases List.mem_cons.mp hg with rfl | hg
      · intro z; exact linesT_ne d t (List.map_eq_nil_iff.mp z)
      · exact h3 g hg
end
mutual
theorem linesT_len : ∀ (d : Nat) (t : T), (linesT d t).length = (pre t).length
  | d, .node k cs => by rw [linesT, pre, List.length_cons, List.length_cons, linesL_len (d + 1) cs]
theorem linesL_len : ∀ (d : Nat) (ts : List T), (linesL d ts).length = (preL ts).length
  | _, [] => by rw [linesL, preL]
  | d, t :: r => by rw [linesL, preL, List.length_append, List.length_append, linesT_len d t, linesL_len d r]
end
theorem textL_map : ∀ (d : Nat) (ts : List T), textL d ts = ts.map (textT d)
  | _, [] => by rw [textL]; rfl
  | d, t :: r => by rw [textL, textL_map d r]; rfl
mutual
theorem line_len : ∀ (d : Nat) (t : T), (∀ k ∈ pre t, k.length ≤ 61) → ∀ x ∈ linesT d t, x.length ≤ 2 * (d + dep t) + 61
  | d, .node k cs, h => by
    rw [linesT, dep]
    rw [pre] at h
    intro x hx
    rcases List.mem_cons.mp hx with rfl | hx
    · have h1 := h k (List.mem_cons_self ..)
      have h2 : (repS "  " d).length = 2 * d := by rw [repS_length]; rfl
      show (repS "  " d ++ k).cps.size ≤ _
      show ((repS "  " d).cps ++ k.cps).size ≤ _
      rw [Array.size_append]
      have h3 : (repS "  " d).cps.size = 2 * d := h2
      have h4 : k.cps.size ≤ 61 := h1
      omega
    · have := lineL_len (d + 1) cs (fun y hy => h y (List.mem_cons_of_mem _ hy)) x hx
      omega
theorem lineL_len : ∀ (d : Nat) (ts : List T), (∀ k ∈ preL ts, k.length ≤ 61) → ∀ x ∈ linesL d ts, x.length ≤ 2 * (d + depL ts) + 61
  | _, [], _ => by intro x hx; rw [linesL] at hx; cases hx
  | d, t :: r, h => by
    rw [linesL, depL]
    rw [preL] at h
    intro x hx
    rcases List.mem_append.mp hx with hx | hx
    · have := line_len d t (fun y hy => h y (List.mem_append_left _ hy)) x hx; omega
    · have := lineL_len d r (fun y hy => h y (List.mem_append_right _ hy)) x hx; omega
end
theorem sum_le {l : List Nat} {n : Nat} (h : ∀ x ∈ l, x ≤ n) : l.sum ≤ l.length * n := by
  induction l with
  | nil => simp
  | cons a r ih =>
    rw [List.sum_cons, List.length_cons, Nat.add_mul]
    have := h a (List.mem_cons_self ..); have := ih fun x hx => h x (List.mem_cons_of_mem _ hx)
    omega
end LK
namespace LK
open PySem PySem.Spec PyProof.Rows L2 DS MA
open TL (joinL tl_join join_eq)
theorem joinL_len {S : List Nat} : ∀ l : List (List Nat), (joinL S l).length ≤ (l.map (·.length)).sum + l.length * S.length
  | [] => by simp [joinL]
  | [p] => by simp [joinL]
  | p :: q :: r => by
    have := joinL_len (S := S) (q :: r)
    rw [joinL, List.map_cons, List.sum_cons, List.length_append, List.length_append, List.length_cons, Nat.add_mul]
    omega
theorem join_len (y : Str) (parts : List Str) : (Txt.join y parts).length ≤ (parts.map (·.length)).sum + parts.length * y.length := by
  have h := joinL_len (S := cpl y) (parts.map cpl)
  rw [← cpl_join, List.map_map, List.length_map] at h
  exact h
theorem keyLen {k : Str} (h : KeyOk k) : k.length ≤ 61 := h.2
theorem textT_len {d : Nat} {t : T} (h : ∀ k ∈ pre t, KeyOk k) (hd : d + dep t ≤ 100) : (textT d t).length ≤ 262 * (pre t).length := by
  rw [text_lines]
  have h1 := join_len "\n" (linesT d t)
  have h2 : ((linesT d t).map (·.length)).sum ≤ (linesT d t).length * 261 := by
    have := sum_le (l := (linesT d t).map (·.length)) (n := 261) fun x hx => by
      obtain ⟨y, hy, rfl⟩ := List.mem_map.mp hx
      have := line_len d t (fun k hk => keyLen (h k hk)) y hy
      omega
    rw [List.length_map] at this; exact this
  have h3 : ("\n" : Str).length = 1 := rfl
  rw [h3, linesT_len] at h1
  rw [linesT_len] at h2
  omega
theorem join_L {μ : Mu} {Q : SD → Mu → Prop} {a : Str} {l : List Str} (h : (l.map (·.length)).sum + l.length * a.length ≤ 16777216) (q : Q (.str (Txt.join a l)) μ) : drJoin (.str a) (.lst (sts l)) μ Q := by
  unfold drJoin sts
  simp only [seqD, strsOf_map]
  exact ⟨h, q⟩
def sp__law_text (n : Nat) : DSp := fun ds μ Q _ => ∃ (t : T) (d : Nat), ds = [enc t, .int d] ∧ dep t ≤ n ∧ d + dep t ≤ 100 ∧ (pre t).length ≤ 1000 ∧ (∀ k ∈ pre t, KeyOk k) ∧ Q (.str (textT d t)) μ
theorem no__law_text {ds μ Q E} (h : sp__law_text 0 ds μ Q E) : False := by
  obtain ⟨⟨k, cs⟩, d, rfl, h, _⟩ := h; rw [dep] at h; omega
theorem len__law_text {n} : ∀ ds μ Q E, sp__law_text n ds μ Q E → ds.length = 2 := by rintro ds μ Q E ⟨t, d, rfl, _⟩; rfl
def t__law_text (n : Nat) : DTS := (dRet (dJoin (dC (.str "\n")) (dOp dAdd (dLst (dCons (dOp dAdd (dOp dMul (dC (.str " ")) (dOp dMul (dC (.int 2)) (dVar 1))) (dOp dIx (dVar 0) (dC (.int 0)))) dNil)) (dLcS (jSeq (dOp dIx (dVar 0) (dC (.int 1)))) (hName 2) dYes (dCall (sp__law_text n) [] (dCons (dVar 2) (dCons (dOp dAdd (dVar 1) (dC (.int 1))) dNil))) [2]))))
theorem textL_len {d : Nat} : ∀ {cs : List T}, (∀ k ∈ preL cs, KeyOk k) → (∀ c ∈ cs, d + dep c ≤ 100) → ((textL d cs).map (·.length)).sum ≤ 262 * (preL cs).length
  | [], _, _ => by rw [textL]; simp
  | c :: r, h, hd => by
    rw [preL] at h
    rw [textL, List.map_cons, List.sum_cons, preL, List.length_append]
    have h1 := textT_len (d := d) (t := c) (fun k hk => h k (List.mem_append_left _ hk)) (hd c (List.mem_cons_self ..))
    have h2 := textL_len (d := d) (cs := r) (fun k hk => h k (List.mem_append_right _ hk)) fun x hx => hd x (List.mem_cons_of_mem _ hx)
    omega
theorem read__law_text (n : Nat) : ∀ ds μ Q E, sp__law_text (n + 1) ds μ Q E → t__law_text n { nx := fun _ μ' => Q .non μ', rt := Q } (begin_ ["_law_tree", "_law_depth", "_law_child"] ds) μ := by
  rintro ds μ Q E ⟨⟨k, cs⟩, d, rfl, hd, hdd, hl, hk, q⟩
  unfold t__law_text dLcS dLc
  rw [dep] at hd hdd
  rw [pre] at hl hk
  rw [List.length_cons] at hl
  have l1 := len_le_preL cs
  refine ⟨rfl, ?_⟩
  refine r_var rfl ?_
  refine i_mul (mul_okS (by omega) (by omega)) ?_
  refine s_mul ⟨by omega, by omega, by rw [sizeLine_eq]; show 1 * _ ≤ _; omega⟩ ?_
  rw [show ((2 : Int) * (d : Int)).toNat = 2 * d by omega]
  refine r_var (d := .tup [.str k, .tup (encL cs)]) rfl ?_
  refine ix_tup (d := .str k) rfl ?_
  have k0 := keyLen (hk k (List.mem_cons_self ..))
  refine s_add (by rw [repS_length, sizeLine_eq]; show 1 * _ + _ ≤ _; omega) ?_
  refine ⟨(by show 1 ≤ sizeLine; decide), ?_⟩
  refine r_var (d := .tup [.str k, .tup (encL cs)]) rfl ?_
  refine ix_tup (d := .tup (encL cs)) rfl ?_
  refine lc_pure (zs := sts (textL (d + 1) cs)) rfl (by rw [encL_length]; omega) (by simp [sts, encL_length, textL_map]) ?_ ?_
  · intro i x y hx hy R r
    rw [sts, textL_map, List.getElem?_map, List.getElem?_map] at hy
    rw [encL_map, List.getElem?_map] at hx
    cases e : cs[i]? with
    | none => rw [e] at hy; cases hy
    | some c =>
      rw [e] at hy hx; cases hy; cases hx
      have hc := List.mem_of_getElem? e
      have h1 := depL_mem hc
      have h2 := preL_len hc
      refine r_var rfl ?_
      refine r_var rfl ?_
      refine i_add ?_
      exact ⟨c, d + 1, rfl, by omega, by omega, by omega, fun x hx => hk x (List.mem_cons_of_mem _ (preL_sub hc x hx)), r⟩
  · have tl : (textL (d + 1) cs).length = cs.length := by rw [textL_map, List.length_map]
    have hs := textL_len (d := d + 1) (cs := cs) (fun x hx => hk x (List.mem_cons_of_mem _ hx)) fun c hc => by have := depL_mem hc; omega
    refine l_add (le_line (m := 1001) (by simp [sts, tl]; omega) (by omega)) ?_
    refine join_L (l := (repS " " (2 * d) ++ k) :: textL (d + 1) cs) ?_ ?_
    · rw [List.map_cons, List.sum_cons, List.length_cons, tl]
      have : (repS " " (2 * d) ++ k).length = 1 * (2 * d) + k.length := by
        show ((repS " " (2 * d)).cps ++ k.cps).size = _
        rw [Array.size_append]
        have := repS_length " " (2 * d)
        show (repS " " (2 * d)).length + k.length = _
        rw [this]; rfl
      rw [this]
      show _ + _ * 1 ≤ _
      omega
    · rw [textT] at q; exact q
end LK
namespace LK
open PySem PySem.Spec PyProof.Rows L2 DS MA
/-- a dict of lists in memory -/
structure LMem (μ : Mu) (pl : Addr) (ks : List Str) (f : Str → List Str) (ad : Str → Addr) : Prop where
  l : dicD μ (.ref pl) = some (ks.map fun k => (.inr k, .ref (ad k)))
  k : ∀ k ∈ ks, μ (ad k) = some (.lst (sts (f k)))
theorem LMem.get {μ : Mu} {pl : Addr} {ks : List Str} {f : Str → List Str} {ad : Str → Addr} (M : LMem μ pl ks f ad) {k : Str} (h : k ∈ ks) : valD (ks.map fun k => ((Sum.inr k : Key), SD.ref (ad k))) (.inr k) = some (.ref (ad k)) := by
  rw [valD_mapk (g := fun k => SD.ref (ad k)), if_pos h]
def sp__law_from (n : Nat) : DSp := fun ds μ Q _ => ∃ t f ks pl ad, ds = [.str t.key, .ref pl] ∧ dep t ≤ n ∧ (pre t).length ≤ 1000 ∧ Fits f t ∧ (∀ k ∈ pre t, k ∈ ks) ∧ LMem μ pl ks f ad ∧ Q (enc t) μ
theorem no__law_from {ds μ Q E} (h : sp__law_from 0 ds μ Q E) : False := by
  obtain ⟨⟨k, cs⟩, f, ks, pl, ad, rfl, h, _⟩ := h; rw [dep] at h; omega
theorem len__law_from {n} : ∀ ds μ Q E, sp__law_from n ds μ Q E → ds.length = 2 := by rintro ds μ Q E ⟨t, f, ks, pl, ad, rfl, _⟩; rfl
def t__law_from (n : Nat) : DTS := (dRet (dTup (dCons (dVar 0) (dCons (dCB drTuple (dCons (dLcS (jSeq (dDGet (dVar 1) (dVar 0))) (hName 2) dYes (dCall (sp__law_from n) [] (dCons (dVar 2) (dCons (dVar 1) dNil))) [2]) dNil)) dNil))))
theorem read__law_from (n : Nat) : ∀ ds μ Q E, sp__law_from (n + 1) ds μ Q E → t__law_from n { nx := fun _ μ' => Q .non μ', rt := Q } (begin_ ["_law_key", "_law_lists", "_law_child"] ds) μ := by
  rintro ds μ Q E ⟨⟨k, cs⟩, f, ks, pl, ad, rfl, hd, hl, fit, hin, M, q⟩
  unfold t__law_from dLcS dLc
  rw [Fits] at fit
  rw [dep] at hd
  have l1 := len_le_preL cs
  have hl2 : (preL cs).length + 1 ≤ 1000 := by rw [pre] at hl; simpa using hl
  have kin : k ∈ ks := hin k (by rw [pre]; exact List.mem_cons_self ..)
  refine r_var rfl ?_
  refine r_var rfl ?_
  refine r_var rfl ?_
  refine get_ok M.l rfl (M.get kin) ?_
  simp only [seqD, T.key, M.k k kin]
  refine lc_pure (ds := sts (f k)) (zs := encL cs) ?_ (by simp [sts, fit.1]; omega) (by simp [sts, fit.1, encL_length]) ?_ ?_
  · have h := M.k k kin
    first | (show seqD μ (.ref (ad k)) = _; simp [seqD, h]) | (simp [h]) | trace_state
  · intro i d y hd' hy R r
    rw [encL_map, List.getElem?_map] at hy
    rw [sts, fit.1, List.getElem?_map, List.getElem?_map] at hd'
    cases e : cs[i]? with
    | none => rw [e] at hy; cases hy
    | some c =>
      rw [e] at hy hd'; cases hy; cases hd'
      have hc := List.mem_of_getElem? e
      refine r_var rfl ?_
      refine r_var rfl ?_
      refine ⟨c, f, ks, pl, ad, rfl, ?_, ?_, FitsL_mem.mp fit.2 c hc, ?_, M, r⟩
      · have := depL_mem hc; omega
      · have := preL_len hc; omega
      · intro x hx; exact hin x (by rw [pre]; exact List.mem_cons_of_mem _ (preL_sub hc x hx))
  · refine dr_tupleL ⟨(by show 2 ≤ sizeLine; decide), ?_⟩
    rw [enc] at q; exact q
def sp__law_way : DSp := fun ds μ Q _ => ∃ kvs par k l, ds = [.dic kvs, .str k] ∧ (∀ c, valD kvs (.inr c) = (par c).map SD.str) ∧ Up par k l ∧ l.length ≤ 1000 ∧ ∀ μ', Le μ μ' → Q (.lst (sts l)) μ'
theorem len__law_way : ∀ ds μ Q E, sp__law_way ds μ Q E → ds.length = 2 := by rintro ds μ Q E ⟨kvs, par, k, l, rfl, _⟩; rfl
def t__law_way : DTS := (dSeq (dSet (dLstM (dCons (dVar 1) dNil)) 2)
    (dSeq (dWhile (dTest (dDIn false (dOp dIx (dVar 2) (dUnI (fun i => -i) (dC (.int 1)))) (dVar 0))) (dDrop (dLM dmAppend (dVar 2) (dCons (dDGet (dVar 0) (dOp dIx (dVar 2) (dUnI (fun i => -i) (dC (.int 1))))) dNil))))
    (dRetF (dVar 2))))
theorem read__law_way : ∀ ds μ Q E, sp__law_way ds μ Q E → t__law_way { nx := fun _ μ' => Q .non μ', rt := Q } (begin_ ["_law_above_here", "_law_key", "_law_found"] ds) μ := by
  rintro ds μ Q E ⟨kvs, par, k, l, rfl, hv, hu, hl, q⟩
  unfold t__law_way
  obtain ⟨r, rfl⟩ := hu.head
  refine r_var rfl ⟨(by show 1 ≤ sizeLine; decide), fun w hw => ?_⟩
  refine ⟨fun m ρ μ' => ∃ (done rest : List Str) (x : Str), ρ = [some (.dic kvs), some (.str k), some (.ref w)] ∧ Le μ μ' ∧ μ' w = some (.lst (sts (done ++ [x]))) ∧ Up par x (x :: rest) ∧ k :: r = done ++ (x :: rest) ∧ m = rest.length, ?_, ?_⟩
  · exact ⟨_, [], r, k, rfl, (Le.refl μ).up hw, up_same, hu, rfl, rfl⟩
  · rintro m ρ μ2 ⟨done, rest, x, rfl, le2, hw2, hx, e, rfl⟩
    have hat : atI (sts (done ++ [x])) (-1) = some (.str x) := by
      rw [sts, List.map_append]; exact atI_last _ _
    refine r_var rfl ?_
    refine ix_ref hw2 hat ?_
    refine r_var rfl ?_
    refine din_ok rfl rfl ?_
    rw [hv x]
    have el := congrArg List.length e
    simp at el hl
    cases hx with
    | root h =>
      rw [h]
      refine ifF rfl ?_
      dsimp only
      refine r_var rfl ?_
      unfold frz
      simp only [hw2]
      have := q _ (le2.rm hw)
      rw [e] at this
      simpa [sts] using this
    | step h r2 =>
      rename_i p
      rw [h]
      obtain ⟨r3, rfl⟩ := r2.head
      refine ifT rfl ⟨_, fun _ _ h => h, ?_⟩
      refine r_var rfl ⟨isSome_ref hw2, ?_⟩
      refine r_var rfl ?_
      refine r_var rfl ?_
      refine ix_ref hw2 hat ?_
      refine get_ok rfl rfl (by rw [hv x, h]; rfl) ?_
      refine dm_append hw2 (lt_line (m := 1001) (by simp [sts]; omega) (by omega)) ?_
      exact ⟨_, by simp, done ++ [x], r3, p, rfl, le2.up hw, by rw [up_same]; simp [sts], r2, by rw [e]; simp, rfl⟩
end LK
namespace LK
open PySem PySem.Spec PyProof.Rows L2 DS MA
theorem ifc8 {α : Type} {p q : Prop} [Decidable p] [Decidable q] {x y : α} (h : p ↔ q) : (if p then x else y) = if q then x else y := by
  by_cases hp : p
  · rw [if_pos hp, if_pos (h.mp hp)]
  · rw [if_neg hp, if_neg fun z => hp (h.mpr z)]
def refsD (ks : List Str) (ad : Str → Addr) : List (Key × SD) := ks.map fun k => (.inr k, .ref (ad k))
def sp__law_above : DSp := fun ds μ Q _ => ∃ (pl : Addr) (ks : List Str) (f : Str → List Str) (ad : Str → Addr) (par : Str → Option Str), ds = [.ref pl] ∧ μ pl = some (.dic (refsD ks ad)) ∧ (∀ k ∈ ks, μ (ad k) = some (.lst (sts (f k)))) ∧ (∀ k ∈ ks, ∀ c ∈ f k, par c = some k) ∧ (∀ c p, par c = some p → p ∈ ks ∧ c ∈ f p) ∧ (ks.flatMap f).length ≤ 1000 ∧
  ∀ μ' kvs, Le μ μ' → (∀ c, valD kvs (.inr c) = (par c).map SD.str) → Q (.dic kvs) μ'
theorem len__law_above : ∀ ds μ Q E, sp__law_above ds μ Q E → ds.length = 1 := by rintro ds μ Q E ⟨pl, ks, f, ad, par, rfl, _⟩; rfl
def t__law_above : DTS := (dSeq (dSet dDict0M 1)
    (dSeq (dForM keysS (dVar 0) (hName 2) (dFor (jSeq (dDGet (dVar 0) (dVar 2))) (hName 3) (dDPut (dVar 1) (dVar 3) (dVar 2))))
    (dRetF (dVar 1))))
theorem read__law_above : ∀ ds μ Q E, sp__law_above ds μ Q E → t__law_above { nx := fun _ μ' => Q .non μ', rt := Q } (begin_ ["_law_lists", "_law_found", "_law_key", "_law_child"] ds) μ := by
  rintro ds μ Q E ⟨pl, ks, f, ad, par, rfl, hl, hk, h1, h2, hlen, q⟩
  unfold t__law_above dForM dFor
  refine fun p hp => ?_
  have hpl : pl ≠ p := fun e => by rw [e, hp] at hl; cases hl
  have hadl : ∀ k ∈ ks, ad k ≠ pl := fun k hm e => by have := hk k hm; rw [e, hl] at this; cases this
  dsimp only
  refine r_var rfl ?_
  simp only [up_ne hpl, hl]
  intro o
  have hml : (keysS (refsD ks ad)).length = ks.length := by simp [keysS, refsD]
  refine ⟨fun i ρ μ' => ∃ (kvs : List (Key × SD)) (a b : Option SD), ρ = [some (.ref pl), some (.ref p), a, b] ∧ μ' p = some (.dic kvs) ∧ μ' pl = some (.fdic (refsD ks ad) o) ∧ LeX pl μ μ' ∧ kvs.length ≤ ((ks.take i).flatMap f).length ∧ ∀ c, valD kvs (.inr c) = if c ∈ (ks.take i).flatMap f then (par c).map SD.str else none, ?_, ?_, ?_, ?_⟩
  · exact ⟨[], none, none, rfl, by rw [up_ne (Ne.symm hpl), up_same], up_same, ((LeX.refl pl μ).up hp).put, by simp, by simp [valD_nil]⟩
  · rintro i ρ μ' _ ⟨kvs, a, b, _, _, e, _⟩; exact e
  · rintro i d ρ μ' hd ⟨kvs, a, b, rfl, hp', hl', lx, hkl, hv⟩
    rw [keysS, refsD, List.getElem?_map, List.getElem?_map] at hd
    cases e : ks[i]? with
    | none => rw [e] at hd; cases hd
    | some k =>
      rw [e] at hd; cases hd
      have hm := List.mem_of_getElem? e
      have tk : (ks.take (i + 1)).flatMap f = (ks.take i).flatMap f ++ f k := by
        rw [List.take_succ, e]; simp
      have lt : ((ks.take (i + 1)).flatMap f).length ≤ 1000 := by
        refine Nat.le_trans ?_ hlen
        conv => rhs; rw [← List.take_append_drop (i + 1) ks, List.flatMap_append]
        simp
      rw [tk, List.length_append] at lt
      have hak : μ' (ad k) = some (.lst (sts (f k))) := lx _ _ (hadl k hm) (hk k hm)
      refine r_var rfl ?_
      refine r_var rfl ?_
      refine get_ok (kvs := refsD ks ad) (by simp [dicD, hl']) rfl (by unfold refsD; rw [valD_mapk (g := fun k => SD.ref (ad k)), if_pos hm]) ?_
      simp only [seqD, hak]
      refine ⟨fun j ρ μ2 => ∃ (kvs2 : List (Key × SD)) (b : Option SD), ρ = [some (.ref pl), some (.ref p), some (.str k), b] ∧ μ2 p = some (.dic kvs2) ∧ μ2 pl = some (.fdic (refsD ks ad) o) ∧ LeX pl μ μ2 ∧ kvs2.length ≤ ((ks.take i).flatMap f).length + j ∧ j ≤ (f k).length ∧ ∀ c, valD kvs2 (.inr c) = if c ∈ (ks.take i).flatMap f ++ (f k).take j then (par c).map SD.str else none, ?_, ?_, ?_, ?_⟩
      · exact ⟨kvs, b, rfl, hp', hl', lx, by omega, Nat.zero_le _, by rw [List.take_zero, List.append_nil]; exact hv⟩
      · rintro j ρ μ2 _ ⟨kvs2, b, _, _, _, lx2, _⟩
        rw [lx2 _ _ (hadl k hm) (hk k hm)]
      · rintro j d ρ μ2 hd ⟨kvs2, b, rfl, hp2, hl2, lx2, hk2, hj, hv2⟩
        rw [sts, List.getElem?_map] at hd
        cases e2 : (f k)[j]? with
        | none => rw [e2] at hd; cases hd
        | some x =>
          rw [e2] at hd; cases hd
          have hjl : j < (f k).length := (List.getElem?_eq_some_iff.mp e2).1
          have hx := List.mem_of_getElem? e2
          refine r_var rfl ?_
          refine r_var rfl ?_
          refine r_var rfl ?_
          refine put_ok hp2 rfl (lt_line (m := 2000) (by omega) (by omega)) ?_
          refine ⟨putD kvs2 (.inr x) (.str k), _, rfl, up_same, by rw [up_ne hpl]; exact hl2, lx2.up hp, ?_, hjl, fun c => ?_⟩
          · have := putD_length (kvs := kvs2) (k := Sum.inr x) (v := SD.str k); omega
          · rw [valD_put, hv2 c, List.take_succ, e2]
            by_cases hc : x = c
            · subst hc
              simp [h1 k hm x hx]
            · have h3 : ¬ ((Sum.inr x : Key) = Sum.inr c) := fun z => hc (by cases z; rfl)
              rw [if_neg h3]
              exact ifc8 (by simp [Ne.symm hc])
      · rintro ρ μ2 ⟨kvs2, b, rfl, hp2, hl2, lx2, hk2, hj, hv2⟩
        have e3 : (sts (f k)).length = (f k).length := by simp [sts]
        rw [e3] at hk2 hv2
        rw [List.take_length] at hv2
        exact ⟨kvs2, _, _, rfl, hp2, hl2, lx2, by rw [tk, List.length_append]; exact hk2, by rw [tk]; exact hv2⟩
  · rintro ρ μ' ⟨kvs, a, b, rfl, hp', hl', lx, hkl, hv⟩
    rw [hml, List.take_length] at hv
    refine r_var rfl ?_
    unfold frz
    have e5 : up μ' pl (.dic (refsD ks ad)) p = some (.dic kvs) := by rw [up_ne (Ne.symm hpl)]; exact hp'
    simp only [e5]
    refine q _ _ (fun x m e => ?_) fun c => ?_
    · have hxp : x ≠ p := fun z => by rw [z, hp] at e; cases e
      rw [rm_ne hxp]
      by_cases hx : x = pl
      · subst hx; rw [up_same, ← hl, e]
      · rw [up_ne hx]; exact lx x m hx e
    · rw [hv c]
      split
      · rfl
      · rename_i hn
        cases hc : par c with
        | none => rfl
        | some p' =>
          obtain ⟨ha, hb⟩ := h2 c p' hc
          exact (hn (List.mem_flatMap.mpr ⟨_, ha, hb⟩)).elim
end LK
namespace LK
open PySem PySem.Spec PyProof.Rows L2 DS MA
structure GMem2 (μ0 μ : Mu) (h pl : Addr) (ks : List Str) (f : Str → List Str) (ad : Str → Addr) : Prop where
  l : μ pl = some (.dic (refsD ks ad))
  k : ∀ k ∈ ks, μ (ad k) = some (.lst (sts (f k))) ∧ μ0 (ad k) = none ∧ ad k ≠ h ∧ ad k ≠ pl
  inj : ∀ k ∈ ks, ∀ k' ∈ ks, ad k = ad k' → k = k'
theorem GMem2.lex {μ0 μ μ' : Mu} {h pl : Addr} {ks : List Str} {f : Str → List Str} {ad : Str → Addr} (G : GMem2 μ0 μ h pl ks f ad) (l : LeX h μ μ') (h1 : pl ≠ h) : GMem2 μ0 μ' h pl ks f ad :=
  ⟨l _ _ h1 G.l, fun k hk => let ⟨a, b, c, d⟩ := G.k k hk; ⟨l _ _ c a, b, c, d⟩, G.inj⟩
theorem Grow.cut {names : List Str} {deep n : Nat} {f : Str → List Str} {lev : Str → Nat} (G : Grow names deep n f lev) (hn : 0 < n) : Grow (names.take n) deep (names.take n).length f lev := by
  obtain ⟨a, b, c, d⟩ := G
  refine ⟨fun k hk => a k ?_, ?_, ?_, ?_⟩
  · rw [List.getElem?_take] at hk; simpa [hn] using hk
  · rw [List.take_length]; exact b
  · rw [List.take_length]; exact c
  · rw [List.take_length]; exact d
def sp__law_grown : DSp := fun ds μ Q _ => ∃ (h : Addr) (names : List Str) (deep : Int) (T : Nat) (n0 : Str), ds = [.ref h, .lst (sts names), .int deep] ∧ names[0]? = some n0 ∧ names.Nodup ∧ names.length ≤ 600 ∧ T ≤ 800000000 ∧ HandAt μ h T ∧
  ∀ f lev t μ', Plant names n0 f (parOf names f) lev t → HandAt μ' h (T + 3 * names.length) → LeX h μ μ' → Q (enc t) μ'
theorem len__law_grown : ∀ ds μ Q E, sp__law_grown ds μ Q E → ds.length = 3 := by rintro ds μ Q E ⟨h, names, deep, T, n0, rfl, _⟩; rfl
def t__law_grown : DTS := (dSeq (dSet (dDispM [((dOp dIx (dVar 1) (dC (.int 0))), (dLstM dNil))]) 3)
    (dSeq (dFor (jRng2 (dCons (dC (.int 1)) (dCons (dCB drLen (dCons (dVar 1) dNil)) dNil))) (hName 4) (dSeq (dSet (dIf (dTest (dOp dLt (dCall sp__law_take [] (dCons (dVar 0) (dCons (dC (.int 5)) dNil))) (dVar 2))) (dOp dIx (dVar 1) (dOp dSub (dVar 4) (dC (.int 1)))) (dCall sp__law_of [] (dCons (dVar 0) (dCons (dSl (dVar 1) dNoPart (dPart (dVar 4))) dNil)))) 5)
    (dSeq (dIfS (dTest (dOp dGt (dCB drLen (dCons (dCall sp__law_way [] (dCons (dCall sp__law_above [] (dCons (dVar 3) dNil)) (dCons (dVar 5) dNil))) dNil)) (dC (.int 18)))) (dSet (dOp dIx (dVar 1) (dC (.int 0))) 5) dNext)
    (dSeq (dSet (dCall sp__law_take [] (dCons (dVar 0) (dCons (dOp dAdd (dCB drLen (dCons (dDGet (dVar 3) (dVar 5)) dNil)) (dC (.int 1))) dNil))) 6)
    (dSeq (dSet (dDGet (dVar 3) (dVar 5)) 7)
    (dSeq (dDrop (dLM dmInsert (dVar 7) (dCons (dVar 6) (dCons (dOp dIx (dVar 1) (dVar 4)) dNil))))
    (dDPut (dVar 3) (dOp dIx (dVar 1) (dVar 4)) (dLstM dNil))))))))
    (dRet (dCall (sp__law_from 24) [] (dCons (dOp dIx (dVar 1) (dC (.int 0))) (dCons (dVar 3) dNil))))))
theorem parent_ok {ρ : Rho} {μ : Mu} {Q : SD → Mu → Prop} {h : Addr} {names : List Str} {deep : Int} {T i : Nat} (h0 : ρ[0]? = some (some (.ref h))) (h1 : ρ[1]? = some (some (.lst (sts names)))) (h2 : ρ[2]? = some (some (.int deep))) (h4 : ρ[4]? = some (some (.int (1 + (i : Nat))))) (hl : names.length ≤ 600) (hi : i < names.length) (hT : T ≤ 900000000) (H : HandAt μ h T)
    (q : ∀ k μ', k ∈ names.take (i + 1) → HandAt μ' h (T + 2) → LeX h μ μ' → Q (.str k) μ') :
    dIf (dTest (dOp dLt (dCall sp__law_take [] (dCons (dVar 0) (dCons (dC (.int 5)) dNil))) (dVar 2))) (dOp dIx (dVar 1) (dOp dSub (dVar 4) (dC (.int 1)))) (dCall sp__law_of [] (dCons (dVar 0) (dCons (dSl (dVar 1) dNoPart (dPart (dVar 4))) dNil))) ρ μ Q := by
  refine r_var h0 ?_
  refine ⟨h, 5, T, rfl, by decide, by decide, by omega, H, fun d μ1 _ _ H1 l1 => ?_⟩
  refine r_var h2 ?_
  refine i_lt ?_
  have hin : names[i]? = some names[i] := List.getElem?_eq_getElem hi
  by_cases hc : d < deep
  · refine ifT (by simpa using hc) ?_
    refine r_var h1 ?_
    refine r_var h4 ?_
    refine i_sub ?_
    rw [show (1 : Int) + (i : Nat) - 1 = (i : Nat) by omega]
    refine ix_lst (d := .str names[i]) (atI_nat (by rw [sts, List.getElem?_map, hin]; rfl)) ?_
    have hmem : names[i] ∈ names.take (i + 1) := (take_snoc hin).symm ▸ List.mem_append_right (names.take i) (List.mem_singleton.mpr rfl)
    exact q _ _ hmem (H1.mono (by omega)) l1
  · refine ifF (by simpa using hc) ?_
    refine r_var h0 ?_
    refine r_var h1 ?_
    refine r_var h4 ?_
    refine sl_L ?_
    have e : cutL (sts names) none (some ((1 : Int) + (i : Nat))) = sts (names.take (i + 1)) := by
      have := cutL_to (sts names) (i + 1)
      rw [show ((i + 1 : Nat) : Int) = 1 + (i : Nat) by omega] at this
      rw [this, sts, sts, List.map_take]
    rw [e]
    have ht : (names.take (i + 1)).length = i + 1 := by rw [List.length_take]; omega
    refine ⟨h, _, sts (names.take (i + 1)), T + 1, rfl, .inl rfl, ?_, by simp [sts]; omega, by omega, H1, fun j x μ2 hd H2 l2 => ?_⟩
    · intro z
      have := congrArg List.length z
      rw [sts, List.length_map, ht] at this; simp at this
    · obtain ⟨k, hk, rfl⟩ := List.mem_map.mp (List.mem_of_getElem? hd)
      exact q k μ2 hk H2 (l1.trans l2)
theorem read__law_grown : ∀ ds μ Q E, sp__law_grown ds μ Q E → t__law_grown { nx := fun _ μ' => Q .non μ', rt := Q } (begin_ ["_law_hand_here", "_law_some", "_law_deep", "_law_lists", "_law_at", "_law_parent", "_law_place", "_law_children"] ds) μ := by
  rintro ds μ Q E ⟨h, names, deep, T, n0, rfl, hn0, nd, hlen, hT, H, q⟩
  unfold t__law_grown dFor
  simp only [dDispM, dPairs]
  have at0 : atI (sts names) 0 = some (.str n0) := atI_nat (j := 0) (by rw [sts, List.getElem?_map, hn0]; rfl)
  have npos : 0 < names.length := (List.getElem?_eq_some_iff.mp hn0).1
  have hsl : (sts names).length = names.length := by simp [sts]
  refine r_var rfl ?_
  refine ix_lst at0 ?_
  refine ⟨Nat.zero_le _, fun a ha => ?_⟩
  refine fun pl hpl => ?_
  obtain ⟨pl1, hpl⟩ := up_none hpl
  have hah := H.ne ha
  have hplh := H.ne hpl
  refine r_var rfl ?_
  refine l_len ?_
  have le1 : names.take 1 = [n0] := by rw [take_snoc hn0]; rfl
  have en : (((sts names).length : Int) - 1).toNat = names.length - 1 := by rw [hsl]; omega
  refine ⟨⟨by decide, by decide, by omega, by rw [hsl]; omega⟩, fun i ρ μ' => i + 1 ≤ names.length ∧ ∃ (f : Str → List Str) (lev : Str → Nat) (ad : Str → Addr) (x1 x2 x3 x4 : Option SD), ρ = [some (.ref h), some (.lst (sts names)), some (.int deep), some (.ref pl), x1, x2, x3, x4] ∧ Grow names 19 (i + 1) f lev ∧ GMem2 μ μ' h pl (names.take (i + 1)) f ad ∧ HandAt μ' h (T + 3 * i) ∧ LeX h μ μ', ?_, fun _ _ _ _ _ => trivial, ?_, ?_⟩
  · refine ⟨npos, fun _ => [], fun _ => 1, fun _ => a, none, none, none, none, rfl, Grow.init hn0 (by decide), ?_, ((H.up hah).up hplh).mono (by omega), ((LeX.refl h μ).up ha).up hpl⟩
    rw [le1]
    refine ⟨by rw [up_same]; rfl, fun k _ => ⟨by rw [up_ne (Ne.symm pl1), up_same]; rfl, ha, Ne.symm hah, Ne.symm pl1⟩, fun k hk k' hk' _ => ?_⟩
    simp at hk hk'; rw [hk, hk']
  · rintro i d ρ μ2 hd ⟨hi, f, lev, ad, x1, x2, x3, x4, rfl, G, M, H2, l2⟩
    have hil0 := (List.getElem?_eq_some_iff.mp hd).1
    rw [List.length_map, List.length_range, en] at hil0
    have hdv : d = .int (1 + (i : Nat)) := by
      rw [List.getElem?_map, List.getElem?_range (by rw [en]; exact hil0)] at hd
      exact (Option.some.inj hd).symm
    subst hdv
    have hil : i + 1 < names.length := by omega
    obtain ⟨x, ex⟩ : ∃ x, names[i + 1]? = some x := ⟨_, List.getElem?_eq_getElem hil⟩
    have xn := not_in_take nd ex
    have hatx : atI (sts names) (1 + (i : Nat)) = some (.str x) := by
      rw [show (1 : Int) + (i : Nat) = ((i + 1 : Nat) : Int) by omega]
      exact atI_nat (by rw [sts, List.getElem?_map, ex]; rfl)
    dsimp only
    refine parent_ok (i := i) (deep := deep) (names := names) rfl rfl rfl rfl hlen (by omega) (by omega) H2 fun k1 μ3 hk1 H3 l3 => ?_
    have M3 := M.lex l3 (Ne.symm hplh)
    have n0t : (names.take (i + 1))[0]? = some n0 := by rw [List.getElem?_take]; simp [hn0]
    have n0in : n0 ∈ names.take (i + 1) := List.mem_of_getElem? n0t
    have ndt : (names.take (i + 1)).Nodup := nd.sublist (List.take_sublist ..)
    have P := plant_of (G.cut (Nat.succ_pos i)) n0t ndt (by rw [List.length_take]; omega) (by decide) (by decide)
    obtain ⟨l, hu, hll, hlx, hnl⟩ := P.up k1 hk1
    have hlev := P.upl k1 _ hk1 hu
    have fml : ((names.take (i + 1)).flatMap f).length ≤ 600 := by
      rw [G.perm.length_eq, List.length_tail, List.length_take]; omega
    dsimp only
    refine r_var rfl ?_
    refine ⟨pl, names.take (i + 1), f, ad, parOf (names.take (i + 1)) f, rfl, M3.l, fun k hk => (M3.k k hk).1, fun k hk c hc => P.P.kid k ((P.mem k).mpr hk) c hc, P.kid, by omega, fun μ4 ab le4 hab => ?_⟩
    refine r_var rfl ?_
    refine ⟨ab, parOf (names.take (i + 1)) f, k1, k1 :: l, rfl, hab, hu, by simp; omega, fun μ5 le5 => ?_⟩
    refine l_len ?_
    refine i_gt ?_
    have lall : LeX h μ μ5 := (l2.trans l3).trans ((le4.trans le5).x h)
    have M5 := M3.lex ((le4.trans le5).x h) (Ne.symm hplh)
    have H5 := H3.le (le4.trans le5)
    have body : ∀ home, home ∈ names.take (i + 1) → lev home < 19 → ∀ ρ, ρ = [some (.ref h), some (.lst (sts names)), some (.int deep), some (.ref pl), some (.int (1 + (i : Nat))), some (.str home), x3, x4] →
        ∀ D : DEnds, (∀ μ' f' lev' ad' y3 y4, Grow names 19 (i + 2) f' lev' → GMem2 μ μ' h pl (names.take (i + 2)) f' ad' → HandAt μ' h (T + 3 * (i + 1)) → LeX h μ μ' → D.nx [some (.ref h), some (.lst (sts names)), some (.int deep), some (.ref pl), some (.int (1 + (i : Nat))), some (.str home), y3, y4] μ') →
        dSeq (dSet (dCall sp__law_take [] (dCons (dVar 0) (dCons (dOp dAdd (dCB drLen (dCons (dDGet (dVar 3) (dVar 5)) dNil)) (dC (.int 1))) dNil))) 6) (dSeq (dSet (dDGet (dVar 3) (dVar 5)) 7) (dSeq (dDrop (dLM dmInsert (dVar 7) (dCons (dVar 6) (dCons (dOp dIx (dVar 1) (dVar 4)) dNil)))) (dDPut (dVar 3) (dOp dIx (dVar 1) (dVar 4)) (dLstM dNil)))) D ρ μ5 := by
      rintro home hin hlt ρ rfl D kont
      obtain ⟨ma, mb, mc, md⟩ := M5.k home hin
      have get : valD (refsD (names.take (i + 1)) ad) (.inr home) = some (.ref (ad home)) := by
        unfold refsD; rw [valD_mapk (g := fun k => SD.ref (ad k)), if_pos hin]
      refine r_var rfl ?_
      refine r_var rfl ?_
      refine r_var rfl ?_
      refine get_ok (dicD_ref M5.l) rfl get ?_
      refine l_lenR ma ?_
      refine i_add ?_
      have fl : (f home).length ≤ 600 := by
        have h2 : (f home).length ≤ ((names.take (i + 1)).flatMap f).length := by
          obtain ⟨s, t, e⟩ := List.append_of_mem hin
          rw [e]; simp; omega
        omega
      have sl : (sts (f home)).length = (f home).length := by simp [sts]
      refine ⟨h, _, T + 3 * i + 2, rfl, by rw [sl]; omega, by rw [sl]; omega, by omega, H5, fun j μ6 j0 j1 H6 l6 => ?_⟩
      rw [sl] at j1
      obtain ⟨j, rfl⟩ := Int.eq_ofNat_of_zero_le j0
      have M6 := M5.lex l6 (Ne.symm hplh)
      obtain ⟨ma, mb, mc, md⟩ := M6.k home hin
      dsimp only
      refine r_var rfl ?_
      refine r_var rfl ?_
      refine get_ok (dicD_ref M6.l) rfl get ?_
      dsimp only
      refine r_var rfl ⟨isSome_ref ma, ?_⟩
      refine r_var rfl ?_
      refine r_var rfl ?_
      refine r_var rfl ?_
      refine ix_lst hatx ?_
      refine dm_insert ma (lt_line (m := 600) (by rw [sl]; omega) (by omega)) (by omega) (by omega) ?_
      refine ⟨Nat.zero_le _, fun p hp => ?_⟩
      obtain ⟨p1, hp6⟩ := up_none hp
      have l06 := lall.trans l6
      obtain ⟨hpm, hph⟩ := lex_none l06 H6 hp6
      have pne : ∀ k ∈ names.take (i + 1), ad k ≠ p := fun k hk e => by
        have := (M6.k k hk).1; rw [e, hp6] at this; cases this
      have plp : pl ≠ p := fun e => by have := M6.l; rw [e, hp6] at this; cases this
      have xne : ∀ k ∈ names.take (i + 1), k ≠ x := fun k hk e => xn (e ▸ hk)
      refine r_var rfl ?_
      refine r_var rfl ?_
      refine r_var rfl ?_
      refine ix_lst hatx ?_
      refine put_ok (by rw [up_ne plp, up_ne (Ne.symm md)]; exact M6.l) rfl (lt_line (m := 600) (by unfold refsD; rw [List.length_map, List.length_take]; omega) (by omega)) ?_
      unfold refsD
      rw [putD_mapk (g := fun k => SD.ref (ad k)) xn]
      refine kont _ (putIn f home x j) (levIn lev home x) (fun k => if k = x then p else ad k) _ _ (G.step nd (Nat.succ_pos i) ex hin hlt) ?_ (((((H6.up (Ne.symm mc)).up hph).up hplh)).mono (by omega)) (((l06.up mb).up hpm).up hpl)
      rw [take_snoc ex]
      refine ⟨?_, fun k hk => ?_, fun k hk k' hk' e => ?_⟩
      · rw [up_same, refsD, List.map_append]
        congr 3
        · exact List.map_congr_left fun k hk => by rw [if_neg (xne k hk)]
        · simp
      · rcases List.mem_append.mp hk with hk | hk
        · rw [if_neg (xne k hk)]
          obtain ⟨a1, a2, a3, a4⟩ := M6.k k hk
          refine ⟨?_, a2, a3, a4⟩
          rw [up_ne a4, up_ne (pne k hk)]
          by_cases e : k = home
          · subst e
            rw [up_same]; unfold putIn; rw [if_neg (xne k hk), if_pos rfl]; simp [sts, List.map_take, List.map_drop]
          · have : ad k ≠ ad home := fun z => e (M6.inj k hk home hin z)
            rw [up_ne this, a1]; unfold putIn; rw [if_neg (xne k hk), if_neg e]
        · have : k = x := by simpa using hk
          subst this
          rw [if_pos rfl]
          refine ⟨?_, hpm, Ne.symm hph, Ne.symm plp⟩
          rw [up_ne (Ne.symm plp), up_same]; unfold putIn; rw [if_pos rfl]; rfl
      · rcases List.mem_append.mp hk with h1 | h1 <;> rcases List.mem_append.mp hk' with h2 | h2
        · rw [if_neg (xne k h1), if_neg (xne k' h2)] at e; exact M6.inj k h1 k' h2 e
        · have h3 : k' = x := by simpa using h2
          rw [if_neg (xne k h1), if_pos h3] at e; exact (pne k h1 e).elim
        · have h3 : k = x := by simpa using h1
          rw [if_neg (xne k' h2), if_pos h3] at e; exact (pne k' h2 e.symm).elim
        · have h3 : k = x := by simpa using h1
          have h4 : k' = x := by simpa using h2
          rw [h3, h4]
    have hln : (sts (k1 :: l)).length = lev k1 := by rw [← hlev]; simp [sts]
    by_cases hg : 18 < lev k1
    · refine ifT (by rw [hln]; simp only [decide_eq_true_eq]; omega) ?_
      refine r_var rfl ?_
      refine ix_lst at0 ?_
      dsimp only
      refine body n0 n0in (by rw [G.l0 n0 hn0]; decide) _ rfl _ fun μ' f' lev' ad' y3 y4 g m hh ll => ?_
      exact ⟨hil, f', lev', ad', _, _, _, _, rfl, g, m, hh, ll⟩
    · refine ifF (by rw [hln]; simp only [decide_eq_false_iff_not]; omega) ?_
      simp only [dNext]
      refine body k1 hk1 (by omega) _ rfl _ fun μ' f' lev' ad' y3 y4 g m hh ll => ?_
      exact ⟨hil, f', lev', ad', _, _, _, _, rfl, g, m, hh, ll⟩
  · rintro ρ μ2 ⟨hi, f, lev, ad, x1, x2, x3, x4, rfl, G, M, H2, l2⟩
    rw [List.length_map, List.length_range, en] at G M H2
    rw [show names.length - 1 + 1 = names.length by omega] at G M
    rw [List.take_length] at M
    have P := plant_of G hn0 nd hlen (by decide) (by decide)
    dsimp only
    refine r_var rfl ?_
    refine ix_lst at0 ?_
    refine r_var rfl ?_
    have lenP : (pre (build f (19 - 1) n0)).length ≤ 1000 := Nat.le_trans (len_sub P.nd fun x hx => (P.mem x).mp hx) (by omega)
    refine ⟨build f (19 - 1) n0, f, names, pl, ad, by rw [P.key]; rfl, by have := P.dep; omega, lenP, P.P.fits, fun k hk => (P.mem k).mp hk, ⟨dicD_ref M.l, fun k hk => (M.k k hk).1⟩, ?_⟩
    exact q f lev _ μ2 P (H2.mono (by omega)) l2
end LK
namespace MA
open PySem PySem.Spec PyProof.Rows L2 DS
def okKy : Key → Prop
  | .inl _ => False
  | .inr s => PyData.strOk s = true
def wtKy : Key → Nat
  | .inl _ => 0
  | .inr s => s.cps.size
mutual
def okV (m : Nat) : SD → Prop
  | .non => True
  | .bl _ => True
  | .int i => i.natAbs ≤ 10 ^ 20 + m
  | .str x => PyData.strOk x = true
  | .ref _ => False
  | .ty _ => False
  | .tup xs => okVL m xs
  | .lst xs => okVL m xs
  | .rol _ => False
  | .exc _ _ => False
  | .ptp _ => False
  | .dic kvs => okVK m kvs
def okVL (m : Nat) : List SD → Prop
  | [] => True
  | d :: r => okV m d ∧ okVL m r
def okVK (m : Nat) : List (Key × SD) → Prop
  | [] => True
  | (k, d) :: r => okKy k ∧ okV m d ∧ okVK m r
end
mutual
def dpV : SD → Nat
  | .non => 0
  | .bl _ => 0
  | .int _ => 0
  | .str _ => 0
  | .ref _ => 0
  | .ty _ => 0
  | .tup xs => dpVL xs + 1
  | .lst xs => dpVL xs + 1
  | .rol _ => 0
  | .exc _ _ => 0
  | .ptp _ => 0
  | .dic kvs => dpVK kvs + 1
def dpVL : List SD → Nat
  | [] => 0
  | d :: r => max (dpV d) (dpVL r)
def dpVK : List (Key × SD) → Nat
  | [] => 0
  | (_, d) :: r => max (dpV d) (dpVK r)
end
mutual
def wtV : SD → Nat
  | .non => 0
  | .bl _ => 0
  | .int _ => 0
  | .str x => x.cps.size
  | .ref _ => 0
  | .ty _ => 0
  | .tup xs => wtVL xs
  | .lst xs => wtVL xs
  | .rol _ => 0
  | .exc _ _ => 0
  | .ptp _ => 0
  | .dic kvs => wtVK kvs
def wtVL : List SD → Nat
  | [] => 0
  | d :: r => wtV d + 1 + wtVL r
def wtVK : List (Key × SD) → Nat
  | [] => 0
  | (k, d) :: r => wtKy k + wtV d + 2 + wtVK r
end
theorem okVL_mem {m : Nat} {xs : List SD} : okVL m xs ↔ ∀ d ∈ xs, okV m d := by
  induction xs with
  | nil => simp [okVL]
  | cons x r ih => rw [okVL, ih]; simp
theorem dpVL_le {n : Nat} {xs : List SD} : dpVL xs ≤ n ↔ ∀ d ∈ xs, dpV d ≤ n := by
  induction xs with
  | nil => simp [dpVL]
  | cons x r ih => rw [dpVL, Nat.max_le, ih]; simp
theorem wtVL_append (a b : List SD) : wtVL (a ++ b) = wtVL a + wtVL b := by
  induction a with
  | nil => simp [wtVL]
  | cons x r ih => rw [List.cons_append, wtVL, wtVL, ih]; omega
theorem wtVL_cut (a : List SD) (k : Nat) : wtVL (a.take k) + wtVL (a.drop k) = wtVL a := by rw [← wtVL_append, List.take_append_drop]
theorem wtVL_mem {xs : List SD} {d : SD} (h : d ∈ xs) : wtV d + 1 ≤ wtVL xs := by
  obtain ⟨s, t, rfl⟩ := List.append_of_mem h
  rw [wtVL_append, wtVL]; omega
/-- a value: its ints no greater, no deeper, no heavier -/
structure Val (m D B : Nat) (d : SD) : Prop where
  ok : okV m d
  dp : dpV d ≤ D
  wt : wtV d ≤ B
structure ValL (m D B : Nat) (xs : List SD) : Prop where
  ok : okVL m xs
  dp : dpVL xs ≤ D
  wt : wtVL xs ≤ B
mutual
theorem okV_mono {m m' : Nat} (h : m ≤ m') : ∀ {d : SD}, okV m d → okV m' d
  | .non, _ => by rw [okV]; trivial
  | .bl _, _ => by rw [okV]; trivial
  | .int i, q => by rw [okV] at q ⊢; omega
  | .str x, q => by rw [okV] at q ⊢; exact q
  | .ref _, q => by rw [okV] at q; exact q.elim
  | .ty _, q => by rw [okV] at q; exact q.elim
  | .tup xs, q => by rw [okV] at q ⊢; exact okVL_mono h q
  | .lst xs, q => by rw [okV] at q ⊢; exact okVL_mono h q
  | .rol _, q => by rw [okV] at q; exact q.elim
  | .exc _ _, q => by rw [okV] at q; exact q.elim
  | .ptp _, q => by rw [okV] at q; exact q.elim
  | .dic kvs, q => by rw [okV] at q ⊢; exact okVK_mono h q
theorem okVL_mono {m m' : Nat} (h : m ≤ m') : ∀ {xs : List SD}, okVL m xs → okVL m' xs
  | [], _ => by rw [okVL]; trivial
  | d :: r, q => by rw [okVL] at q ⊢; exact ⟨okV_mono h q.1, okVL_mono h q.2⟩
theorem okVK_mono {m m' : Nat} (h : m ≤ m') : ∀ {xs : List (Key × SD)}, okVK m xs → okVK m' xs
  | [], _ => by rw [okVK]; trivial
  | (k, d) :: r, q => by rw [okVK] at q ⊢; exact ⟨q.1, okV_mono h q.2.1, okVK_mono h q.2.2⟩
end
theorem Val.mono {m D B m' D' B' : Nat} {d : SD} (v : Val m D B d) (h1 : m ≤ m') (h2 : D ≤ D') (h3 : B ≤ B') : Val m' D' B' d := ⟨okV_mono h1 v.ok, Nat.le_trans v.dp h2, Nat.le_trans v.wt h3⟩
theorem ValL.mono {m D B m' D' B' : Nat} {d : List SD} (v : ValL m D B d) (h1 : m ≤ m') (h2 : D ≤ D') (h3 : B ≤ B') : ValL m' D' B' d := ⟨okVL_mono h1 v.ok, Nat.le_trans v.dp h2, Nat.le_trans v.wt h3⟩
theorem Val.non : Val 0 0 0 .non := ⟨by rw [okV]; trivial, by rw [dpV]; exact Nat.le_refl 0, by rw [wtV]; exact Nat.le_refl 0⟩
theorem Val.bl (b : Bool) : Val 0 0 0 (.bl b) := ⟨by rw [okV]; trivial, by rw [dpV]; exact Nat.le_refl 0, by rw [wtV]; exact Nat.le_refl 0⟩
theorem Val.int {m : Nat} {i : Int} (h : i.natAbs ≤ 10 ^ 20 + m) : Val m 0 0 (.int i) := ⟨by rw [okV]; exact h, by rw [dpV]; exact Nat.le_refl 0, by rw [wtV]; exact Nat.le_refl 0⟩
theorem Val.str {x : Str} (h : PyData.strOk x = true) : Val 0 0 x.cps.size (.str x) := ⟨by rw [okV]; exact h, by rw [dpV]; exact Nat.le_refl 0, by rw [wtV]; exact Nat.le_refl _⟩
theorem Val.dic : Val 0 1 0 (.dic []) := ⟨by rw [okV, okVK]; trivial, by rw [dpV, dpVK]; exact Nat.le_refl 1, by rw [wtV, wtVK]; exact Nat.le_refl 0⟩
theorem ValL.nil : ValL 0 0 0 [] := ⟨by rw [okVL]; trivial, by rw [dpVL]; exact Nat.le_refl 0, by rw [wtVL]; exact Nat.le_refl 0⟩
theorem ValL.cons {m D B C : Nat} {d : SD} {r : List SD} (v : Val m D B d) (w : ValL m D C r) : ValL m D (B + 1 + C) (d :: r) :=
  ⟨by rw [okVL]; exact ⟨v.ok, w.ok⟩, by rw [dpVL]; exact Nat.max_le.mpr ⟨v.dp, w.dp⟩, by have := v.wt; have := w.wt; rw [wtVL]; omega⟩
theorem ValL.one {m D B : Nat} {d : SD} (v : Val m D B d) : ValL m D (B + 1) [d] := ValL.cons v (ValL.nil.mono (Nat.zero_le _) (Nat.zero_le _) (Nat.le_refl 0))
theorem ValL.append {m D B C : Nat} {a b : List SD} (v : ValL m D B a) (w : ValL m D C b) : ValL m D (B + C) (a ++ b) :=
  ⟨okVL_mem.mpr fun d hd => (List.mem_append.mp hd).elim (okVL_mem.mp v.ok d) (okVL_mem.mp w.ok d), dpVL_le.mpr fun d hd => (List.mem_append.mp hd).elim (dpVL_le.mp v.dp d) (dpVL_le.mp w.dp d), by have := v.wt; have := w.wt; rw [wtVL_append]; omega⟩
theorem ValL.take {m D B : Nat} {a : List SD} (v : ValL m D B a) (k : Nat) : ValL m D B (a.take k) :=
  ⟨okVL_mem.mpr fun d hd => okVL_mem.mp v.ok d (List.mem_of_mem_take hd), dpVL_le.mpr fun d hd => dpVL_le.mp v.dp d (List.mem_of_mem_take hd), by have := v.wt; have := wtVL_cut a k; omega⟩
theorem ValL.drop {m D B : Nat} {a : List SD} (v : ValL m D B a) (k : Nat) : ValL m D B (a.drop k) :=
  ⟨okVL_mem.mpr fun d hd => okVL_mem.mp v.ok d (List.mem_of_mem_drop hd), dpVL_le.mpr fun d hd => dpVL_le.mp v.dp d (List.mem_of_mem_drop hd), by have := v.wt; have := wtVL_cut a k; omega⟩
theorem ValL.of {m D B n : Nat} {a : List SD} (h : ∀ d ∈ a, Val m D B d) (hn : a.length ≤ n) : ValL m D (n * (B + 1)) a := by
  refine ⟨okVL_mem.mpr fun d hd => (h d hd).ok, dpVL_le.mpr fun d hd => (h d hd).dp, Nat.le_trans ?_ (Nat.mul_le_mul_right _ hn)⟩
  clear hn
  induction a with
  | nil => simp [wtVL]
  | cons x r ih =>
    have := (h x (List.mem_cons_self ..)).wt
    have := ih fun d hd => h d (List.mem_cons_of_mem _ hd)
    rw [wtVL, List.length_cons, Nat.add_mul]; omega
theorem ValL.mem {m D B : Nat} {a : List SD} (v : ValL m D B a) {d : SD} (hd : d ∈ a) : Val m D B d :=
  ⟨okVL_mem.mp v.ok d hd, dpVL_le.mp v.dp d hd, by have := v.wt; have := wtVL_mem hd; omega⟩
theorem Val.tup {m D B : Nat} {a : List SD} (v : ValL m D B a) : Val m (D + 1) B (.tup a) := ⟨by rw [okV]; exact v.ok, by rw [dpV]; exact Nat.succ_le_succ v.dp, by rw [wtV]; exact v.wt⟩
theorem Val.lst {m D B : Nat} {a : List SD} (v : ValL m D B a) : Val m (D + 1) B (.lst a) := ⟨by rw [okV]; exact v.ok, by rw [dpV]; exact Nat.succ_le_succ v.dp, by rw [wtV]; exact v.wt⟩
theorem Val.pos {m D B : Nat} {a : List SD} (v : Val m D B (.tup a)) : 0 < D := by have := v.dp; rw [dpV] at this; omega
theorem int_short {m : Nat} (hm : m ≤ 10 ^ 20) {i : Int} (h : i.natAbs ≤ 10 ^ 20 + m) : (PyData.shown (.int i)).length ≤ 31 ∧ i.natAbs.log2 < 1920 := by
  have h30 : i.natAbs < 10 ^ 30 := by have : (10 : Nat) ^ 30 = 10 ^ 20 * 10 ^ 10 := by decide
                                      omega
  constructor
  · have := int_text_length_le10 (k := 30) (by decide) h30
    simp only [PyData.shown]
    show (Str.ofString (toString i)).length ≤ 31
    rw [PySem.ofString_length]; exact this
  · by_cases e : i.natAbs = 0
    · rw [e]; decide
    · refine (Nat.log2_lt e).mpr (Nat.lt_of_lt_of_le h30 ?_)
      decide +kernel
mutual
theorem okV_shows {m : Nat} (hm : m ≤ 10 ^ 20) : ∀ {d : SD}, okV m d → ∃ p, pvS d = some p ∧ p.depth = dpV d ∧ p.showable = true ∧ p.leavesShort 40 = true ∧ p.bulk = wtV d
  | .non, _ => ⟨.none, rfl, by simp [PyData.depth, dpV], by simp [PyData.showable], by simp [PyData.leavesShort], by simp [PyData.bulk, wtV]⟩
  | .bl b, _ => ⟨.bool b, rfl, by simp [PyData.depth, dpV], by simp [PyData.showable], by simp [PyData.leavesShort], by simp [PyData.bulk, wtV]⟩
  | .int i, q => by
    rw [okV] at q
    obtain ⟨h1, h2⟩ := int_short hm q
    exact ⟨.int i, rfl, by simp [PyData.depth, dpV], by simpa [PyData.showable] using h2, by simp only [PyData.leavesShort, decide_eq_true_eq]; omega, by simp [PyData.bulk, wtV]⟩
  | .str x, q => by
    rw [okV] at q
    refine ⟨.str x, rfl, by simp [PyData.depth, dpV], by simp [PyData.showable], ?_, by simp [PyData.bulk, wtV]⟩
    unfold PyData.leavesShort
    rw [List.all_eq_true]
    intro c hc
    have := (Array.all_eq_true_iff_forall_mem.mp q) c (by simpa using hc)
    simp at this ⊢
    omega
  | .ref _, q => by rw [okV] at q; exact q.elim
  | .ty _, q => by rw [okV] at q; exact q.elim
  | .tup xs, q => by
    rw [okV] at q
    obtain ⟨ps, e, h1, h2, h3, h4⟩ := okVL_shows hm q
    exact ⟨.tuple ps, by rw [pvS, e], by rw [PyData.depth, dpV, h1], by simp [PyData.showable, h2], by simp [PyData.leavesShort, h3], by rw [PyData.bulk, wtV, h4]⟩
  | .lst xs, q => by
    rw [okV] at q
    obtain ⟨ps, e, h1, h2, h3, h4⟩ := okVL_shows hm q
    exact ⟨.list ps, by rw [pvS, e], by rw [PyData.depth, dpV, h1], by simp [PyData.showable, h2], by simp [PyData.leavesShort, h3], by rw [PyData.bulk, wtV, h4]⟩
  | .rol _, q => by rw [okV] at q; exact q.elim
  | .exc _ _, q => by rw [okV] at q; exact q.elim
  | .ptp _, q => by rw [okV] at q; exact q.elim
  | .dic kvs, q => by
    rw [okV] at q
    obtain ⟨ps, e, h1, h2, h3, h4⟩ := okVK_shows hm q
    exact ⟨.dict ps, by rw [pvS, e], by rw [PyData.depth, dpV, h1], by simp [PyData.showable, h2], by simp [PyData.leavesShort, h3], by rw [PyData.bulk, wtV, h4]⟩
theorem okVL_shows {m : Nat} (hm : m ≤ 10 ^ 20) : ∀ {xs : List SD}, okVL m xs → ∃ ps, pvL xs = some ps ∧ PyData.depthAll ps = dpVL xs ∧ PyData.showableAll ps = true ∧ PyData.leavesShortAll 40 ps = true ∧ PyData.bulkAll ps = wtVL xs
  | [], _ => ⟨[], rfl, by simp [PyData.depthAll, dpVL], by simp [PyData.showableAll], by simp [PyData.leavesShortAll], by simp [PyData.bulkAll, wtVL]⟩
  | d :: r, q => by
    rw [okVL] at q
    obtain ⟨p, e, h1, h2, h3, h4⟩ := okV_shows hm q.1
    obtain ⟨ps, e', g1, g2, g3, g4⟩ := okVL_shows hm q.2
    exact ⟨p :: ps, by rw [pvL, e, e'], by rw [PyData.depthAll, dpVL, h1, g1], by simp [PyData.showableAll, h2, g2], by simp [PyData.leavesShortAll, h3, g3], by rw [PyData.bulkAll, wtVL, h4, g4]⟩
theorem okVK_shows {m : Nat} (hm : m ≤ 10 ^ 20) : ∀ {xs : List (Key × SD)}, okVK m xs → ∃ ps, pvK xs = some ps ∧ PyData.depthKv ps = dpVK xs ∧ PyData.showableKv ps = true ∧ PyData.leavesShortKv 40 ps = true ∧ PyData.bulkKv ps = wtVK xs
  | [], _ => ⟨[], rfl, by simp [PyData.depthKv, dpVK], by simp [PyData.showableKv], by simp [PyData.leavesShortKv], by simp [PyData.bulkKv, wtVK]⟩
  | (.inl _, d) :: r, q => by rw [okVK] at q; exact q.1.elim
  | (.inr k, d) :: r, q => by
    rw [okVK] at q
    obtain ⟨p, e, h1, h2, h3, h4⟩ := okV_shows hm q.2.1
    obtain ⟨ps, e', g1, g2, g3, g4⟩ := okVK_shows hm q.2.2
    have hk : PyData.leavesShort 40 (.str k) = true := by
      have q1 : PyData.strOk k = true := q.1
      unfold PyData.leavesShort
      rw [List.all_eq_true]
      intro c hc
      have := (Array.all_eq_true_iff_forall_mem.mp q1) c (by simpa using hc)
      simp at this ⊢
      omega
    exact ⟨(.str k, p) :: ps, by rw [pvK, e, e']; rfl, by rw [PyData.depthKv, dpVK, h1, g1]; simp [PyData.depth], by simp [PyData.showableKv, PyData.showable, h2, g2], by rw [PyData.leavesShortKv, hk, h3, g3]; rfl, by rw [PyData.bulkKv, wtVK, h4, g4]; simp [PyData.bulk, wtKy]⟩
end
/-- the text that is shown -/
def shw (d : SD) : Str := match pvS d with
  | some p => p.shown
  | none => ""
theorem r_reprV {m D B : Nat} {d d' : SD} {μ : Mu} {Q : SD → Mu → Prop} (v : Val m D B d) (nr : ∀ a, d' ≠ .ref a) (e : pvS d' = pvS d) (hm : m ≤ 10 ^ 20) (hD : D ≤ 64) (hB : B ≤ 250000) (q : Q (.str (shw d)) μ) : drReprV [d'] μ Q := by
  obtain ⟨p, e0, h1, h2, h3, h4⟩ := okV_shows hm v.ok
  have e2 : DS.pv μ d' = some p := by
    unfold DS.pv
    split
    · exact (nr _ rfl).elim
    · rw [e]; exact e0
  have es : shw d = p.shown := by unfold shw; rw [e0]
  unfold drReprV
  simp only [e2]
  refine ⟨⟨h2, ?_, by rw [h1]; exact Nat.le_trans v.dp hD⟩, by rw [← es]; exact q⟩
  have hs := PyData.shown_le_bulk 40 (by decide) p h3
  have hw := v.wt
  rw [h4] at hs
  rw [sizeLine_eq]
  have : (40 + 2) * wtV d ≤ 42 * 250000 := Nat.mul_le_mul_left _ (by omega)
  omega
section
variable {m : Nat} {d : SD} {μ : Mu} {Q : SD → Mu → Prop}
theorem kit_facts : (kitB "NoneType" "str" = some false ∧ kitB "bool" "str" = some false ∧ kitB "int" "str" = some false ∧ kitB "str" "str" = some true ∧ kitB "tuple" "str" = some false ∧ kitB "list" "str" = some false ∧ kitB "dict" "str" = some false) ∧
    (kitB "NoneType" "tuple" = some false ∧ kitB "bool" "tuple" = some false ∧ kitB "int" "tuple" = some false ∧ kitB "str" "tuple" = some false ∧ kitB "tuple" "tuple" = some true ∧ kitB "list" "tuple" = some false ∧ kitB "dict" "tuple" = some false) ∧
    (kitB "NoneType" "int" = some false ∧ kitB "bool" "int" = some true ∧ kitB "int" "int" = some true ∧ kitB "str" "int" = some false ∧ kitB "tuple" "int" = some false ∧ kitB "list" "int" = some false ∧ kitB "dict" "int" = some false) := by decide +kernel
theorem isi_str (v : okV m d) (q : Q (.bl (isStr d)) μ) : drIsi [d, .ty "str"] μ Q := by
  obtain ⟨⟨a1, a2, a3, a4, a5, a6, a7⟩, _⟩ := kit_facts
  cases d with
  | non => exact isi_of rfl a1 q
  | bl b => exact isi_of rfl a2 q
  | int i => exact isi_of rfl a3 q
  | str x => exact isi_of rfl a4 q
  | tup xs => exact isi_of rfl a5 q
  | lst xs => exact isi_of rfl a6 q
  | dic kvs => exact isi_of rfl a7 q
  | _ => rw [okV] at v; exact v.elim
end
end MA
namespace LK
open PySem PySem.Spec PyProof.Rows L2 DS MA
mutual
theorem enc_val : ∀ t : T, (∀ k ∈ pre t, KeyOk k) → Val 0 (2 * dep t) (64 * (pre t).length - 1) (enc t)
  | .node k cs, h => by
    rw [pre] at h
    have gs := encL_val cs fun x hx => h x (List.mem_cons_of_mem _ hx)
    obtain ⟨k1, k2⟩ := h k (List.mem_cons_self ..)
    rw [enc, dep, pre]
    have g2 := ValL.cons ((Val.str k1).mono (m' := 0) (D' := 2 * depL cs + 1) (Nat.le_refl _) (Nat.zero_le _) k2) (ValL.one ((Val.tup gs).mono (Nat.le_refl _) (Nat.le_refl _) (Nat.le_refl _)))
    refine (Val.tup g2).mono (Nat.le_refl _) (by omega) ?_
    rw [List.length_cons]; omega
theorem encL_val : ∀ ts : List T, (∀ k ∈ preL ts, KeyOk k) → ValL 0 (2 * depL ts) (64 * (preL ts).length) (encL ts)
  | [], _ => by rw [encL]; exact ValL.nil.mono (Nat.le_refl _) (Nat.zero_le _) (Nat.zero_le _)
  | t :: r, h => by
    rw [preL] at h
    have g := enc_val t fun x hx => h x (List.mem_append_left _ hx)
    have gs := encL_val r fun x hx => h x (List.mem_append_right _ hx)
    have := pre_pos t
    rw [encL, depL, preL]
    refine (ValL.cons (g.mono (m' := 0) (D' := 2 * max (dep t) (depL r)) (Nat.le_refl _) (by omega) (Nat.le_refl _)) (gs.mono (m' := 0) (D' := 2 * max (dep t) (depL r)) (Nat.le_refl _) (by omega) (Nat.le_refl _))).mono (Nat.le_refl _) (Nat.le_refl _) ?_
    rw [List.length_append]; omega
end
end LK
namespace LK
open PySem PySem.Spec PyProof.Rows L2 DS MA
section
variable {μ : Mu} {Q : SD → Mu → Prop} {m n : Int} {c : Nat} {z : Str}
theorem i_eq (q : Q (.bl (decide (m = n))) μ) : dEq false (.int m) (.int n) μ Q := by
  have : eqD μ (.int m) (.int n) = some (decide (m = n)) := by simp [eqD]
  unfold dEq; rw [this]
  show Q (.bl (false != decide (m = n))) μ
  rw [Bool.false_bne]; exact q
theorem i_ne (q : Q (.bl (!decide (m = n))) μ) : dEq true (.int m) (.int n) μ Q := by
  have : eqD μ (.int m) (.int n) = some (decide (m = n)) := by simp [eqD]
  unfold dEq; rw [this]
  show Q (.bl (true != decide (m = n))) μ
  rw [Bool.true_bne]; exact q
theorem in_sign (q : Q (.bl (decide (c ∈ z.cps.toList))) μ) : dIn false (.str ⟨#[c]⟩) (.str z) μ Q := by
  show Q (.bl (false != decide (c ∈ z.cps.toList))) μ
  rw [Bool.false_bne]; exact q
theorem bls_all {bs : List Bool} (q : Q (.bl (bs.all _root_.id)) μ) : drBls (fun bs => bs.all _root_.id) [.lst (bs.map SD.bl)] μ Q := by
  unfold drBls
  simp only [lstD, blsOf_map]
  exact q
end
def abcS : Str := "abcdefghijklmnopqrstuvwxyz"
def keyB : SD → Bool
  | .str x => decide (1 ≤ x.length) && decide (x.length ≤ 8) && x.cps.toList.all fun c => decide (c ∈ abcS.cps.toList)
  | _ => false
theorem keyB_eq (x : Str) : keyB (.str x) = (decide (1 ≤ x.length) && decide (x.length ≤ 8) && x.cps.toList.all fun c => decide (c ∈ abcS.cps.toList)) := rfl
def sp_is_key : DSp := fun ds μ Q _ => ∃ (d : SD) (m : Nat), ds = [d] ∧ okV m d ∧ wtV d ≤ 300000 ∧ Q (.bl (keyB d)) μ
theorem len_is_key : ∀ ds μ Q E, sp_is_key ds μ Q E → ds.length = 1 := by rintro ds μ Q E ⟨d, m, rfl, _⟩; rfl
theorem letters_ok {x : Str} {ρ : Rho} {μ : Mu} {Q : SD → Mu → Prop} (hx : x.length ≤ 300000) (h0 : ρ[0]? = some (some (.str x))) (hl : ρ.length = 2) (q : Q (.bl (x.cps.toList.all fun c => decide (c ∈ abcS.cps.toList))) μ) :
    dCB (drBls fun bs => bs.all _root_.id) (dCons (dLcS (jSeq (dVar 0)) (hName 1) dYes (dOp (dIn false) (dVar 1) (dC (.str "abcdefghijklmnopqrstuvwxyz"))) [1]) dNil) ρ μ Q := by
  unfold dLcS dLc
  refine r_var h0 ?_
  have cl : (chars x).length = x.cps.size := by simp [chars]
  have hx' : x.cps.size ≤ 300000 := hx
  refine lc_pure (zs := (x.cps.toList.map fun c => decide (c ∈ abcS.cps.toList)).map SD.bl) trivial (by rw [cl]; omega) (by simp [chars]) ?_ ?_
  · intro i d y hd hy R r
    unfold chars at hd
    rw [List.getElem?_map] at hd
    rw [List.getElem?_map, List.getElem?_map] at hy
    cases e : x.cps.toList[i]? with
    | none => rw [e] at hd; cases hd
    | some c =>
      rw [e] at hd hy; cases hd; cases hy
      have : ((wipeR ρ [1]).set 1 (some (SD.str ⟨#[c]⟩)))[1]? = some (some (SD.str ⟨#[c]⟩)) := by
        rw [List.getElem?_set_self]; simp [wipeR, hl]
      refine r_var this ?_
      exact in_sign r
  · refine bls_all ?_
    have : (x.cps.toList.map fun c => decide (c ∈ abcS.cps.toList)).all _root_.id = x.cps.toList.all fun c => decide (c ∈ abcS.cps.toList) := by
      rw [List.all_map]; rfl
    rw [this]; exact q
def t_is_key : DTS := (dSeq (dIfS (dOr (dNot (dTest (dCB drIsi (dCons (dVar 0) (dCons (dC (.ty "str")) dNil))))) (dNot (dTest (dChain dLe dLe (dC (.int 1)) (dCB drLen (dCons (dVar 0) dNil)) (dC (.int 8)))))) (dRet (dC (.bl false))) dNext)
    (dRet (dCB (drBls fun bs => bs.all _root_.id) (dCons (dLcS (jSeq (dVar 0)) (hName 1) dYes (dOp (dIn false) (dVar 1) (dC (.str "abcdefghijklmnopqrstuvwxyz"))) [1]) dNil))))
theorem read_is_key : ∀ ds μ Q E, sp_is_key ds μ Q E → t_is_key { nx := fun _ μ' => Q .non μ', rt := Q } (begin_ ["value", "letter"] ds) μ := by
  rintro ds μ Q E ⟨d, m, rfl, v, w, q⟩
  unfold t_is_key
  refine r_var rfl ?_
  refine isi_str v ?_
  cases d with
  | str x =>
    refine ifF rfl ?_
    rw [wtV] at w
    have xl : x.length ≤ 300000 := w
    refine r_var rfl ?_
    refine l_lenS (le_line xl (by omega)) ?_
    refine i_le ?_
    by_cases h1 : 1 ≤ x.length
    · rw [decide_eq_true (show (1 : Int) ≤ (x.length : Int) by omega)]
      refine i_le ?_
      by_cases h2 : x.length ≤ 8
      · rw [decide_eq_true (show (x.length : Int) ≤ 8 by omega)]
        refine ifF rfl ?_
        refine letters_ok (ρ := begin_ ["value", "letter"] [.str x]) xl rfl rfl ?_
        have : keyB (.str x) = x.cps.toList.all fun c => decide (c ∈ abcS.cps.toList) := by rw [keyB_eq, decide_eq_true h1, decide_eq_true h2]; rfl
        rw [← this]; exact q
      · rw [decide_eq_false (show ¬ (x.length : Int) ≤ 8 by omega)]
        refine ifT rfl ?_
        have : keyB (.str x) = false := by rw [keyB_eq, decide_eq_false h2, Bool.and_false, Bool.false_and]
        rw [← this]; exact q
    · rw [decide_eq_false (show ¬ (1 : Int) ≤ (x.length : Int) by omega)]
      refine ifT rfl ?_
      have : keyB (.str x) = false := by rw [keyB_eq, decide_eq_false h1, Bool.false_and, Bool.false_and]
      rw [← this]; exact q
  | ref a => rw [okV] at v; exact v.elim
  | ty a => rw [okV] at v; exact v.elim
  | rol a => rw [okV] at v; exact v.elim
  | exc a b => rw [okV] at v; exact v.elim
  | ptp a => rw [okV] at v; exact v.elim
  | _ => exact ifT rfl (ifT rfl q)
end LK
namespace LK
open PySem PySem.Spec PyProof.Rows L2 DS MA
section
variable {ρ : Rho} {μ : Mu} {i : Nat} {a : Addr} {x f m : Str} {fs : List (Str × SD)} {d v y : SD} {Q : SD → Mu → Prop} {R : Mu → Prop}
theorem putA_ok (h : μ a = some (.obj x fs)) (l : fs.length < 900) (q : R (up μ a (.obj x (putS f y fs)))) : sQ x f y R (.ref a) μ := by
  unfold sQ; simp only [h]; exact ⟨trivial, l, q⟩
theorem attr_ok (h : μ a = some (.obj x fs)) (e : fs.lookup f = some v) (q : Q v μ) : aQ x f Q (.ref a) μ := by
  unfold aQ; simp only [h, e]; exact ⟨trivial, q⟩
theorem meth_ok (h : μ a = some (.obj x fs)) (e : fs.lookup m = none) (q : Q (.ref a) μ) : mQ x m Q (.ref a) μ := by
  unfold mQ; simp only [h, e]; exact ⟨trivial, trivial, q⟩
theorem eq_ss {u w : Str} {neg : Bool} (q : Q (.bl (neg != decide (u = w))) μ) : dEq neg (.str u) (.str w) μ Q := by
  have : eqD μ (.str u) (.str w) = some (decide (u = w)) := by simp [eqD]
  unfold dEq; rw [this]; exact q
theorem up_up {m m' : MO} : up (up μ a m) a m' = up μ a m' := by funext b; unfold up; split <;> rfl
end
end LK
namespace LK
open PySem PySem.Spec PyProof.Rows L2 DS MA
/-- is it an operation? -/
def opB : SD → Bool
  | .tup (.str w :: xs) => if w = "remove" then (match xs with
      | [x] => keyB x
      | _ => false)
    else if w = "create" ∨ w = "move" then (match xs with
      | [x, h, b] => keyB x && (keyB h && (isNon b || keyB b))
      | _ => false)
    else false
  | _ => false
end LK
namespace LK
open PySem PySem.Spec PyProof.Rows L2 DS MA
theorem jSeq_at {te : DTE} {ρ : Rho} {μ : Mu} {x : SD} {xs : List SD} {R : List SD → (Mu → Prop) → Mu → Prop} (h : ∀ R' : SD → Mu → Prop, R' x μ → te ρ μ R') (hs : ∀ z, x ≠ .str z) (hx : seqD μ x = some xs) (q : R xs (fun μ' => seqD μ' x = some xs) μ) : jSeq te ρ μ R := by
  refine h _ ?_
  cases x with
  | str z => exact (hs z rfl).elim
  | _ => simp only [hx]; exact q
end LK
namespace LK
open PySem PySem.Spec PyProof.Rows L2 DS MA
theorem mem_join {y : Str} {c : Nat} : ∀ {l : List Str} {p : Str}, p ∈ l → c ∈ p.cps.toList → c ∈ (Str.join y l).cps.toList
  | [a], p, hp, hc => by rw [List.mem_singleton.mp hp] at hc; exact hc
  | a :: b :: r, p, hp, hc => by
    have e : (Str.join y (a :: b :: r)).cps.toList = (a.cps.toList ++ y.cps.toList) ++ (Str.join y (b :: r)).cps.toList := by
      show ((a ++ y) ++ Str.join y (b :: r)).cps.toList = _
      show (((a.cps ++ y.cps) ++ (Str.join y (b :: r)).cps)).toList = _
      simp
    rw [e]
    rcases List.mem_cons.mp hp with rfl | hp
    · exact List.mem_append_left _ (List.mem_append_left _ hc)
    · exact List.mem_append_right _ (mem_join hp hc)
theorem strOk_iff {x : Str} : PyData.strOk x = true ↔ ∀ c ∈ x.cps.toList, PyData.strOk ⟨#[c]⟩ = true := by
  unfold PyData.strOk
  rw [← Array.all_toList, List.all_eq_true]
  constructor
  · intro h c hc
    have := h c hc
    simpa using this
  · intro h c hc
    have := h c hc
    simpa using this
theorem part_ok {x y : Str} (h : PyData.strOk x = true) {p : Str} (hp : p ∈ Txt.split x y) : PyData.strOk p = true := by
  rw [strOk_iff] at h ⊢
  intro c hc
  refine h c ?_
  rw [← StrLaws.join_split x y]
  exact mem_join hp hc
theorem part_len {x y : Str} (hy : 1 ≤ y.length) {p : Str} (hp : p ∈ Txt.split x y) : p.length ≤ x.length := by
  have w := split_weight x y hy
  obtain ⟨s, t, e⟩ := List.append_of_mem hp
  rw [e, List.map_append, List.sum_append, List.map_cons, List.sum_cons, List.length_append, List.length_cons] at w
  omega
theorem parts_n {x y : Str} (hy : 1 ≤ y.length) : (Txt.split x y).length ≤ x.length + 1 := by
  have := split_weight x y hy; omega
theorem blank_len : ((" " : Str).length == 0) = false := by decide +kernel
theorem feed_len : (("\n" : Str).length == 0) = false := by decide +kernel
theorem blank1 : 1 ≤ (" " : Str).length := by decide +kernel
theorem feed1 : 1 ≤ ("\n" : Str).length := by decide +kernel
end LK
namespace LK
open PySem PySem.Spec PyProof.Rows L2 DS MA
abbrev wds (l : Str) : List Str := Txt.split l " "
/-- the operation, its last dash taken for nothing -/
def opD (ws : List Str) : SD := if ws.length = 4 ∧ ws[3]? = some ("-" : Str) then .tup ((sts ws).set 3 .non) else .tup (sts ws)
def lnsO (t : Str) : List Str := if t = "" then [] else Txt.split t "\n"
def goodL (i : Nat) (l : Str) : Prop := opB (opD (wds l)) = true ∧ i < 400
/-- what both looks promise -/
structure Looks (t : Str) (bad : Nat → Prop) (all : SD → Prop) : Prop where
  b : ∀ (j : Nat) (l : Str), (lnsO t)[j]? = some l → ¬ goodL j l → (∀ (i : Nat) (l' : Str), i < j → (lnsO t)[i]? = some l' → goodL i l') → bad j
  a : (∀ (i : Nat) (l : Str), (lnsO t)[i]? = some l → goodL i l) → all (.tup ((lnsO t).map fun l => opD (wds l)))
theorem for_seq61 {wi : DTI} {g : DTG} {tb rest : DTS} {D : DEnds} {ρ : Rho} {μ : Mu} (k : wi ρ μ fun ds ok μ1 => ∃ W : Nat → Rho → Mu → Prop, W 0 ρ μ1 ∧ (∀ i ρ μ, i ≤ ds.length → W i ρ μ → ok μ) ∧ (∀ i d ρ μ, ds[i]? = some d → W i ρ μ → g d ρ μ fun ρ2 μ2 => tb { D with nx := W (i + 1), ct := W (i + 1), bk := rest D } ρ2 μ2) ∧ ∀ ρ μ, W ds.length ρ μ → rest D ρ μ) : dSeq (dFor wi g tb) rest D ρ μ := k
end LK
namespace LK
open PySem PySem.Spec PyProof.Rows L2 DS MA
def keyS (w : Str) : Bool := keyB (.str w)
def sp__law_is_key : DSp := fun ds μ Q _ => ∃ (w : Str), ds = [.str w] ∧ w.length ≤ 100000 ∧ Q (.bl (keyS w)) μ
theorem len__law_is_key : ∀ ds μ Q E, sp__law_is_key ds μ Q E → ds.length = 1 := by rintro ds μ Q E ⟨w, rfl, _⟩; rfl
def t__law_is_key : DTS := (dRet (dAndV (dChain dLt dLt (dC (.int 0)) (dCB drLen (dCons (dVar 0) dNil)) (dC (.int 9))) (dCB (drBls fun bs => bs.all _root_.id) (dCons (dLcS (jSeq (dVar 0)) (hName 1) dYes (dOp (dIn false) (dVar 1) (dC (.str "abcdefghijklmnopqrstuvwxyz"))) [1]) dNil))))
theorem i_lt61 {m n : Int} {μ : Mu} {Q : SD → Mu → Prop} (q : Q (.bl (decide (m < n))) μ) : dLt (.int m) (.int n) μ Q := i_lt q
theorem read__law_is_key : ∀ ds μ Q E, sp__law_is_key ds μ Q E → t__law_is_key { nx := fun _ μ' => Q .non μ', rt := Q } (begin_ ["_law_word", "_law_sign"] ds) μ := by
  rintro ds μ Q E ⟨w, rfl, wl, q⟩
  unfold t__law_is_key
  have ek : keyS w = (decide (1 ≤ w.length) && decide (w.length ≤ 8) && w.cps.toList.all fun c => decide (c ∈ abcS.cps.toList)) := keyB_eq w
  refine r_var rfl ?_
  refine l_lenS (by rw [sizeLine_eq]; omega) ?_
  refine i_lt61 ?_
  by_cases h1 : 1 ≤ w.length
  rotate_left
  · rw [decide_eq_false (by omega)]
    rw [ek, decide_eq_false h1] at q
    exact q
  rw [decide_eq_true (by omega)]
  refine i_lt61 ?_
  by_cases h8 : w.length ≤ 8
  rotate_left
  · rw [decide_eq_false (by omega)]
    rw [ek, decide_eq_true h1, decide_eq_false h8] at q
    exact q
  rw [decide_eq_true (by omega)]
  rw [ek, decide_eq_true h1, decide_eq_true h8, Bool.true_and, Bool.true_and] at q
  exact letters_ok (x := w) (by omega) rfl rfl q
end LK
namespace LK
end LK
namespace LK
open PySem PySem.Spec PyProof.Rows L2 DS MA
def KL (k : Str) : Prop := KeyOk k ∧ LowK k
theorem mem_join_inv {y : Str} {c : Nat} : ∀ {l : List Str}, c ∈ (Str.join y l).cps.toList → c ∈ y.cps.toList ∨ ∃ p ∈ l, c ∈ p.cps.toList
  | [], h => by cases h
  | [a], h => .inr ⟨a, List.mem_singleton.mpr rfl, h⟩
  | a :: b :: r, h => by
    have e : (Str.join y (a :: b :: r)).cps.toList = (a.cps.toList ++ y.cps.toList) ++ (Str.join y (b :: r)).cps.toList := by
      show ((a ++ y) ++ Str.join y (b :: r)).cps.toList = _
      show (((a.cps ++ y.cps) ++ (Str.join y (b :: r)).cps)).toList = _
      simp
    rw [e] at h
    rcases List.mem_append.mp h with h | h
    · rcases List.mem_append.mp h with h | h
      · exact .inr ⟨a, List.mem_cons_self .., h⟩
      · exact .inl h
    · rcases mem_join_inv h with z | ⟨p, hp, z⟩
      · exact .inl z
      · exact .inr ⟨p, List.mem_cons_of_mem _ hp, z⟩
end LK
namespace LK
open PySem PySem.Spec PyProof.Rows L2 DS MA
theorem KL.nd {k : Str} (h : KL k) : k ≠ ("-" : Str) := fun e => by
  have := h.2.2.2 45 (by rw [e]; decide +kernel)
  omega
theorem join_len61 {y : Str} : ∀ l : List Str, (Str.join y l).length ≤ (l.map (·.length)).sum + l.length * y.length
  | [] => Nat.zero_le _
  | [a] => by
    show a.length ≤ _
    simp
  | a :: b :: r => by
    have ih := join_len61 (y := y) (b :: r)
    show (a ++ y ++ Str.join y (b :: r)).length ≤ _
    rw [Str.length_append, Str.length_append]
    simp only [List.map_cons, List.sum_cons, List.length_cons, Nat.add_mul, Nat.one_mul] at ih ⊢
    omega
theorem asc_ok {x : Str} (h : ∀ c ∈ x.cps.toList, c < 128) : PyData.strOk x = true := by
  unfold PyData.strOk
  rw [← Array.all_toList, List.all_eq_true]
  intro c hc
  have := h c hc
  simp; omega
theorem join_L61 {a : Str} {l : List Str} {μ : Mu} {Q : SD → Mu → Prop} (h : (l.map (·.length)).sum + l.length * a.length ≤ 16777216) (q : Q (.str (Txt.join a l)) μ) : drJoin (.str a) (.lst (sts l)) μ Q := by
  unfold drJoin
  simp only [seqD, show strsOf (sts l) = some l from strsOf_map l]
  exact ⟨h, q⟩
theorem join_R61 {a : Str} {l : List Str} {p : Addr} {μ : Mu} {Q : SD → Mu → Prop} (m : μ p = some (.lst (sts l))) (h : (l.map (·.length)).sum + l.length * a.length ≤ 16777216) (q : Q (.str (Txt.join a l)) μ) : drJoin (.str a) (.ref p) μ Q := by
  unfold drJoin
  simp only [seqD, m, show strsOf (sts l) = some l from strsOf_map l]
  exact ⟨h, q⟩
end LK
namespace LK
end LK
namespace LK
open PySem PySem.Spec PyProof.Rows L2 DS MA
def xnames : List Str := ["BadTree", "BadText", "BadLine"]
def sp__law_heard : DTH → Mu → (SD → Mu → Prop) → Prop := fun th μ Q => ∀ (Q1 : SD → Mu → Prop) (E1 : DXX), (∀ d μ1, Q (.tup [.str "returned", d]) μ1 → Q1 d μ1) → (∀ (d : SD) (μ1 : Mu), Q (.tup [.str "line", d]) μ1 → E1 "BadText" [("line", d)] μ1) → th μ Q1 E1
def t__law_heard (f : Addr) (th : DTH) : DTS := (dSeq (dAsg (dTup (dCons (dC .non) (dCons (dC .non) dNil))) (hTup 2 (hCons (hName 1) (hCons (hName 2) hNil))))
    (dSeq (dTryA f th (kX xnames "KeyedError") 1 3 2)
    (dSeq (dIfS (dTest (dIsN (dVar 2))) (dRet (dTup (dCons (dC (.str "returned")) (dCons (dVar 1) dNil)))) dNext)
    (dSeq (dIfS (dAnd (dTest (dIsX (kX xnames "BadText") (dVar 2))) (dAnd (dNot (dTest (dIsXT [kX xnames "BadLine", kX xnames "BadTree"] (dVar 2)))) (dTest (dIsX (kX xnames "ValueError") (dVar 2))))) (dRet (dTup (dCons (dC (.str "line")) (dCons (dFld "line" (dVar 2)) dNil)))) dNext)
    (dRet (dTup (dCons (dC (.str "other")) (dCons (dC .non) dNil))))))))
theorem isX_61 {ρ : Rho} {μ : Mu} {i : Nat} {c x : Str} {fs : List (Str × SD)} {b : Bool} {Q : SD → Mu → Prop} (h : ρ[i]? = some (some (.exc x fs))) (k : kX xnames c x = some b) (q : Q (.bl b) μ) : dIsX (kX xnames c) (dVar i) ρ μ Q := by
  refine r_var h ?_
  unfold DS.isQ
  simp only [k]
  exact q
theorem heard_line {f : Addr} {d : SD} {μ1 : Mu} {Q : SD → Mu → Prop} (q : Q (.tup [.str "line", d]) μ1) :
    (dSeq (dIfS (dTest (dIsN (dVar 2))) (dRet (dTup (dCons (dC (.str "returned")) (dCons (dVar 1) dNil)))) dNext)
    (dSeq (dIfS (dAnd (dTest (dIsX (kX xnames "BadText") (dVar 2))) (dAnd (dNot (dTest (dIsXT [kX xnames "BadLine", kX xnames "BadTree"] (dVar 2)))) (dTest (dIsX (kX xnames "ValueError") (dVar 2))))) (dRet (dTup (dCons (dC (.str "line")) (dCons (dFld "line" (dVar 2)) dNil)))) dNext)
    (dRet (dTup (dCons (dC (.str "other")) (dCons (dC .non) dNil)))))) { nx := fun _ μ' => Q .non μ', rt := Q } [some (.ref f), some .non, some (.exc "BadText" [("line", d)]), none] μ1 := by
  refine r_var rfl ?_
  refine ifF rfl ?_
  simp only [dNext]
  refine isX_61 (x := "BadText") (b := true) rfl (by decide +kernel) ?_
  refine ifT rfl ?_
  refine r_var rfl ?_
  unfold DS.isQT
  simp only [show anyX [kX xnames "BadLine", kX xnames "BadTree"] "BadText" = some false by decide +kernel]
  refine ifT rfl ?_
  refine isX_61 (x := "BadText") (b := true) rfl (by decide +kernel) ?_
  refine ifT rfl ?_
  refine r_var rfl ?_
  simp only [show ([(("line" : Str), d)] : List (Str × SD)).lookup "line" = some d from rfl]
  exact ⟨(by show 2 ≤ sizeLine; decide), q⟩
theorem read__law_heard : ∀ f th μ Q, sp__law_heard th μ Q → t__law_heard f th { nx := fun _ μ' => Q .non μ', rt := Q } (begin_ ["_law_call", "_law_told", "_law_caught", "error"] [.ref f]) μ := by
  intro f th μ Q h
  unfold t__law_heard
  refine ⟨(by show 2 ≤ sizeLine; decide), ?_⟩
  refine ⟨rfl, ?_⟩
  refine ⟨rfl, ?_⟩
  refine ⟨⟨rfl, (by show 3 < 4; decide)⟩, ?_⟩
  refine h _ _ (fun d μ1 q => ?_) fun d μ1 q => ?_
  · dsimp only [List.set_cons_zero, List.set_cons_succ]
    refine r_var (i := 2) rfl ?_
    refine ifT rfl ?_
    refine r_var (i := 1) rfl ?_
    exact ⟨(by show 2 ≤ sizeLine; decide), q⟩
  · exact ⟨by decide +kernel, heard_line (f := f) (d := d) (Q := Q) q⟩
end LK
namespace LK
open PySem PySem.Spec PyProof.Rows L2 DS MA
def asc (p : Str) : Prop := ∀ c ∈ p.cps.toList, c < 128
def wtS (l : List Str) : Nat := (l.map (·.length)).sum + l.length
theorem wtS_append (a b : List Str) : wtS (a ++ b) = wtS a + wtS b := by
  unfold wtS
  rw [List.map_append, List.sum_append, List.length_append]; omega
theorem wtS_cons (a : Str) (b : List Str) : wtS (a :: b) = a.length + 1 + wtS b := by
  unfold wtS
  rw [List.map_cons, List.sum_cons, List.length_cons]; omega
theorem wtS_nil : wtS [] = 0 := rfl
/-- lines or words of a text -/
structure Bag (l : List Str) (M : Nat) : Prop where
  w : wtS l ≤ M
  a : ∀ p ∈ l, asc p
theorem Bag.mono {l : List Str} {M N : Nat} (B : Bag l M) (h : M ≤ N) : Bag l N := ⟨Nat.le_trans B.w h, B.a⟩
theorem Bag.append {a b : List Str} {M N : Nat} (A : Bag a M) (B : Bag b N) : Bag (a ++ b) (M + N) := ⟨by rw [wtS_append]; exact Nat.add_le_add A.w B.w, fun p hp => (List.mem_append.mp hp).elim (A.a p) (B.a p)⟩
theorem Bag.one {p : Str} (h : asc p) : Bag [p] (p.length + 1) := ⟨by rw [wtS_cons, wtS_nil]; exact Nat.le_refl _, fun q hq => by rw [List.mem_singleton.mp hq]; exact h⟩
theorem wtS_cut (l : List Str) (k : Nat) : wtS (l.take k) + wtS (l.drop k) = wtS l := by rw [← wtS_append, List.take_append_drop]
theorem Bag.take {l : List Str} {M : Nat} (B : Bag l M) (k : Nat) : Bag (l.take k) M := ⟨by have := B.w; have := wtS_cut l k; omega, fun p hp => B.a p (List.mem_of_mem_take hp)⟩
theorem Bag.drop {l : List Str} {M : Nat} (B : Bag l M) (k : Nat) : Bag (l.drop k) M := ⟨by have := B.w; have := wtS_cut l k; omega, fun p hp => B.a p (List.mem_of_mem_drop hp)⟩
theorem wtS_set : ∀ (l : List Str) (j : Nat) (p : Str), wtS (l.set j p) ≤ wtS l + p.length
  | [], _, _ => Nat.zero_le _
  | a :: r, 0, p => by
    rw [List.set_cons_zero, wtS_cons, wtS_cons]; omega
  | a :: r, j + 1, p => by
    have := wtS_set r j p
    rw [List.set_cons_succ, wtS_cons, wtS_cons]; omega
theorem Bag.set {l : List Str} {M : Nat} (B : Bag l M) (j : Nat) {p : Str} (h : asc p) : Bag (l.set j p) (M + p.length) := ⟨by have := B.w; have := wtS_set l j p; omega, fun q hq => (List.mem_or_eq_of_mem_set hq).elim (B.a q) fun e => e ▸ h⟩
theorem Bag.mem {l : List Str} {M : Nat} (B : Bag l M) {p : Str} (h : p ∈ l) : asc p ∧ p.length + 1 ≤ M := by
  refine ⟨B.a p h, ?_⟩
  obtain ⟨s, t, e⟩ := List.append_of_mem h
  have := B.w
  rw [e, wtS_append, wtS_cons] at this; omega
theorem Bag.n {l : List Str} {M : Nat} (B : Bag l M) : l.length ≤ M := by
  have := B.w
  unfold wtS at this; omega
theorem split_bag {t y : Str} (hy : 1 ≤ y.length) (h : asc t) : Bag (Txt.split t y) (t.length + 1) := ⟨split_weight t y hy, fun p hp c hc => h c (by
  rw [← StrLaws.join_split t y]
  exact mem_join hp hc)⟩
theorem join_bag {l : List Str} {M : Nat} {y : Str} (B : Bag l M) (hy : y.length = 1) (ya : asc y) : asc (Txt.join y l) ∧ (Txt.join y l).length ≤ M := by
  rw [TL.join_eq]
  refine ⟨fun c hc => ?_, ?_⟩
  · rcases mem_join_inv hc with z | ⟨p, hp, z⟩
    · exact ya c z
    · exact B.a p hp c z
  · have a := join_len61 (y := y) l
    have := B.w
    unfold wtS at this
    rw [hy] at a; omega
theorem asc_app {a b : Str} (ha : asc a) (hb : asc b) : asc (a ++ b) := fun c hc => by
  have e : (a ++ b).cps.toList = a.cps.toList ++ b.cps.toList := by
    show (a.cps ++ b.cps).toList = _
    simp
  rw [e] at hc
  exact (List.mem_append.mp hc).elim (ha c) (hb c)
theorem asc_cut {z : Str} (h : asc z) (lo hi : Option Int) : asc (cutS z lo hi) ∧ (cutS z lo hi).length ≤ z.length := by
  refine ⟨fun c hc => ?_, cutS_length z lo hi⟩
  unfold cutS at hc
  simp only [List.toList_toArray] at hc
  exact h c (List.mem_of_mem_drop (List.mem_of_mem_take hc))
theorem asc_rep {z : Str} (h : asc z) (n : Nat) (hn : n ≤ 1) : asc (repS z n) ∧ (repS z n).length ≤ z.length := by
  have e : n = 0 ∨ n = 1 := by omega
  rcases e with rfl | rfl
  · exact ⟨fun c hc => by simp [repS] at hc, by simp [repS, Str.length]⟩
  · have : repS z 1 = z := by simp [repS]
    rw [this]; exact ⟨h, Nat.le_refl _⟩
end LK
namespace LK
open PySem PySem.Spec PyProof.Rows L2 DS MA
theorem sl_R61 {a : Addr} {xs : List SD} {l u : Option Int} {μ : Mu} {Q : SD → Mu → Prop} (m : μ a = some (.lst xs)) (q : Q (.lst (cutL xs l u)) μ) : drSl (.ref a) l u μ Q := by
  show (match seqD μ (.ref a) with
    | some xs => Q (.lst (cutL xs l u)) μ
    | none => False)
  simp only [seqD, m]
  exact q
theorem addM_LL {xs ys : List SD} {μ : Mu} {Q : SD → Mu → Prop} (h : xs.length + ys.length ≤ sizeLine) (q : ∀ p, μ p = none → Q (.ref p) (up μ p (.lst (xs ++ ys)))) : dAddM (.lst xs) (.lst ys) μ Q := by
  unfold dAddM
  simp only [lstD]
  exact ⟨h, q⟩
theorem none_lex {h q : Addr} {μ μ' : Mu} (l : LeX h μ μ') (n : h ≠ q) (e : μ' q = none) : μ q = none := by
  cases e2 : μ q with
  | none => rfl
  | some m => rw [l _ _ (Ne.symm n) e2] at e; cases e
theorem int_bl {b : Bool} {μ : Mu} {Q : SD → Mu → Prop} (q : Q (.int (if b then 1 else 0)) μ) : drInt [.bl b] μ Q := q
theorem sl_S61 {z : Str} {l u : Option Int} {μ : Mu} {Q : SD → Mu → Prop} (h : z.length ≤ sizeLine) (q : Q (.str (cutS z l u)) μ) : drSl (.str z) l u μ Q := ⟨h, q⟩
theorem min61 {μ : Mu} {Q : SD → Mu → Prop} {m n : Int} (q : Q (.int (if n < m then n else m)) μ) : drI2 (fun i j => if j < i then j else i) [.int m, .int n] μ Q := q
abbrev sgs61 : List SD := [.str " ", .str "  ", .str "a", .str "\n", .str "-", .str "A", .str "7", .str "\t"]
abbrev mrs61 : List SD := [.str "", .str "-", .str "move", .str "create", .str "remove", .str "None", .str "longerkey", .str "a"]
theorem sg_asc {x : Str} (h : (x.cps.toList.all fun c => decide (c < 128)) = true) : asc x := fun c hc => by
  have := List.all_eq_true.mp h c hc
  simpa using this
theorem sgs_ok {d : SD} (h : d ∈ sgs61) : ∃ x : Str, d = .str x ∧ asc x ∧ x.length ≤ 2 := by
  simp only [List.mem_cons, List.not_mem_nil, or_false] at h
  rcases h with rfl | rfl | rfl | rfl | rfl | rfl | rfl | rfl <;> exact ⟨_, rfl, sg_asc (by decide +kernel), by decide +kernel⟩
theorem mrs_ok {d : SD} (h : d ∈ mrs61) : ∃ x : Str, d = .str x ∧ asc x ∧ x.length ≤ 9 := by
  simp only [List.mem_cons, List.not_mem_nil, or_false] at h
  rcases h with rfl | rfl | rfl | rfl | rfl | rfl | rfl | rfl <;> exact ⟨_, rfl, sg_asc (by decide +kernel), by decide +kernel⟩
theorem ixN_nat61 {n j : Nat} (h : j < n) : ixN n (j : Int) = some j := by
  unfold ixN
  simp
  first | omega | exact h | (intro; omega)
def sp__law_bent : DSp := fun ds μ Q _ => ∃ (h : Addr) (T : Nat) (t : Str), ds = [.ref h, .str t] ∧ HandAt μ h T ∧ T ≤ 80000000 ∧ asc t ∧ t.length ≤ 10000 ∧ ∀ (t' : Str) μ', asc t' → t'.length ≤ 2 * t.length + 20 → HandAt μ' h (T + 8) → LeX h μ μ' → Q (.str t') μ'
theorem len__law_bent : ∀ ds μ Q E, sp__law_bent ds μ Q E → ds.length = 2 := by rintro ds μ Q E ⟨h, T, t, rfl, _⟩; rfl
def t__law_bent : DTS := (dSeq (dPar 2 3 (dCons (dText1 drSplitM (dVar 1) (dC (.str "\n"))) (dCons (dCall sp__law_take [] (dCons (dVar 0) (dCons (dC (.int 10)) dNil))) dNil)))
    (dSeq (dPar 4 5 (dCons (dCall sp__law_take [] (dCons (dVar 0) (dCons (dCB drLen (dCons (dVar 2) dNil)) dNil))) (dCons (dCall sp__law_take [] (dCons (dVar 0) (dCons (dCB drLen (dCons (dVar 2) dNil)) dNil))) dNil)))
    (dSeq (dPar 6 7 (dCons (dCall sp__law_take [] (dCons (dVar 0) (dCons (dOp dAdd (dCB drLen (dCons (dVar 1) dNil)) (dC (.int 1))) dNil))) (dCons (dText1 drSplit (dOp dIx (dVar 2) (dVar 4)) (dC (.str " "))) dNil)))
    (dSeq (dSet (dCall sp__law_take [] (dCons (dVar 0) (dCons (dCB drLen (dCons (dVar 7) dNil)) dNil))) 8)
    (dSeq (dSet (dCall sp__law_of [] (dCons (dVar 0) (dCons (dLst (dCons (dC (.str " ")) (dCons (dC (.str "  ")) (dCons (dC (.str "a")) (dCons (dC (.str "\n")) (dCons (dC (.str "-")) (dCons (dC (.str "A")) (dCons (dC (.str "7")) (dCons (dC (.str "\t")) dNil))))))))) dNil))) 9)
    (dSeq (dIfS (dTest (dOp dLt (dVar 3) (dC (.int 3)))) (dSeq (dSet (dSl (dVar 1) (dPart (dOp dAdd (dVar 6) (dCB drInt (dCons (dOp dLt (dVar 3) (dC (.int 2))) dNil)))) dNoPart) 10)
    (dRet (dOp dAdd (dOp dAdd (dSl (dVar 1) dNoPart (dPart (dVar 6))) (dOp dMul (dVar 9) (dCB drInt (dCons (dOp dGt (dVar 3) (dC (.int 0))) dNil)))) (dVar 10)))) dNext)
    (dSeq (dIfS (dTest (dOp (dEq false) (dVar 3) (dC (.int 3)))) (dSet (dOp dAddM (dSl (dVar 2) dNoPart (dPart (dVar 4))) (dSl (dVar 2) (dPart (dOp dAdd (dVar 4) (dC (.int 1)))) dNoPart)) 2) (dIfS (dTest (dOp (dEq false) (dVar 3) (dC (.int 4)))) (dSet (dOp dAddM (dSl (dVar 2) dNoPart (dPart (dOp dAdd (dVar 4) (dC (.int 1))))) (dSl (dVar 2) (dPart (dVar 4)) dNoPart)) 2) (dIfS (dTest (dOp (dEq false) (dVar 3) (dC (.int 5)))) (dSeq (dSet (dOp dIx (dVar 2) (dVar 4)) 11)
    (dSeq (dSet (dOp dAddM (dSl (dVar 2) dNoPart (dPart (dVar 4))) (dSl (dVar 2) (dPart (dOp dAdd (dVar 4) (dC (.int 1)))) dNoPart)) 2)
    (dDrop (dLM dmInsert (dVar 2) (dCons (dCB (drI2 fun i j => if j < i then j else i) (dCons (dVar 5) (dCons (dCB drLen (dCons (dVar 2) dNil)) dNil))) (dCons (dVar 11) dNil)))))) (dIfS (dTest (dOp (dEq false) (dVar 3) (dC (.int 6)))) (dAsg (dOp dAdd (dC (.str "  ")) (dOp dIx (dVar 2) (dVar 4))) (hSub (dVar 2) (dVar 4) dsetL)) (dIfS (dTest (dOp (dEq false) (dVar 3) (dC (.int 7)))) (dAsg (dSl (dOp dIx (dVar 2) (dVar 4)) (dPart (dC (.int 2))) dNoPart) (hSub (dVar 2) (dVar 4) dsetL)) (dSeq (dSet (dOp dMul (dLst (dCons (dCall sp__law_of [] (dCons (dVar 0) (dCons (dLst (dCons (dC (.str "")) (dCons (dC (.str "-")) (dCons (dC (.str "move")) (dCons (dC (.str "create")) (dCons (dC (.str "remove")) (dCons (dC (.str "None")) (dCons (dC (.str "longerkey")) (dCons (dC (.str "a")) dNil))))))))) dNil))) dNil)) (dCB drInt (dCons (dOp (dEq false) (dVar 3) (dC (.int 8))) dNil))) 12)
    (dAsg (dJoin (dC (.str " ")) (dOp dAdd (dOp dAdd (dSl (dVar 7) dNoPart (dPart (dVar 8))) (dVar 12)) (dSl (dVar 7) (dPart (dOp dAdd (dVar 8) (dC (.int 1)))) dNoPart))) (hSub (dVar 2) (dVar 4) dsetL))))))))
    (dRet (dJoin (dC (.str "\n")) (dVar 2))))))))))
theorem read__law_bent : ∀ ds μ Q E, sp__law_bent ds μ Q E → t__law_bent { nx := fun _ μ' => Q .non μ', rt := Q } (begin_ ["_law_hand_here", "_law_written", "_law_lines", "_law_way", "_law_at", "_law_other", "_law_spot", "_law_words", "_law_place", "_law_sign", "_law_rest", "_law_line", "_law_more"] ds) μ := by
  rintro ds μ Q E ⟨h, T, t, rfl, H, hT, ta, tl, q⟩
  unfold t__law_bent
  have tsz : t.length ≤ sizeLine := by rw [sizeLine_eq]; omega
  have B := split_bag feed1 ta
  have ln := split_pos t "\n"
  generalize hls : Txt.split t "\n" = ls at B ln
  refine r_var rfl ⟨rfl, ?_⟩
  refine ⟨⟨feed_len, by rw [sizeLine_eq]; omega⟩, fun p hp => ?_⟩
  rw [hls]
  have hph : h ≠ p := H.ne hp
  have m0 : up μ p (.lst (ls.map SD.str)) p = some (.lst (sts ls)) := up_same
  have H0 := H.up (m := .lst (ls.map SD.str)) hph
  have x0 : LeX h μ (up μ p (.lst (ls.map SD.str))) := (LeX.refl h μ).up hp
  generalize up μ p (.lst (ls.map SD.str)) = μ0 at m0 H0 x0 ⊢
  have nls := B.n
  have lenS : (sts ls).length = ls.length := by simp [sts]
  refine r_var rfl ?_
  refine ⟨h, 10, _, rfl, by decide, by decide, by omega, H0, fun way μ1 w0 w1 H1 l1 => ?_⟩
  have m1 := l1 _ _ (Ne.symm hph) m0
  dsimp only [dNil]
  change dSeq _ _ _ [some (.ref h), some (.str t), some (.ref p), some (.int way), none, none, none, none, none, none, none, none, none] _
  refine r_var rfl ?_
  refine r_var rfl ?_
  refine l_lenR m1 ?_
  refine ⟨h, _, _, rfl, by rw [lenS]; omega, by rw [lenS]; omega, by omega, H1, fun at_ μ2 a0 a1 H2 l2 => ?_⟩
  have m2 := l2 _ _ (Ne.symm hph) m1
  rw [lenS] at a1
  obtain ⟨at_, rfl⟩ := Int.eq_ofNat_of_zero_le a0
  refine r_var rfl ?_
  refine r_var rfl ?_
  refine l_lenR m2 ?_
  refine ⟨h, _, _, rfl, by rw [lenS]; omega, by rw [lenS]; omega, by omega, H2, fun oth μ3 o0 o1 H3 l3 => ?_⟩
  have m3 := l3 _ _ (Ne.symm hph) m2
  rw [lenS] at o1
  obtain ⟨oth, rfl⟩ := Int.eq_ofNat_of_zero_le o0
  have hat : at_ < ls.length := by omega
  obtain ⟨li, hli⟩ : ∃ li, ls[at_]? = some li := ⟨_, List.getElem?_eq_getElem hat⟩
  have lim := List.mem_of_getElem? hli
  obtain ⟨lia, lil⟩ := B.mem lim
  have atL : ∀ {μ' : Mu}, atI (sts ls) (at_ : Int) = some (.str li) := atI_nat (by unfold sts; rw [List.getElem?_map, hli]; rfl)
  dsimp only [dNil]
  change dSeq _ _ _ [some (.ref h), some (.str t), some (.ref p), some (.int way), some (.int (at_ : Nat)), some (.int (oth : Nat)), none, none, none, none, none, none, none] _
  refine r_var rfl ?_
  refine r_var rfl ?_
  refine l_lenS tsz ?_
  refine i_add ?_
  refine ⟨h, _, _, rfl, by omega, by omega, by omega, H3, fun spot μ4 s0 s1 H4 l4 => ?_⟩
  have m4 := l4 _ _ (Ne.symm hph) m3
  obtain ⟨spot, rfl⟩ := Int.eq_ofNat_of_zero_le s0
  refine r_var rfl ?_
  refine r_var rfl ?_
  refine ix_ref m4 (atL (μ' := μ4)) ⟨rfl, ?_⟩
  have Bw := split_bag blank1 lia
  have wn := split_pos li " "
  refine ⟨⟨blank_len, by rw [sizeLine_eq]; omega⟩, ?_⟩
  generalize hws : Txt.split li " " = ws at Bw wn
  have lenW : (sts ws).length = ws.length := by simp [sts]
  have nws := Bw.n
  dsimp only [dNil]
  change dSeq _ _ _ [some (.ref h), some (.str t), some (.ref p), some (.int way), some (.int (at_ : Nat)), some (.int (oth : Nat)), some (.int (spot : Nat)), some (.lst (sts ws)), none, none, none, none, none] _
  refine r_var rfl ?_
  refine r_var rfl ?_
  refine l_len ?_
  refine ⟨h, _, _, rfl, by rw [lenW]; omega, by rw [lenW]; omega, by omega, H4, fun pl μ5 p0 p1 H5 l5 => ?_⟩
  have m5 := l5 _ _ (Ne.symm hph) m4
  obtain ⟨pl, rfl⟩ := Int.eq_ofNat_of_zero_le p0
  dsimp only
  change dSeq _ _ _ [some (.ref h), some (.str t), some (.ref p), some (.int way), some (.int (at_ : Nat)), some (.int (oth : Nat)), some (.int (spot : Nat)), some (.lst (sts ws)), some (.int (pl : Nat)), none, none, none, none] _
  refine r_var rfl ?_
  refine ⟨(by show 8 ≤ sizeLine; decide), ?_⟩
  refine ⟨h, _, sgs61, _, rfl, .inl rfl, (fun z => by cases z), by show 8 ≤ 1000000; decide, by omega, H5, fun j6 sd μ6 hj6 H6 l6 => ?_⟩
  obtain ⟨sg, rfl, sga, sgl⟩ := sgs_ok (List.mem_of_getElem? hj6)
  have m6 := l6 _ _ (Ne.symm hph) m5
  have x6 := x0.trans (l1.trans (l2.trans (l3.trans (l4.trans (l5.trans l6)))))
  dsimp only
  change dSeq _ _ _ [some (.ref h), some (.str t), some (.ref p), some (.int way), some (.int (at_ : Nat)), some (.int (oth : Nat)), some (.int (spot : Nat)), some (.lst (sts ws)), some (.int (pl : Nat)), some (.str sg), none, none, none] _
  have x60 := x6
  clear l1 l2 l3 l4 l5 l6 H0 H1 H2 H3 H4 H5 m0 m1 m2 m3 m4 m5 x0
  refine r_var rfl ?_
  refine i_lt ?_
  by_cases h3 : way < 3
  · rw [decide_eq_true h3]
    refine ifT rfl ?_
    refine r_var rfl ?_
    refine r_var rfl ?_
    refine r_var rfl ?_
    refine i_lt ?_
    refine int_bl ?_
    refine i_add ?_
    refine sl_S61 tsz ?_
    obtain ⟨c1a, c1l⟩ := asc_cut ta (some ((spot : Nat) + (if decide (way < 2) = true then 1 else 0))) none
    dsimp only
    refine r_var rfl ?_
    refine r_var rfl ?_
    refine sl_S61 tsz ?_
    obtain ⟨c2a, c2l⟩ := asc_cut ta none (some (spot : Nat))
    refine r_var rfl ?_
    refine r_var rfl ?_
    refine i_gt ?_
    refine int_bl ?_
    have hk : (if decide (0 < way) = true then (1 : Int) else 0).toNat ≤ 1 := by split <;> decide
    obtain ⟨ra, rl⟩ := asc_rep sga _ hk
    refine s_mul ⟨by split <;> decide, by split <;> decide, by
      have : sg.length * (if decide (0 < way) = true then (1 : Int) else 0).toNat ≤ 2 * 1 := Nat.mul_le_mul sgl hk
      rw [sizeLine_eq]; omega⟩ ?_
    refine s_add (by rw [sizeLine_eq]; omega) ?_
    refine r_var rfl ?_
    have al : ∀ a b : Str, (a ++ b).length = a.length + b.length := fun a b => Str.length_append a b
    refine s_add (by rw [al, sizeLine_eq]; omega) ?_
    refine q _ μ6 (asc_app (asc_app c2a ra) c1a) ?_ (H6.mono (by omega)) x6
    rw [al, al]; omega
  · rw [decide_eq_false h3]
    refine ifF rfl ?_
    simp only [dNext]
    have fin : ∀ (p' : Addr) (ls' : List Str) (μ' : Mu) (r : List (Option SD)), HandAt μ' h (T + 8) → LeX h μ μ' → μ' p' = some (.lst (sts ls')) → Bag ls' (2 * t.length + 20) → (dRet (dJoin (dC (.str "\n")) (dVar 2))) { nx := fun _ μ' => Q .non μ', rt := Q } (some (.ref h) :: some (.str t) :: some (.ref p') :: r) μ' := fun p' ls' μ' r Hf xf mf Bf => by
      have f1 : ("\n" : Str).length = 1 := by decide +kernel
      obtain ⟨ja, jl⟩ := join_bag (y := "\n") Bf f1 (sg_asc (by decide +kernel))
      refine ⟨rfl, ?_⟩
      refine r_var rfl ?_
      refine join_R61 mf (by have := Bf.w; unfold wtS at this; rw [f1]; omega) ?_
      exact q _ μ' ja jl Hf xf
    have Hb := H6.mono (show T + 1 + 1 + 1 + 1 + 1 + 1 ≤ T + 8 by omega)
    have new2 : ∀ (ls' : List Str) (r : List (Option SD)) (p2 : Addr), μ6 p2 = none → Bag ls' (2 * t.length + 20) → (dRet (dJoin (dC (.str "\n")) (dVar 2))) { nx := fun _ μ' => Q .non μ', rt := Q } (some (.ref h) :: some (.str t) :: some (.ref p2) :: r) (up μ6 p2 (.lst (sts ls'))) := fun ls' r p2 hp2 Bn =>
      fin p2 ls' _ r (Hb.up (Hb.ne hp2)) (x6.up (none_lex x6 (Hb.ne hp2) hp2)) up_same Bn
    have seti : ∀ (ls' : List Str) (μ7 : Mu) (r : List (Option SD)), HandAt μ7 h (T + 8) → LeX h μ μ7 → Bag ls' (2 * t.length + 20) → (dRet (dJoin (dC (.str "\n")) (dVar 2))) { nx := fun _ μ' => Q .non μ', rt := Q } (some (.ref h) :: some (.str t) :: some (.ref p) :: r) (up μ7 p (.lst (sts ls'))) := fun ls' μ7 r H7 x7 Bn =>
      fin p ls' _ r (H7.up hph) (x7.up hp) up_same Bn
    have setS : ∀ x : Str, (sts ls).set at_ (.str x) = sts (ls.set at_ x) := fun x => by unfold sts; rw [List.map_set]
    have tk : ∀ k, (sts ls).take k = sts (ls.take k) := fun k => by unfold sts; rw [List.map_take]
    have dr : ∀ k, (sts ls).drop k = sts (ls.drop k) := fun k => by unfold sts; rw [List.map_drop]
    have ap : ∀ a b : List Str, sts a ++ sts b = sts (a ++ b) := fun a b => by unfold sts; rw [List.map_append]
    have stl : ∀ a : List Str, (sts a).length = a.length := fun a => by simp [sts]
    have i1 : ((at_ : Nat) : Int) + 1 = ((at_ + 1 : Nat) : Int) := by omega
    refine r_var rfl ?_
    refine i_eq ?_
    by_cases w3 : way = 3
    · rw [decide_eq_true w3]
      refine ifT rfl ?_
      refine r_var rfl ?_
      refine r_var rfl ?_
      refine sl_R61 m6 ?_
      refine r_var rfl ?_
      refine r_var rfl ?_
      refine i_add ?_
      refine sl_R61 m6 ?_
      rw [i1, cutL_to, cutL_from, tk, dr]
      refine addM_LL (by rw [stl, stl, List.length_take, List.length_drop, sizeLine_eq]; omega) fun p2 hp2 => ?_
      rw [ap]
      exact new2 _ _ p2 hp2 (((B.take at_).append (B.drop (at_ + 1))).mono (by omega))
    rw [decide_eq_false w3]
    refine ifF rfl ?_
    refine r_var rfl ?_
    refine i_eq ?_
    by_cases w4 : way = 4
    · rw [decide_eq_true w4]
      refine ifT rfl ?_
      refine r_var rfl ?_
      refine r_var rfl ?_
      refine i_add ?_
      refine sl_R61 m6 ?_
      refine r_var rfl ?_
      refine r_var rfl ?_
      refine sl_R61 m6 ?_
      rw [i1, cutL_to, cutL_from, tk, dr]
      refine addM_LL (by rw [stl, stl, List.length_take, List.length_drop, sizeLine_eq]; omega) fun p2 hp2 => ?_
      rw [ap]
      exact new2 _ _ p2 hp2 (((B.take (at_ + 1)).append (B.drop at_)).mono (by omega))
    rw [decide_eq_false w4]
    refine ifF rfl ?_
    refine r_var rfl ?_
    refine i_eq ?_
    by_cases w5 : way = 5
    · rw [decide_eq_true w5]
      refine ifT rfl ?_
      refine r_var rfl ?_
      refine r_var rfl ?_
      refine ix_ref m6 (atL (μ' := μ6)) ?_
      dsimp only
      refine r_var rfl ?_
      refine r_var rfl ?_
      refine sl_R61 m6 ?_
      refine r_var rfl ?_
      refine r_var rfl ?_
      refine i_add ?_
      refine sl_R61 m6 ?_
      rw [i1, cutL_to, cutL_from, tk, dr]
      refine addM_LL (by rw [stl, stl, List.length_take, List.length_drop, sizeLine_eq]; omega) fun p2 hp2 => ?_
      rw [ap]
      have dl : ls.drop at_ = li :: ls.drop (at_ + 1) := by
        rw [List.drop_eq_getElem_cons hat]
        rw [List.getElem?_eq_getElem hat] at hli
        rw [Option.some.inj hli]
      have wL : wtS (ls.take at_ ++ ls.drop (at_ + 1)) + (li.length + 1) = wtS ls := by
        have c := wtS_cut ls at_
        rw [dl, wtS_cons] at c
        rw [wtS_append]; omega
      have La : ∀ x ∈ ls.take at_ ++ ls.drop (at_ + 1), asc x := fun x hx => (List.mem_append.mp hx).elim (fun z => B.a x (List.mem_of_mem_take z)) fun z => B.a x (List.mem_of_mem_drop z)
      have Ln : (ls.take at_ ++ ls.drop (at_ + 1)).length ≤ ls.length := by rw [List.length_append, List.length_take, List.length_drop]; omega
      generalize ls.take at_ ++ ls.drop (at_ + 1) = L at wL La Ln
      dsimp only
      refine r_var rfl ⟨isSome_ref (xs := sts L) up_same, ?_⟩
      refine r_var rfl ?_
      refine r_var rfl ?_
      refine l_lenR (xs := sts L) up_same ?_
      refine min61 ?_
      obtain ⟨k, hk⟩ : ∃ k : Nat, (if (((sts L).length : Nat) : Int) < ((oth : Nat) : Int) then (((sts L).length : Nat) : Int) else ((oth : Nat) : Int)) = (k : Int) := by
        split
        · exact ⟨_, rfl⟩
        · exact ⟨_, rfl⟩
      have kb : (k : Int) ≤ oth := by rw [← hk]; split <;> omega
      rw [hk]
      refine r_var rfl ?_
      refine dm_insert (xs := sts L) up_same (lt_line (m := 100000) (by rw [stl]; omega) (by omega)) (by omega) (by omega) ?_
      rw [up_up, Int.toNat_natCast, show (sts L).take k ++ [SD.str li] ++ (sts L).drop k = sts (L.take k ++ [li] ++ L.drop k) by unfold sts; simp [List.map_take, List.map_drop]]
      refine new2 _ _ p2 hp2 ⟨?_, fun x hx => ?_⟩
      · have c := wtS_cut L k
        have bw := B.w
        rw [wtS_append, wtS_append, wtS_cons, wtS_nil]; omega
      · rcases List.mem_append.mp hx with hx | hx
        · rcases List.mem_append.mp hx with hx | hx
          · exact La x (List.mem_of_mem_take hx)
          · rw [List.mem_singleton.mp hx]; exact lia
        · exact La x (List.mem_of_mem_drop hx)
    rw [decide_eq_false w5]
    refine ifF rfl ?_
    refine r_var rfl ?_
    refine i_eq ?_
    by_cases w6 : way = 6
    · rw [decide_eq_true w6]
      refine ifT rfl ?_
      refine r_var rfl ?_
      refine r_var rfl ?_
      refine ix_ref m6 (atL (μ' := μ6)) ?_
      have e2 : ("  " : Str).length = 2 := by decide +kernel
      have al : ("  " ++ li : Str).length = 2 + li.length := by
        have := Str.length_append ("  " : Str) li
        rw [e2] at this; exact this
      refine s_add (by rw [e2, sizeLine_eq]; omega) ?_
      refine r_var rfl ?_
      refine r_var rfl ?_
      refine setL_ok m6 (ixN_nat61 (by rw [lenS]; exact hat)) ?_
      rw [setS]
      exact seti _ μ6 _ Hb x6 ((B.set at_ (asc_app (sg_asc (x := "  ") (by decide +kernel)) lia)).mono (by rw [al]; omega))
    rw [decide_eq_false w6]
    refine ifF rfl ?_
    refine r_var rfl ?_
    refine i_eq ?_
    by_cases w7 : way = 7
    · rw [decide_eq_true w7]
      refine ifT rfl ?_
      refine r_var rfl ?_
      refine r_var rfl ?_
      refine ix_ref m6 (atL (μ' := μ6)) ?_
      obtain ⟨ca, cl⟩ := asc_cut lia (some 2) none
      refine sl_S61 (by rw [sizeLine_eq]; omega) ?_
      refine r_var rfl ?_
      refine r_var rfl ?_
      refine setL_ok m6 (ixN_nat61 (by rw [lenS]; exact hat)) ?_
      rw [setS]
      exact seti _ μ6 _ Hb x6 ((B.set at_ ca).mono (by omega))
    rw [decide_eq_false w7]
    refine ifF rfl ?_
    refine r_var rfl ?_
    refine ⟨(by show 8 ≤ sizeLine; decide), ?_⟩
    refine ⟨h, _, mrs61, _, rfl, .inl rfl, (fun z => by cases z), by show 8 ≤ 1000000; decide, by omega, H6, fun j7 md μ7 hj7 H7 l7 => ?_⟩
    obtain ⟨mo, rfl, moa, mol⟩ := mrs_ok (List.mem_of_getElem? hj7)
    have m7 := l7 _ _ (Ne.symm hph) m6
    refine ⟨(by show 1 ≤ sizeLine; decide), ?_⟩
    refine r_var rfl ?_
    refine i_eq ?_
    refine int_bl ?_
    refine l_mul ⟨by split <;> decide, by split <;> decide, by
      show 1 * _ ≤ _
      rw [sizeLine_eq]
      split <;> decide⟩ ?_
    obtain ⟨more, hmore, Bm⟩ : ∃ more : List Str, (List.replicate (if decide (way = 8) = true then (1 : Int) else 0).toNat [SD.str mo]).flatten = sts more ∧ Bag more 10 := by
      split
      · exact ⟨[mo], rfl, (Bag.one moa).mono (by omega)⟩
      · exact ⟨[], rfl, ⟨by rw [wtS_nil]; omega, fun x hx => by cases hx⟩⟩
    rw [hmore]
    have wtk : ∀ k, (sts ws).take k = sts (ws.take k) := fun k => by unfold sts; rw [List.map_take]
    have wdr : ∀ k, (sts ws).drop k = sts (ws.drop k) := fun k => by unfold sts; rw [List.map_drop]
    have i2 : ((pl : Nat) : Int) + 1 = ((pl + 1 : Nat) : Int) := by omega
    have mon := Bm.n
    dsimp only
    refine ⟨rfl, ?_⟩
    refine r_var rfl ?_
    refine r_var rfl ?_
    refine sl_L ?_
    rw [cutL_to, wtk]
    refine r_var rfl ?_
    refine l_add (by rw [stl, stl, List.length_take, sizeLine_eq]; omega) ?_
    rw [ap]
    refine r_var rfl ?_
    refine r_var rfl ?_
    refine i_add ?_
    refine sl_L ?_
    rw [i2, cutL_from, wdr]
    refine l_add (by rw [stl, stl, List.length_append, List.length_take, List.length_drop, sizeLine_eq]; omega) ?_
    rw [ap]
    have BW := ((Bw.take pl).append Bm).append (Bw.drop (pl + 1))
    have wsum : wtS ((ws.take pl ++ more) ++ ws.drop (pl + 1)) ≤ li.length + 1 + 10 := by
      have c1 := wtS_cut ws pl
      have c2 := wtS_cut (ws.drop pl) 1
      rw [List.drop_drop] at c2
      have b1 := Bw.w
      have b2 := Bm.w
      rw [wtS_append, wtS_append]
      omega
    have BX : Bag ((ws.take pl ++ more) ++ ws.drop (pl + 1)) (li.length + 1 + 10) := ⟨wsum, BW.a⟩
    generalize (ws.take pl ++ more) ++ ws.drop (pl + 1) = nw at BX
    have b1 : (" " : Str).length = 1 := by decide +kernel
    obtain ⟨ja, jl⟩ := join_bag (y := " ") BX b1 (sg_asc (by decide +kernel))
    refine join_L61 (by have := BX.w; unfold wtS at this; rw [b1]; omega) ?_
    refine r_var rfl ?_
    refine r_var rfl ?_
    refine setL_ok m7 (ixN_nat61 (by rw [lenS]; exact hat)) ?_
    rw [setS]
    exact seti _ μ7 _ (H7.mono (by omega)) (x6.trans l7) ((B.set at_ ja).mono (by omega))
end LK
namespace LK
open PySem PySem.Spec PyProof.Rows L2 DS MA PySem.Builtin PySem.Builtin.Str
def keyT (w : Str) : Bool := keyB (.str w)
theorem keyT_sgn {w : Str} (h : keyT w = true) : 1 ≤ w.length ∧ w.length ≤ 8 ∧ ∀ c ∈ cpl w, c ∈ cpl abcS := by
  unfold keyT at h
  rw [keyB_eq, Bool.and_eq_true, Bool.and_eq_true] at h
  obtain ⟨⟨a, b⟩, c⟩ := h
  exact ⟨of_decide_eq_true a, of_decide_eq_true b, fun x hx => of_decide_eq_true (List.all_eq_true.mp c x hx)⟩
theorem abc_le : ∀ c ∈ cpl abcS, c ≠ 32 ∧ c ≠ 10 ∧ c < 128 := by decide +kernel
theorem keyT_ne {w : Str} (h : keyT w = true) {c : Nat} (hc : c ∈ cpl w) : c ≠ 32 := (abc_le c ((keyT_sgn h).2.2 c hc)).1
theorem cpl_len (x : Str) : (cpl x).length = x.length := by simp [cpl, Str.length]
theorem cpl_sp : cpl " " = [32] := by decide +kernel
theorem cpl_blanks (n : Nat) : cpl (repS " " n) = List.replicate n 32 := by
  rw [cpl_rep, cpl_sp]
  induction n with
  | zero => rfl
  | succ n ih => rw [List.replicate_succ, List.flatten_cons, ih]; rfl
theorem drop_takeWhile {p : Nat → Bool} : ∀ l : List Nat, l.drop (l.takeWhile p).length = l.dropWhile p
  | [] => rfl
  | a :: r => by
    rw [List.takeWhile_cons, List.dropWhile_cons]
    by_cases h : p a = true
    · rw [if_pos h, if_pos h]; exact drop_takeWhile r
    · rw [if_neg h, if_neg h]; rfl
theorem lst_cpl (x : Str) : cpl (Txt.lstripChars x " ") = (cpl x).dropWhile fun c => c == 32 := by
  have e : Txt.lstripChars x " " = Builtin.Str.strSub x (stripLo (" " : Str).cps.contains true x) x.length := by
    unfold Txt.lstripChars
    rw [stripBy_eq]; rfl
  have g : (" " : Str).cps.contains = fun c => c == 32 := by
    funext c
    have : (" " : Str).cps = #[32] := by decide +kernel
    rw [this]; simp [Array.contains, BEq.beq]
  rw [e, cpl, StrLaws.strSub_toList]
  have l : stripLo (" " : Str).cps.contains true x = ((cpl x).takeWhile fun c => c == 32).length := by
    rw [g]; rfl
  rw [l, show x.cps.toList = cpl x from rfl, drop_takeWhile]
  refine List.take_of_length_le ?_
  rw [← drop_takeWhile, List.length_drop, cpl_len]
  exact Nat.le_refl _
theorem repl32 : ∀ l : List Nat, StrLaws.replL [32] [] l = l.filter fun c => c != 32
  | [] => StrLaws.replL_nil
  | c :: r => by
    by_cases h : c = 32
    · subst h
      rw [StrLaws.replL_hit (by simp) (by simp)]
      simp [repl32 r]
    · rw [StrLaws.replL_miss (by simp [h]), repl32 r]
      simp [h]
theorem rep_cpl (x : Str) : cpl (Txt.replace x " " "") = (cpl x).filter fun c => c != 32 := by
  have := StrLaws.replace_list (x := x) (y := " ") (z := "") (by decide +kernel)
  rw [show (" " : Str).cps.toList = [32] from cpl_sp, show ("" : Str).cps.toList = [] from rfl] at this
  rw [cpl, this, repl32]; rfl
/-- what a line writes -/
def splitT (l : Str) : Option (Nat × Str) := if (l.length - (Txt.lstripChars l " ").length) % 2 = 0 ∧ keyT (Txt.lstripChars l " ") = true then some ((l.length - (Txt.lstripChars l " ").length) / 2, Txt.lstripChars l " ") else none
/-- the law's own look at it -/
def fineT (l : Str) : Prop := l = repS " " (l.length - (Txt.replace l " " "").length) ++ Txt.replace l " " "" ∧ (l.length - (Txt.replace l " " "").length) % 2 = 0 ∧ keyT (Txt.replace l " " "") = true
theorem takeWhile_rep : ∀ l : List Nat, l.takeWhile (fun c => c == 32) = List.replicate (l.takeWhile fun c => c == 32).length 32
  | [] => rfl
  | c :: r => by
    rw [List.takeWhile_cons]
    by_cases h : c = 32
    · subst h
      rw [if_pos (by simp), List.length_cons, List.replicate_succ, ← takeWhile_rep r]
    · rw [if_neg (by simp [h])]; rfl
theorem filter_rep (n : Nat) : (List.replicate n 32).filter (fun c => c != 32) = [] := by
  induction n with
  | zero => rfl
  | succ n ih => rw [List.replicate_succ, List.filter_cons]; simpa using ih
theorem dropWhile_rep {k : List Nat} (h : k.head? ≠ some 32) (n : Nat) : (List.replicate n 32 ++ k).dropWhile (fun c => c == 32) = k := by
  induction n with
  | zero =>
    rw [List.replicate_zero, List.nil_append]
    cases k with
    | nil => rfl
    | cons a r => rw [List.dropWhile_cons, if_neg (by simpa using h)]
  | succ n ih => rw [List.replicate_succ, List.cons_append, List.dropWhile_cons, if_pos (by simp)]; exact ih
theorem blanks_lst {k : Str} (h : keyT k = true) (n : Nat) : Txt.lstripChars (repS " " n ++ k) " " = k := by
  apply cpl_inj
  rw [lst_cpl, cpl_app, cpl_blanks]
  refine dropWhile_rep ?_ n
  intro z
  cases e : cpl k with
  | nil => rw [e] at z; cases z
  | cons a r =>
    rw [e] at z
    have : a = 32 := by simpa using z
    exact keyT_ne h (c := a) (by rw [e]; exact List.mem_cons_self ..) this
theorem filter_key {k : Str} (h : keyT k = true) : (cpl k).filter (fun c => c != 32) = cpl k := List.filter_eq_self.mpr fun c hc => by
  have := keyT_ne h hc
  simpa using this
theorem blanks_rep {k : Str} (h : keyT k = true) (n : Nat) : Txt.replace (repS " " n ++ k) " " "" = k := by
  apply cpl_inj
  rw [rep_cpl, cpl_app, cpl_blanks, List.filter_append, filter_rep, List.nil_append, filter_key h]
theorem blanks_len (k : Str) (n : Nat) : (repS " " n ++ k).length - k.length = n := by
  rw [← cpl_len, ← cpl_len, cpl_app, cpl_blanks, List.length_append, List.length_replicate]; omega
/-- each line with a key at its end is blanks and the key -/
theorem lst_parts {l : Str} : ∃ n, l = repS " " n ++ Txt.lstripChars l " " := by
  refine ⟨((cpl l).takeWhile fun c => c == 32).length, ?_⟩
  apply cpl_inj
  rw [cpl_app, cpl_blanks, lst_cpl, ← takeWhile_rep, List.takeWhile_append_dropWhile]
theorem splitT_some {l : Str} {d : Nat} {k : Str} (h : splitT l = some (d, k)) : l = repS " " (2 * d) ++ k ∧ keyT k = true := by
  unfold splitT at h
  split at h
  · rename_i hc
    obtain ⟨n, e⟩ := lst_parts (l := l)
    cases h
    obtain ⟨a, b⟩ := hc
    refine ⟨?_, b⟩
    generalize hk : Txt.lstripChars l " " = k at *
    have h2 : l.length - k.length = n := by rw [e]; exact blanks_len k n
    rw [h2] at a ⊢
    rw [show 2 * (n / 2) = n by omega]
    exact e
  · cases h
theorem splitT_mk {k : Str} (h : keyT k = true) (d : Nat) : splitT (repS " " (2 * d) ++ k) = some (d, k) := by
  unfold splitT
  rw [blanks_lst h, blanks_len, if_pos ⟨by omega, h⟩, show 2 * d / 2 = d by omega]
theorem fineT_of {l : Str} {d : Nat} {k : Str} (h : splitT l = some (d, k)) : fineT l ∧ Txt.replace l " " "" = k ∧ l.length - k.length = 2 * d := by
  obtain ⟨e, hk⟩ := splitT_some h
  have r : Txt.replace l " " "" = k := by rw [e]; exact blanks_rep hk _
  have n : l.length - k.length = 2 * d := by rw [e]; exact blanks_len k _
  refine ⟨?_, r, n⟩
  unfold fineT
  rw [r, n]
  exact ⟨e, by omega, hk⟩
theorem fineT_none {l : Str} (h : splitT l = none) : ¬ fineT l := fun ⟨a, b, c⟩ => by
  generalize hk : Txt.replace l " " "" = k at *
  generalize hn : l.length - k.length = n at *
  have : splitT l = some (n / 2, k) := by
    rw [a, show n = 2 * (n / 2) by omega, splitT_mk c, show 2 * (n / 2) / 2 = n / 2 by omega]
  rw [this] at h; cases h
structure RS where
  ks : List Str
  f : Str → List Str
  lev : Str → Nat
  way : List Str
def RS.nil : RS := ⟨[], fun _ => [], fun _ => 1, []⟩
def RS.home (s : RS) (d : Nat) : Str := s.way.getD (d - 1) ""
def canR (s : RS) (d : Nat) (k : Str) : Bool := !decide (k ∈ s.ks) && (!decide (s.ks.length = 60) && (decide (d < 20) && if s.way.isEmpty then decide (d = 0) else (decide (1 ≤ d) && decide (d ≤ s.way.length))))
def RS.add (s : RS) (d : Nat) (k : Str) : RS := if d = 0 then ⟨s.ks ++ [k], s.f, s.lev, [k]⟩ else ⟨s.ks ++ [k], putIn s.f (s.home d) k (s.f (s.home d)).length, levIn s.lev (s.home d) k, s.way.take d ++ [k]⟩
structure RSOk (s : RS) : Prop where
  nd : s.ks.Nodup
  len : s.ks.length ≤ 60
  key : ∀ k ∈ s.ks, keyT k = true
  G : s.ks ≠ [] → Grow s.ks 20 s.ks.length s.f s.lev
  e : s.ks = [] → s = RS.nil
  ne : s.ks ≠ [] → s.way ≠ [] ∧ s.way[0]? = s.ks[0]?
  way : ∀ i k, s.way[i]? = some k → k ∈ s.ks ∧ s.lev k = i + 1
theorem RSOk.nil : RSOk RS.nil := ⟨List.nodup_nil, Nat.zero_le _, fun k h => (by cases h), fun h => (h rfl).elim, fun _ => rfl, fun h => (h rfl).elim, fun i k h => (by cases h)⟩
theorem canR_iff {s : RS} {d : Nat} {k : Str} : canR s d k = true ↔ k ∉ s.ks ∧ s.ks.length ≠ 60 ∧ d < 20 ∧ (if s.way = [] then d = 0 else 1 ≤ d ∧ d ≤ s.way.length) := by
  unfold canR
  rw [Bool.and_eq_true, Bool.and_eq_true, Bool.and_eq_true]
  have : (if s.way.isEmpty = true then decide (d = 0) else (decide (1 ≤ d) && decide (d ≤ s.way.length))) = true ↔ (if s.way = [] then d = 0 else 1 ≤ d ∧ d ≤ s.way.length) := by
    by_cases h : s.way = []
    · rw [h]; simp
    · have h2 : ¬ s.way.isEmpty = true := by simpa using h
      rw [if_neg h2, if_neg h, Bool.and_eq_true, decide_eq_true_iff, decide_eq_true_iff]
  rw [this]
  simp
theorem Grow.more {ks : List Str} {deep : Nat} {f : Str → List Str} {lev : Str → Nat} {x : Str} (h0 : ks ≠ []) (G : Grow ks deep ks.length f lev) : Grow (ks ++ [x]) deep ks.length f lev := by
  obtain ⟨a, b, c, d⟩ := G
  have t : (ks ++ [x]).take ks.length = ks := List.take_left' rfl
  rw [List.take_length] at b c d
  refine ⟨fun k hk => a k ?_, ?_, ?_, ?_⟩
  · rw [List.getElem?_append_left (by have := List.length_pos_iff.mpr h0; omega)] at hk; exact hk
  · rw [t]; exact b
  · rw [t]; exact c
  · rw [t]; exact d
theorem RS.home_mem {s : RS} {d : Nat} (o : RSOk s) (h1 : 1 ≤ d) (h2 : d ≤ s.way.length) : s.way[d - 1]? = some (s.home d) ∧ s.home d ∈ s.ks ∧ s.lev (s.home d) = d := by
  have e : s.way[d - 1]? = some (s.home d) := by
    unfold RS.home
    rw [List.getD_eq_getElem?_getD, List.getElem?_eq_getElem (by omega)]; rfl
  obtain ⟨a, b⟩ := o.way _ _ e
  exact ⟨e, a, by omega⟩
theorem RSOk.add {s : RS} {d : Nat} {k : Str} (o : RSOk s) (c : canR s d k = true) (hk : keyT k = true) : RSOk (s.add d k) := by
  obtain ⟨c1, c2, c3, c4⟩ := canR_iff.mp c
  have nd2 : (s.ks ++ [k]).Nodup := by
    rw [List.nodup_append]
    exact ⟨o.nd, by simp, fun a ha b hb => by rw [List.mem_singleton.mp hb]; exact fun z => c1 (z ▸ ha)⟩
  have len2 : (s.ks ++ [k]).length ≤ 60 := by
    have := o.len
    rw [List.length_append]; simp; omega
  have key2 : ∀ x ∈ s.ks ++ [k], keyT x = true := fun x hx => by
    rcases List.mem_append.mp hx with hx | hx
    · exact o.key x hx
    · rw [List.mem_singleton.mp hx]; exact hk
  have ne2 : s.ks ++ [k] ≠ [] := by simp
  unfold RS.add
  by_cases h0 : d = 0
  · rw [if_pos h0]
    have w0 : s.way = [] := Classical.byContradiction fun z => by rw [if_neg z] at c4; omega
    have k0 : s.ks = [] := Classical.byContradiction fun z => (o.ne z).1 w0
    rw [o.e k0]
    refine ⟨by simp [RS.nil], by simp [RS.nil], fun x hx => ?_, fun _ => Grow.init rfl (by decide), fun z => by simp [RS.nil] at z, fun _ => ⟨by simp, rfl⟩, fun i x hx => ?_⟩
    · have : x = k := by simpa [RS.nil] using hx
      rw [this]; exact hk
    · cases i with
      | zero =>
        have : x = k := by simpa using hx.symm
        subst this
        exact ⟨by simp [RS.nil], rfl⟩
      | succ i => simp at hx
  · rw [if_neg h0]
    have w0 : s.way ≠ [] := fun z => by rw [if_pos z] at c4; exact h0 c4
    rw [if_neg w0] at c4
    have k0 : s.ks ≠ [] := fun z => w0 (by rw [o.e z]; rfl)
    obtain ⟨e1, e2, e3⟩ := RS.home_mem o c4.1 c4.2
    have G := (o.G k0).more (x := k) k0
    have xk : (s.ks ++ [k])[s.ks.length]? = some k := by rw [List.getElem?_append_right (Nat.le_refl _)]; simp
    have S := G.step (home := s.home d) (j := (s.f (s.home d)).length) nd2 (List.length_pos_iff.mpr k0) xk (by rw [List.take_left' rfl]; exact e2) (by rw [e3]; exact c3)
    refine ⟨nd2, len2, key2, fun _ => ?_, fun z => (ne2 z).elim, fun _ => ⟨by simp, ?_⟩, fun i x hx => ?_⟩
    · rw [List.length_append]; exact S
    · show (s.way.take d ++ [k])[0]? = (s.ks ++ [k])[0]?
      rw [List.getElem?_append_left (by rw [List.length_take]; have := List.length_pos_iff.mpr w0; omega), List.getElem?_take, if_pos (by omega), (o.ne k0).2, List.getElem?_append_left (List.length_pos_iff.mpr k0)]
    · show x ∈ s.ks ++ [k] ∧ levIn s.lev (s.home d) k x = i + 1
      change (s.way.take d ++ [k])[i]? = some x at hx
      have tl : (s.way.take d).length = d := by rw [List.length_take]; omega
      by_cases hi : i < d
      · rw [List.getElem?_append_left (by omega), List.getElem?_take, if_pos hi] at hx
        obtain ⟨a, b⟩ := o.way i x hx
        refine ⟨List.mem_append_left _ a, ?_⟩
        unfold levIn
        rw [if_neg (show ¬ x = k from fun z => c1 (by rw [← z]; exact a))]; exact b
      · rw [List.getElem?_append_right (by omega), tl] at hx
        have hi2 : i - d = 0 := by
          have := (List.getElem?_eq_some_iff.mp hx).1
          simp at this; omega
        rw [hi2] at hx
        have : x = k := by simpa using hx.symm
        subst this
        refine ⟨by simp, ?_⟩
        unfold levIn
        rw [if_pos rfl, e3]; omega
end LK
namespace LK
open PySem PySem.Spec PyProof.Rows L2 DS MA
inductive RR where
  | bad (j : Nat)
  | ok (s : RS)
def rd : RS → Nat → List Str → RR
  | s, _, [] => .ok s
  | s, i, l :: r => match splitT l with
    | none => .bad i
    | some (d, k) => if canR s d k = true then rd (s.add d k) (i + 1) r else .bad i
theorem rd_none {s : RS} {i : Nat} {l : Str} {r : List Str} (h : splitT l = none) : rd s i (l :: r) = .bad i := by rw [rd, h]
theorem rd_no {s : RS} {i d : Nat} {k l : Str} {r : List Str} (h : splitT l = some (d, k)) (c : canR s d k = false) : rd s i (l :: r) = .bad i := by rw [rd, h]; simp [c]
theorem rd_yes {s : RS} {i d : Nat} {k l : Str} {r : List Str} (h : splitT l = some (d, k)) (c : canR s d k = true) : rd s i (l :: r) = rd (s.add d k) (i + 1) r := by rw [rd, h]; simp [c]
theorem add_ks {s : RS} {d : Nat} {k : Str} : (s.add d k).ks = s.ks ++ [k] := by unfold RS.add; split <;> rfl
theorem rd_okS : ∀ (ls : List Str) (s s' : RS) (i : Nat), RSOk s → rd s i ls = .ok s' → RSOk s' ∧ s'.ks.length = s.ks.length + ls.length
  | [], s, s', i, o, h => by rw [rd] at h; cases h; exact ⟨o, rfl⟩
  | l :: r, s, s', i, o, h => by
    cases e : splitT l with
    | none => rw [rd_none e] at h; cases h
    | some p =>
      obtain ⟨d, k⟩ := p
      by_cases c : canR s d k = true
      · rw [rd_yes e c] at h
        obtain ⟨a, b⟩ := rd_okS r _ s' _ (o.add c (splitT_some e).2) h
        rw [add_ks, List.length_append] at b
        refine ⟨a, ?_⟩
        simp at b ⊢; omega
      · rw [rd_no e (by simpa using c)] at h; cases h
theorem rd_badS : ∀ (ls : List Str) (s : RS) (i j : Nat), rd s i ls = .bad j → j < i + ls.length
  | [], s, i, j, h => by rw [rd] at h; cases h
  | l :: r, s, i, j, h => by
    rw [List.length_cons]
    cases e : splitT l with
    | none => rw [rd_none e] at h; cases h; omega
    | some p =>
      obtain ⟨d, k⟩ := p
      by_cases c : canR s d k = true
      · rw [rd_yes e c] at h
        have := rd_badS r _ _ j h
        omega
      · rw [rd_no e (by simpa using c)] at h; cases h; omega
def RS.root (s : RS) : Str := s.way.getD 0 ""
def RS.tree (s : RS) : T := build s.f 19 s.root
theorem RSOk.plant {s : RS} (o : RSOk s) (h : s.ks ≠ []) : Plant s.ks s.root s.f (parOf s.ks s.f) s.lev s.tree := by
  obtain ⟨a, b⟩ := o.ne h
  have e : s.way[0]? = some s.root := by
    unfold RS.root
    rw [List.getD_eq_getElem?_getD, List.getElem?_eq_getElem (List.length_pos_iff.mpr a)]; rfl
  exact plant_of (deep := 20) (o.G h) (by rw [← b]; exact e) o.nd (by have := o.len; omega) (by decide) (by decide)
/-- what both looks promise -/
def outR (r : RR) (bad : Nat → Prop) (good : SD → Prop) : Prop := match r with
  | .bad j => bad j
  | .ok s => good (enc s.tree)
mutual
theorem fits_same {f g : Str → List Str} : ∀ t : T, (∀ x ∈ pre t, f x = g x) → Fits f t → Fits g t
  | .node k cs, h, a => by
    rw [pre] at h
    rw [Fits] at a ⊢
    refine ⟨by rw [← h k (List.mem_cons_self ..)]; exact a.1, fitsL_same cs (fun x hx => h x (List.mem_cons_of_mem _ hx)) a.2⟩
theorem fitsL_same {f g : Str → List Str} : ∀ ts : List T, (∀ x ∈ preL ts, f x = g x) → FitsL f ts → FitsL g ts
  | [], _, _ => trivial
  | t :: r, h, a => by
    rw [preL] at h
    rw [FitsL] at a ⊢
    exact ⟨fits_same t (fun x hx => h x (List.mem_append_left _ hx)) a.1, fitsL_same r (fun x hx => h x (List.mem_append_right _ hx)) a.2⟩
end
theorem build_fits {f : Str → List Str} : ∀ (n : Nat) (t : T), Fits f t → dep t ≤ n + 1 → build f n t.key = t
  | 0, .node k cs, h, hd => by
    rw [dep] at hd
    cases cs with
    | nil => rfl
    | cons c r =>
      rw [depL] at hd
      have : 1 ≤ dep c := by cases c; rw [dep]; omega
      omega
  | n + 1, .node k cs, h, hd => by
    rw [Fits] at h
    rw [dep] at hd
    show T.node k ((f k).map (build f n)) = _
    rw [h.1, List.map_map]
    have : cs.map (build f n ∘ T.key) = cs := by
      conv => rhs; rw [← List.map_id cs]
      refine List.map_congr_left fun c hc => ?_
      have := depL_mem hc
      exact build_fits n c (FitsL_mem.mp h.2 c hc) (by omega)
    rw [this]
theorem home_take {s s' : RS} {d : Nat} (h1 : 1 ≤ d) (h : s'.way.take d = s.way.take d) : s'.home d = s.home d := by
  unfold RS.home
  have e := congrArg (fun l : List Str => l[d - 1]?) h
  simp only [List.getElem?_take] at e
  rw [if_pos (by omega), if_pos (by omega)] at e
  rw [List.getD_eq_getElem?_getD, List.getD_eq_getElem?_getD, e]
/-- what reading a part leaves -/
structure RdS (s s' : RS) (d : Nat) (nk hs : List Str) : Prop where
  k : s'.ks = s.ks ++ nk
  w : s'.way.take d = s.way.take d
  wl : d ≤ s'.way.length
  h : s'.f (s.home d) = s.f (s.home d) ++ hs
  o : ∀ x, x ∉ nk → x ≠ s.home d → s'.f x = s.f x
mutual
theorem rd_T : ∀ (t : T) (d i : Nat) (s : RS) (rest : List Str), 1 ≤ d → d ≤ s.way.length → s.home d ∈ s.ks → (pre t).Nodup → (∀ k ∈ pre t, k ∉ s.ks ∧ keyT k = true) → s.ks.length + (pre t).length ≤ 60 → d + dep t ≤ 20 →
    ∃ s', rd s i (linesT d t ++ rest) = rd s' (i + (pre t).length) rest ∧ RdS s s' d (pre t) [t.key] ∧ Fits s'.f t
  | .node k cs, d, i, s, rest, h1, hd, hm, nd, hk, hl, hp => by
    rw [pre] at nd hk hl ⊢
    rw [List.length_cons] at hl
    rw [dep] at hp
    rw [linesT, rep_two, List.cons_append]
    obtain ⟨kn, kk⟩ := hk k (List.mem_cons_self ..)
    have nd2 := List.nodup_cons.mp nd
    have w0 : s.way ≠ [] := fun z => by rw [z] at hd; simp at hd; omega
    have c : canR s d k = true := canR_iff.mpr ⟨kn, by omega, by omega, by rw [if_neg w0]; exact ⟨h1, hd⟩⟩
    have hpk : s.home d ≠ k := fun z => kn (z ▸ hm)
    have ea : s.add d k = ⟨s.ks ++ [k], putIn s.f (s.home d) k (s.f (s.home d)).length, levIn s.lev (s.home d) k, s.way.take d ++ [k]⟩ := by
      unfold RS.add; rw [if_neg (by omega)]
    have tl : (s.way.take d).length = d := by rw [List.length_take]; omega
    rw [rd_yes (splitT_mk kk d) c]
    have hom : (s.add d k).home (d + 1) = k := by
      rw [ea]
      show (s.way.take d ++ [k]).getD (d + 1 - 1) "" = k
      rw [show d + 1 - 1 = d by omega, List.getD_eq_getElem?_getD, List.getElem?_append_right (by omega), tl]
      simp
    have f1k : (s.add d k).f k = [] := by
      rw [ea]; show putIn _ _ _ _ k = []; unfold putIn; rw [if_pos rfl]
    have f1p : (s.add d k).f (s.home d) = s.f (s.home d) ++ [k] := by
      rw [ea]; show putIn _ _ _ _ _ = _; unfold putIn
      rw [if_neg hpk, if_pos rfl, List.take_length, List.drop_length, List.append_nil]
    have f1o : ∀ x, x ≠ k → x ≠ s.home d → (s.add d k).f x = s.f x := fun x a b => by
      rw [ea]; show putIn _ _ _ _ _ = _; unfold putIn
      rw [if_neg a, if_neg b]
    have ks1 : (s.add d k).ks = s.ks ++ [k] := add_ks
    have w1 : (s.add d k).way = s.way.take d ++ [k] := by rw [ea]
    obtain ⟨s2, e2, R, F⟩ := rd_L cs (d + 1) (i + 1) (s.add d k) rest (by omega) (by rw [w1, List.length_append, tl]; simp) (by rw [hom, ks1]; simp) nd2.2
      (fun x hx => ⟨fun z => by
        rw [ks1] at z
        rcases List.mem_append.mp z with z | z
        · exact (hk x (List.mem_cons_of_mem _ hx)).1 z
        · exact nd2.1 (by rw [← List.mem_singleton.mp z]; exact hx), (hk x (List.mem_cons_of_mem _ hx)).2⟩)
      (by rw [ks1, List.length_append]; simp; omega) (by omega)
    obtain ⟨r1, r2, r3, r4, r5⟩ := R
    rw [hom] at r4 r5
    have pn : s.home d ∉ preL cs := fun z => (hk _ (List.mem_cons_of_mem _ z)).1 hm
    refine ⟨s2, by rw [e2, List.length_cons]; congr 1; omega, ⟨by rw [r1, ks1]; simp, ?_, by omega, ?_, fun x hx hxp => ?_⟩, ?_⟩
    · have := congrArg (fun l : List Str => l.take d) r2
      simp only [List.take_take] at this
      rw [show min d (d + 1) = d by omega, w1, List.take_append_of_le_length (by omega), List.take_take, show min d d = d by omega] at this
      exact this
    · rw [r5 _ pn hpk, f1p]; rfl
    · rw [r5 x (fun z => hx (List.mem_cons_of_mem _ z)) (fun z => hx (by rw [z]; exact List.mem_cons_self ..)), f1o x (fun z => hx (by rw [z]; exact List.mem_cons_self ..)) hxp]
    · rw [Fits]
      refine ⟨by rw [r4, f1k, List.nil_append], F⟩
theorem rd_L : ∀ (ts : List T) (d i : Nat) (s : RS) (rest : List Str), 1 ≤ d → d ≤ s.way.length → s.home d ∈ s.ks → (preL ts).Nodup → (∀ k ∈ preL ts, k ∉ s.ks ∧ keyT k = true) → s.ks.length + (preL ts).length ≤ 60 → d + depL ts ≤ 20 →
    ∃ s', rd s i (linesL d ts ++ rest) = rd s' (i + (preL ts).length) rest ∧ RdS s s' d (preL ts) (ts.map T.key) ∧ FitsL s'.f ts
  | [], d, i, s, rest, h1, hd, hm, nd, hk, hl, hp => by
    rw [linesL, preL]
    exact ⟨s, rfl, ⟨by simp, rfl, hd, by simp, fun x _ _ => rfl⟩, trivial⟩
  | t :: r, d, i, s, rest, h1, hd, hm, nd, hk, hl, hp => by
    rw [preL] at nd hk hl ⊢
    rw [List.length_append] at hl
    rw [depL] at hp
    rw [linesL, List.append_assoc]
    obtain ⟨n1, n2, n3⟩ := List.nodup_append.mp nd
    obtain ⟨s1, e1, ⟨a1, a2, a3, a4, a5⟩, F1⟩ := rd_T t d i s (linesL d r ++ rest) h1 hd hm n1 (fun x hx => hk x (List.mem_append_left _ hx)) (by omega) (by omega)
    have hom := home_take h1 a2
    obtain ⟨s2, e2, ⟨b1, b2, b3, b4, b5⟩, F2⟩ := rd_L r d (i + (pre t).length) s1 rest h1 a3 (by rw [hom, a1]; exact List.mem_append_left _ hm) n2
      (fun x hx => ⟨fun z => by
        rw [a1] at z
        rcases List.mem_append.mp z with z | z
        · exact (hk x (List.mem_append_right _ hx)).1 z
        · exact n3 x z x hx rfl, (hk x (List.mem_append_right _ hx)).2⟩)
      (by rw [a1, List.length_append]; omega) (by omega)
    rw [hom] at b4 b5
    refine ⟨s2, by rw [e1, e2, List.length_append]; congr 1; omega, ⟨by rw [b1, a1]; simp, by rw [b2, a2], b3, by rw [b4, a4]; simp, fun x hx hxp => ?_⟩, ?_⟩
    · rw [b5 x (fun z => hx (List.mem_append_right _ z)) hxp, a5 x (fun z => hx (List.mem_append_left _ z)) hxp]
    · rw [FitsL]
      refine ⟨fits_same t (fun x hx => ?_) F1, F2⟩
      refine (b5 x (fun z => n3 x hx x z rfl) fun z => ?_).symm
      exact (hk x (List.mem_append_left _ hx)).1 (z ▸ hm)
end
/-- the text of a tree is read back -/
theorem rd_tree {t : T} (nd : (pre t).Nodup) (hk : ∀ k ∈ pre t, keyT k = true) (hl : (pre t).length ≤ 60) (hd : dep t ≤ 20) : ∃ s, rd RS.nil 0 (linesT 0 t) = .ok s ∧ s.tree = t ∧ s.ks = pre t := by
  obtain ⟨k, cs⟩ := t
  rw [pre] at nd hk hl
  have hdd := hd
  rw [dep] at hd
  rw [List.length_cons] at hl
  have nd2 := List.nodup_cons.mp nd
  have kk := hk k (List.mem_cons_self ..)
  have c : canR RS.nil 0 k = true := canR_iff.mpr ⟨(by simp [RS.nil]), (by simp [RS.nil]), by omega, by simp [RS.nil]⟩
  have ea : RS.nil.add 0 k = ⟨[k], fun _ => [], fun _ => 1, [k]⟩ := rfl
  rw [linesT, rep_two, rd_yes (splitT_mk kk 0) c]
  obtain ⟨s2, e2, ⟨r1, r2, r3, r4, r5⟩, F⟩ := rd_L cs 1 1 (RS.nil.add 0 k) [] (Nat.le_refl _) (by rw [ea]; simp) (by rw [ea]; simp [RS.home]) nd2.2
    (fun x hx => ⟨fun z => by
      rw [ea] at z
      exact nd2.1 (by rw [← List.mem_singleton.mp z]; exact hx), hk x (List.mem_cons_of_mem _ hx)⟩)
    (by rw [ea]; simp; omega) (by omega)
  rw [List.append_nil] at e2
  have hom : (RS.nil.add 0 k).home 1 = k := rfl
  rw [hom] at r4
  have root : s2.root = k := by
    have e := congrArg (fun l : List Str => l[0]?) r2
    simp only [List.getElem?_take] at e
    rw [if_pos (by omega), if_pos (by omega)] at e
    unfold RS.root
    rw [List.getD_eq_getElem?_getD, e]; rfl
  have FT : Fits s2.f (.node k cs) := by rw [Fits]; exact ⟨by rw [r4]; rfl, F⟩
  refine ⟨s2, by rw [e2, rd], ?_, by rw [r1, pre]; rfl⟩
  unfold RS.tree
  rw [root]
  exact build_fits 19 (.node k cs) FT hdd
end LK
namespace LK
open PySem PySem.Spec PyProof.Rows L2 DS MA
def sp_tree_from (n : Nat) : DSp := fun ds μ Q _ => ∃ t f x kvs, ds = [.str t.key, x] ∧ dep t ≤ n ∧ (pre t).length ≤ 1000 ∧ Fits f t ∧ dicD μ x = some kvs ∧ (∀ k ∈ pre t, ∃ v, valD kvs (.inr k) = some v ∧ seqD μ v = some (sts (f k))) ∧ Q (enc t) μ
theorem no_tree_from {ds μ Q E} (h : sp_tree_from 0 ds μ Q E) : False := by
  obtain ⟨⟨k, cs⟩, f, x, kvs, rfl, h, _⟩ := h; rw [dep] at h; omega
theorem len_tree_from {n} : ∀ ds μ Q E, sp_tree_from n ds μ Q E → ds.length = 2 := by rintro ds μ Q E ⟨t, f, x, kvs, rfl, _⟩; rfl
def t_tree_from (n : Nat) : DTS := (dRet (dTup (dCons (dVar 0) (dCons (dCB drTuple (dCons (dLcS (jSeq (dDGet (dVar 1) (dVar 0))) (hName 2) dYes (dCall (sp_tree_from n) [] (dCons (dVar 2) (dCons (dVar 1) dNil))) [2]) dNil)) dNil))))
theorem read_tree_from (n : Nat) : ∀ ds μ Q E, sp_tree_from (n + 1) ds μ Q E → t_tree_from n { nx := fun _ μ' => Q .non μ', rt := Q } (begin_ ["key", "children", "child"] ds) μ := by
  rintro ds μ Q E ⟨⟨k, cs⟩, f, x, kvs, rfl, hd, hl, fit, hx, hv, q⟩
  unfold t_tree_from dLcS dLc
  rw [Fits] at fit
  rw [dep] at hd
  have l1 := len_le_preL cs
  have hl2 : (preL cs).length + 1 ≤ 1000 := by rw [pre] at hl; simpa using hl
  obtain ⟨v, hv1, hv2⟩ := hv k (by rw [pre]; exact List.mem_cons_self ..)
  refine r_var rfl ?_
  refine r_var rfl ?_
  refine r_var rfl ?_
  refine get_ok hx rfl hv1 ?_
  split
  · cases hv2
  rw [hv2]
  refine lc_pure (zs := encL cs) hv2 (by simp [sts, fit.1]; omega) (by simp [sts, fit.1, encL_length]) ?_ ?_
  · intro i d y hd' hy R r
    rw [encL_map, List.getElem?_map] at hy
    rw [sts, fit.1, List.getElem?_map, List.getElem?_map] at hd'
    cases e : cs[i]? with
    | none => rw [e] at hy; cases hy
    | some c =>
      rw [e] at hy hd'; cases hy; cases hd'
      have hc := List.mem_of_getElem? e
      refine r_var rfl ?_
      refine r_var rfl ?_
      refine ⟨c, f, x, kvs, rfl, ?_, ?_, FitsL_mem.mp fit.2 c hc, hx, ?_, r⟩
      · have := depL_mem hc; omega
      · have := preL_len hc; omega
      · intro y hy; exact hv y (by rw [pre]; exact List.mem_cons_of_mem _ (preL_sub hc y hy))
  · refine dr_tupleL ⟨(by show 2 ≤ sizeLine; decide), ?_⟩
    rw [enc] at q; exact q
end LK
namespace LK
open PySem PySem.Spec PyProof.Rows L2 DS MA
/-- a dict of lists that is being written, all of it new since μ0 -/
structure DM (μ0 μ : Mu) (p : Addr) (ks : List Str) (f : Str → List Str) (ad : Str → Addr) : Prop where
  le : Le μ0 μ
  hp : μ p = some (.dic (refsD ks ad))
  hl : ∀ k ∈ ks, μ (ad k) = some (.lst (sts (f k)))
  inj : ∀ k ∈ ks, ∀ k' ∈ ks, ad k = ad k' → k = k'
  fp : μ0 p = none
  fl : ∀ k ∈ ks, μ0 (ad k) = none
section
variable {μ0 μ : Mu} {p : Addr} {ks : List Str} {f : Str → List Str} {ad : Str → Addr}
theorem DM.mono {μ' : Mu} (D : DM μ0 μ p ks f ad) (l : Le μ μ') : DM μ0 μ' p ks f ad := ⟨D.le.trans l, l _ _ D.hp, fun k hk => l _ _ (D.hl k hk), D.inj, D.fp, D.fl⟩
theorem DM.adp (D : DM μ0 μ p ks f ad) {k : Str} (hk : k ∈ ks) : ad k ≠ p := fun e => by
  have h := D.hl k hk
  rw [e, D.hp] at h; cases h
theorem DM.congr {g : Str → List Str} (D : DM μ0 μ p ks f ad) (h : ∀ k ∈ ks, g k = f k) : DM μ0 μ p ks g ad := ⟨D.le, D.hp, fun k hk => by rw [h k hk]; exact D.hl k hk, D.inj, D.fp, D.fl⟩
theorem DM.app {h x : Str} (D : DM μ0 μ p ks f ad) (hh : h ∈ ks) : DM μ0 (up μ (ad h) (.lst (sts (f h ++ [x])))) p ks (fun k => if k = h then f h ++ [x] else f k) ad := by
  refine ⟨D.le.up (D.fl h hh), by rw [up_ne (Ne.symm (D.adp hh))]; exact D.hp, fun k hk => ?_, D.inj, D.fp, D.fl⟩
  by_cases e : k = h
  · subst e; rw [up_same, if_pos rfl]
  · rw [up_ne (fun z => e (D.inj k hk h hh z)), if_neg e]; exact D.hl k hk
theorem DM.row {x : Str} {q : Addr} (D : DM μ0 μ p ks f ad) (hq : μ q = none) (hx : x ∉ ks) :
    DM μ0 (up (up μ q (.lst [])) p (.dic (putD (refsD ks ad) (.inr x) (.ref q)))) p (ks ++ [x]) (fun k => if k = x then [] else f k) (fun k => if k = x then q else ad k) := by
  have n : ∀ {b : Addr} {o : MO}, μ b = some o → b ≠ q := fun {b o} e z => by subst z; rw [hq] at e; cases e
  have hx2 : ∀ k ∈ ks, k ≠ x := fun k hk z => hx (z ▸ hk)
  have hqp : q ≠ p := Ne.symm (n D.hp)
  have spl : ∀ k ∈ ks ++ [x], k ∈ ks ∨ k = x := fun k hk => by simpa using hk
  refine ⟨(D.le.up (D.le.none hq)).up D.fp, ?_, fun k hk => ?_, fun k hk k' hk' => ?_, D.fp, fun k hk => ?_⟩
  · rw [up_same]
    unfold refsD
    rw [putD_mapk (g := fun k => SD.ref (ad k)) hx, List.map_append]
    congr 3
    · refine List.map_congr_left fun k hk => ?_
      show _ = ((Sum.inr k : Key), SD.ref (if k = x then q else ad k))
      rw [if_neg (hx2 k hk)]
    · simp
  · rcases spl k hk with hk | rfl
    · rw [if_neg (hx2 k hk), if_neg (hx2 k hk), up_ne (D.adp hk), up_ne (n (D.hl k hk))]; exact D.hl k hk
    · rw [if_pos rfl, if_pos rfl, up_ne hqp, up_same]; rfl
  · rcases spl k hk with h1 | rfl <;> rcases spl k' hk' with h2 | h2
    · rw [if_neg (hx2 k h1), if_neg (hx2 k' h2)]; exact D.inj k h1 k' h2
    · rw [if_neg (hx2 k h1), if_pos h2]; intro z; exact (n (D.hl k h1) z).elim
    · rw [if_pos rfl, if_neg (hx2 k' h2)]; intro z; exact (n (D.hl k' h2) z.symm).elim
    · intro _; exact h2.symm
  · rcases spl k hk with hk | rfl
    · rw [if_neg (hx2 k hk)]; exact D.fl k hk
    · rw [if_pos rfl]; exact D.le.none hq
end
/-- one line more: what is in memory -/
theorem DM.step {μ0 μ : Mu} {p q : Addr} {s : RS} {ad : Str → Addr} {d : Nat} {k : Str} (D : DM μ0 μ p s.ks s.f ad) (o : RSOk s) (c : canR s d k = true) (h0 : 0 < d) (hq : up μ (ad (s.home d)) (.lst (sts (s.f (s.home d) ++ [k]))) q = none) :
    DM μ0 (up (up (up μ (ad (s.home d)) (.lst (sts (s.f (s.home d) ++ [k])))) q (.lst [])) p (.dic (putD (refsD s.ks ad) (.inr k) (.ref q)))) p (s.add d k).ks (s.add d k).f (fun x => if x = k then q else ad x) := by
  obtain ⟨c1, c2, c3, c4⟩ := canR_iff.mp c
  have w0 : s.way ≠ [] := fun z => by rw [if_pos z] at c4; omega
  rw [if_neg w0] at c4
  obtain ⟨e1, e2, e3⟩ := RS.home_mem o c4.1 c4.2
  have R := (D.app (x := k) e2).row hq c1
  have ea : s.add d k = ⟨s.ks ++ [k], putIn s.f (s.home d) k (s.f (s.home d)).length, levIn s.lev (s.home d) k, s.way.take d ++ [k]⟩ := by
    unfold RS.add; rw [if_neg (by omega)]
  rw [ea]
  refine R.congr fun x hx => ?_
  show putIn _ _ _ _ x = _
  unfold putIn
  by_cases e : x = k
  · rw [if_pos e, if_pos e]
  · rw [if_neg e, if_neg e, List.take_length, List.drop_length, List.append_nil]
theorem DM.first {μ0 μ : Mu} {p q : Addr} {s : RS} {ad : Str → Addr} {k : Str} (D : DM μ0 μ p s.ks s.f ad) (o : RSOk s) (c : canR s 0 k = true) (hq : μ q = none) :
    DM μ0 (up (up μ q (.lst [])) p (.dic (putD (refsD s.ks ad) (.inr k) (.ref q)))) p (s.add 0 k).ks (s.add 0 k).f (fun x => if x = k then q else ad x) := by
  obtain ⟨c1, c2, c3, c4⟩ := canR_iff.mp c
  have w0 : s.way = [] := Classical.byContradiction fun z => by rw [if_neg z] at c4; omega
  have k0 : s.ks = [] := Classical.byContradiction fun z => (o.ne z).1 w0
  have R := D.row (x := k) hq c1
  have ea : s.add 0 k = ⟨s.ks ++ [k], s.f, s.lev, [k]⟩ := rfl
  rw [ea]
  refine R.congr fun x hx => ?_
  have f0 : s.f = fun _ => [] := by rw [o.e k0]; rfl
  show s.f x = _
  rw [f0]
  simp
def lineR (l : Str) : SD := match splitT l with
  | some (d, k) => .tup [.int (d : Nat), .str k]
  | none => .non
theorem lst_ok {l : Str} (h : PyData.strOk l = true) : PyData.strOk (Txt.lstripChars l " ") = true := by
  rw [strOk_iff] at h ⊢
  intro c hc
  refine h c ?_
  have : c ∈ (cpl l).dropWhile fun c => c == 32 := by rw [← lst_cpl]; exact hc
  exact (List.dropWhile_sublist _).subset this
theorem lst_len (l : Str) : (Txt.lstripChars l " ").length ≤ l.length := by
  rw [← cpl_len, ← cpl_len, lst_cpl]
  exact (List.dropWhile_sublist _).length_le
def sp_split_line : DSp := fun ds μ Q _ => ∃ (l : Str), ds = [.str l] ∧ PyData.strOk l = true ∧ l.length ≤ 100000 ∧ Q (lineR l) μ
theorem len_split_line : ∀ ds μ Q E, sp_split_line ds μ Q E → ds.length = 1 := by rintro ds μ Q E ⟨l, rfl, _⟩; rfl
def t_split_line : DTS := (dSeq (dSet (dText1 drLstrip (dVar 0) (dC (.str " "))) 1)
    (dSeq (dAsg (dCB drDivmod (dCons (dOp dSub (dCB drLen (dCons (dVar 0) dNil)) (dCB drLen (dCons (dVar 1) dNil))) (dCons (dCB drLen (dCons (dC (.str "  ")) dNil)) dNil))) (hTup 2 (hCons (hName 2) (hCons (hName 3) hNil))))
    (dRet (dIf (dAnd (dTest (dOp (dEq false) (dVar 3) (dC (.int 0)))) (dTest (dCall sp_is_key [] (dCons (dVar 1) dNil)))) (dTup (dCons (dVar 2) (dCons (dVar 1) dNil))) (dC .non)))))
theorem read_split_line : ∀ ds μ Q E, sp_split_line ds μ Q E → t_split_line { nx := fun _ μ' => Q .non μ', rt := Q } (begin_ ["line", "key", "depth", "rest"] ds) μ := by
  rintro ds μ Q E ⟨l, rfl, ok, ln, q⟩
  unfold t_split_line
  refine r_var rfl ⟨rfl, ?_⟩
  refine ⟨by rw [sizeLine_eq]; omega, ?_⟩
  have kl := lst_len l
  have ko := lst_ok ok
  unfold lineR splitT at q
  generalize Txt.lstripChars l " " = k at *
  dsimp only
  refine r_var rfl ?_
  refine l_lenS (by rw [sizeLine_eq]; omega) ?_
  refine r_var rfl ?_
  refine l_lenS (by rw [sizeLine_eq]; omega) ?_
  refine i_sub ?_
  refine l_lenS (by rw [sizeLine_eq]; decide +kernel) ?_
  rw [show (("  " : Str).length : Int) = 2 by decide +kernel]
  refine ⟨divP (by omega) (by omega) (by omega), ?_⟩
  have e : (l.length : Int) - (k.length : Int) = ((l.length - k.length : Nat) : Int) := by omega
  rw [e]
  generalize l.length - k.length = b at *
  refine ⟨rfl, rfl, ?_⟩
  dsimp only
  refine r_var rfl ?_
  refine i_eq ?_
  rw [show ((b : Int) / 2) = ((b / 2 : Nat) : Int) by omega, show ((b : Int) % 2) = ((b % 2 : Nat) : Int) by omega]
  by_cases hb : b % 2 = 0
  · rw [hb, decide_eq_true (by rfl)]
    refine ifT rfl ?_
    refine r_var rfl ?_
    refine ⟨.str k, 0, rfl, by rw [okV]; exact ko, show k.length ≤ 300000 by omega, ?_⟩
    by_cases hk : keyT k = true
    · rw [if_pos ⟨hb, hk⟩] at q
      refine ifT hk ?_
      refine r_var rfl ?_
      refine r_var rfl ?_
      exact ⟨(by show 2 ≤ sizeLine; decide), q⟩
    · rw [if_neg fun z => hk z.2] at q
      refine ifF (show keyT k = false by simpa using hk) q
  · rw [if_neg fun z => hb z.1] at q
    rw [decide_eq_false (by omega)]
    exact ifF rfl (ifF rfl q)
def trF (p : Addr) (w : List SD) : List (Str × SD) := [("child_keys", .ref p), ("way", .lst w)]
theorem trF_c {p : Addr} {w : List SD} : (trF p w).lookup ("child_keys" : Str) = some (.ref p) := rfl
theorem trF_w {p : Addr} {w : List SD} : (trF p w).lookup ("way" : Str) = some (.lst w) := rfl
theorem trF_m {p : Addr} {w : List SD} : (trF p w).lookup ("can_follow" : Str) = none ∧ (trF p w).lookup ("add" : Str) = none := ⟨rfl, rfl⟩
structure RM (μ0 μ : Mu) (o p : Addr) (s : RS) (ad : Str → Addr) : Prop where
  D : DM μ0 μ p s.ks s.f ad
  ho : μ o = some (.obj "TreeReader" (trF p (sts s.way)))
  fo : μ0 o = none
section
variable {μ0 μ : Mu} {o p : Addr} {s : RS} {ad : Str → Addr}
theorem RM.mono {μ' : Mu} (R : RM μ0 μ o p s ad) (l : Le μ μ') : RM μ0 μ' o p s ad := ⟨R.D.mono l, l _ _ R.ho, R.fo⟩
theorem RM.op (R : RM μ0 μ o p s ad) : o ≠ p := fun e => by have := R.ho; rw [e, R.D.hp] at this; cases this
theorem RM.ao (R : RM μ0 μ o p s ad) {k : Str} (hk : k ∈ s.ks) : ad k ≠ o := fun e => by have := R.ho; rw [← e, R.D.hl k hk] at this; cases this
end
def sp_TreeReader_init : DSp := fun ds μ Q _ => ∃ (o : Addr), ds = [.ref o] ∧ μ o = some (.obj "TreeReader" []) ∧ ∀ p, μ p = none → Q .non (up (up μ p (.dic [])) o (.obj "TreeReader" (trF p [])))
theorem len_TreeReader_init : ∀ ds μ Q E, sp_TreeReader_init ds μ Q E → ds.length = 1 := by rintro ds μ Q E ⟨o, rfl, _⟩; rfl
def t_TreeReader_init : DTS := (dSeq (dPutA "TreeReader" "child_keys" (dVar 0) dDict0M)
    (dPutA "TreeReader" "way" (dVar 0) (dLst dNil)))
theorem read_TreeReader_init : ∀ ds μ Q E, sp_TreeReader_init ds μ Q E → t_TreeReader_init { nx := fun _ μ' => Q .non μ', rt := Q } (begin_ ["self"] ds) μ := by
  rintro ds μ Q E ⟨o, rfl, ho, q⟩
  unfold t_TreeReader_init
  intro p hp
  have nop : o ≠ p := fun e => by rw [e, hp] at ho; cases ho
  refine r_var rfl ?_
  refine putA_ok (fs := []) (by rw [up_ne nop]; exact ho) (by decide) ?_
  refine ⟨Nat.zero_le _, ?_⟩
  refine r_var rfl ?_
  refine putA_ok (fs := [("child_keys", .ref p)]) up_same (by show 1 < 900; decide) ?_
  rw [up_up]
  exact q p hp
def sp_TreeReader_can_follow : DSp := fun ds μ Q _ => ∃ (μ0 : Mu) (o p : Addr) (s : RS) (ad : Str → Addr) (d : Nat) (k : Str), ds = [.ref o, .int (d : Nat), .str k] ∧ RM μ0 μ o p s ad ∧ RSOk s ∧ Q (.bl (canR s d k)) μ
theorem len_TreeReader_can_follow : ∀ ds μ Q E, sp_TreeReader_can_follow ds μ Q E → ds.length = 3 := by rintro ds μ Q E ⟨μ0, o, p, s, ad, d, k, rfl, _⟩; rfl
def t_TreeReader_can_follow : DTS := (dSeq (dIfS (dOr (dTest (dDIn false (dVar 2) (dAttr "TreeReader" "child_keys" (dVar 0)))) (dOr (dTest (dOp (dEq false) (dCB drLenD (dCons (dAttr "TreeReader" "child_keys" (dVar 0)) dNil)) (dC (.int 60)))) (dTest (dOp dGe (dVar 1) (dC (.int 20)))))) (dRet (dC (.bl false))) dNext)
    (dRet (dIf (dTest (dOp (dL0 true) (dAttr "TreeReader" "way" (dVar 0)) (dLst dNil))) (dChain dLe dLe (dC (.int 1)) (dVar 1) (dCB drLen (dCons (dAttr "TreeReader" "way" (dVar 0)) dNil))) (dOp (dEq false) (dVar 1) (dC (.int 0))))))
theorem lenR_ok {μ : Mu} {a : Addr} {kvs : List (Key × SD)} {Q : SD → Mu → Prop} (h : μ a = some (.dic kvs)) (q : Q (.int kvs.length) μ) : drLenD [.ref a] μ Q := by
  unfold drLenD
  have e : mdic μ (.ref a) = some (a, kvs) := by simp [mdic, h]
  simp only [e]; exact q
theorem l0_lstR {μ : Mu} {Q : SD → Mu → Prop} {xs : List SD} {neg : Bool} (q : Q (.bl (neg != xs.isEmpty)) μ) : dL0 neg (.lst xs) (.lst []) μ Q := q
theorem read_TreeReader_can_follow : ∀ ds μ Q E, sp_TreeReader_can_follow ds μ Q E → t_TreeReader_can_follow { nx := fun _ μ' => Q .non μ', rt := Q } (begin_ ["self", "depth", "key"] ds) μ := by
  rintro ds μ Q E ⟨μ0, o, p, s, ad, d, k, rfl, R, ok, q⟩
  unfold t_TreeReader_can_follow
  unfold canR at q
  refine r_var rfl ?_
  refine r_var rfl ?_
  refine attr_ok R.ho trF_c ?_
  refine din_ok (dicD_ref R.D.hp) rfl ?_
  have hv : (valD (refsD s.ks ad) (.inr k)).isSome = decide (k ∈ s.ks) := by
    unfold refsD
    rw [valD_mapk (g := fun k => SD.ref (ad k))]
    by_cases h : k ∈ s.ks
    · rw [if_pos h, decide_eq_true h]; rfl
    · rw [if_neg h, decide_eq_false h]; rfl
  rw [hv]
  by_cases h1 : k ∈ s.ks
  · rw [decide_eq_true h1] at q ⊢
    refine ifT rfl (ifT rfl q)
  rw [decide_eq_false h1] at q ⊢
  refine ifF rfl ?_
  refine r_var rfl ?_
  refine attr_ok R.ho trF_c ?_
  refine lenR_ok R.D.hp ?_
  refine i_eq ?_
  have rl : (refsD s.ks ad).length = s.ks.length := by simp [refsD]
  rw [rl]
  by_cases h2 : s.ks.length = 60
  · rw [decide_eq_true h2] at q
    rw [decide_eq_true (by omega)]
    exact ifT rfl (ifT rfl q)
  rw [decide_eq_false h2] at q
  rw [decide_eq_false (by omega)]
  refine ifF rfl ?_
  refine r_var rfl ?_
  refine i_ge ?_
  by_cases h3 : d < 20
  rotate_left
  · rw [decide_eq_false h3] at q
    rw [decide_eq_true (by omega)]
    exact ifT rfl q
  rw [decide_eq_true h3] at q
  rw [decide_eq_false (by omega)]
  refine ifF rfl ?_
  simp only [dNext]
  refine r_var rfl ?_
  refine attr_ok R.ho trF_w ?_
  refine ⟨Nat.zero_le _, ?_⟩
  refine l0_lstR ?_
  have ee : (sts s.way).isEmpty = s.way.isEmpty := by cases s.way <;> rfl
  rw [ee]
  simp only [Bool.not_false, Bool.true_and] at q
  cases hw : s.way.isEmpty with
  | true =>
    rw [hw, if_pos rfl] at q
    refine ifF rfl ?_
    refine r_var rfl ?_
    refine i_eq ?_
    rw [show decide ((d : Int) = 0) = decide (d = 0) from by
      by_cases h : d = 0
      · rw [decide_eq_true h, decide_eq_true (by omega)]
      · rw [decide_eq_false h, decide_eq_false (by omega)]]
    exact q
  | false =>
    rw [hw, if_neg (by simp)] at q
    refine ifT rfl ?_
    refine r_var rfl ?_
    refine i_le ?_
    by_cases h4 : 1 ≤ d
    · rw [decide_eq_true h4, Bool.true_and] at q
      rw [decide_eq_true (by omega)]
      refine r_var rfl ?_
      refine attr_ok R.ho trF_w ?_
      refine l_len ?_
      refine i_le ?_
      have wl : (sts s.way).length = s.way.length := by simp [sts]
      rw [wl, show decide ((d : Int) ≤ (s.way.length : Int)) = decide (d ≤ s.way.length) from by
        by_cases h : d ≤ s.way.length
        · rw [decide_eq_true h, decide_eq_true (by omega)]
        · rw [decide_eq_false h, decide_eq_false (by omega)]]
      exact q
    · rw [decide_eq_false h4, Bool.false_and] at q
      rw [decide_eq_false (by omega)]
      exact q
def sp_TreeReader_add : DSp := fun ds μ Q _ => ∃ (μ0 : Mu) (o p : Addr) (s : RS) (ad : Str → Addr) (d : Nat) (k : Str), ds = [.ref o, .int (d : Nat), .str k] ∧ RM μ0 μ o p s ad ∧ RSOk s ∧ canR s d k = true ∧ ∀ μ' ad', RM μ0 μ' o p (s.add d k) ad' → Q .non μ'
theorem len_TreeReader_add : ∀ ds μ Q E, sp_TreeReader_add ds μ Q E → ds.length = 3 := by rintro ds μ Q E ⟨μ0, o, p, s, ad, d, k, rfl, _⟩; rfl
def t_TreeReader_add : DTS := (dSeq (dIfS (dTest (dOp dGt (dVar 1) (dC (.int 0)))) (dDrop (dLM dmAppend (dDGet (dAttr "TreeReader" "child_keys" (dVar 0)) (dOp dIx (dAttr "TreeReader" "way" (dVar 0)) (dOp dSub (dVar 1) (dC (.int 1))))) (dCons (dVar 2) dNil))) dNext)
    (dSeq (dDPut (dAttr "TreeReader" "child_keys" (dVar 0)) (dVar 2) (dLstM dNil))
    (dPutA "TreeReader" "way" (dVar 0) (dOp dAdd (dSl (dAttr "TreeReader" "way" (dVar 0)) dNoPart (dPart (dVar 1))) (dLst (dCons (dVar 2) dNil))))))
theorem read_TreeReader_add : ∀ ds μ Q E, sp_TreeReader_add ds μ Q E → t_TreeReader_add { nx := fun _ μ' => Q .non μ', rt := Q } (begin_ ["self", "depth", "key"] ds) μ := by
  rintro ds μ Q E ⟨μ0, o, p, s, ad, d, k, rfl, R, ok, c, q⟩
  unfold t_TreeReader_add
  obtain ⟨c1, c2, c3, c4⟩ := canR_iff.mp c
  have sl := ok.len
  have rl : (refsD s.ks ad).length = s.ks.length := by simp [refsD]
  have fin : ∀ (μ1 : Mu) (ad' : Str → Addr), μ1 o = some (.obj "TreeReader" (trF p (sts s.way))) → DM μ0 μ1 p (s.add d k).ks (s.add d k).f ad' →
      (dPutA "TreeReader" "way" (dVar 0) (dOp dAdd (dSl (dAttr "TreeReader" "way" (dVar 0)) dNoPart (dPart (dVar 1))) (dLst (dCons (dVar 2) dNil)))) { nx := fun _ μ' => Q .non μ', rt := Q } [some (.ref o), some (.int (d : Nat)), some (.str k)] μ1 := fun μ1 ad' ho D => by
    refine r_var rfl ?_
    refine attr_ok ho trF_w ?_
    refine r_var rfl ?_
    refine sl_L ?_
    rw [cutL_to]
    refine r_var rfl ?_
    refine ⟨(by show 1 ≤ sizeLine; decide), ?_⟩
    have wl : s.way.length ≤ 60 := by
      have : s.way.length ≤ s.ks.length := by
        refine len_sub (List.pairwise_iff_getElem.mpr fun i j hi hj hij z => ?_) fun x hx => ?_
        · have a := (ok.way i _ (List.getElem?_eq_getElem hi)).2
          have b := (ok.way j _ (List.getElem?_eq_getElem hj)).2
          rw [z] at a; omega
        · obtain ⟨i, hi, rfl⟩ := List.getElem_of_mem hx
          exact (ok.way i _ (List.getElem?_eq_getElem hi)).1
      omega
    refine l_add (le_line (m := 100) (by simp [sts]; omega) (by omega)) ?_
    refine r_var rfl ?_
    refine putA_ok ho (by show 2 < 900; decide) ?_
    have ew : (sts s.way).take d ++ [SD.str k] = sts (s.add d k).way := by
      unfold RS.add
      split
      · rename_i h; rw [h]; rfl
      · show _ = sts (s.way.take d ++ [k])
        simp [sts]
    rw [ew]
    have hop : o ≠ p := fun e => by rw [e, D.hp] at ho; cases ho
    have hao : ∀ x ∈ (s.add d k).ks, ad' x ≠ o := fun x hx e => by have := D.hl x hx; rw [e, ho] at this; cases this
    refine q _ ad' ⟨⟨D.le.up R.fo, by rw [up_ne (Ne.symm hop)]; exact D.hp, fun x hx => by rw [up_ne (hao x hx)]; exact D.hl x hx, D.inj, D.fp, D.fl⟩, by rw [up_same]; rfl, R.fo⟩
  refine r_var rfl ?_
  refine i_gt ?_
  by_cases h0 : d = 0
  · subst h0
    rw [decide_eq_false (by omega)]
    refine ifF rfl ?_
    simp only [dNext]
    refine ⟨Nat.zero_le _, fun a ha => ?_⟩
    have nao : o ≠ a := fun e => by have := R.ho; rw [e, ha] at this; cases this
    have nap : p ≠ a := fun e => by have := R.D.hp; rw [e, ha] at this; cases this
    refine r_var rfl ?_
    refine attr_ok (by rw [up_ne nao]; exact R.ho) trF_c ?_
    refine r_var rfl ?_
    refine put_ok (by rw [up_ne nap]; exact R.D.hp) rfl (lt_line (m := 100) (by omega) (by omega)) ?_
    exact fin _ _ (by rw [up_ne R.op, up_ne nao]; exact R.ho) (R.D.first ok c ha)
  · have w0 : s.way ≠ [] := fun z => by rw [if_pos z] at c4; exact h0 c4
    rw [if_neg w0] at c4
    obtain ⟨e1, e2, e3⟩ := RS.home_mem ok c4.1 c4.2
    have hao := R.ao e2
    rw [decide_eq_true (by omega)]
    refine ifT rfl ?_
    refine r_var rfl ?_
    refine attr_ok R.ho trF_c ?_
    refine r_var rfl ?_
    refine attr_ok R.ho trF_w ?_
    refine r_var rfl ?_
    refine i_sub ?_
    rw [show (d : Int) - 1 = ((d - 1 : Nat) : Int) by omega]
    refine ix_lst (d := .str (s.home d)) (atI_nat (by rw [sts, List.getElem?_map, e1]; rfl)) ?_
    refine get_ok (dicD_ref R.D.hp) rfl (v := .ref (ad (s.home d))) (by unfold refsD; rw [valD_mapk (g := fun k => SD.ref (ad k)), if_pos e2]) ?_
    refine ⟨isSome_ref (R.D.hl _ e2), ?_⟩
    refine r_var rfl ?_
    have fl : (s.f (s.home d)).length ≤ 60 := by
      have P := ok.G (fun z => by rw [z] at e2; cases e2)
      have p2 := P.perm.length_eq
      rw [List.take_length, List.length_tail] at p2
      obtain ⟨a, b, e⟩ := List.append_of_mem e2
      have : (s.f (s.home d)).length ≤ (s.ks.flatMap s.f).length := by
        conv => rhs; rw [e]
        simp; omega
      omega
    refine dm_append (R.D.hl _ e2) (lt_line (m := 100) (by simp [sts]; omega) (by omega)) ?_
    have es : sts (s.f (s.home d)) ++ [SD.str k] = sts (s.f (s.home d) ++ [k]) := by simp [sts]
    rw [es]
    have ho1 : (up μ (ad (s.home d)) (.lst (sts (s.f (s.home d) ++ [k])))) o = some (.obj "TreeReader" (trF p (sts s.way))) := by rw [up_ne (Ne.symm hao)]; exact R.ho
    have hp1 : (up μ (ad (s.home d)) (.lst (sts (s.f (s.home d) ++ [k])))) p = some (.dic (refsD s.ks ad)) := by rw [up_ne (Ne.symm (R.D.adp e2))]; exact R.D.hp
    refine ⟨Nat.zero_le _, fun a ha => ?_⟩
    have nao : o ≠ a := fun e => by rw [e, ha] at ho1; cases ho1
    have nap : p ≠ a := fun e => by rw [e, ha] at hp1; cases hp1
    refine r_var rfl ?_
    refine attr_ok (by rw [up_ne nao]; exact ho1) trF_c ?_
    refine r_var rfl ?_
    refine put_ok (by rw [up_ne nap]; exact hp1) rfl (lt_line (m := 100) (by omega) (by omega)) ?_
    exact fin _ _ (by rw [up_ne R.op, up_ne nao]; exact ho1) (R.D.step ok c (by omega) ha)
end LK
namespace LK
open PySem PySem.Spec PyProof.Rows L2 DS MA
def lookT (d : SD) (bad : Nat → Prop) (good : SD → Prop) : Prop := match d with
  | .str t => outR (rd RS.nil 0 (Txt.split t "\n")) bad good
  | _ => bad 0
theorem lookT_str {t : Str} {b : Nat → Prop} {g : SD → Prop} : lookT (.str t) b g = outR (rd RS.nil 0 (Txt.split t "\n")) b g := rfl
theorem line_okT {t l : Str} {j : Nat} (ok : PyData.strOk t = true) (h : (Txt.split t "\n")[j]? = some l) : PyData.strOk l = true ∧ l.length ≤ t.length := by
  have m := List.mem_of_getElem? h
  exact ⟨part_ok ok m, part_len feed1 m⟩
theorem lines_atT {t : Str} {μ : Mu} {ρ : Rho} {R : List SD → (Mu → Prop) → Mu → Prop} (h0 : ρ[0]? = some (some (.str t))) (ln : t.length ≤ 100000) (hR : ∀ P : Mu → Prop, (∀ μ', P μ') → R (enums (sts (Txt.split t "\n"))) P μ) :
    jEnum (dCons (dText1 drSplit (dVar 0) (dC (.str "\n"))) dNil) ρ μ R := by
  refine r_var h0 ⟨rfl, ?_⟩
  refine ⟨⟨feed_len, by rw [sizeLine_eq]; omega⟩, ?_⟩
  exact ⟨rfl, hR (fun μ' => seqD μ' (.lst ((Txt.split t "\n").map SD.str)) = some ((Txt.split t "\n").map SD.str)) fun _ => rfl⟩
theorem rd_drop {ls : List Str} {s : RS} {i : Nat} {l : Str} (e : ls[i]? = some l) : rd s i (ls.drop i) = match splitT l with
    | none => .bad i
    | some (d, k) => if canR s d k = true then rd (s.add d k) (i + 1) (ls.drop (i + 1)) else .bad i := by
  obtain ⟨hi, e'⟩ := List.getElem?_eq_some_iff.mp e
  rw [List.drop_eq_getElem_cons hi, e', rd]
  all_goals (cases splitT l <;> rfl)
theorem way_len {s : RS} (ok : RSOk s) : s.way.length ≤ 60 := by
  have : s.way.length ≤ s.ks.length := by
    refine len_sub (List.pairwise_iff_getElem.mpr fun i j hi hj hij z => ?_) fun x hx => ?_
    · have a := (ok.way i _ (List.getElem?_eq_getElem hi)).2
      have b := (ok.way j _ (List.getElem?_eq_getElem hj)).2
      rw [z] at a; omega
    · obtain ⟨i, hi, rfl⟩ := List.getElem_of_mem hx
      exact (ok.way i _ (List.getElem?_eq_getElem hi)).1
  have := ok.len
  omega
theorem f_len {s : RS} (ok : RSOk s) {h : Str} (hh : h ∈ s.ks) : (s.f h).length ≤ 60 := by
  have P := ok.G (fun z => by rw [z] at hh; cases hh)
  have p2 := P.perm.length_eq
  have sl := ok.len
  rw [List.take_length, List.length_tail] at p2
  obtain ⟨a, b, e⟩ := List.append_of_mem hh
  have : (s.f h).length ≤ (s.ks.flatMap s.f).length := by
    conv => rhs; rw [e]
    simp; omega
  omega
theorem root_at {s : RS} (ok : RSOk s) (h : s.ks ≠ []) : s.way[0]? = some s.root := by
  obtain ⟨a, b⟩ := ok.ne h
  unfold RS.root
  rw [List.getD_eq_getElem?_getD, List.getElem?_eq_getElem (List.length_pos_iff.mpr a)]; rfl
def sp_read_tree : DSpX := fun ds μ Q E => ∃ (d : SD) (m : Nat), ds = [d] ∧ okV m d ∧ wtV d ≤ 100000 ∧ lookT d (fun j => ∀ μ', Le μ μ' → E "BadText" [("line", .int (j : Nat))] μ') (fun d => ∀ μ', Le μ μ' → Q d μ')
theorem len_read_tree : ∀ ds μ Q E, sp_read_tree ds μ Q E → ds.length = 1 := by rintro ds μ Q E ⟨d, m, rfl, _⟩; rfl
def t_read_tree (Ex : DXX) : DTS := (dSeq (dIfS (dNot (dTest (dCB drIsi (dCons (dVar 0) (dCons (dC (.ty "str")) dNil))))) (dRaise "BadText" "line" Ex (dC (.int 0))) dNext)
    (dSeq (dSet (dMkC "TreeReader" sp_TreeReader_init dNil) 1)
    (dSeq (dFor (jEnum (dCons (dText1 drSplit (dVar 0) (dC (.str "\n"))) dNil)) (hTup 2 (hCons (hName 2) (hCons (hName 3) hNil))) (dSeq (dSet (dCall sp_split_line [] (dCons (dVar 3) dNil)) 4)
    (dSeq (dIfS (dOr (dTest (dIsN (dVar 4))) (dNot (dTest (dMeth "TreeReader" "can_follow" sp_TreeReader_can_follow (dVar 1) (dCons (dOp dIx (dVar 4) (dC (.int 0))) (dCons (dOp dIx (dVar 4) (dC (.int 1))) dNil)))))) (dRaise "BadText" "line" Ex (dVar 2)) dNext)
    (dDrop (dMeth "TreeReader" "add" sp_TreeReader_add (dVar 1) (dCons (dOp dIx (dVar 4) (dC (.int 0))) (dCons (dOp dIx (dVar 4) (dC (.int 1))) dNil)))))))
    (dRet (dCall (sp_tree_from 70) [] (dCons (dOp dIx (dAttr "TreeReader" "way" (dVar 1)) (dC (.int 0))) (dCons (dAttr "TreeReader" "child_keys" (dVar 1)) dNil)))))))
theorem read_read_tree : ∀ ds μ Q E, sp_read_tree ds μ Q E → t_read_tree E { nx := fun _ μ' => Q .non μ', rt := Q } (begin_ ["text", "reader", "index", "line", "found"] ds) μ := by
  rintro ds μ Q E ⟨d, m, rfl, v, wt, L⟩
  unfold t_read_tree
  refine r_var rfl ?_
  refine isi_str v ?_
  cases d with
  | ref a => rw [okV] at v; exact v.elim
  | ty a => rw [okV] at v; exact v.elim
  | rol a => rw [okV] at v; exact v.elim
  | exc a b => rw [okV] at v; exact v.elim
  | ptp a => rw [okV] at v; exact v.elim
  | str t =>
    rw [okV] at v
    rw [wtV] at wt
    have ok : PyData.strOk t = true := v
    have ln : t.length ≤ 100000 := wt
    have nl := parts_n (x := t) feed1
    have lp := split_pos t "\n"
    rw [lookT_str] at L
    refine ifF rfl ?_
    simp only [dNext]
    intro o ho
    refine ⟨o, rfl, up_same, fun p hp => ⟨rfl, ?_⟩⟩
    have nop : o ≠ p := fun e => by rw [e, up_same] at hp; cases hp
    have hp0 : μ p = none := by rw [up_ne (Ne.symm nop)] at hp; exact hp
    have R0 : RM μ (up (up (up μ o (.obj "TreeReader" [])) p (.dic [])) o (.obj "TreeReader" (trF p []))) o p RS.nil (fun _ => o) :=
      ⟨⟨((((Le.refl μ).up ho).up hp0).up ho), by rw [up_ne (Ne.symm nop), up_same]; rfl, fun k hk => (by cases hk), fun k hk => (by cases hk), hp0, fun k hk => (by cases hk)⟩, by rw [up_same]; rfl, ho⟩
    generalize up (up (up μ o (.obj "TreeReader" [])) p (.dic [])) o (.obj "TreeReader" (trF p [])) = μ1 at R0
    dsimp only
    change dSeq _ _ _ [some (.str t), some (.ref o), none, none, none] _
    refine for_seq61 ?_
    refine lines_atT rfl ln fun Pk hP => ?_
    generalize hls : Txt.split t "\n" = ls at *
    refine ⟨fun i ρ μ' => ∃ (a2 a3 a4 : Option SD) (s : RS) (ad : Str → Addr), ρ = [some (.str t), some (.ref o), a2, a3, a4] ∧ RM μ μ' o p s ad ∧ RSOk s ∧ s.ks.length = i ∧ rd RS.nil 0 ls = rd s i (ls.drop i), ⟨none, none, none, RS.nil, _, rfl, R0, RSOk.nil, rfl, rfl⟩, fun _ _ _ _ _ => hP _, ?_, ?_⟩
    · rintro i d ρ μ2 hd ⟨a2, a3, a4, s, ad, rfl, R, so, si, er⟩
      obtain ⟨y, hy, rfl⟩ := enums_at hd
      rw [sts, List.getElem?_map] at hy
      cases e : ls[i]? with
      | none => rw [e] at hy; cases hy
      | some l =>
        rw [e] at hy; cases hy
        obtain ⟨lo, ll⟩ := line_okT ok (by rw [hls]; exact e)
        refine ⟨rfl, rfl, ?_⟩
        dsimp only
        change dSeq _ _ _ [some (.str t), some (.ref o), some (.int (i : Nat)), some (.str l), a4] _
        rw [rd_drop e] at er
        refine r_var rfl ?_
        refine ⟨l, rfl, lo, by omega, ?_⟩
        unfold lineR
        cases es : splitT l with
        | none =>
          rw [es] at er
          dsimp only at er ⊢
          change dSeq _ _ _ [some (.str t), some (.ref o), some (.int (i : Nat)), some (.str l), some .non] _
          refine r_var rfl ?_
          refine ifT rfl ?_
          refine ifT rfl ?_
          refine r_var rfl ?_
          rw [er] at L
          exact L μ2 R.D.le
        | some dk =>
          obtain ⟨d, k⟩ := dk
          rw [es] at er
          dsimp only at er ⊢
          change dSeq _ _ _ [some (.str t), some (.ref o), some (.int (i : Nat)), some (.str l), some (.tup [.int (d : Nat), .str k])] _
          refine r_var rfl ?_
          refine ifF rfl ?_
          refine r_var rfl ?_
          refine meth_ok R.ho trF_m.1 ?_
          refine r_var rfl ?_
          refine ix_tup (d := .int (d : Nat)) rfl ?_
          refine r_var rfl ?_
          refine ix_tup (d := .str k) rfl ?_
          refine ⟨μ, o, p, s, ad, d, k, rfl, R, so, ?_⟩
          cases c : canR s d k with
          | false =>
            rw [c, if_neg (by simp)] at er
            refine ifT rfl ?_
            refine r_var rfl ?_
            rw [er] at L
            exact L μ2 R.D.le
          | true =>
            rw [c, if_pos rfl] at er
            refine ifF rfl ?_
            simp only [dNext]
            refine r_var rfl ?_
            refine meth_ok R.ho trF_m.2 ?_
            refine r_var rfl ?_
            refine ix_tup (d := .int (d : Nat)) rfl ?_
            refine r_var rfl ?_
            refine ix_tup (d := .str k) rfl ?_
            refine ⟨μ, o, p, s, ad, d, k, rfl, R, so, c, fun μ3 ad' R3 => ?_⟩
            exact ⟨_, _, _, s.add d k, ad', rfl, R3, so.add c (splitT_some es).2, by rw [add_ks, List.length_append, si]; rfl, er⟩
    · rintro ρ μ2 ⟨a2, a3, a4, s, ad, rfl, R, so, si, er⟩
      have en : (enums (sts ls)).length = ls.length := by simp [enums, sts]
      rw [en] at si er
      rw [List.drop_length, rd] at er
      have kn : s.ks ≠ [] := fun z => by rw [z] at si; simp at si; omega
      have P := so.plant kn
      refine r_var rfl ?_
      refine attr_ok R.ho trF_w ?_
      refine ix_lst (d := .str s.root) (atI_nat (j := 0) (by rw [sts, List.getElem?_map, root_at so kn]; rfl)) ?_
      refine r_var rfl ?_
      refine attr_ok R.ho trF_c ?_
      have pl : (pre s.tree).length ≤ 60 := Nat.le_trans (len_sub P.nd fun x hx => (P.mem x).mp hx) so.len
      refine ⟨s.tree, s.f, _, refsD s.ks ad, by rw [P.key]; rfl, by have := P.dep; omega, by omega, P.P.fits, dicD_ref R.D.hp, fun k hk => ⟨.ref (ad k), ?_, ?_⟩, ?_⟩
      · unfold refsD; rw [valD_mapk (g := fun k => SD.ref (ad k)), if_pos ((P.mem k).mp hk)]
      · simp only [seqD, R.D.hl k ((P.mem k).mp hk)]
      · rw [er] at L
        exact L μ2 R.D.le
  | _ => exact ifT rfl (L μ (Le.refl μ))
end LK
namespace LK
open PySem PySem.Spec PyProof.Rows L2 DS MA
theorem rep_len (l : Str) : (Txt.replace l " " "").length ≤ l.length := by
  rw [← cpl_len, ← cpl_len, rep_cpl]
  exact List.length_filter_le ..
theorem tup2 {a b : SD} {μ : Mu} {Q : SD → Mu → Prop} (q : Q (.tup [a, b]) μ) : 2 ≤ sizeLine ∧ Q (.tup [a, b]) μ := ⟨(by decide), q⟩
theorem bad_ok {D : DEnds} {ρ : Rho} {μ : Mu} {i : Int} (h3 : ρ[3]? = some (some (.int i))) (q : D.rt (.tup [.str "line", .int i]) μ) : (dRet (dTup (dCons (dC (.str "line")) (dCons (dVar 3) dNil)))) D ρ μ := by
  refine r_var h3 ?_
  exact tup2 q
theorem nat_dec {a b : Nat} : decide ((a : Int) = (b : Int)) = decide (a = b) := by
  by_cases h : a = b
  · rw [decide_eq_true h, decide_eq_true (by omega)]
  · rw [decide_eq_false h, decide_eq_false (by omega)]
theorem rep_size (b : Nat) : (repS " " b).length = b := by rw [← cpl_len, cpl_blanks, List.length_replicate]
/-- the four conditions of a line by itself -/
theorem fine_ok {ρ : Rho} {μ μ0 : Mu} {Q : SD → Mu → Prop} {l k : Str} {b : Nat} {p : Addr} {ks : List Str} {f : Str → List Str} {ad : Str → Addr} (h1 : ρ[1]? = some (some (.ref p))) (h4 : ρ[4]? = some (some (.str l))) (h5 : ρ[5]? = some (some (.str k))) (h6 : ρ[6]? = some (some (.int (b : Nat)))) (hb : b ≤ 100000) (hk : k.length ≤ 100000) (D : DM μ0 μ p ks f ad)
    (q : Q (.bl (decide (l = repS " " b ++ k) && (decide (b % 2 = 0) && (keyT k && !decide (k ∈ ks))))) μ) :
    (dAndV (dOp (dEq false) (dVar 4) (dOp dAdd (dOp dMul (dC (.str " ")) (dVar 6)) (dVar 5))) (dAndV (dOp (dEq false) (dOp dMod (dVar 6) (dC (.int 2))) (dC (.int 0))) (dAndV (dCall sp__law_is_key [] (dCons (dVar 5) dNil)) (dDIn true (dVar 5) (dVar 1))))) ρ μ Q := by
  refine r_var h4 ?_
  refine r_var h6 ?_
  refine s_mul ⟨by omega, by omega, by rw [sizeLine_eq]; show 1 * _ ≤ _; omega⟩ ?_
  rw [Int.toNat_natCast]
  refine r_var h5 ?_
  refine s_add (by rw [rep_size, sizeLine_eq]; omega) ?_
  refine eq_ss ?_
  rw [Bool.false_bne]
  by_cases g1 : l = repS " " b ++ k
  rotate_left
  · rw [decide_eq_false g1] at q ⊢
    exact q
  rw [decide_eq_true g1] at q ⊢
  refine r_var h6 ?_
  refine i_mod (by omega) ?_
  refine i_eq ?_
  rw [show ((b : Int) % 2) = ((b % 2 : Nat) : Int) by omega, show decide (((b % 2 : Nat) : Int) = 0) = decide (b % 2 = 0) from nat_dec (b := 0)]
  by_cases g2 : b % 2 = 0
  rotate_left
  · rw [decide_eq_false g2] at q ⊢
    exact q
  rw [decide_eq_true g2] at q ⊢
  refine r_var h5 ?_
  refine ⟨k, rfl, hk, ?_⟩
  rw [Bool.true_and, Bool.true_and] at q
  change (match (SD.bl (keyT k)) with
    | .bl true => _
    | .bl false => _
    | _ => False)
  cases g3 : keyT k with
  | false => rw [g3] at q; exact q
  | true =>
    rw [g3, Bool.true_and] at q
    refine r_var h5 ?_
    refine r_var h1 ?_
    refine din_ok (dicD_ref D.hp) rfl ?_
    have hv : (valD (refsD ks ad) (.inr k)).isSome = decide (k ∈ ks) := by
      unfold refsD
      rw [valD_mapk (g := fun k => SD.ref (ad k))]
      by_cases h : k ∈ ks
      · rw [if_pos h, decide_eq_true h]; rfl
      · rw [if_neg h, decide_eq_false h]; rfl
    rw [hv, Bool.true_bne]
    exact q
/-- where the element cannot stand -/
theorem cond_ok {ρ : Rho} {μ μ0 : Mu} {Q : Bool → Mu → Prop} {k : Str} {d i : Nat} {p : Addr} {s : RS} {ad : Str → Addr} (h1 : ρ[1]? = some (some (.ref p))) (h2 : ρ[2]? = some (some (.lst (sts s.way)))) (h3 : ρ[3]? = some (some (.int (i : Nat)))) (h7 : ρ[7]? = some (some (.int (d : Nat)))) (h8 : ρ[8]? = some (some (.bl (!decide (k ∈ s.ks))))) (D : DM μ0 μ p s.ks s.f ad) (so : RSOk s) (si : s.ks.length = i)
    (q : Q (!canR s d k) μ) :
    (dOr (dNot (dTest (dVar 8))) (dOr (dTest (dOp dGt (dCB drLenD (dCons (dVar 1) dNil)) (dC (.int 59)))) (dOr (dTest (dOp dGt (dVar 7) (dC (.int 19)))) (dIfT (dTest (dOp (dEq false) (dVar 3) (dC (.int 0)))) (dTest (dOp (dEq true) (dVar 7) (dC (.int 0)))) (dNot (dTest (dChain dLt dLe (dC (.int 0)) (dVar 7) (dCB drLen (dCons (dVar 2) dNil))))))))) ρ μ Q := by
  have sl := so.len
  have wn : (sts s.way).length = s.way.length := by simp [sts]
  have rl : (refsD s.ks ad).length = s.ks.length := by simp [refsD]
  have w0 : s.way = [] ↔ i = 0 := by
    constructor
    · intro z
      have : s.ks = [] := Classical.byContradiction fun n => (so.ne n).1 z
      rw [this] at si; exact si.symm
    · intro z
      rw [z] at si
      rw [so.e (List.length_eq_zero_iff.mp si)]; rfl
  have cdef := canR_iff (s := s) (d := d) (k := k)
  have no : (canR s d k = true → False) → Q true μ := fun z => by
    rw [Bool.eq_false_iff.mpr z] at q; exact q
  have yes : canR s d k = true → Q false μ := fun z => by rw [z] at q; exact q
  refine r_var h8 ?_
  by_cases c1 : k ∈ s.ks
  · rw [decide_eq_true c1]
    refine ifT rfl ?_
    exact no fun z => (cdef.mp z).1 c1
  rw [decide_eq_false c1]
  refine ifF rfl ?_
  refine r_var h1 ?_
  refine lenR_ok D.hp ?_
  rw [rl]
  refine i_gt ?_
  by_cases c2 : s.ks.length = 60
  · rw [decide_eq_true (by omega)]
    refine ifT rfl ?_
    exact no fun z => (cdef.mp z).2.1 c2
  rw [decide_eq_false (by omega)]
  refine ifF rfl ?_
  refine r_var h7 ?_
  refine i_gt ?_
  by_cases c3 : d < 20
  rotate_left
  · rw [decide_eq_true (by omega)]
    refine ifT rfl ?_
    exact no fun z => c3 (cdef.mp z).2.2.1
  rw [decide_eq_false (by omega)]
  refine ifF rfl ?_
  refine r_var h3 ?_
  refine i_eq ?_
  by_cases c4 : i = 0
  · rw [decide_eq_true (by omega)]
    refine ifT rfl ?_
    refine r_var h7 ?_
    refine i_ne ?_
    by_cases c5 : d = 0
    · rw [decide_eq_true (by omega)]
      exact yes (cdef.mpr ⟨c1, c2, c3, by rw [if_pos (w0.mpr c4)]; exact c5⟩)
    · rw [decide_eq_false (by omega)]
      exact no fun z => by
        have := (cdef.mp z).2.2.2
        rw [if_pos (w0.mpr c4)] at this
        exact c5 this
  · rw [decide_eq_false (by omega)]
    refine ifF rfl ?_
    have wne : s.way ≠ [] := fun z => c4 (w0.mp z)
    refine r_var h7 ?_
    refine i_lt ?_
    by_cases c5 : 0 < d
    · rw [decide_eq_true (by omega)]
      refine r_var h2 ?_
      refine l_len ?_
      rw [wn]
      refine i_le ?_
      by_cases c6 : d ≤ s.way.length
      · rw [decide_eq_true (by omega)]
        exact yes (cdef.mpr ⟨c1, c2, c3, by rw [if_neg wne]; exact ⟨by omega, c6⟩⟩)
      · rw [decide_eq_false (by omega)]
        exact no fun z => by
          have := (cdef.mp z).2.2.2
          rw [if_neg wne] at this
          exact c6 this.2
    · rw [decide_eq_false (by omega)]
      exact no fun z => by
        have := (cdef.mp z).2.2.2
        rw [if_neg wne] at this
        omega
def sp__law_tree_due : DSp := fun ds μ Q _ => ∃ (d : SD) (m : Nat), ds = [d] ∧ okV m d ∧ wtV d ≤ 100000 ∧ lookT d (fun j => ∀ μ', Le μ μ' → Q (.tup [.str "line", .int (j : Nat)]) μ') (fun d => ∀ μ', Le μ μ' → Q (.tup [.str "returned", d]) μ')
theorem len__law_tree_due : ∀ ds μ Q E, sp__law_tree_due ds μ Q E → ds.length = 1 := by rintro ds μ Q E ⟨d, m, rfl, _⟩; rfl
def t__law_tree_due : DTS := (dSeq (dIfS (dNot (dTest (dCB drIsi (dCons (dVar 0) (dCons (dC (.ty "str")) dNil))))) (dRet (dTup (dCons (dC (.str "line")) (dCons (dC (.int 0)) dNil)))) dNext)
    (dSeq (dPar 1 2 (dCons dDict0M (dCons (dLst dNil) dNil)))
    (dSeq (dFor (jEnum (dCons (dText1 drSplit (dVar 0) (dC (.str "\n"))) dNil)) (hTup 2 (hCons (hName 3) (hCons (hName 4) hNil))) (dSeq (dSet (dRepl " " "" (dVar 4)) 5)
    (dSeq (dSet (dOp dSub (dCB drLen (dCons (dVar 4) dNil)) (dCB drLen (dCons (dVar 5) dNil))) 6)
    (dSeq (dSet (dOp dDiv (dVar 6) (dC (.int 2))) 7)
    (dSeq (dSet (dAndV (dOp (dEq false) (dVar 4) (dOp dAdd (dOp dMul (dC (.str " ")) (dVar 6)) (dVar 5))) (dAndV (dOp (dEq false) (dOp dMod (dVar 6) (dC (.int 2))) (dC (.int 0))) (dAndV (dCall sp__law_is_key [] (dCons (dVar 5) dNil)) (dDIn true (dVar 5) (dVar 1))))) 8)
    (dSeq (dIfS (dOr (dNot (dTest (dVar 8))) (dOr (dTest (dOp dGt (dCB drLenD (dCons (dVar 1) dNil)) (dC (.int 59)))) (dOr (dTest (dOp dGt (dVar 7) (dC (.int 19)))) (dIfT (dTest (dOp (dEq false) (dVar 3) (dC (.int 0)))) (dTest (dOp (dEq true) (dVar 7) (dC (.int 0)))) (dNot (dTest (dChain dLt dLe (dC (.int 0)) (dVar 7) (dCB drLen (dCons (dVar 2) dNil))))))))) (dRet (dTup (dCons (dC (.str "line")) (dCons (dVar 3) dNil)))) dNext)
    (dSeq (dIfS (dTest (dOp dGt (dVar 7) (dC (.int 0)))) (dSeq (dSet (dDGet (dVar 1) (dOp dIx (dVar 2) (dOp dSub (dVar 7) (dC (.int 1))))) 9)
    (dDrop (dLM dmAppend (dVar 9) (dCons (dVar 5) dNil)))) dNext)
    (dSeq (dDPut (dVar 1) (dVar 5) (dLstM dNil))
    (dSet (dOp dAdd (dSl (dVar 2) dNoPart (dPart (dVar 7))) (dLst (dCons (dVar 5) dNil))) 2)))))))))
    (dRet (dTup (dCons (dC (.str "returned")) (dCons (dCall (sp__law_from 24) [] (dCons (dOp dIx (dVar 2) (dC (.int 0))) (dCons (dVar 1) dNil))) dNil)))))))
theorem read__law_tree_due : ∀ ds μ Q E, sp__law_tree_due ds μ Q E → t__law_tree_due { nx := fun _ μ' => Q .non μ', rt := Q } (begin_ ["_law_written", "_law_lists", "_law_way_here", "_law_at", "_law_line", "_law_key", "_law_blanks", "_law_depth", "_law_is_fine", "_law_children"] ds) μ := by
  rintro ds μ Q E ⟨d, m, rfl, v, wt, L⟩
  unfold t__law_tree_due
  refine r_var rfl ?_
  refine isi_str v ?_
  cases d with
  | ref a => rw [okV] at v; exact v.elim
  | ty a => rw [okV] at v; exact v.elim
  | rol a => rw [okV] at v; exact v.elim
  | exc a b => rw [okV] at v; exact v.elim
  | ptp a => rw [okV] at v; exact v.elim
  | str t =>
    rw [okV] at v
    rw [wtV] at wt
    have ok : PyData.strOk t = true := v
    have ln : t.length ≤ 100000 := wt
    have nl := parts_n (x := t) feed1
    have lp := split_pos t "\n"
    rw [lookT_str] at L
    refine ifF rfl ?_
    simp only [dNext]
    intro p hp
    refine ⟨Nat.zero_le _, ?_⟩
    have D0 : DM μ (up μ p (.dic [])) p RS.nil.ks RS.nil.f (fun _ => p) := ⟨(Le.refl μ).up hp, by rw [up_same]; rfl, fun k hk => (by cases hk), fun k hk => (by cases hk), hp, fun k hk => (by cases hk)⟩
    generalize up μ p (.dic []) = μ1 at D0
    dsimp only [dNil]
    change dSeq _ _ _ [some (.str t), some (.ref p), some (.lst (sts RS.nil.way)), none, none, none, none, none, none, none] _
    refine for_seq61 ?_
    refine lines_atT rfl ln fun Pk hP => ?_
    generalize hls : Txt.split t "\n" = ls at *
    refine ⟨fun i ρ μ' => ∃ (a3 a4 a5 a6 a7 a8 a9 : Option SD) (s : RS) (ad : Str → Addr), ρ = [some (.str t), some (.ref p), some (.lst (sts s.way)), a3, a4, a5, a6, a7, a8, a9] ∧ DM μ μ' p s.ks s.f ad ∧ RSOk s ∧ s.ks.length = i ∧ rd RS.nil 0 ls = rd s i (ls.drop i), ⟨none, none, none, none, none, none, none, RS.nil, _, rfl, D0, RSOk.nil, rfl, rfl⟩, fun _ _ _ _ _ => hP _, ?_, ?_⟩
    · rintro i d ρ μ2 hd ⟨a3, a4, a5, a6, a7, a8, a9, s, ad, rfl, D, so, si, er⟩
      obtain ⟨y, hy, rfl⟩ := enums_at hd
      rw [sts, List.getElem?_map] at hy
      cases e : ls[i]? with
      | none => rw [e] at hy; cases hy
      | some l =>
        rw [e] at hy; cases hy
        obtain ⟨lo, ll⟩ := line_okT ok (by rw [hls]; exact e)
        refine ⟨rfl, rfl, ?_⟩
        dsimp only
        change dSeq _ _ _ [some (.str t), some (.ref p), some (.lst (sts s.way)), some (.int (i : Nat)), some (.str l), a5, a6, a7, a8, a9] _
        rw [rd_drop e] at er
        have rln := rep_len l
        refine r_var rfl ?_
        refine ⟨by show l.length + (l.length + 1) * 0 ≤ 16777216; omega, ?_⟩
        have fn := @fineT_none l
        have fo := @fineT_of l
        unfold fineT at fn fo
        generalize Txt.replace l " " "" = k at *
        dsimp only
        change dSeq _ _ _ [some (.str t), some (.ref p), some (.lst (sts s.way)), some (.int (i : Nat)), some (.str l), some (.str k), a6, a7, a8, a9] _
        refine r_var rfl ?_
        refine l_lenS (by rw [sizeLine_eq]; omega) ?_
        refine r_var rfl ?_
        refine l_lenS (by rw [sizeLine_eq]; omega) ?_
        refine i_sub ?_
        rw [show (l.length : Int) - (k.length : Int) = ((l.length - k.length : Nat) : Int) by omega]
        have hb : l.length - k.length ≤ 100000 := by omega
        generalize hbe : l.length - k.length = b at *
        dsimp only
        change dSeq _ _ _ [some (.str t), some (.ref p), some (.lst (sts s.way)), some (.int (i : Nat)), some (.str l), some (.str k), some (.int (b : Nat)), a7, a8, a9] _
        refine r_var rfl ?_
        refine i_div (div_ok (by omega) (by decide)) ?_
        rw [show ((b : Int) / 2) = ((b / 2 : Nat) : Int) by omega]
        dsimp only
        change dSeq _ _ _ [some (.str t), some (.ref p), some (.lst (sts s.way)), some (.int (i : Nat)), some (.str l), some (.str k), some (.int (b : Nat)), some (.int (b / 2 : Nat)), a8, a9] _
        refine fine_ok (l := l) (k := k) (b := b) rfl rfl rfl rfl hb (by omega) D ?_
        cases es : splitT l with
        | none =>
          rw [es] at er
          dsimp only at er
          have nf := fn es
          have fz : (decide (l = repS " " b ++ k) && (decide (b % 2 = 0) && (keyT k && !decide (k ∈ s.ks)))) = false := by
            by_cases g1 : l = repS " " b ++ k
            · by_cases g2 : b % 2 = 0
              · by_cases g3 : keyT k = true
                · exact (nf ⟨g1, g2, g3⟩).elim
                · rw [show keyT k = false by simpa using g3]; simp
              · rw [decide_eq_false g2]; simp
            · rw [decide_eq_false g1]; simp
          rw [fz]
          dsimp only
          change dSeq _ _ _ [some (.str t), some (.ref p), some (.lst (sts s.way)), some (.int (i : Nat)), some (.str l), some (.str k), some (.int (b : Nat)), some (.int (b / 2 : Nat)), some (.bl false), a9] _
          refine r_var rfl ?_
          refine ifT rfl ?_
          refine ifT rfl ?_
          refine bad_ok rfl ?_
          rw [er] at L
          exact L μ2 D.le
        | some dk =>
          obtain ⟨d, k'⟩ := dk
          obtain ⟨⟨g1, g2, g3⟩, g4, g5⟩ := fo es
          subst g4
          rw [es] at er
          dsimp only at er
          rw [decide_eq_true g1, decide_eq_true g2, g3, Bool.true_and, Bool.true_and, Bool.true_and]
          have hd2 : b / 2 = d := by omega
          rw [hd2]
          dsimp only
          change dSeq _ _ _ [some (.str t), some (.ref p), some (.lst (sts s.way)), some (.int (i : Nat)), some (.str l), some (.str k), some (.int (b : Nat)), some (.int (d : Nat)), some (.bl (!decide (k ∈ s.ks))), a9] _
          refine cond_ok (k := k) (d := d) (i := i) rfl rfl rfl rfl rfl D so si ?_
          cases c : canR s d k with
          | false =>
            rw [c, if_neg (by simp)] at er
            refine ifT rfl ?_
            refine bad_ok rfl ?_
            rw [er] at L
            exact L μ2 D.le
          | true =>
            rw [c, if_pos rfl] at er
            refine ifF rfl ?_
            simp only [dNext]
            obtain ⟨c1, c2, c3, c4⟩ := canR_iff.mp c
            have wl := way_len so
            have sl := so.len
            have rl : (refsD s.ks ad).length = s.ks.length := by simp [refsD]
            have fin : ∀ (μ3 : Mu) (b9 : Option SD) (D' : DEnds), D'.nx [some (.str t), some (.ref p), some (.lst (sts (s.add d k).way)), some (.int (i : Nat)), some (.str l), some (.str k), some (.int (b : Nat)), some (.int (d : Nat)), some (.bl (!decide (k ∈ s.ks))), b9] μ3 → (dSet (dOp dAdd (dSl (dVar 2) dNoPart (dPart (dVar 7))) (dLst (dCons (dVar 5) dNil))) 2) D' [some (.str t), some (.ref p), some (.lst (sts s.way)), some (.int (i : Nat)), some (.str l), some (.str k), some (.int (b : Nat)), some (.int (d : Nat)), some (.bl (!decide (k ∈ s.ks))), b9] μ3 := fun μ3 b9 D' kont => by
              refine r_var rfl ?_
              refine r_var rfl ?_
              refine sl_L ?_
              rw [cutL_to]
              refine r_var rfl ?_
              refine ⟨(by show 1 ≤ sizeLine; decide), ?_⟩
              refine l_add (le_line (m := 100) (by simp [sts]; omega) (by omega)) ?_
              have ew : (sts s.way).take d ++ [SD.str k] = sts (s.add d k).way := by
                unfold RS.add
                split
                · rename_i h; rw [h]; rfl
                · show _ = sts (s.way.take d ++ [k])
                  simp [sts]
              rw [ew]
              exact kont
            refine r_var rfl ?_
            refine i_gt ?_
            by_cases h0 : d = 0
            · subst h0
              rw [decide_eq_false (by omega)]
              refine ifF rfl ?_
              simp only [dNext]
              refine ⟨Nat.zero_le _, fun a ha => ?_⟩
              have nap : p ≠ a := fun e => by have := D.hp; rw [e, ha] at this; cases this
              refine r_var rfl ?_
              refine r_var rfl ?_
              refine put_ok (by rw [up_ne nap]; exact D.hp) rfl (lt_line (m := 100) (by omega) (by omega)) ?_
              exact fin _ _ _ ⟨_, _, _, _, _, _, _, s.add 0 k, _, rfl, D.first so c ha, so.add c g3, by rw [add_ks, List.length_append, si]; rfl, er⟩
            · have w0 : s.way ≠ [] := fun z => by rw [if_pos z] at c4; exact h0 c4
              rw [if_neg w0] at c4
              obtain ⟨e1, e2, e3⟩ := RS.home_mem so c4.1 c4.2
              rw [decide_eq_true (by omega)]
              refine ifT rfl ?_
              refine r_var rfl ?_
              refine r_var rfl ?_
              refine r_var rfl ?_
              refine i_sub ?_
              rw [show (d : Int) - 1 = ((d - 1 : Nat) : Int) by omega]
              refine ix_lst (d := .str (s.home d)) (atI_nat (by rw [sts, List.getElem?_map, e1]; rfl)) ?_
              refine get_ok (dicD_ref D.hp) rfl (v := .ref (ad (s.home d))) (by unfold refsD; rw [valD_mapk (g := fun k => SD.ref (ad k)), if_pos e2]) ?_
              dsimp only
              change dDrop _ _ [some (.str t), some (.ref p), some (.lst (sts s.way)), some (.int (i : Nat)), some (.str l), some (.str k), some (.int (b : Nat)), some (.int (d : Nat)), some (.bl (!decide (k ∈ s.ks))), some (.ref (ad (s.home d)))] _
              refine r_var rfl ⟨isSome_ref (D.hl _ e2), ?_⟩
              refine r_var rfl ?_
              have fl := f_len so e2
              refine dm_append (D.hl _ e2) (lt_line (m := 100) (by simp [sts]; omega) (by omega)) ?_
              have es : sts (s.f (s.home d)) ++ [SD.str k] = sts (s.f (s.home d) ++ [k]) := by simp [sts]
              rw [es]
              have hp1 : (up μ2 (ad (s.home d)) (.lst (sts (s.f (s.home d) ++ [k])))) p = some (.dic (refsD s.ks ad)) := by rw [up_ne (Ne.symm (D.adp e2))]; exact D.hp
              refine ⟨Nat.zero_le _, fun a ha => ?_⟩
              have nap : p ≠ a := fun e => by rw [e, ha] at hp1; cases hp1
              refine r_var rfl ?_
              refine r_var rfl ?_
              refine put_ok (by rw [up_ne nap]; exact hp1) rfl (lt_line (m := 100) (by omega) (by omega)) ?_
              exact fin _ _ _ ⟨_, _, _, _, _, _, _, s.add d k, _, rfl, D.step so c (by omega) ha, so.add c g3, by rw [add_ks, List.length_append, si]; rfl, er⟩
    · rintro ρ μ2 ⟨a3, a4, a5, a6, a7, a8, a9, s, ad, rfl, D, so, si, er⟩
      have en : (enums (sts ls)).length = ls.length := by simp [enums, sts]
      rw [en] at si er
      rw [List.drop_length, rd] at er
      have kn : s.ks ≠ [] := fun z => by rw [z] at si; simp at si; omega
      have P := so.plant kn
      have pl : (pre s.tree).length ≤ 60 := Nat.le_trans (len_sub P.nd fun x hx => (P.mem x).mp hx) so.len
      refine r_var rfl ?_
      refine ix_lst (d := .str s.root) (atI_nat (j := 0) (by rw [sts, List.getElem?_map, root_at so kn]; rfl)) ?_
      refine r_var rfl ?_
      refine ⟨s.tree, s.f, s.ks, p, ad, by rw [P.key]; rfl, by have := P.dep; omega, by omega, P.P.fits, fun k hk => (P.mem k).mp hk, ⟨dicD_ref D.hp, D.hl⟩, ?_⟩
      refine tup2 ?_
      rw [er] at L
      exact L μ2 D.le
  | _ => exact ifT rfl (tup2 (L μ (Le.refl μ)))
end LK
namespace LK
open PySem PySem.Spec PyProof.Rows L2 DS MA
open TL (joinL tl_join join_eq)
theorem abc_range : cpl abcS = List.range' 97 26 := by decide +kernel
theorem keyT_of {k : Str} (h : LowK k) : keyT k = true := by
  obtain ⟨a, b, c⟩ := h
  unfold keyT
  rw [keyB_eq, Bool.and_eq_true, Bool.and_eq_true, decide_eq_true_iff, decide_eq_true_iff, List.all_eq_true]
  refine ⟨⟨a, b⟩, fun x hx => decide_eq_true ?_⟩
  have := c x hx
  show x ∈ cpl abcS
  rw [abc_range, List.mem_range'_1]
  omega
mutual
theorem linesT_sgn : ∀ (d : Nat) (t : T), (∀ k ∈ pre t, keyT k = true) → ∀ x ∈ linesT d t, ∀ c ∈ cpl x, c = 32 ∨ c ∈ cpl abcS
  | d, .node k cs, h => by
    rw [linesT, rep_two]
    rw [pre] at h
    intro x hx c hc
    rcases List.mem_cons.mp hx with rfl | hx
    · rw [cpl_app, cpl_blanks] at hc
      rcases List.mem_append.mp hc with hc | hc
      · exact .inl (List.mem_replicate.mp hc).2
      · exact .inr ((keyT_sgn (h k (List.mem_cons_self ..))).2.2 c hc)
    · exact linesL_sgn (d + 1) cs (fun y hy => h y (List.mem_cons_of_mem _ hy)) x hx c hc
theorem linesL_sgn : ∀ (d : Nat) (ts : List T), (∀ k ∈ preL ts, keyT k = true) → ∀ x ∈ linesL d ts, ∀ c ∈ cpl x, c = 32 ∨ c ∈ cpl abcS
  | _, [], _ => by intro x hx; rw [linesL] at hx; cases hx
  | d, t :: r, h => by
    rw [linesL]
    rw [preL] at h
    intro x hx c hc
    rcases List.mem_append.mp hx with hx | hx
    · exact linesT_sgn d t (fun y hy => h y (List.mem_append_left _ hy)) x hx c hc
    · exact linesL_sgn d r (fun y hy => h y (List.mem_append_right _ hy)) x hx c hc
end
theorem sgn_lt {c : Nat} (h : c = 32 ∨ c ∈ cpl abcS) : c ≠ 10 ∧ c < 128 := by
  rcases h with rfl | h
  · decide
  · exact (abc_le c h).2
theorem split_text {t : T} (h : ∀ k ∈ pre t, keyT k = true) : Txt.split (textT 0 t) "\n" = linesT 0 t := by
  rw [text_lines]
  exact TL.split_join (y := "\n") (s := 10) (S := []) rfl (by decide +kernel) (linesT_ne 0 t) fun p hp hc => (sgn_lt (linesT_sgn 0 t h p hp 10 hc)).1 rfl
theorem text_asc {t : T} (h : ∀ k ∈ pre t, keyT k = true) : asc (textT 0 t) := fun c hc => by
  rw [text_lines, TL.join_eq] at hc
  rcases mem_join_inv hc with z | ⟨p, hp, z⟩
  · have : ("\n" : Str).cps.toList = [10] := by decide +kernel
    rw [this] at z
    have := List.mem_singleton.mp z
    omega
  · exact (sgn_lt (linesT_sgn 0 t h p hp c z)).2
theorem two59 {w : Str} {d : SD} {D B : Nat} (h : PyData.strOk w = true) (l : w.cps.size ≤ 30) (v : Val 0 D B d) : Val 0 (D + 1) (B + 40) (.tup [.str w, d]) :=
  (Val.tup (ValL.cons (((Val.str h).mono (Nat.le_refl _) (Nat.zero_le D) l) : Val 0 D 30 (.str w)) (ValL.one v))).mono (Nat.le_refl _) (Nat.le_refl _) (by omega)
def TabL (μ : Mu) : Prop := ∃ P, μ P = some (.tab P "law" "law.<locals>.<lambda>")
theorem TabL.le {μ μ' : Mu} (L : TabL μ) (l : Le μ μ') : TabL μ' := let ⟨P, e⟩ := L; ⟨P, l _ _ e⟩
theorem tree_valK {t : T} (l : (pre t).length ≤ 60) (d : dep t ≤ 20) (h : ∀ k ∈ pre t, KeyOk k) : Val 0 40 4000 (enc t) := (enc_val t h).mono (Nat.le_refl _) (by omega) (by omega)
theorem keyT_ok {k : Str} (h : keyT k = true) : KeyOk k := by
  obtain ⟨a, b, c⟩ := keyT_sgn h
  refine ⟨asc_ok fun x hx => (abc_le x (c x hx)).2.2, ?_⟩
  show k.length ≤ 61
  omega
theorem RSOk.val {s : RS} (o : RSOk s) (h : s.ks ≠ []) : Val 0 40 4000 (enc s.tree) := by
  have P := o.plant h
  exact tree_valK (Nat.le_trans (len_sub P.nd fun x hx => (P.mem x).mp hx) o.len) P.dep fun k hk => keyT_ok (o.key k ((P.mem k).mp hk))
abbrev cmp59 : DTE := (dOp (dEq true) (dCB drReprV (dCons (dLam "law" "law.<locals>.<lambda>" sp__law_heard (fun Ex => (dCallX sp_read_tree [] Ex (dCons (dVar 6) dNil)))) dNil)) (dCB drReprV (dCons (dCall sp__law_tree_due [] (dCons (dVar 6) dNil)) dNil)))
theorem cmp_ok {ρ : Rho} {μ : Mu} {Q : SD → Mu → Prop} {t : Str} (h6 : ρ[6]? = some (some (.str t))) (L : TabL μ) (ok : PyData.strOk t = true) (ln : t.length ≤ 20000) (q : ∀ μ', Le μ μ' → Q (.bl false) μ') : cmp59 ρ μ Q := by
  obtain ⟨P, eP⟩ := L
  have fin : ∀ (d : SD) (μ1 : Mu), Le μ μ1 → Val 0 41 5000 d → (∀ R : SD → Mu → Prop, (∀ μ2, Le μ1 μ2 → R d μ2) → sp__law_tree_due [.str t] μ1 R fun _ _ _ => False) → drReprV [d] μ1 fun x μ2 => (dCB drReprV (dCons (dCall sp__law_tree_due [] (dCons (dVar 6) dNil)) dNil)) ρ μ2 fun y μ3 => dEq true x y μ3 Q := fun d μ1 l1 v due => by
    have nr : ∀ b, d ≠ .ref b := fun b z => by have := v.ok; rw [z, okV] at this; exact this
    refine r_reprV v nr rfl (by decide) (by omega) (by omega) ?_
    refine r_var h6 ?_
    refine due _ fun μ2 l2 => ?_
    refine r_reprV v nr rfl (by decide) (by omega) (by omega) ?_
    refine eq_ss ?_
    rw [decide_eq_true rfl]
    exact q μ2 (l1.trans l2)
  refine ⟨P, eP, fun Q1 E1 h1 h2 => ?_⟩
  refine r_var h6 ?_
  refine ⟨.str t, 0, rfl, by rw [okV]; exact ok, show t.length ≤ 100000 by omega, ?_⟩
  rw [lookT_str]
  have nl := parts_n (x := t) feed1
  have lp := split_pos t "\n"
  cases hr : rd RS.nil 0 (Txt.split t "\n") with
  | bad j =>
    have hj := rd_badS _ _ _ _ hr
    refine fun μ1 l1 => h2 _ _ ?_
    have v : Val 0 41 5000 (.tup [.str "line", .int (j : Nat)]) := (two59 (w := "line") (by decide +kernel) (by decide +kernel) ((Val.int (m := 0) (i := (j : Nat)) (by omega)) : Val 0 0 0 _)).mono (Nat.le_refl _) (by omega) (by omega)
    refine fin _ μ1 l1 v fun R r => ⟨.str t, 0, rfl, by rw [okV]; exact ok, show t.length ≤ 100000 by omega, ?_⟩
    rw [lookT_str, hr]
    exact fun μ2 l2 => r μ2 l2
  | ok s =>
    obtain ⟨so, sn⟩ := rd_okS _ _ _ _ RSOk.nil hr
    have kn : s.ks ≠ [] := fun z => by rw [z] at sn; simp at sn; omega
    refine fun μ1 l1 => h1 _ _ ?_
    have v := (two59 (w := "returned") (by decide +kernel) (by decide +kernel) (so.val kn)).mono (Nat.le_refl _) (show 41 ≤ 41 by omega) (show 4040 ≤ 5000 by omega)
    refine fin _ μ1 l1 v fun R r => ⟨.str t, 0, rfl, by rw [okV]; exact ok, show t.length ≤ 100000 by omega, ?_⟩
    rw [lookT_str, hr]
    exact fun μ2 l2 => r μ2 l2
theorem clip59 (ns : List Int) : ∃ r : Nat, 1 ≤ r ∧ r ≤ 3 ∧ (if (if ((ns.map SD.int).length : Int) < 3 then ((ns.map SD.int).length : Int) else 3) > 1 then (if ((ns.map SD.int).length : Int) < 3 then ((ns.map SD.int).length : Int) else 3) else 1) = (r : Int) := by
  refine ⟨(if (if ((ns.map SD.int).length : Int) < 3 then ((ns.map SD.int).length : Int) else 3) > 1 then (if ((ns.map SD.int).length : Int) < 3 then ((ns.map SD.int).length : Int) else 3) else 1).toNat, ?_, ?_, ?_⟩ <;> split <;> split <;> omega
theorem max59 {μ : Mu} {Q : SD → Mu → Prop} {m n : Int} (q : Q (.int (if n > m then n else m)) μ) : drI2 (fun i j => if j > i then j else i) [.int m, .int n] μ Q := q
theorem len59 {xs : List SD} {μ : Mu} {Q : SD → Mu → Prop} (q : Q (.int (xs.length : Nat)) μ) : drLen [.rol xs] μ Q := q
theorem addM_R59 {a : Addr} {xs ys : List SD} {μ : Mu} {Q : SD → Mu → Prop} (m : μ a = some (.lst xs)) (h : xs.length + ys.length ≤ sizeLine) (q : ∀ p, μ p = none → Q (.ref p) (up μ p (.lst (xs ++ ys)))) : dAddM (.ref a) (.lst ys) μ Q := by
  unfold dAddM
  simp only [lstD, m]
  exact ⟨h, q⟩
theorem for_end59 {wi : DTI} {g : DTG} {tb : DTS} {D : DEnds} {ρ : Rho} {μ : Mu} (k : wi ρ μ fun ds ok μ1 => ∃ W : Nat → Rho → Mu → Prop, W 0 ρ μ1 ∧ (∀ i ρ μ, i ≤ ds.length → W i ρ μ → ok μ) ∧ (∀ i d ρ μ, ds[i]? = some d → W i ρ μ → g d ρ μ fun ρ2 μ2 => tb { D with nx := W (i + 1), ct := W (i + 1), bk := D.nx } ρ2 μ2) ∧ ∀ ρ μ, W ds.length ρ μ → D.nx ρ μ) : dFor wi g tb D ρ μ := k
theorem TabL.lex {μ μ' : Mu} {h : Addr} {T : Nat} (L : TabL μ) (H : HandAt μ h T) (l : LeX h μ μ') : TabL μ' := by
  obtain ⟨P, e⟩ := L
  refine ⟨P, l _ _ (fun z => ?_) e⟩
  obtain ⟨g, m, t, e2, _⟩ := H.ex
  rw [z, e2] at e; cases e
theorem TabL.up {μ : Mu} {p : Addr} {xs : List SD} {m : MO} (L : TabL μ) (h : μ p = some (.lst xs)) : TabL (up μ p m) := by
  obtain ⟨P, e⟩ := L
  refine ⟨P, ?_⟩
  rw [up_ne]; exact e
  rintro rfl; rw [h] at e; cases e
/-- the hand, the table, the list of texts -/
structure G59 (μ : Mu) (h p : Addr) (T n : Nat) : Prop where
  H : HandAt μ h T
  L : TabL μ
  n1 : h ≠ p
  l : ∃ L : List Str, μ p = some (.lst (sts L)) ∧ (∀ x ∈ L, asc x ∧ x.length ≤ 13000) ∧ L.length ≤ n
section
variable {μ μ' : Mu} {h p : Addr} {T T' n n' : Nat}
theorem G59.mono (G : G59 μ h p T n) (a : T ≤ T') (b : n ≤ n') : G59 μ h p T' n' := ⟨G.H.mono a, G.L, G.n1, let ⟨L, m, k, l⟩ := G.l; ⟨L, m, k, Nat.le_trans l b⟩⟩
theorem G59.hand (G : G59 μ h p T n) (H : HandAt μ' h T') (l : LeX h μ μ') : G59 μ' h p T' n := ⟨H, G.L.lex G.H l, G.n1, let ⟨L, m, k, ll⟩ := G.l; ⟨L, l _ _ (Ne.symm G.n1) m, k, ll⟩⟩
theorem G59.le (G : G59 μ h p T n) (l : Le μ μ') : G59 μ' h p T n := ⟨G.H.le l, G.L.le l, G.n1, let ⟨L, m, k, ll⟩ := G.l; ⟨L, l _ _ m, k, ll⟩⟩
/-- one text more -/
theorem G59.app (G : G59 μ h p T n) (hn : n ≤ 1000) {x : Str} (xa : asc x) (xl : x.length ≤ 13000) {Q : SD → Mu → Prop} (q : ∀ μ', G59 μ' h p T (n + 1) → Q .non μ') : dmAppend (.ref p) [.str x] μ Q := by
  obtain ⟨L, m, k, l⟩ := G.l
  refine dm_append m (lt_line (m := 2000) (by simp [sts]; omega) (by omega)) ?_
  refine q _ ⟨G.H.up G.n1, G.L.up m, G.n1, L ++ [x], by rw [up_same]; simp [sts], fun y hy => ?_, by rw [List.length_append]; simp; omega⟩
  rcases List.mem_append.mp hy with z | z
  · exact k y z
  · rw [List.mem_singleton.mp z]; exact ⟨xa, xl⟩
/-- several texts more, in a new list -/
theorem G59.more (G : G59 μ h p T n) (hn : n ≤ 1000) {xs : List Str} (xa : ∀ x ∈ xs, asc x ∧ x.length ≤ 13000) (xl : xs.length ≤ 100) {Q : SD → Mu → Prop} (q : ∀ p' μ', G59 μ' h p' T (n + xs.length) → Q (.ref p') μ') : dAddM (.ref p) (.lst (sts xs)) μ Q := by
  obtain ⟨L, m, k, l⟩ := G.l
  refine addM_R59 m (le_line (m := 2000) (by simp [sts]; omega) (by omega)) fun p' hp' => ?_
  have nh := G.H.ne hp'
  refine q p' _ ⟨G.H.up nh, G.L.le ((Le.refl μ).up hp'), nh, L ++ xs, by rw [up_same]; simp [sts], fun y hy => (List.mem_append.mp hy).elim (k y) (xa y), by rw [List.length_append]; omega⟩
end
theorem lits_ok {xs : List Str} (h : (xs.all fun x => (x.cps.toList.all fun c => decide (c < 128)) && decide (x.length ≤ 13000)) = true) : ∀ x ∈ xs, asc x ∧ x.length ≤ 13000 := fun x hx => by
  have := List.all_eq_true.mp h x hx
  rw [Bool.and_eq_true] at this
  exact ⟨sg_asc this.1, of_decide_eq_true this.2⟩
end LK
namespace LK
open PySem PySem.Spec PyProof.Rows L2 DS MA
def sp_law : DSp := fun ds μ Q _ => ∃ ns : List Int, ds = [.rol (ns.map SD.int)] ∧ ns.length ≤ 63 ∧ TabL μ ∧ ∀ μ', Q (.bl true) μ'
theorem law_takes {ns : List Int} {T : Addr} (hl : ns.length ≤ 63) : ∀ μ, μ T = some (.tab T "law" "law.<locals>.<lambda>") → sp_law [.rol (ns.map SD.int)] μ (fun d _ => d = .bl true) (fun _ _ _ => False) := fun μ h => ⟨ns, rfl, hl, ⟨T, h⟩, fun _ => rfl⟩
theorem len_law : ∀ ds μ Q E, sp_law ds μ Q E → ds.length = 1 := by rintro ds μ Q E ⟨ns, rfl, _⟩; rfl
def t_law : DTS := (dSeq (dFor (jRng1 (dCons (dCB (drI2 fun i j => if j > i then j else i) (dCons (dC (.int 1)) (dCons (dCB (drI2 fun i j => if j < i then j else i) (dCons (dC (.int 3)) (dCons (dCB drLen (dCons (dVar 0) dNil)) dNil))) dNil))) dNil)) (hName 1) (dSeq (dSet (dCall sp__law_hand [] (dCons (dVar 0) (dCons (dVar 1) dNil))) 2)
    (dSeq (dSet (dCall sp__law_keys [] (dCons (dVar 2) (dCons (dC (.int 12)) dNil))) 3)
    (dSeq (dSet (dLstM (dCons (dC (.str "")) (dCons (dC (.str " ")) (dCons (dC (.str "a")) (dCons (dC (.str " a")) (dCons (dC (.str "  a")) (dCons (dC (.str "a\n")) (dCons (dC (.str "\na")) (dCons (dC (.str "a\nb")) (dCons (dC (.str "a\n b")) (dCons (dC (.str "a\n  b")) (dCons (dC (.str "a\n    b")) (dCons (dC (.str "a\n  a")) (dCons (dC (.str "a\n  b\n  b")) dNil)))))))))))))) 4)
    (dSeq (dSet (dOp dAddM (dVar 4) (dLst (dCons (dC (.str "a\n  b\n    c\n  d\n    c")) (dCons (dC (.str "a\n  b\nc")) (dCons (dC (.str "A")) (dCons (dC (.str "a ")) (dCons (dC (.str "a\n  b c")) (dCons (dC (.str "a\n\n  b")) (dCons (dC (.str "a\n   b")) dNil))))))))) 4)
    (dSeq (dSet (dOp dAddM (dVar 4) (dLst (dCons (dC (.str "abcdefghi")) (dCons (dC (.str "a\t")) (dCons (dC (.str "\ta")) (dCons (dC (.str "a\n\tb")) (dCons (dC (.str "a\n  b\t")) (dCons (dC (.str "a\n \tb")) (dCons (dC (.str "a\t\n  b")) (dCons (dC (.str "a\n  b\tc")) (dCons (dC (.str "a_b")) dNil))))))))))) 4)
    (dSeq (dFor (jRng1 (dCons (dC (.int 3)) dNil)) (hName 5) (dSeq (dSet (dCall sp__law_grown [] (dCons (dVar 2) (dCons (dSl (dVar 3) dNoPart (dPart (dOp dAdd (dC (.int 1)) (dCall sp__law_take [] (dCons (dVar 2) (dCons (dC (.int 12)) dNil)))))) (dCons (dCall sp__law_take [] (dCons (dVar 2) (dCons (dC (.int 5)) dNil))) dNil)))) 7)
    (dSeq (dSet (dCall (sp__law_text 24) [] (dCons (dVar 7) (dCons (dC (.int 0)) dNil))) 6)
    (dSeq (dIfS (dTest (dOp (dEq true) (dCB drReprV (dCons (dLam "law" "law.<locals>.<lambda>" sp__law_heard (fun Ex => (dCallX sp_read_tree [] Ex (dCons (dVar 6) dNil)))) dNil)) (dCB drReprV (dCons (dTup (dCons (dC (.str "returned")) (dCons (dVar 7) dNil))) dNil)))) (dRet (dC (.bl false))) dNext)
    (dFor (jRng1 (dCons (dC (.int 14)) dNil)) (hName 8) (dSeq (dSet (dCall sp__law_bent [] (dCons (dVar 2) (dCons (dVar 6) dNil))) 9)
    (dDrop (dLM dmAppend (dVar 4) (dCons (dIf (dTest (dOp (dEq false) (dCall sp__law_take [] (dCons (dVar 2) (dCons (dC (.int 3)) dNil))) (dC (.int 0)))) (dCall sp__law_bent [] (dCons (dVar 2) (dCons (dVar 9) dNil))) (dVar 9)) dNil)))))))))
    (dFor (jSeq (dVar 4)) (hName 6) (dIfS (dTest (dOp (dEq true) (dCB drReprV (dCons (dLam "law" "law.<locals>.<lambda>" sp__law_heard (fun Ex => (dCallX sp_read_tree [] Ex (dCons (dVar 6) dNil)))) dNil)) (dCB drReprV (dCons (dCall sp__law_tree_due [] (dCons (dVar 6) dNil)) dNil)))) (dRet (dC (.bl false))) dNext)))))))))
    (dRet (dC (.bl true))))
theorem read_law : ∀ ds μ Q E, sp_law ds μ Q E → t_law { nx := fun _ μ' => Q .non μ', rt := Q } (begin_ ["_law_script", "_law_k", "_law_hand_here", "_law_keys_here", "_law_some", "_law_turn", "_law_written", "_law_steps", "_law_again", "_law_bent_here"] ds) μ := by
  rintro ds μ Q E ⟨ns, rfl, hl, lam, q0⟩
  unfold t_law
  refine for_seq61 ?_
  refine r_var rfl ?_
  refine len59 ?_
  refine min61 ?_
  refine max59 ?_
  obtain ⟨r0, r1, r3, hre⟩ := clip59 ns
  rw [hre]
  refine ⟨⟨by omega, by omega⟩, fun i ρ μ' => ∃ a1 a2 a3 a4 a5 a6 a7 a8 a9, ρ = [some (.rol (ns.map SD.int)), a1, a2, a3, a4, a5, a6, a7, a8, a9] ∧ TabL μ', ⟨none, none, none, none, none, none, none, none, none, rfl, lam⟩, fun _ _ _ _ _ => trivial, ?_, ?_⟩
  · rintro i d ρ μ1 hd ⟨a1, a2, a3, a4, a5, a6, a7, a8, a9, rfl, lam1⟩
    have hi := (List.getElem?_eq_some_iff.mp hd).1
    simp at hi
    have hdv : d = .int (i : Nat) := by
      rw [List.getElem?_map, List.getElem?_range (by simpa using hi)] at hd
      exact (Option.some.inj hd).symm
    subst hdv
    dsimp only
    refine r_var rfl ?_
    refine r_var rfl ?_
    refine ⟨ns, i, rfl, by omega, fun h μ2 hh0 le2 H2 => ?_⟩
    have lam2 := lam1.le le2
    dsimp only
    refine r_var rfl ?_
    refine ⟨h, 12, 0, rfl, by omega, by decide, H2, fun ks μ3 nd nl keys H3 l3 => ?_⟩
    have lam3 := lam2.lex H2 l3
    dsimp only
    change dSeq _ _ _ [some (.rol (ns.map SD.int)), some (.int (i : Nat)), some (.ref h), some (.lst (sts ks)), a4, a5, a6, a7, a8, a9] _
    refine ⟨(by show 13 ≤ sizeLine; decide), fun p hp => ?_⟩
    have G0 : G59 (up μ3 p (.lst (sts ["", " ", "a", " a", "  a", "a\n", "\na", "a\nb", "a\n b", "a\n  b", "a\n    b", "a\n  a", "a\n  b\n  b"]))) h p 50 13 := ⟨(H3.up (H3.ne hp)).mono (by omega), lam3.le ((Le.refl μ3).up hp), H3.ne hp, ["", " ", "a", " a", "  a", "a\n", "\na", "a\nb", "a\n b", "a\n  b", "a\n    b", "a\n  a", "a\n  b\n  b"], up_same, lits_ok (by decide +kernel), by simp⟩
    dsimp only
    change dSeq _ _ _ [some (.rol (ns.map SD.int)), some (.int (i : Nat)), some (.ref h), some (.lst (sts ks)), some (.ref p), a5, a6, a7, a8, a9] (up μ3 p (.lst (sts ["", " ", "a", " a", "  a", "a\n", "\na", "a\nb", "a\n b", "a\n  b", "a\n    b", "a\n  a", "a\n  b\n  b"])))
    generalize up μ3 p (.lst (sts ["", " ", "a", " a", "  a", "a\n", "\na", "a\nb", "a\n b", "a\n  b", "a\n    b", "a\n  a", "a\n  b\n  b"])) = μ4 at G0 ⊢
    refine r_var rfl ?_
    refine ⟨(by show 7 ≤ sizeLine; decide), ?_⟩
    refine G0.more (by omega) (xs := ["a\n  b\n    c\n  d\n    c", "a\n  b\nc", "A", "a ", "a\n  b c", "a\n\n  b", "a\n   b"]) (lits_ok (by decide +kernel)) (by simp) fun p μ5 G1 => ?_
    dsimp only
    change dSeq _ _ _ [some (.rol (ns.map SD.int)), some (.int (i : Nat)), some (.ref h), some (.lst (sts ks)), some (.ref p), a5, a6, a7, a8, a9] _
    refine r_var rfl ?_
    refine ⟨(by show 9 ≤ sizeLine; decide), ?_⟩
    refine G1.more (by simp) (xs := ["abcdefghi", "a\t", "\ta", "a\n\tb", "a\n  b\t", "a\n \tb", "a\t\n  b", "a\n  b\tc", "a_b"]) (lits_ok (by decide +kernel)) (by simp) fun p μ8 G4 => ?_
    dsimp only
    change dSeq _ _ _ [some (.rol (ns.map SD.int)), some (.int (i : Nat)), some (.ref h), some (.lst (sts ks)), some (.ref p), a5, a6, a7, a8, a9] _
    have ks0 : ks ≠ [] := fun z => by rw [z] at nl; simp at nl
    refine for_seq61 ?_
    refine ⟨⟨by omega, by omega⟩, fun n ρ μ' => ∃ b5 b6 b7 b8 b9, ρ = [some (.rol (ns.map SD.int)), some (.int (i : Nat)), some (.ref h), some (.lst (sts ks)), some (.ref p), b5, b6, b7, b8, b9] ∧ G59 μ' h p (50 + 1000 * n) (29 + 14 * n), ⟨_, _, _, _, _, rfl, G4.mono (by omega) (by simp)⟩, fun _ _ _ _ _ => trivial, ?_, ?_⟩
    · rintro n dn ρ μ9 hdn ⟨b5, b6, b7, b8, b9, rfl, G⟩
      have hn : n < 3 := by
        have := (List.getElem?_eq_some_iff.mp hdn).1
        simpa using this
      dsimp only
      change dSeq _ _ _ [some (.rol (ns.map SD.int)), some (.int (i : Nat)), some (.ref h), some (.lst (sts ks)), some (.ref p), some dn, b6, b7, b8, b9] _
      refine r_var rfl ?_
      refine r_var rfl ?_
      refine r_var rfl ?_
      refine ⟨h, 12, _, rfl, by decide, by decide, by omega, G.H, fun c μ10 c0 c1 H10 l10 => ?_⟩
      obtain ⟨c, rfl⟩ := Int.eq_ofNat_of_zero_le c0
      refine i_add ?_
      refine sl_L ?_
      have ecut : cutL (sts ks) none (some ((1 : Int) + (c : Int))) = sts (ks.take (c + 1)) := by
        rw [show (1 : Int) + (c : Int) = ((c + 1 : Nat) : Int) by omega, cutL_to, sts, sts, List.map_take]
      rw [ecut]
      refine r_var rfl ?_
      refine ⟨h, 5, _, rfl, by decide, by decide, by omega, H10, fun c5 μ11 d0 d1 H11 l11 => ?_⟩
      have lt : (ks.take (c + 1)).length ≤ 12 := by rw [List.length_take]; omega
      obtain ⟨n0, hn0⟩ : ∃ n0, ks[0]? = some n0 := ⟨_, List.getElem?_eq_getElem (by omega)⟩
      refine ⟨h, ks.take (c + 1), c5, _, n0, rfl, by rw [List.getElem?_take, if_pos (by omega)]; exact hn0, nd.sublist (List.take_sublist ..), by omega, by omega, H11, fun f lev t μ11' P H11' l11' => ?_⟩
      have G11 := ((G.hand H10 l10).hand H11 l11).hand H11' l11'
      have kk : ∀ k ∈ pre t, KeyOk k ∧ LowK k := fun k hk => keys k (List.mem_of_mem_take ((P.mem k).mp hk))
      have kT : ∀ k ∈ pre t, keyT k = true := fun k hk => keyT_of (kk k hk).2
      have kO : ∀ k ∈ pre t, KeyOk k := fun k hk => (kk k hk).1
      have pl : (pre t).length ≤ 12 := Nat.le_trans (len_sub P.nd fun x hx => (P.mem x).mp hx) lt
      have pd := P.dep
      dsimp only
      change dSeq _ _ _ [some (.rol (ns.map SD.int)), some (.int (i : Nat)), some (.ref h), some (.lst (sts ks)), some (.ref p), some dn, b6, some (enc t), b8, b9] _
      refine r_var rfl ?_
      refine ⟨t, 0, rfl, by omega, by omega, by omega, kO, ?_⟩
      have G12 := G11.mono (show _ ≤ 50 + 1000 * n + 60 by omega) (Nat.le_refl _)
      have tlen := textT_len (d := 0) (t := t) kO (by omega)
      have tasc := text_asc kT
      have tl2 : (textT 0 t).length ≤ 3144 := by omega
      obtain ⟨sr, er, et, ek⟩ := rd_tree P.nd kT (by omega) pd
      have vv : Val 0 41 5000 (.tup [.str "returned", enc t]) := (two59 (w := "returned") (by decide +kernel) (by decide +kernel) (tree_valK (by omega) pd kO)).mono (Nat.le_refl _) (by omega) (by omega)
      have hsp := split_text kT
      generalize textT 0 t = tx at *
      dsimp only
      change dSeq _ _ _ [some (.rol (ns.map SD.int)), some (.int (i : Nat)), some (.ref h), some (.lst (sts ks)), some (.ref p), some dn, some (.str tx), some (enc t), b8, b9] _
      obtain ⟨P', eP⟩ := G12.L
      refine ⟨P', eP, fun Q1 E1 g1 g2 => ?_⟩
      refine r_var rfl ?_
      refine ⟨.str tx, 0, rfl, by rw [okV]; exact asc_ok tasc, show tx.length ≤ 100000 by omega, ?_⟩
      rw [lookT_str, hsp, er]
      refine fun μ13 l13 => g1 _ _ ?_
      rw [et]
      refine r_reprV vv (fun _ z => by cases z) rfl (by decide) (by omega) (by omega) ?_
      refine r_var rfl ?_
      refine ⟨(by show 2 ≤ sizeLine; decide), ?_⟩
      refine r_reprV vv (fun _ z => by cases z) rfl (by decide) (by omega) (by omega) ?_
      refine eq_ss ?_
      rw [decide_eq_true rfl]
      refine ifF rfl ?_
      simp only [dNext]
      have G13 := G12.le l13
      refine for_end59 ?_
      refine ⟨⟨by omega, by omega⟩, fun m ρ μ' => ∃ b8 b9, ρ = [some (.rol (ns.map SD.int)), some (.int (i : Nat)), some (.ref h), some (.lst (sts ks)), some (.ref p), some dn, some (.str tx), some (enc t), b8, b9] ∧ G59 μ' h p (50 + 1000 * n + 60 + 20 * m) (29 + 14 * n + m), ⟨_, _, rfl, G13⟩, fun _ _ _ _ _ => trivial, ?_, ?_⟩
      · rintro m dm ρ μ14 hdm ⟨b8, b9, rfl, GM⟩
        have hm : m < 14 := by
          have := (List.getElem?_eq_some_iff.mp hdm).1
          simpa using this
        dsimp only
        change dSeq _ _ _ [some (.rol (ns.map SD.int)), some (.int (i : Nat)), some (.ref h), some (.lst (sts ks)), some (.ref p), some dn, some (.str tx), some (enc t), some dm, b9] _
        refine r_var rfl ?_
        refine r_var rfl ?_
        refine ⟨h, _, tx, rfl, GM.H, by omega, tasc, by omega, fun t1 μ15 t1a t1l H15 l15 => ?_⟩
        have G15 := GM.hand H15 l15
        dsimp only
        change dDrop _ _ [some (.rol (ns.map SD.int)), some (.int (i : Nat)), some (.ref h), some (.lst (sts ks)), some (.ref p), some dn, some (.str tx), some (enc t), some dm, some (.str t1)] _
        refine r_var rfl ⟨by obtain ⟨_, m, _⟩ := G15.l; exact isSome_ref m, ?_⟩
        refine r_var rfl ?_
        refine ⟨h, 3, _, rfl, by decide, by decide, by omega, G15.H, fun w μ16 w0 w1 H16 l16 => ?_⟩
        have G16 := G15.hand H16 l16
        refine i_eq ?_
        by_cases hw : w = 0
        · rw [decide_eq_true hw]
          refine ifT rfl ?_
          refine r_var rfl ?_
          refine r_var rfl ?_
          refine ⟨h, _, t1, rfl, G16.H, by omega, t1a, by omega, fun t2 μ17 t2a t2l H17 l17 => ?_⟩
          have G17 := G16.hand H17 l17
          refine G17.app (by omega) t2a (by omega) fun μ18 G18 => ?_
          exact ⟨_, _, rfl, G18.mono (by omega) (by omega)⟩
        · rw [decide_eq_false hw]
          refine ifF rfl ?_
          refine r_var rfl ?_
          refine G16.app (by omega) t1a (by omega) fun μ18 G18 => ?_
          exact ⟨_, _, rfl, G18.mono (by omega) (by omega)⟩
      · rintro ρ μ14 ⟨b8, b9, rfl, GM⟩
        rw [List.length_map, List.length_range] at GM
        exact ⟨_, _, _, _, _, rfl, GM.mono (by omega) (by omega)⟩
    · rintro ρ μ9 ⟨b5, b6, b7, b8, b9, rfl, G⟩
      obtain ⟨L, m, k, ll⟩ := G.l
      refine for_end59 ?_
      refine jSeq_at (x := .ref p) (xs := sts L) (fun R' hr => r_var rfl hr) (fun z e => by cases e) (by simp only [seqD, m]) ?_
      refine ⟨fun n ρ μ' => ∃ b6, ρ = [some (.rol (ns.map SD.int)), some (.int (i : Nat)), some (.ref h), some (.lst (sts ks)), some (.ref p), b5, b6, b7, b8, b9] ∧ Le μ9 μ', ⟨_, rfl, Le.refl _⟩, fun n ρ μ' _ w => by obtain ⟨_, _, l⟩ := w; simp only [seqD, l _ _ m], ?_, ?_⟩
      · rintro n d ρ μ10 hd ⟨b6, rfl, l10⟩
        obtain ⟨x, hx, rfl⟩ := List.mem_map.mp (List.mem_of_getElem? hd)
        obtain ⟨xa, xl⟩ := k x hx
        dsimp only
        refine cmp_ok (t := x) rfl (G.L.le l10) (asc_ok xa) (by omega) fun μ11 l11 => ?_
        refine ifF rfl ?_
        exact ⟨_, rfl, l10.trans l11⟩
      · rintro ρ μ10 ⟨b6, rfl, l10⟩
        exact ⟨_, _, _, _, _, _, _, _, _, rfl, G.L.le l10⟩
  · rintro ρ μ1 ⟨a1, a2, a3, a4, a5, a6, a7, a8, a9, rfl, lam1⟩
    exact q0 μ1
end LK
namespace LK
end LK
namespace LK
open PySem PySem.Spec PyProof.Rows L2 DS MA
def top (i : Nat) : Stmt := PySem.Challenge.pw_keyedmoves_k59_texts_of_trees_read.main.body.getD i (.Pass ⟨0, 0, 0, 0⟩)
abbrev s_is_key : Stmt := top 10
abbrev s_tree_from : Stmt := top 11
abbrev s_split_line : Stmt := top 16
abbrev s_read_tree : Stmt := top 18
abbrev s__law_hand : Stmt := top 20
abbrev s__law_take : Stmt := top 21
abbrev s__law_of : Stmt := top 22
abbrev s__law_keys : Stmt := top 23
abbrev s__law_from : Stmt := top 24
abbrev s__law_above : Stmt := top 25
abbrev s__law_way : Stmt := top 26
abbrev s__law_grown : Stmt := top 27
abbrev s__law_text : Stmt := top 28
abbrev s__law_is_key : Stmt := top 29
abbrev s__law_heard : Stmt := top 30
abbrev s__law_bent : Stmt := top 31
abbrev s__law_tree_due : Stmt := top 32
abbrev s_law : Stmt := top 33
abbrev s_TreeReader_init : Stmt := (inCls (top 17)).getD 0 (.Pass ⟨0, 0, 0, 0⟩)
abbrev s_TreeReader_can_follow : Stmt := (inCls (top 17)).getD 1 (.Pass ⟨0, 0, 0, 0⟩)
abbrev s_TreeReader_add : Stmt := (inCls (top 17)).getD 2 (.Pass ⟨0, 0, 0, 0⟩)
theorem sc_is_key : FnScope ["value", "letter"] ["value"] (defScope s_is_key) := ⟨rfl, rfl, rfl, by decide +kernel, rfl, by decide +kernel, by decide +kernel⟩
theorem sc_tree_from : FnScope ["key", "children", "child"] ["key", "children"] (defScope s_tree_from) := ⟨rfl, rfl, rfl, by decide +kernel, rfl, by decide +kernel, by decide +kernel⟩
theorem sc_split_line : FnScope ["line", "key", "depth", "rest"] ["line"] (defScope s_split_line) := ⟨rfl, rfl, rfl, by decide +kernel, rfl, by decide +kernel, by decide +kernel⟩
theorem sc_read_tree : FnScope ["text", "reader", "index", "line", "found"] ["text"] (defScope s_read_tree) := ⟨rfl, rfl, rfl, by decide +kernel, rfl, by decide +kernel, by decide +kernel⟩
theorem sc__law_hand : FnScope ["_law_script", "_law_k", "_law_cell", "_law_great"] ["_law_script", "_law_k"] (defScope s__law_hand) := ⟨rfl, rfl, rfl, by decide +kernel, rfl, by decide +kernel, by decide +kernel⟩
theorem sc__law_take : FnScope ["_law_hand_here", "_law_many", "_law_turn", "_law_prime", "_law_mixed", "_law_digit"] ["_law_hand_here", "_law_many"] (defScope s__law_take) := ⟨rfl, rfl, rfl, by decide +kernel, rfl, by decide +kernel, by decide +kernel⟩
theorem sc__law_of : FnScope ["_law_hand_here", "_law_some"] ["_law_hand_here", "_law_some"] (defScope s__law_of) := ⟨rfl, rfl, rfl, by decide +kernel, rfl, by decide +kernel, by decide +kernel⟩
theorem sc__law_keys : FnScope ["_law_hand_here", "_law_count", "_law_letters", "_law_found", "_law_start", "_law_leap", "_law_stem", "_law_nth", "_law_first", "_law_second"] ["_law_hand_here", "_law_count"] (defScope s__law_keys) := ⟨rfl, rfl, rfl, by decide +kernel, rfl, by decide +kernel, by decide +kernel⟩
theorem sc__law_from : FnScope ["_law_key", "_law_lists", "_law_child"] ["_law_key", "_law_lists"] (defScope s__law_from) := ⟨rfl, rfl, rfl, by decide +kernel, rfl, by decide +kernel, by decide +kernel⟩
theorem sc__law_above : FnScope ["_law_lists", "_law_found", "_law_key", "_law_child"] ["_law_lists"] (defScope s__law_above) := ⟨rfl, rfl, rfl, by decide +kernel, rfl, by decide +kernel, by decide +kernel⟩
theorem sc__law_way : FnScope ["_law_above_here", "_law_key", "_law_found"] ["_law_above_here", "_law_key"] (defScope s__law_way) := ⟨rfl, rfl, rfl, by decide +kernel, rfl, by decide +kernel, by decide +kernel⟩
theorem sc__law_grown : FnScope ["_law_hand_here", "_law_some", "_law_deep", "_law_lists", "_law_at", "_law_parent", "_law_place", "_law_children"] ["_law_hand_here", "_law_some", "_law_deep"] (defScope s__law_grown) := ⟨rfl, rfl, rfl, by decide +kernel, rfl, by decide +kernel, by decide +kernel⟩
theorem sc__law_text : FnScope ["_law_tree", "_law_depth", "_law_child"] ["_law_tree", "_law_depth"] (defScope s__law_text) := ⟨rfl, rfl, rfl, by decide +kernel, rfl, by decide +kernel, by decide +kernel⟩
theorem sc__law_is_key : FnScope ["_law_word", "_law_sign"] ["_law_word"] (defScope s__law_is_key) := ⟨rfl, rfl, rfl, by decide +kernel, rfl, by decide +kernel, by decide +kernel⟩
theorem sc__law_heard : FnScope ["_law_call", "_law_told", "_law_caught", "error"] ["_law_call"] (defScope s__law_heard) := ⟨rfl, rfl, rfl, by decide +kernel, rfl, by decide +kernel, by decide +kernel⟩
theorem sc__law_bent : FnScope ["_law_hand_here", "_law_written", "_law_lines", "_law_way_here", "_law_at", "_law_other", "_law_spot", "_law_words", "_law_place", "_law_sign", "_law_rest", "_law_line", "_law_more"] ["_law_hand_here", "_law_written"] (defScope s__law_bent) := ⟨rfl, rfl, rfl, by decide +kernel, rfl, by decide +kernel, by decide +kernel⟩
theorem sc__law_tree_due : FnScope ["_law_written", "_law_lists", "_law_way_here", "_law_at", "_law_line", "_law_key", "_law_blanks", "_law_depth", "_law_is_fine", "_law_children"] ["_law_written"] (defScope s__law_tree_due) := ⟨rfl, rfl, rfl, by decide +kernel, rfl, by decide +kernel, by decide +kernel⟩
theorem sc_law : FnScope ["_law_script", "_law_k", "_law_hand_here", "_law_keys_here", "_law_some", "_law_turn", "_law_written", "_law_tree", "_law_again", "_law_bent_here"] ["_law_script"] (defScope s_law) := ⟨rfl, rfl, rfl, by decide +kernel, rfl, by decide +kernel, by decide +kernel⟩
theorem sc_TreeReader_init : FnScope ["self"] ["self"] (defScope s_TreeReader_init) := ⟨rfl, rfl, rfl, by decide +kernel, rfl, by decide +kernel, by decide +kernel⟩
theorem sc_TreeReader_can_follow : FnScope ["self", "depth", "key"] ["self", "depth", "key"] (defScope s_TreeReader_can_follow) := ⟨rfl, rfl, rfl, by decide +kernel, rfl, by decide +kernel, by decide +kernel⟩
theorem sc_TreeReader_add : FnScope ["self", "depth", "key"] ["self", "depth", "key"] (defScope s_TreeReader_add) := ⟨rfl, rfl, rfl, by decide +kernel, rfl, by decide +kernel, by decide +kernel⟩
abbrev s_BadTree_init : Stmt := (inCls (top 2)).getD 0 (.Pass ⟨0, 0, 0, 0⟩)
abbrev s_BadText_init : Stmt := (inCls (top 3)).getD 0 (.Pass ⟨0, 0, 0, 0⟩)
theorem sc_BadText_init : FnScope ["self", "line"] ["self", "line"] (defScope s_BadText_init) := ⟨rfl, rfl, rfl, by decide +kernel, rfl, by decide +kernel, by decide +kernel⟩
abbrev s_BadLine_init : Stmt := (inCls (top 4)).getD 0 (.Pass ⟨0, 0, 0, 0⟩)
structure All (K : PySem.W.Frag) (mg : Str → Option Value) (wp : Params) where
  x_BadTree : XDef K mg "BadTree" "value" "value" "BadTree.__init__" s_BadTree_init
  x_BadText : XDef K mg "BadText" "line" "line" "BadText.__init__" s_BadText_init
  x_BadLine : XDef K mg "BadLine" "line" "line" "BadLine.__init__" s_BadLine_init
  b_KeyedError : XBase K mg "KeyedError"
  a_BadLine : Addr
  m_BadLine : mg "BadLine" = some (.ref a_BadLine)
  kit_BadLine : ∀ y b C, kX xnames "BadLine" y = some b → PySem.W.nsIn K mainGlobals y = some (some (.ref C)) → PySem.W.kitOne K (.ref C) (.ref a_BadLine) = some b
  a_BadText : Addr
  m_BadText : mg "BadText" = some (.ref a_BadText)
  kit_BadText : ∀ y b C, kX xnames "BadText" y = some b → PySem.W.nsIn K mainGlobals y = some (some (.ref C)) → PySem.W.kitOne K (.ref C) (.ref a_BadText) = some b
  a_BadTree : Addr
  m_BadTree : mg "BadTree" = some (.ref a_BadTree)
  kit_BadTree : ∀ y b C, kX xnames "BadTree" y = some b → PySem.W.nsIn K mainGlobals y = some (some (.ref C)) → PySem.W.kitOne K (.ref C) (.ref a_BadTree) = some b
  a_KeyedError : Addr
  m_KeyedError : mg "KeyedError" = some (.ref a_KeyedError)
  exm_KeyedError : ∀ y b C, kX xnames "KeyedError" y = some b → PySem.W.nsIn K mainGlobals y = some (some (.ref C)) → PySem.W.exmOne K (.ref C) (.ref a_KeyedError) = some b
  kit_KeyedError : ∀ y b C, kX xnames "KeyedError" y = some b → PySem.W.nsIn K mainGlobals y = some (some (.ref C)) → PySem.W.kitOne K (.ref C) (.ref a_KeyedError) = some b
  kit_ValueError : ∀ y b C, kX xnames "ValueError" y = some b → PySem.W.nsIn K mainGlobals y = some (some (.ref C)) → PySem.W.kitOne K (.ref C) (.type "ValueError") = some b
  o_TreeReader : OCls K mg "TreeReader"
  n_TreeReader_child_keys : NoAttr K o_TreeReader.C "child_keys"
  n_TreeReader_way : NoAttr K o_TreeReader.C "way"
  is_key : Def K mg "is_key" s_is_key ["value"]
  tree_from : Def K mg "tree_from" s_tree_from ["key", "children"]
  split_line : Def K mg "split_line" s_split_line ["line"]
  read_tree : Def K mg "read_tree" s_read_tree ["text"]
  _law_hand : Def K mg "_law_hand" s__law_hand ["_law_script", "_law_k"]
  _law_take : Def K mg "_law_take" s__law_take ["_law_hand_here", "_law_many"]
  _law_of : Def K mg "_law_of" s__law_of ["_law_hand_here", "_law_some"]
  _law_keys : Def K mg "_law_keys" s__law_keys ["_law_hand_here", "_law_count"]
  _law_from : Def K mg "_law_from" s__law_from ["_law_key", "_law_lists"]
  _law_above : Def K mg "_law_above" s__law_above ["_law_lists"]
  _law_way : Def K mg "_law_way" s__law_way ["_law_above_here", "_law_key"]
  _law_grown : Def K mg "_law_grown" s__law_grown ["_law_hand_here", "_law_some", "_law_deep"]
  _law_text : Def K mg "_law_text" s__law_text ["_law_tree", "_law_depth"]
  _law_is_key : Def K mg "_law_is_key" s__law_is_key ["_law_word"]
  _law_heard : Def K mg "_law_heard" s__law_heard ["_law_call"]
  _law_bent : Def K mg "_law_bent" s__law_bent ["_law_hand_here", "_law_written"]
  _law_tree_due : Def K mg "_law_tree_due" s__law_tree_due ["_law_written"]
  law : Def K mg "law" s_law ["_law_script"]
  i_TreeReader : IDef o_TreeReader "TreeReader.__init__" s_TreeReader_init ["self"]
  m_TreeReader_can_follow : MDef o_TreeReader "can_follow" "TreeReader.can_follow" s_TreeReader_can_follow ["self", "depth", "key"]
  m_TreeReader_add : MDef o_TreeReader "add" "TreeReader.add" s_TreeReader_add ["self", "depth", "key"]
  z_ValueError : mg "ValueError" = none
  z_abs : mg "abs" = none
  z_all : mg "all" = none
  z_divmod : mg "divmod" = none
  z_enumerate : mg "enumerate" = none
  z_int : mg "int" = none
  z_isinstance : mg "isinstance" = none
  z_len : mg "len" = none
  z_max : mg "max" = none
  z_min : mg "min" = none
  z_range : mg "range" = none
  z_repr : mg "repr" = none
  z_str : mg "str" = none
  z_tuple : mg "tuple" = none
  c_BLANK : ∃ t, mg "BLANK" = some (.str " " t)
  c_FEED : ∃ t, mg "FEED" = some (.str "\n" t)
  c_INDENT : ∃ t, mg "INDENT" = some (.str "  " t)
  c_LETTERS : ∃ t, mg "LETTERS" = some (.str "abcdefghijklmnopqrstuvwxyz" t)
  c_LONGEST_KEY : ∃ t, mg "LONGEST_KEY" = some (.int 8 t)
  c_MOST_ELEMENTS : ∃ t, mg "MOST_ELEMENTS" = some (.int 60 t)
  c_MOST_NESTED : ∃ t, mg "MOST_NESTED" = some (.int 20 t)
section
variable {P : Program} {w : World} {K : PySem.W.Frag} {mg : Str → Option Value} {base : Heap}
theorem okx_BadText (T : All K mg w.params) : XIni P w base T.x_BadText 2 :=
  xini_ok T.x_BadText T.b_KeyedError sc_BadText_init rfl rfl (.inl rfl) (.inl rfl) (by decide) (by decide) (by decide) fun _ _ => ⟨_, rfl⟩
theorem ok_is_key (T : All K mg w.params) (Bm : BM base mg) : FnD P w base T.is_key 1 sp_is_key := by
  exact def_ok (k := 0) T.is_key.F sc_is_key _ (len_of (n := 1) len_is_key) (fun cdv A outer s H E hq hr => (dss_cons (ds_if (PW.pt (dw_or (dt_not (dt_val (de_callB call_isi lc_isi rfl T.z_isinstance bt_isinstance (da_cons (dv 0) (da_cons (de_ty rfl T.z_str bt_str) da_nil))))) (dw_or1 (dt_not (dt_chain opr_le lr_cmp opr_le lr_cmp de_int (de_callB cr_len lc_len rfl T.z_len bt_len (da_cons (dv 0) da_nil)) (de_gint T.c_LONGEST_KEY)))))) (dss_one (ds_ret de_bl)) dss_nil)
    (dss_one (ds_ret (de_callB (cr_all rfl) lc_all rfl T.z_all bt_all (da_cons (de_lc (own := [("letter", 1)]) rfl sc_is_key.nd (blkOk_by (show blkC ["value", "letter"] (defScope s_is_key) _ [("letter", 1)] = true by decide +kernel)) (own_name (by decide)) (di_seq (dv 0)) (fun _ _ _ _ _ => (pg_name (i := 1) sc_is_key.nd rfl (by first | exact Or.inl rfl | exact Or.inr rfl) (by first | exact .inl rfl | exact .inr rfl))) (fun _ _ _ _ _ => dts_nil) (fun _ _ _ _ _ => (de_cmp opr_in lr_in (dv 1) (de_gstr T.c_LETTERS) (by with_unfolding_all rfl)))) da_nil)))))) fun ds μ Q E h => read_is_key ds μ Q E h
theorem ok__law_hand (T : All K mg w.params) (Bm : BM base mg) : FnD P w base T._law_hand 1 sp__law_hand := by
  exact def_ok (k := 0) T._law_hand.F sc__law_hand _ (len_of (n := 2) len__law_hand) (fun cdv A outer s H E hq hr => (dss_cons (ds_set (i := 2) sc__law_hand.nd rfl (by first | exact Or.inl rfl | exact Or.inr rfl) (de_ifExp (dt_cmp opr_lt lr_lt (dv 1) (de_callB cr_len lc_len rfl T.z_len bt_len (da_cons (dv 0) da_nil)) (nomark _)) (de_ix (dv 0) (dv 1) (fun _ _ => rfl)) (de_op opr_add lr_add (de_op opr_mul lr_mul de_int (dv 1)) de_int)))
    (dss_cons (ds_set (i := 3) sc__law_hand.nd rfl (by first | exact Or.inl rfl | exact Or.inr rfl) (de_op opr_mul lr_mul (de_op op_mod lr_i2 (de_callB call_abs lc_abs rfl T.z_abs bt_abs (da_cons (dv 2) da_nil)) (de_op op_powW lr_i2 (de_op op_powW lr_i2 de_int de_int) de_int)) (de_callT call_int1 lc_int rfl T.z_int bt_int (da_cons (de_cmp opr_ge lr_cmp (de_callB call_abs lc_abs rfl T.z_abs bt_abs (da_cons (dv 2) da_nil)) (de_op op_powW lr_i2 de_int de_int) (nomark _)) da_nil))))
    (dss_one (ds_ret (de_lstM (da_cons (dv 3) (da_cons (de_op op_mod lr_i2 (de_op opr_mul lr_mul (de_op opr_add lr_add (de_op opr_add lr_add (de_op op_mod lr_i2 (dv 2) de_int) (de_op opr_mul lr_mul (de_op opr_mul lr_mul de_int (dv 1)) (dv 1))) de_int) de_int) de_int) (da_cons de_int da_nil))))))))) fun ds μ Q E h => read__law_hand ds μ Q E h
theorem ok__law_take (T : All K mg w.params) (Bm : BM base mg) : FnD P w base T._law_take 1 sp__law_take := by
  exact def_ok (k := 0) T._law_take.F sc__law_take _ (len_of (n := 2) len__law_take) (fun cdv A outer s H E hq hr => (dss_cons (ds_if (dt_cmp opr_gt lr_cmp (de_ix (dv 0) de_int (fun _ _ => rfl)) de_int (nomark _)) (dss_cons (ds_set (i := 5) sc__law_take.nd rfl (by first | exact Or.inl rfl | exact Or.inr rfl) (de_op op_mod lr_i2 (de_ix (dv 0) de_int (fun _ _ => rfl)) (dv 1)))
    (dss_cons (ds_asg (de_op op_fdivW lr_i2 (de_ix (dv 0) de_int (fun _ _ => rfl)) (dv 1)) (dg_sub (dv 0) de_int set_list ls_list))
    (dss_one (ds_ret (dv 5))))) dss_nil)
    (dss_cons (ds_set (i := 2) sc__law_take.nd rfl (by first | exact Or.inl rfl | exact Or.inr rfl) (de_op opr_add lr_add (de_ix (dv 0) de_int (fun _ _ => rfl)) de_int))
    (dss_cons (ds_asg (dv 2) (dg_sub (dv 0) de_int set_list ls_list))
    (dss_cons (ds_set (i := 3) sc__law_take.nd rfl (by first | exact Or.inl rfl | exact Or.inr rfl) (de_ix (de_lst (da_cons de_int (da_cons de_int (da_cons de_int (da_cons de_int (da_cons de_int (da_cons de_int da_nil))))))) (de_op op_mod lr_i2 (dv 2) de_int) (fun _ _ => rfl)))
    (dss_cons (ds_set (i := 4) sc__law_take.nd rfl (by first | exact Or.inl rfl | exact Or.inr rfl) (de_op op_mod lr_i2 (de_op op_powW lr_i2 (de_op opr_add lr_add (de_op opr_add lr_add (de_ix (dv 0) de_int (fun _ _ => rfl)) (de_op opr_mul lr_mul (de_op opr_mul lr_mul de_int (dv 2)) (dv 2))) (de_op opr_mul lr_mul de_int (dv 2))) de_int) (dv 3)))
    (dss_one (ds_ret (de_op op_mod lr_i2 (de_op op_fdivW lr_i2 (de_op op_mod lr_i2 (de_op opr_mul lr_mul (dv 4) (de_op opr_add lr_add (de_op op_mod lr_i2 (dv 4) de_int) (de_op opr_mul lr_mul de_int (dv 2)))) de_int) de_int) (dv 1)))))))))) fun ds μ Q E h => read__law_take ds μ Q E h
theorem ok__law_above (T : All K mg w.params) (Bm : BM base mg) : FnD P w base T._law_above 1 sp__law_above := by
  exact def_ok (k := 0) T._law_above.F sc__law_above _ (len_of (n := 1) len__law_above) (fun cdv A outer s H E hq hr => (dss_cons (ds_set (i := 1) sc__law_above.nd rfl (by first | exact Or.inl rfl | exact Or.inr rfl) de_dict0M)
    (dss_cons (ds_forKeysM PassesOwn.never rfl (dv 0) (dg_name (i := 2) sc__law_above.nd rfl (by first | exact Or.inl rfl | exact Or.inr rfl)) (dss_one (ds_for PassesOwn.never rfl (di_seq (de_dget (hu_of hr) (dv 0) (dv 2) (fun _ _ => rfl))) (dg_name (i := 3) sc__law_above.nd rfl (by first | exact Or.inl rfl | exact Or.inr rfl)) (dss_one (ds_dput (hu_of hr) (dv 1) (dv 3) (dv 2) rfl)))))
    (dss_one (ds_retF (dv 1)))))) fun ds μ Q E h => read__law_above ds μ Q E h
theorem ok__law_way (T : All K mg w.params) (Bm : BM base mg) : FnD P w base T._law_way 1 sp__law_way := by
  exact def_ok (k := 0) T._law_way.F sc__law_way _ (len_of (n := 2) len__law_way) (fun cdv A outer s H E hq hr => (dss_cons (ds_set (i := 2) sc__law_way.nd rfl (by first | exact Or.inl rfl | exact Or.inr rfl) (de_lstM (da_cons (dv 1) da_nil)))
    (dss_cons (ds_while PassesOwn.never (dt_din (hu_of hr) (de_ix (dv 2) (de_neg de_int) (fun _ _ => rfl)) (dv 0)) (dss_one (ds_expr (de_append (dv 2) (de_dget (hu_of hr) (dv 0) (de_ix (dv 2) (de_neg de_int) (fun _ _ => rfl)) (fun _ _ => rfl))))))
    (dss_one (ds_retF (dv 2)))))) fun ds μ Q E h => read__law_way ds μ Q E h
theorem ok__law_is_key (T : All K mg w.params) (Bm : BM base mg) : FnD P w base T._law_is_key 1 sp__law_is_key := by
  exact def_ok (k := 0) T._law_is_key.F sc__law_is_key _ (len_of (n := 1) len__law_is_key) (fun cdv A outer s H E hq hr => (dss_one (ds_ret (de_and (de_chain opr_lt lr_lt opr_lt lr_lt de_int (de_callB cr_len lc_len rfl T.z_len bt_len (da_cons (dv 0) da_nil)) de_int) (de_one (de_callB (cr_all rfl) lc_all rfl T.z_all bt_all (da_cons (de_lc (own := [("_law_sign", 1)]) rfl sc__law_is_key.nd (blkOk_by (show blkC ["_law_word", "_law_sign"] (defScope s__law_is_key) _ [("_law_sign", 1)] = true by decide +kernel)) (own_name (by decide)) (di_seq (dv 0)) (fun _ _ _ _ _ => (pg_name (i := 1) sc__law_is_key.nd rfl (by first | exact Or.inl rfl | exact Or.inr rfl) (by first | exact .inl rfl | exact .inr rfl))) (fun _ _ _ _ _ => dts_nil) (fun _ _ _ _ _ => (de_cmp opr_in lr_in (dv 1) de_str (by with_unfolding_all rfl)))) da_nil))))))) fun ds μ Q E h => read__law_is_key ds μ Q E h
theorem gv__law_heard {X : Cx} (T : All X.K X.mg X.w.params) (cdv : Value) (hq : Quiet X.A) (hr : Room 1 X.A) {q : Str} : GivesS X ["_law_call", "_law_told", "_law_caught", "error"] "_law_heard" (defScope s__law_heard) T._law_heard.f cdv (defBody s__law_heard) "_law_call" q (TTd X.K q sp__law_heard) := by
  exact gives_d _ (fun s H f An th hA ask => have hr := hr.deeper (envOfC "_law_heard" (defScope s__law_heard) s.heap.objs.size T._law_heard.f cdv)
    (sas_cons hA (sa (ds_asg (de_tup (da_cons de_non (da_cons de_non da_nil))) (dg_tup rfl (dgs_cons (dg_name (i := 1) sc__law_heard.nd rfl (by first | exact Or.inl rfl | exact Or.inr rfl)) (dgs_cons (dg_name (i := 2) sc__law_heard.nd rfl (by first | exact Or.inl rfl | exact Or.inr rfl)) dgs_nil)))))
    (sas_cons hA (sa_try (i := 3) (k := 1) (j := 2) hA ask rfl rfl rfl sc__law_heard.nd ⟨rfl, by decide, .inl T.m_KeyedError⟩ T.exm_KeyedError rfl rfl rfl rfl (by first | exact Or.inl rfl | exact Or.inr rfl | exact Or.inr (Or.inl rfl) | exact Or.inr (Or.inr rfl)) (by first | exact Or.inl rfl | exact Or.inr rfl | exact Or.inr (Or.inl rfl) | exact Or.inr (Or.inr rfl)) (by first | exact Or.inl rfl | exact Or.inr rfl | exact Or.inr (Or.inl rfl) | exact Or.inr (Or.inr rfl)))
    (sas_cons hA (sa (ds_if (dt_isN (dv 2)) (dss_one (ds_ret (de_tup (da_cons de_str (da_cons (dv 1) da_nil))))) dss_nil))
    (sas_cons hA (sa (ds_if (PW.pt (dw_and (dt_val (de_isX (dv 2) rfl T.z_isinstance rfl T.m_BadText T.kit_BadText)) (dw_and (dt_not (dt_val (de_isXTup (cs := [T.a_BadLine, T.a_BadTree]) (dv 2) (da_cons (de_glob (d := .ref T.a_BadLine) (v := .ref T.a_BadLine) rfl T.m_BadLine rfl rfl) (da_cons (de_glob (d := .ref T.a_BadTree) (v := .ref T.a_BadTree) rfl T.m_BadTree rfl rfl) da_nil)) (KitsX.cons T.kit_BadLine (KitsX.cons T.kit_BadTree KitsX.nil)) T.z_isinstance (by show 2 ≤ sizeLine; decide)))) (dw_and1 (dt_val (de_isXT (dv 2) rfl T.z_isinstance rfl T.z_ValueError bt_ValueError T.kit_ValueError)))))) (dss_one (ds_ret (de_tup (da_cons de_str (da_cons (de_fld (dv 2)) da_nil))))) dss_nil))
    (sas_one (sa (ds_ret (de_tup (da_cons de_str (da_cons de_non da_nil))))))))))) fun f th μ Q h => read__law_heard f th μ Q h
theorem ok_TreeReader_init (T : All K mg w.params) (Bm : BM base mg) : FnI P w base T.i_TreeReader 1 sp_TreeReader_init := by
  exact def_ok (k := 0) T.i_TreeReader.F sc_TreeReader_init _ (len_of (n := 1) len_TreeReader_init) (fun cdv A outer s H E hq hr => (dss_cons (ds_putA T.o_TreeReader T.n_TreeReader_child_keys (dv 0) de_dict0M)
    (dss_one (ds_putA T.o_TreeReader T.n_TreeReader_way (dv 0) (de_lst da_nil))))) fun ds μ Q E h => read_TreeReader_init ds μ Q E h
theorem ok_TreeReader_can_follow (T : All K mg w.params) (Bm : BM base mg) : FnM P w base T.m_TreeReader_can_follow 1 sp_TreeReader_can_follow := by
  exact def_ok (k := 0) T.m_TreeReader_can_follow.F sc_TreeReader_can_follow _ (len_of (n := 3) len_TreeReader_can_follow) (fun cdv A outer s H E hq hr => (dss_cons (ds_if (PW.pt (dw_or (dt_din (hu_of hr) (dv 2) (de_attr T.o_TreeReader T.n_TreeReader_child_keys (dv 0))) (dw_or (dt_cmp (opr_eq (unit64 hr)) lr_eq (de_callB call_lenD lc_lenD rfl T.z_len bt_len (da_cons (de_attr T.o_TreeReader T.n_TreeReader_child_keys (dv 0)) da_nil)) (de_gint T.c_MOST_ELEMENTS) (nomark _)) (dw_or1 (dt_cmp opr_ge lr_cmp (dv 1) (de_gint T.c_MOST_NESTED) (nomark _)))))) (dss_one (ds_ret de_bl)) dss_nil)
    (dss_one (ds_ret (de_ifExp (dt_cmp (opr_neL0 (unit64 hr)) lr_L0 (de_attr T.o_TreeReader T.n_TreeReader_way (dv 0)) (de_lst da_nil) (nomark _)) (de_chain opr_le lr_cmp opr_le lr_cmp de_int (dv 1) (de_callB cr_len lc_len rfl T.z_len bt_len (da_cons (de_attr T.o_TreeReader T.n_TreeReader_way (dv 0)) da_nil))) (de_cmp (opr_eq (unit64 hr)) lr_eq (dv 1) de_int (nomark _))))))) fun ds μ Q E h => read_TreeReader_can_follow ds μ Q E h
theorem ok_TreeReader_add (T : All K mg w.params) (Bm : BM base mg) : FnM P w base T.m_TreeReader_add 1 sp_TreeReader_add := by
  exact def_ok (k := 0) T.m_TreeReader_add.F sc_TreeReader_add _ (len_of (n := 3) len_TreeReader_add) (fun cdv A outer s H E hq hr => (dss_cons (ds_if (dt_cmp opr_gt lr_cmp (dv 1) de_int (nomark _)) (dss_one (ds_expr (de_append (de_dget (hu_of hr) (de_attr T.o_TreeReader T.n_TreeReader_child_keys (dv 0)) (de_ix (de_attr T.o_TreeReader T.n_TreeReader_way (dv 0)) (de_op op_sub lr_sub (dv 1) de_int) (fun _ _ => rfl)) (fun _ _ => rfl)) (dv 2)))) dss_nil)
    (dss_cons (ds_dput (hu_of hr) (de_attr T.o_TreeReader T.n_TreeReader_child_keys (dv 0)) (dv 2) (de_lstM da_nil) rfl)
    (dss_one (ds_putA T.o_TreeReader T.n_TreeReader_way (dv 0) (de_op opr_add lr_add (de_slice (de_attr T.o_TreeReader T.n_TreeReader_way (dv 0)) do_none (do_some (dv 1))) (de_lst (da_cons (dv 2) da_nil)))))))) fun ds μ Q E h => read_TreeReader_add ds μ Q E h
theorem ok_split_line (T : All K mg w.params) (Bm : BM base mg) : FnD P w base T.split_line 2 sp_split_line := by
  have F_is_key := ok_is_key (P := P) (w := w) (base := base) T Bm
  exact def_ok (k := 1) T.split_line.F sc_split_line _ (len_of (n := 1) len_split_line) (fun cdv A outer s H E hq hr => (dss_cons (ds_set (i := 1) sc_split_line.nd rfl (by first | exact Or.inl rfl | exact Or.inr rfl) (de_lstrip (dv 0) (de_gstr T.c_BLANK)))
    (dss_cons (ds_asg (de_callB call_divmodW lc_divmod rfl T.z_divmod bt_divmod (da_cons (de_op op_sub lr_sub (de_callB cr_len lc_len rfl T.z_len bt_len (da_cons (dv 0) da_nil)) (de_callB cr_len lc_len rfl T.z_len bt_len (da_cons (dv 1) da_nil))) (da_cons (de_callB cr_len lc_len rfl T.z_len bt_len (da_cons (de_gstr T.c_INDENT) da_nil)) da_nil))) (dg_tup rfl (dgs_cons (dg_name (i := 2) sc_split_line.nd rfl (by first | exact Or.inl rfl | exact Or.inr rfl)) (dgs_cons (dg_name (i := 3) sc_split_line.nd rfl (by first | exact Or.inl rfl | exact Or.inr rfl)) dgs_nil))))
    (dss_one (ds_ret (de_ifExp (PW.pt (dw_and (dt_cmp (opr_eq (unit64 hr)) lr_eq (dv 3) de_int (nomark _)) (dw_and1 (dt_val (de_def F_is_key hq hr (da_cons (dv 1) da_nil)))))) (de_tup (da_cons (dv 2) (da_cons (dv 1) da_nil))) de_non)))))) fun ds μ Q E h => read_split_line ds μ Q E h
theorem ok__law_of (T : All K mg w.params) (Bm : BM base mg) : FnD P w base T._law_of 2 sp__law_of := by
  have F__law_take := ok__law_take (P := P) (w := w) (base := base) T Bm
  exact def_ok (k := 1) T._law_of.F sc__law_of _ (len_of (n := 2) len__law_of) (fun cdv A outer s H E hq hr => (dss_one (ds_ret (de_ix (dv 1) (de_def F__law_take hq hr (da_cons (dv 0) (da_cons (de_callB cr_len lc_len rfl T.z_len bt_len (da_cons (dv 1) da_nil)) da_nil))) (fun _ _ => rfl))))) fun ds μ Q E h => read__law_of ds μ Q E h
theorem ok__law_keys (T : All K mg w.params) (Bm : BM base mg) : FnD P w base T._law_keys 3 sp__law_keys := by
  have F__law_take := ok__law_take (P := P) (w := w) (base := base) T Bm
  have F__law_of := ok__law_of (P := P) (w := w) (base := base) T Bm
  exact def_ok (k := 2) T._law_keys.F sc__law_keys _ (len_of (n := 2) len__law_keys) (fun cdv A outer s H E hq hr => (dss_cons (ds_par (i := 2) (j := 3) rfl sc__law_keys.nd rfl rfl (by decide) rfl rfl (da_cons de_str (da_cons (de_lstM da_nil) da_nil)) rfl)
    (dss_cons (ds_par (i := 4) (j := 5) rfl sc__law_keys.nd rfl rfl (by decide) rfl rfl (da_cons (de_def F__law_take hq hr (da_cons (dv 0) (da_cons de_int da_nil))) (da_cons (de_def F__law_of hq hr (da_cons (dv 0) (da_cons (de_lst (da_cons de_int (da_cons de_int (da_cons de_int (da_cons de_int (da_cons de_int (da_cons de_int (da_cons de_int da_nil)))))))) da_nil))) da_nil)) rfl)
    (dss_cons (ds_set (i := 6) sc__law_keys.nd rfl (by first | exact Or.inl rfl | exact Or.inr rfl) (de_op opr_mul lr_mul (de_def F__law_of hq hr (da_cons (dv 0) (da_cons (dv 2) da_nil))) (de_def F__law_of hq hr (da_cons (dv 0) (da_cons (de_lst (da_cons de_int (da_cons de_int (da_cons de_int (da_cons de_int (da_cons de_int (da_cons de_int da_nil))))))) da_nil)))))
    (dss_cons (ds_for PassesOwn.never rfl (di_range1 rfl T.z_range (da_cons (dv 1) da_nil)) (dg_name (i := 7) sc__law_keys.nd rfl (by first | exact Or.inl rfl | exact Or.inr rfl)) (dss_cons (ds_par (i := 8) (j := 9) rfl sc__law_keys.nd rfl rfl (by decide) rfl rfl (da_cons (de_op op_mod lr_i2 (de_op opr_add lr_add (dv 4) (de_op opr_mul lr_mul (dv 5) (dv 7))) de_int) (da_cons (de_op op_mod lr_i2 (de_op opr_add lr_add (dv 4) (de_op op_fdivW lr_i2 (dv 7) de_int)) de_int) da_nil)) rfl)
    (dss_one (ds_expr (de_append (dv 3) (de_op opr_add lr_add (de_op opr_add lr_add (dv 6) (de_ix (dv 2) (dv 8) (fun _ _ => rfl))) (de_ix (dv 2) (dv 9) (fun _ _ => rfl))))))))
    (dss_one (ds_retF (dv 3)))))))) fun ds μ Q E h => read__law_keys ds μ Q E h
theorem ok__law_bent (T : All K mg w.params) (Bm : BM base mg) : FnD P w base T._law_bent 3 sp__law_bent := by
  have F__law_take := ok__law_take (P := P) (w := w) (base := base) T Bm
  have F__law_of := ok__law_of (P := P) (w := w) (base := base) T Bm
  exact def_ok (k := 2) T._law_bent.F sc__law_bent _ (len_of (n := 2) len__law_bent) (fun cdv A outer s H E hq hr => (dss_cons (ds_par (i := 2) (j := 3) rfl sc__law_bent.nd rfl rfl (by decide) rfl rfl (da_cons (de_splitM (dv 1) de_str) (da_cons (de_def F__law_take hq hr (da_cons (dv 0) (da_cons de_int da_nil))) da_nil)) rfl)
    (dss_cons (ds_par (i := 4) (j := 5) rfl sc__law_bent.nd rfl rfl (by decide) rfl rfl (da_cons (de_def F__law_take hq hr (da_cons (dv 0) (da_cons (de_callB cr_len lc_len rfl T.z_len bt_len (da_cons (dv 2) da_nil)) da_nil))) (da_cons (de_def F__law_take hq hr (da_cons (dv 0) (da_cons (de_callB cr_len lc_len rfl T.z_len bt_len (da_cons (dv 2) da_nil)) da_nil))) da_nil)) rfl)
    (dss_cons (ds_par (i := 6) (j := 7) rfl sc__law_bent.nd rfl rfl (by decide) rfl rfl (da_cons (de_def F__law_take hq hr (da_cons (dv 0) (da_cons (de_op opr_add lr_add (de_callB cr_len lc_len rfl T.z_len bt_len (da_cons (dv 1) da_nil)) de_int) da_nil))) (da_cons (de_split (de_ix (dv 2) (dv 4) (fun _ _ => rfl)) de_str) da_nil)) rfl)
    (dss_cons (ds_set (i := 8) sc__law_bent.nd rfl (by first | exact Or.inl rfl | exact Or.inr rfl) (de_def F__law_take hq hr (da_cons (dv 0) (da_cons (de_callB cr_len lc_len rfl T.z_len bt_len (da_cons (dv 7) da_nil)) da_nil))))
    (dss_cons (ds_set (i := 9) sc__law_bent.nd rfl (by first | exact Or.inl rfl | exact Or.inr rfl) (de_def F__law_of hq hr (da_cons (dv 0) (da_cons (de_lst (da_cons de_str (da_cons de_str (da_cons de_str (da_cons de_str (da_cons de_str (da_cons de_str (da_cons de_str (da_cons de_str da_nil))))))))) da_nil))))
    (dss_cons (ds_if (dt_cmp opr_lt lr_lt (dv 3) de_int (nomark _)) (dss_cons (ds_set (i := 10) sc__law_bent.nd rfl (by first | exact Or.inl rfl | exact Or.inr rfl) (de_slice (dv 1) (do_some (de_op opr_add lr_add (dv 6) (de_callT call_int1 lc_int rfl T.z_int bt_int (da_cons (de_cmp opr_lt lr_lt (dv 3) de_int (nomark _)) da_nil)))) do_none))
    (dss_one (ds_ret (de_op opr_add lr_add (de_op opr_add lr_add (de_slice (dv 1) do_none (do_some (dv 6))) (de_op opr_mul lr_mul (dv 9) (de_callT call_int1 lc_int rfl T.z_int bt_int (da_cons (de_cmp opr_gt lr_cmp (dv 3) de_int (nomark _)) da_nil)))) (dv 10))))) dss_nil)
    (dss_cons (ds_if (dt_cmp (opr_eq (unit64 hr)) lr_eq (dv 3) de_int (nomark _)) (dss_one (ds_set (i := 2) sc__law_bent.nd rfl (by first | exact Or.inl rfl | exact Or.inr rfl) (de_op op_cat lr_addM (de_slice (dv 2) do_none (do_some (dv 4))) (de_slice (dv 2) (do_some (de_op opr_add lr_add (dv 4) de_int)) do_none)))) (dss_one (ds_if (dt_cmp (opr_eq (unit64 hr)) lr_eq (dv 3) de_int (nomark _)) (dss_one (ds_set (i := 2) sc__law_bent.nd rfl (by first | exact Or.inl rfl | exact Or.inr rfl) (de_op op_cat lr_addM (de_slice (dv 2) do_none (do_some (de_op opr_add lr_add (dv 4) de_int))) (de_slice (dv 2) (do_some (dv 4)) do_none)))) (dss_one (ds_if (dt_cmp (opr_eq (unit64 hr)) lr_eq (dv 3) de_int (nomark _)) (dss_cons (ds_set (i := 11) sc__law_bent.nd rfl (by first | exact Or.inl rfl | exact Or.inr rfl) (de_ix (dv 2) (dv 4) (fun _ _ => rfl)))
    (dss_cons (ds_set (i := 2) sc__law_bent.nd rfl (by first | exact Or.inl rfl | exact Or.inr rfl) (de_op op_cat lr_addM (de_slice (dv 2) do_none (do_some (dv 4))) (de_slice (dv 2) (do_some (de_op opr_add lr_add (dv 4) de_int)) do_none)))
    (dss_one (ds_expr (de_insert (dv 2) (de_callB (call_min2 rfl) lc_i2 rfl T.z_min bt_min (da_cons (dv 5) (da_cons (de_callB cr_len lc_len rfl T.z_len bt_len (da_cons (dv 2) da_nil)) da_nil))) (dv 11)))))) (dss_one (ds_if (dt_cmp (opr_eq (unit64 hr)) lr_eq (dv 3) de_int (nomark _)) (dss_one (ds_asg (de_op opr_add lr_add de_str (de_ix (dv 2) (dv 4) (fun _ _ => rfl))) (dg_sub (dv 2) (dv 4) set_list ls_list))) (dss_one (ds_if (dt_cmp (opr_eq (unit64 hr)) lr_eq (dv 3) de_int (nomark _)) (dss_one (ds_asg (de_slice (de_ix (dv 2) (dv 4) (fun _ _ => rfl)) (do_some de_int) do_none) (dg_sub (dv 2) (dv 4) set_list ls_list))) (dss_cons (ds_set (i := 12) sc__law_bent.nd rfl (by first | exact Or.inl rfl | exact Or.inr rfl) (de_op opr_mul lr_mul (de_lst (da_cons (de_def F__law_of hq hr (da_cons (dv 0) (da_cons (de_lst (da_cons de_str (da_cons de_str (da_cons de_str (da_cons de_str (da_cons de_str (da_cons de_str (da_cons de_str (da_cons de_str da_nil))))))))) da_nil))) da_nil)) (de_callT call_int1 lc_int rfl T.z_int bt_int (da_cons (de_cmp (opr_eq (unit64 hr)) lr_eq (dv 3) de_int (nomark _)) da_nil))))
    (dss_one (ds_asg (de_join de_str (de_op opr_add lr_add (de_op opr_add lr_add (de_slice (dv 7) do_none (do_some (dv 8))) (dv 12)) (de_slice (dv 7) (do_some (de_op opr_add lr_add (dv 8) de_int)) do_none))) (dg_sub (dv 2) (dv 4) set_list ls_list)))))))))))))
    (dss_one (ds_ret (de_join de_str (dv 2)))))))))))) fun ds μ Q E h => read__law_bent ds μ Q E h
theorem ok__law_from (T : All K mg w.params) (Bm : BM base mg) : ∀ n, FnD P w base T._law_from (n + 1) (sp__law_from n) := by
  intro n
  induction n with
  | zero => exact (FnG.no _ _ _).imp fun vs H Q E h => by obtain ⟨_, _, _, _, _, _, _, h, _⟩ := h; exact (no__law_from h).elim
  | succ n ih =>
    have F__law_from := ih
    exact def_ok (k := n + 1) T._law_from.F sc__law_from _ (len_of (n := 2) len__law_from) (fun cdv A outer s H E hq hr => (dss_one (ds_ret (de_tup (da_cons (dv 0) (da_cons (de_callT call_tuple_of lc_tuple rfl T.z_tuple bt_tuple (da_cons (de_lc (own := [("_law_child", 2)]) rfl sc__law_from.nd (blkOk_by (show blkC ["_law_key", "_law_lists", "_law_child"] (defScope s__law_from) _ [("_law_child", 2)] = true by decide +kernel)) (own_name (by decide)) (di_seq (de_dget (hu_of hr) (dv 1) (dv 0) (fun _ _ => rfl))) (fun _ _ _ _ _ => (pg_name (i := 2) sc__law_from.nd rfl (by first | exact Or.inl rfl | exact Or.inr rfl) (by first | exact .inl rfl | exact .inr rfl))) (fun _ _ _ _ _ => dts_nil) (fun _ _ _ _ _ => (de_def F__law_from hq hr (da_cons (dv 2) (da_cons (dv 1) da_nil))))) da_nil)) da_nil)))))) fun ds μ Q E h => read__law_from n ds μ Q E h
theorem ok__law_text (T : All K mg w.params) (Bm : BM base mg) : ∀ n, FnD P w base T._law_text (n + 1) (sp__law_text n) := by
  intro n
  induction n with
  | zero => exact (FnG.no _ _ _).imp fun vs H Q E h => by obtain ⟨_, _, _, _, _, _, _, h, _⟩ := h; exact (no__law_text h).elim
  | succ n ih =>
    have F__law_text := ih
    exact def_ok (k := n + 1) T._law_text.F sc__law_text _ (len_of (n := 2) len__law_text) (fun cdv A outer s H E hq hr => (dss_one (ds_ret (de_join de_str (de_op opr_add lr_add (de_lst (da_cons (de_op opr_add lr_add (de_op opr_mul lr_mul de_str (de_op opr_mul lr_mul de_int (dv 1))) (de_ix (dv 0) de_int (fun _ _ => rfl))) da_nil)) (de_lc (own := [("_law_child", 2)]) rfl sc__law_text.nd (blkOk_by (show blkC ["_law_tree", "_law_depth", "_law_child"] (defScope s__law_text) _ [("_law_child", 2)] = true by decide +kernel)) (own_name (by decide)) (di_seq (de_ix (dv 0) de_int (fun _ _ => rfl))) (fun _ _ _ _ _ => (pg_name (i := 2) sc__law_text.nd rfl (by first | exact Or.inl rfl | exact Or.inr rfl) (by first | exact .inl rfl | exact .inr rfl))) (fun _ _ _ _ _ => dts_nil) (fun _ _ _ _ _ => (de_def F__law_text hq hr (da_cons (dv 2) (da_cons (de_op opr_add lr_add (dv 1) de_int) da_nil)))))))))) fun ds μ Q E h => read__law_text n ds μ Q E h
theorem ok__law_grown (T : All K mg w.params) (Bm : BM base mg) : FnD P w base T._law_grown 26 sp__law_grown := by
  have F__law_way := ok__law_way (P := P) (w := w) (base := base) T Bm
  have F__law_above := ok__law_above (P := P) (w := w) (base := base) T Bm
  have F__law_take := ok__law_take (P := P) (w := w) (base := base) T Bm
  have F__law_from := ok__law_from (P := P) (w := w) (base := base) T Bm 24
  have F__law_of := ok__law_of (P := P) (w := w) (base := base) T Bm
  exact def_ok (k := 25) T._law_grown.F sc__law_grown _ (len_of (n := 3) len__law_grown) (fun cdv A outer s H E hq hr => (dss_cons (ds_set (i := 3) sc__law_grown.nd rfl (by first | exact Or.inl rfl | exact Or.inr rfl) (de_dispM (dps_cons (de_ix (dv 1) de_int (fun _ _ => rfl)) (de_lstM da_nil) dps_nil) rfl rfl (by simp) (by decide) (by decide)))
    (dss_cons (ds_for PassesOwn.never rfl (di_range2 rfl T.z_range (da_cons de_int (da_cons (de_callB cr_len lc_len rfl T.z_len bt_len (da_cons (dv 1) da_nil)) da_nil))) (dg_name (i := 4) sc__law_grown.nd rfl (by first | exact Or.inl rfl | exact Or.inr rfl)) (dss_cons (ds_set (i := 5) sc__law_grown.nd rfl (by first | exact Or.inl rfl | exact Or.inr rfl) (de_ifExp (dt_cmp opr_lt lr_lt (de_def F__law_take hq hr (da_cons (dv 0) (da_cons de_int da_nil))) (dv 2) (nomark _)) (de_ix (dv 1) (de_op op_sub lr_sub (dv 4) de_int) (fun _ _ => rfl)) (de_def F__law_of hq hr (da_cons (dv 0) (da_cons (de_slice (dv 1) do_none (do_some (dv 4))) da_nil)))))
    (dss_cons (ds_if (dt_cmp opr_gt lr_cmp (de_callB cr_len lc_len rfl T.z_len bt_len (da_cons (de_def F__law_way hq hr (da_cons (de_def F__law_above hq hr (da_cons (dv 3) da_nil)) (da_cons (dv 5) da_nil))) da_nil)) de_int (nomark _)) (dss_one (ds_set (i := 5) sc__law_grown.nd rfl (by first | exact Or.inl rfl | exact Or.inr rfl) (de_ix (dv 1) de_int (fun _ _ => rfl)))) dss_nil)
    (dss_cons (ds_set (i := 6) sc__law_grown.nd rfl (by first | exact Or.inl rfl | exact Or.inr rfl) (de_def F__law_take hq hr (da_cons (dv 0) (da_cons (de_op opr_add lr_add (de_callB cr_len lc_len rfl T.z_len bt_len (da_cons (de_dget (hu_of hr) (dv 3) (dv 5) (fun _ _ => rfl)) da_nil)) de_int) da_nil))))
    (dss_cons (ds_set (i := 7) sc__law_grown.nd rfl (by first | exact Or.inl rfl | exact Or.inr rfl) (de_dget (hu_of hr) (dv 3) (dv 5) (fun _ _ => rfl)))
    (dss_cons (ds_expr (de_insert (dv 7) (dv 6) (de_ix (dv 1) (dv 4) (fun _ _ => rfl))))
    (dss_one (ds_dput (hu_of hr) (dv 3) (de_ix (dv 1) (dv 4) (fun _ _ => rfl)) (de_lstM da_nil) rfl))))))))
    (dss_one (ds_ret (de_def F__law_from hq hr (da_cons (de_ix (dv 1) de_int (fun _ _ => rfl)) (da_cons (dv 3) da_nil)))))))) fun ds μ Q E h => read__law_grown ds μ Q E h
theorem ok__law_tree_due (T : All K mg w.params) (Bm : BM base mg) : FnD P w base T._law_tree_due 26 sp__law_tree_due := by
  have F__law_from := ok__law_from (P := P) (w := w) (base := base) T Bm 24
  have F__law_is_key := ok__law_is_key (P := P) (w := w) (base := base) T Bm
  exact def_ok (k := 25) T._law_tree_due.F sc__law_tree_due _ (len_of (n := 1) len__law_tree_due) (fun cdv A outer s H E hq hr => (dss_cons (ds_if (dt_not (dt_val (de_callB call_isi lc_isi rfl T.z_isinstance bt_isinstance (da_cons (dv 0) (da_cons (de_ty rfl T.z_str bt_str) da_nil))))) (dss_one (ds_ret (de_tup (da_cons de_str (da_cons de_int da_nil))))) dss_nil)
    (dss_cons (ds_par (i := 1) (j := 2) rfl sc__law_tree_due.nd rfl rfl (by decide) rfl rfl (da_cons de_dict0M (da_cons (de_lst da_nil) da_nil)) rfl)
    (dss_cons (ds_forT PassesOwn.never rfl (dio_enum rfl T.z_enumerate (deo_split (dv 0))) (dg_tup rfl (dgs_cons (dg_name (i := 3) sc__law_tree_due.nd rfl (by first | exact Or.inl rfl | exact Or.inr rfl)) (dgs_cons (dg_name (i := 4) sc__law_tree_due.nd rfl (by first | exact Or.inl rfl | exact Or.inr rfl)) dgs_nil))) (dsst_repl (i := 5) sc__law_tree_due.nd rfl (by first | exact Or.inl rfl | exact Or.inr rfl) (by decide +kernel) (dv 4)
    (dss_cons (ds_set (i := 6) sc__law_tree_due.nd rfl (by first | exact Or.inl rfl | exact Or.inr rfl) (de_op op_sub lr_sub (de_callB cr_len lc_len rfl T.z_len bt_len (da_cons (dv 4) da_nil)) (de_callB cr_len lc_len rfl T.z_len bt_len (da_cons (dv 5) da_nil))))
    (dss_cons (ds_set (i := 7) sc__law_tree_due.nd rfl (by first | exact Or.inl rfl | exact Or.inr rfl) (de_op op_fdivW lr_i2 (dv 6) de_int))
    (dss_cons (ds_set (i := 8) sc__law_tree_due.nd rfl (by first | exact Or.inl rfl | exact Or.inr rfl) (de_and (de_cmp (opr_eq (unit64 hr)) lr_eq (dv 4) (de_op opr_add lr_add (de_op opr_mul lr_mul de_str (dv 6)) (dv 5)) (nomark _)) (de_and (de_cmp (opr_eq (unit64 hr)) lr_eq (de_op op_mod lr_i2 (dv 6) de_int) de_int (nomark _)) (de_and (de_def F__law_is_key hq hr (da_cons (dv 5) da_nil)) (de_one (de_dnotin (hu_of hr) (dv 5) (dv 1)))))))
    (dss_cons (ds_if (PW.pt (dw_or (dt_not (dt_val (dv 8))) (dw_or (dt_cmp opr_gt lr_cmp (de_callB call_lenD lc_lenD rfl T.z_len bt_len (da_cons (dv 1) da_nil)) de_int (nomark _)) (dw_or (dt_cmp opr_gt lr_cmp (dv 7) de_int (nomark _)) (dw_or1 (dt_ifExp (dt_cmp (opr_eq (unit64 hr)) lr_eq (dv 3) de_int (nomark _)) (dt_cmp (opr_ne (unit64 hr)) lr_ne (dv 7) de_int (nomark _)) (dt_not (dt_chain opr_lt lr_lt opr_le lr_cmp de_int (dv 7) (de_callB cr_len lc_len rfl T.z_len bt_len (da_cons (dv 2) da_nil)))))))))) (dss_one (ds_ret (de_tup (da_cons de_str (da_cons (dv 3) da_nil))))) dss_nil)
    (dss_cons (ds_if (dt_cmp opr_gt lr_cmp (dv 7) de_int (nomark _)) (dss_cons (ds_set (i := 9) sc__law_tree_due.nd rfl (by first | exact Or.inl rfl | exact Or.inr rfl) (de_dget (hu_of hr) (dv 1) (de_ix (dv 2) (de_op op_sub lr_sub (dv 7) de_int) (fun _ _ => rfl)) (fun _ _ => rfl)))
    (dss_one (ds_expr (de_append (dv 9) (dv 5))))) dss_nil)
    (dss_cons (ds_dput (hu_of hr) (dv 1) (dv 5) (de_lstM da_nil) rfl)
    (dss_one (ds_set (i := 2) sc__law_tree_due.nd rfl (by first | exact Or.inl rfl | exact Or.inr rfl) (de_op opr_add lr_add (de_slice (dv 2) do_none (do_some (dv 7))) (de_lst (da_cons (dv 5) da_nil)))))))))))))
    (dss_one (ds_ret (de_tup (da_cons de_str (da_cons (de_def F__law_from hq hr (da_cons (de_ix (dv 2) de_int (fun _ _ => rfl)) (da_cons (dv 1) da_nil))) da_nil))))))))) fun ds μ Q E h => read__law_tree_due ds μ Q E h
theorem ok_tree_from (T : All K mg w.params) (Bm : BM base mg) : ∀ n, FnD P w base T.tree_from (n + 1) (sp_tree_from n) := by
  intro n
  induction n with
  | zero => exact (FnG.no _ _ _).imp fun vs H Q E h => by obtain ⟨_, _, _, _, _, _, _, h, _⟩ := h; exact (no_tree_from h).elim
  | succ n ih =>
    have F_tree_from := ih
    exact def_ok (k := n + 1) T.tree_from.F sc_tree_from _ (len_of (n := 2) len_tree_from) (fun cdv A outer s H E hq hr => (dss_one (ds_ret (de_tup (da_cons (dv 0) (da_cons (de_callT call_tuple_of lc_tuple rfl T.z_tuple bt_tuple (da_cons (de_lc (own := [("child", 2)]) rfl sc_tree_from.nd (blkOk_by (show blkC ["key", "children", "child"] (defScope s_tree_from) _ [("child", 2)] = true by decide +kernel)) (own_name (by decide)) (di_seq (de_dget (hu_of hr) (dv 1) (dv 0) (fun _ _ => rfl))) (fun _ _ _ _ _ => (pg_name (i := 2) sc_tree_from.nd rfl (by first | exact Or.inl rfl | exact Or.inr rfl) (by first | exact .inl rfl | exact .inr rfl))) (fun _ _ _ _ _ => dts_nil) (fun _ _ _ _ _ => (de_def F_tree_from hq hr (da_cons (dv 2) (da_cons (dv 1) da_nil))))) da_nil)) da_nil)))))) fun ds μ Q E h => read_tree_from n ds μ Q E h
theorem ok_read_tree (T : All K mg w.params) (Bm : BM base mg) : FnX P w base T.read_tree 72 sp_read_tree := by
  have X_BadText := okx_BadText (P := P) (w := w) (base := base) T
  have F_TreeReader_add := ok_TreeReader_add (P := P) (w := w) (base := base) T Bm
  have F_TreeReader_init := ok_TreeReader_init (P := P) (w := w) (base := base) T Bm
  have F_tree_from := ok_tree_from (P := P) (w := w) (base := base) T Bm 70
  have F_TreeReader_can_follow := ok_TreeReader_can_follow (P := P) (w := w) (base := base) T Bm
  have F_split_line := ok_split_line (P := P) (w := w) (base := base) T Bm
  exact def_okR (k := 71) T.read_tree.F sc_read_tree _ len_read_tree (fun cdv A outer s H E Ex An hq hr hz => (sas_cons hz.gr (sa_if hz.gr (ta_ (dt_not (dt_val (de_callB call_isi lc_isi rfl T.z_isinstance bt_isinstance (da_cons (dv 0) (da_cons (de_ty rfl T.z_str bt_str) da_nil)))))) (sas_one (sa_raise X_BadText hq hr hz (ea de_int))) (sas dss_nil))
    (sas_cons hz.gr (sa (ds_set (i := 1) sc_read_tree.nd rfl (by first | exact Or.inl rfl | exact Or.inr rfl) (de_mkC0 (M := T.i_TreeReader) F_TreeReader_init hq hr)))
    (sas_cons hz.gr (sa_for hz.gr (passes_of rfl) rfl (di_enum rfl T.z_enumerate (da_cons (de_split (dv 0) (de_gstr T.c_FEED)) da_nil)) (dg_tup rfl (dgs_cons (dg_name (i := 2) sc_read_tree.nd rfl (by first | exact Or.inl rfl | exact Or.inr rfl)) (dgs_cons (dg_name (i := 3) sc_read_tree.nd rfl (by first | exact Or.inl rfl | exact Or.inr rfl)) dgs_nil))) (sas_cons hz.gr (sa (ds_set (i := 4) sc_read_tree.nd rfl (by first | exact Or.inl rfl | exact Or.inr rfl) (de_def F_split_line hq hr (da_cons (dv 3) da_nil))))
    (sas_cons hz.gr (sa_if hz.gr (ta_ (PW.pt (dw_or (dt_isN (dv 4)) (dw_or1 (dt_not (dt_val (de_meth (M := T.m_TreeReader_can_follow) F_TreeReader_can_follow hq hr (dv 1) (da_cons (de_ix (dv 4) de_int (fun _ _ => rfl)) (da_cons (de_ix (dv 4) de_int (fun _ _ => rfl)) da_nil))))))))) (sas_one (sa_raise X_BadText hq hr hz (ea (dv 2)))) (sas dss_nil))
    (sas_one (sa (ds_expr (de_meth (M := T.m_TreeReader_add) F_TreeReader_add hq hr (dv 1) (da_cons (de_ix (dv 4) de_int (fun _ _ => rfl)) (da_cons (de_ix (dv 4) de_int (fun _ _ => rfl)) da_nil)))))))))
    (sas_one (sa (ds_ret (de_def F_tree_from hq hr (da_cons (de_ix (de_attr T.o_TreeReader T.n_TreeReader_way (dv 1)) de_int (fun _ _ => rfl)) (da_cons (de_attr T.o_TreeReader T.n_TreeReader_child_keys (dv 1)) da_nil)))))))))) fun ds μ Q E h => read_read_tree ds μ Q E h
theorem ok_law (T : All K mg w.params) (Bm : BM base mg) : FnD P w base T.law 75 sp_law := by
  have F__law_keys := ok__law_keys (P := P) (w := w) (base := base) T Bm
  have F__law_text := ok__law_text (P := P) (w := w) (base := base) T Bm 24
  have F__law_bent := ok__law_bent (P := P) (w := w) (base := base) T Bm
  have F__law_tree_due := ok__law_tree_due (P := P) (w := w) (base := base) T Bm
  have F__law_grown := ok__law_grown (P := P) (w := w) (base := base) T Bm
  have F__law_take := ok__law_take (P := P) (w := w) (base := base) T Bm
  have F_read_tree := ok_read_tree (P := P) (w := w) (base := base) T Bm
  have F__law_hand := ok__law_hand (P := P) (w := w) (base := base) T Bm
  exact def_okL (k := 74) T.law sc_law _ (len_of (n := 1) len_law) (fun cdv A outer s H E hq hr how => (dss_cons (ds_for PassesOwn.never rfl (di_range1 rfl T.z_range (da_cons (de_callB (call_max2 rfl) lc_i2 rfl T.z_max bt_max (da_cons de_int (da_cons (de_callB (call_min2 rfl) lc_i2 rfl T.z_min bt_min (da_cons de_int (da_cons (de_callB cr_len lc_len rfl T.z_len bt_len (da_cons (dv 0) da_nil)) da_nil))) da_nil))) da_nil)) (dg_name (i := 1) sc_law.nd rfl (by first | exact Or.inl rfl | exact Or.inr rfl)) (dss_cons (ds_set (i := 2) sc_law.nd rfl (by first | exact Or.inl rfl | exact Or.inr rfl) (de_def F__law_hand hq hr (da_cons (dv 0) (da_cons (dv 1) da_nil))))
    (dss_cons (ds_set (i := 3) sc_law.nd rfl (by first | exact Or.inl rfl | exact Or.inr rfl) (de_def F__law_keys hq hr (da_cons (dv 2) (da_cons de_int da_nil))))
    (dss_cons (ds_set (i := 4) sc_law.nd rfl (by first | exact Or.inl rfl | exact Or.inr rfl) (de_lstM (da_cons de_str (da_cons de_str (da_cons de_str (da_cons de_str (da_cons de_str (da_cons de_str (da_cons de_str (da_cons de_str (da_cons de_str (da_cons de_str (da_cons de_str (da_cons de_str (da_cons de_str da_nil)))))))))))))))
    (dss_cons (ds_set (i := 4) sc_law.nd rfl (by first | exact Or.inl rfl | exact Or.inr rfl) (de_op op_cat lr_addM (dv 4) (de_lst (da_cons de_str (da_cons de_str (da_cons de_str (da_cons de_str (da_cons de_str (da_cons de_str (da_cons de_str da_nil))))))))))
    (dss_cons (ds_set (i := 4) sc_law.nd rfl (by first | exact Or.inl rfl | exact Or.inr rfl) (de_op op_cat lr_addM (dv 4) (de_lst (da_cons de_str (da_cons de_str (da_cons de_str (da_cons de_str (da_cons de_str (da_cons de_str (da_cons de_str (da_cons de_str (da_cons de_str da_nil))))))))))))
    (dss_cons (ds_for PassesOwn.never rfl (di_range1 rfl T.z_range (da_cons de_int da_nil)) (dg_name (i := 5) sc_law.nd rfl (by first | exact Or.inl rfl | exact Or.inr rfl)) (dss_cons (ds_set (i := 7) sc_law.nd rfl (by first | exact Or.inl rfl | exact Or.inr rfl) (de_def F__law_grown hq hr (da_cons (dv 2) (da_cons (de_slice (dv 3) do_none (do_some (de_op opr_add lr_add de_int (de_def F__law_take hq hr (da_cons (dv 2) (da_cons de_int da_nil)))))) (da_cons (de_def F__law_take hq hr (da_cons (dv 2) (da_cons de_int da_nil))) da_nil)))))
    (dss_cons (ds_set (i := 6) sc_law.nd rfl (by first | exact Or.inl rfl | exact Or.inr rfl) (de_def F__law_text hq hr (da_cons (dv 7) (da_cons de_int da_nil))))
    (dss_cons (ds_if (dt_cmp (opr_ne (unit64 hr)) lr_ne (de_callB (cr_reprV hq (unit66 hr)) lc_reprV rfl T.z_repr bt_repr (da_cons (de_lam (D := T._law_heard) (k := 72) (ttd := sp__law_heard) Bm how hq hr (fun cdv2 => gv__law_heard (X := (cxOf CX0 P w K mg base ["_law_script", "_law_k", "_law_hand_here", "_law_keys_here", "_law_some", "_law_turn", "_law_written", "_law_tree", "_law_again", "_law_bent_here"] "law" (defScope s_law) T.law.f cdv A outer s H E).nox) T cdv2 hq (hr.mono (by omega))) sc__law_heard (LamX.lamS_by (show LamX.lamSB (defScope s_law) _ = true by decide +kernel)) (fun A outer s H E f c' An Ex hq hr hz => (ea_def F_read_tree hq hr hz (aa (da_cons (dv 6) da_nil))))) da_nil)) (de_callB (cr_reprV hq (unit66 hr)) lc_reprV rfl T.z_repr bt_repr (da_cons (de_tup (da_cons de_str (da_cons (dv 7) da_nil))) da_nil)) (nomark _)) (dss_one (ds_ret de_bl)) dss_nil)
    (dss_one (ds_for PassesOwn.never rfl (di_range1 rfl T.z_range (da_cons de_int da_nil)) (dg_name (i := 8) sc_law.nd rfl (by first | exact Or.inl rfl | exact Or.inr rfl)) (dss_cons (ds_set (i := 9) sc_law.nd rfl (by first | exact Or.inl rfl | exact Or.inr rfl) (de_def F__law_bent hq hr (da_cons (dv 2) (da_cons (dv 6) da_nil))))
    (dss_one (ds_expr (de_append (dv 4) (de_ifExp (dt_cmp (opr_eq (unit64 hr)) lr_eq (de_def F__law_take hq hr (da_cons (dv 2) (da_cons de_int da_nil))) de_int (nomark _)) (de_def F__law_bent hq hr (da_cons (dv 2) (da_cons (dv 9) da_nil))) (dv 9))))))))))))
    (dss_one (ds_for PassesOwn.never rfl (di_seq (dv 4)) (dg_name (i := 6) sc_law.nd rfl (by first | exact Or.inl rfl | exact Or.inr rfl)) (dss_one (ds_if (dt_cmp (opr_ne (unit64 hr)) lr_ne (de_callB (cr_reprV hq (unit66 hr)) lc_reprV rfl T.z_repr bt_repr (da_cons (de_lam (D := T._law_heard) (k := 72) (ttd := sp__law_heard) Bm how hq hr (fun cdv2 => gv__law_heard (X := (cxOf CX0 P w K mg base ["_law_script", "_law_k", "_law_hand_here", "_law_keys_here", "_law_some", "_law_turn", "_law_written", "_law_tree", "_law_again", "_law_bent_here"] "law" (defScope s_law) T.law.f cdv A outer s H E).nox) T cdv2 hq (hr.mono (by omega))) sc__law_heard (LamX.lamS_by (show LamX.lamSB (defScope s_law) _ = true by decide +kernel)) (fun A outer s H E f c' An Ex hq hr hz => (ea_def F_read_tree hq hr hz (aa (da_cons (dv 6) da_nil))))) da_nil)) (de_callB (cr_reprV hq (unit66 hr)) lc_reprV rfl T.z_repr bt_repr (da_cons (de_def F__law_tree_due hq hr (da_cons (dv 6) da_nil)) da_nil)) (nomark _)) (dss_one (ds_ret de_bl)) dss_nil)))))))))))
    (dss_one (ds_ret de_bl)))) fun ds μ Q E h => read_law ds μ Q E h
end
theorem all_mk {l : PySem.W.OpenLaw} {w : World} {K : PySem.W.Frag} {h : Heap} {mg : Str → Option Value} {fa f0 f1 f2 f3 f4 f5 f6 f7 f8 f9 f10 f11 f12 f13 f14 f15 f16 f17 f18 f19 f20 : Addr} (X : K.In h) (G : h.Ns mainGlobals mg) (hfa : mg "law" = some (.ref fa))
    {O0 : Addr} (oa0 : PySem.W.nsIn K mainGlobals "TreeReader" = some (some (.ref O0))) (og0 : PySem.W.plainGet K O0 Str.empty = true) (oh0 : PySem.W.hasDictIn K O0 = true) (oo0 : PySem.W.plainOver K O0 = true) (os0 : PySem.W.findIn K (.ref O0) "__setattr__" = some (some (.builtin "object.__setattr__"))) (om0 : PySem.W.makesIn K O0 = true) (ok0 : PySem.W.keepIn K (.ref O0) = true)
    (on0_child_keys : PySem.W.findIn K (.ref O0) "child_keys" = some none) (on0_way : PySem.W.findIn K (.ref O0) "way" = some none)
    {od0 an0 : Option Addr} {sl0 : Array (Option Value)} {oc0 kV0 dc0 pm0 cd0 ct0 : Value} (a0 : PySem.W.nsIn K mainGlobals "is_key" = some (some (.ref f0))) (l0 : K.lookup f0 = some ⟨oc0, od0, .func (PySem.W.fnOf "is_key" "is_key" (defArgs s_is_key) (defBody s_is_key) (defScope s_is_key) .none kV0 dc0 pm0 an0 cd0 ct0), sl0⟩) (c0 : PySem.W.codeIn K cd0 "is_key" = true) (k0 : PySem.W.keepIn K (.ref f0) = true)
    {od1 an1 : Option Addr} {sl1 : Array (Option Value)} {oc1 kV1 dc1 pm1 cd1 ct1 : Value} (a1 : PySem.W.nsIn K mainGlobals "tree_from" = some (some (.ref f1))) (l1 : K.lookup f1 = some ⟨oc1, od1, .func (PySem.W.fnOf "tree_from" "tree_from" (defArgs s_tree_from) (defBody s_tree_from) (defScope s_tree_from) .none kV1 dc1 pm1 an1 cd1 ct1), sl1⟩) (c1 : PySem.W.codeIn K cd1 "tree_from" = true) (k1 : PySem.W.keepIn K (.ref f1) = true)
    {od2 an2 : Option Addr} {sl2 : Array (Option Value)} {oc2 kV2 dc2 pm2 cd2 ct2 : Value} (a2 : PySem.W.nsIn K mainGlobals "split_line" = some (some (.ref f2))) (l2 : K.lookup f2 = some ⟨oc2, od2, .func (PySem.W.fnOf "split_line" "split_line" (defArgs s_split_line) (defBody s_split_line) (defScope s_split_line) .none kV2 dc2 pm2 an2 cd2 ct2), sl2⟩) (c2 : PySem.W.codeIn K cd2 "split_line" = true) (k2 : PySem.W.keepIn K (.ref f2) = true)
    {od3 an3 : Option Addr} {sl3 : Array (Option Value)} {oc3 kV3 dc3 pm3 cd3 ct3 : Value} (a3 : PySem.W.nsIn K mainGlobals "read_tree" = some (some (.ref f3))) (l3 : K.lookup f3 = some ⟨oc3, od3, .func (PySem.W.fnOf "read_tree" "read_tree" (defArgs s_read_tree) (defBody s_read_tree) (defScope s_read_tree) .none kV3 dc3 pm3 an3 cd3 ct3), sl3⟩) (c3 : PySem.W.codeIn K cd3 "read_tree" = true) (k3 : PySem.W.keepIn K (.ref f3) = true)
    {od4 an4 : Option Addr} {sl4 : Array (Option Value)} {oc4 kV4 dc4 pm4 cd4 ct4 : Value} (a4 : PySem.W.nsIn K mainGlobals "_law_hand" = some (some (.ref f4))) (l4 : K.lookup f4 = some ⟨oc4, od4, .func (PySem.W.fnOf "_law_hand" "_law_hand" (defArgs s__law_hand) (defBody s__law_hand) (defScope s__law_hand) .none kV4 dc4 pm4 an4 cd4 ct4), sl4⟩) (c4 : PySem.W.codeIn K cd4 "_law_hand" = true) (k4 : PySem.W.keepIn K (.ref f4) = true)
    {od5 an5 : Option Addr} {sl5 : Array (Option Value)} {oc5 kV5 dc5 pm5 cd5 ct5 : Value} (a5 : PySem.W.nsIn K mainGlobals "_law_take" = some (some (.ref f5))) (l5 : K.lookup f5 = some ⟨oc5, od5, .func (PySem.W.fnOf "_law_take" "_law_take" (defArgs s__law_take) (defBody s__law_take) (defScope s__law_take) .none kV5 dc5 pm5 an5 cd5 ct5), sl5⟩) (c5 : PySem.W.codeIn K cd5 "_law_take" = true) (k5 : PySem.W.keepIn K (.ref f5) = true)
    {od6 an6 : Option Addr} {sl6 : Array (Option Value)} {oc6 kV6 dc6 pm6 cd6 ct6 : Value} (a6 : PySem.W.nsIn K mainGlobals "_law_of" = some (some (.ref f6))) (l6 : K.lookup f6 = some ⟨oc6, od6, .func (PySem.W.fnOf "_law_of" "_law_of" (defArgs s__law_of) (defBody s__law_of) (defScope s__law_of) .none kV6 dc6 pm6 an6 cd6 ct6), sl6⟩) (c6 : PySem.W.codeIn K cd6 "_law_of" = true) (k6 : PySem.W.keepIn K (.ref f6) = true)
    {od7 an7 : Option Addr} {sl7 : Array (Option Value)} {oc7 kV7 dc7 pm7 cd7 ct7 : Value} (a7 : PySem.W.nsIn K mainGlobals "_law_keys" = some (some (.ref f7))) (l7 : K.lookup f7 = some ⟨oc7, od7, .func (PySem.W.fnOf "_law_keys" "_law_keys" (defArgs s__law_keys) (defBody s__law_keys) (defScope s__law_keys) .none kV7 dc7 pm7 an7 cd7 ct7), sl7⟩) (c7 : PySem.W.codeIn K cd7 "_law_keys" = true) (k7 : PySem.W.keepIn K (.ref f7) = true)
    {od8 an8 : Option Addr} {sl8 : Array (Option Value)} {oc8 kV8 dc8 pm8 cd8 ct8 : Value} (a8 : PySem.W.nsIn K mainGlobals "_law_from" = some (some (.ref f8))) (l8 : K.lookup f8 = some ⟨oc8, od8, .func (PySem.W.fnOf "_law_from" "_law_from" (defArgs s__law_from) (defBody s__law_from) (defScope s__law_from) .none kV8 dc8 pm8 an8 cd8 ct8), sl8⟩) (c8 : PySem.W.codeIn K cd8 "_law_from" = true) (k8 : PySem.W.keepIn K (.ref f8) = true)
    {od9 an9 : Option Addr} {sl9 : Array (Option Value)} {oc9 kV9 dc9 pm9 cd9 ct9 : Value} (a9 : PySem.W.nsIn K mainGlobals "_law_above" = some (some (.ref f9))) (l9 : K.lookup f9 = some ⟨oc9, od9, .func (PySem.W.fnOf "_law_above" "_law_above" (defArgs s__law_above) (defBody s__law_above) (defScope s__law_above) .none kV9 dc9 pm9 an9 cd9 ct9), sl9⟩) (c9 : PySem.W.codeIn K cd9 "_law_above" = true) (k9 : PySem.W.keepIn K (.ref f9) = true)
    {od10 an10 : Option Addr} {sl10 : Array (Option Value)} {oc10 kV10 dc10 pm10 cd10 ct10 : Value} (a10 : PySem.W.nsIn K mainGlobals "_law_way" = some (some (.ref f10))) (l10 : K.lookup f10 = some ⟨oc10, od10, .func (PySem.W.fnOf "_law_way" "_law_way" (defArgs s__law_way) (defBody s__law_way) (defScope s__law_way) .none kV10 dc10 pm10 an10 cd10 ct10), sl10⟩) (c10 : PySem.W.codeIn K cd10 "_law_way" = true) (k10 : PySem.W.keepIn K (.ref f10) = true)
    {od11 an11 : Option Addr} {sl11 : Array (Option Value)} {oc11 kV11 dc11 pm11 cd11 ct11 : Value} (a11 : PySem.W.nsIn K mainGlobals "_law_grown" = some (some (.ref f11))) (l11 : K.lookup f11 = some ⟨oc11, od11, .func (PySem.W.fnOf "_law_grown" "_law_grown" (defArgs s__law_grown) (defBody s__law_grown) (defScope s__law_grown) .none kV11 dc11 pm11 an11 cd11 ct11), sl11⟩) (c11 : PySem.W.codeIn K cd11 "_law_grown" = true) (k11 : PySem.W.keepIn K (.ref f11) = true)
    {od12 an12 : Option Addr} {sl12 : Array (Option Value)} {oc12 kV12 dc12 pm12 cd12 ct12 : Value} (a12 : PySem.W.nsIn K mainGlobals "_law_text" = some (some (.ref f12))) (l12 : K.lookup f12 = some ⟨oc12, od12, .func (PySem.W.fnOf "_law_text" "_law_text" (defArgs s__law_text) (defBody s__law_text) (defScope s__law_text) .none kV12 dc12 pm12 an12 cd12 ct12), sl12⟩) (c12 : PySem.W.codeIn K cd12 "_law_text" = true) (k12 : PySem.W.keepIn K (.ref f12) = true)
    {od13 an13 : Option Addr} {sl13 : Array (Option Value)} {oc13 kV13 dc13 pm13 cd13 ct13 : Value} (a13 : PySem.W.nsIn K mainGlobals "_law_is_key" = some (some (.ref f13))) (l13 : K.lookup f13 = some ⟨oc13, od13, .func (PySem.W.fnOf "_law_is_key" "_law_is_key" (defArgs s__law_is_key) (defBody s__law_is_key) (defScope s__law_is_key) .none kV13 dc13 pm13 an13 cd13 ct13), sl13⟩) (c13 : PySem.W.codeIn K cd13 "_law_is_key" = true) (k13 : PySem.W.keepIn K (.ref f13) = true)
    {od14 an14 : Option Addr} {sl14 : Array (Option Value)} {oc14 kV14 dc14 pm14 cd14 ct14 : Value} (a14 : PySem.W.nsIn K mainGlobals "_law_heard" = some (some (.ref f14))) (l14 : K.lookup f14 = some ⟨oc14, od14, .func (PySem.W.fnOf "_law_heard" "_law_heard" (defArgs s__law_heard) (defBody s__law_heard) (defScope s__law_heard) .none kV14 dc14 pm14 an14 cd14 ct14), sl14⟩) (c14 : PySem.W.codeIn K cd14 "_law_heard" = true) (k14 : PySem.W.keepIn K (.ref f14) = true)
    {od15 an15 : Option Addr} {sl15 : Array (Option Value)} {oc15 kV15 dc15 pm15 cd15 ct15 : Value} (a15 : PySem.W.nsIn K mainGlobals "_law_bent" = some (some (.ref f15))) (l15 : K.lookup f15 = some ⟨oc15, od15, .func (PySem.W.fnOf "_law_bent" "_law_bent" (defArgs s__law_bent) (defBody s__law_bent) (defScope s__law_bent) .none kV15 dc15 pm15 an15 cd15 ct15), sl15⟩) (c15 : PySem.W.codeIn K cd15 "_law_bent" = true) (k15 : PySem.W.keepIn K (.ref f15) = true)
    {od16 an16 : Option Addr} {sl16 : Array (Option Value)} {oc16 kV16 dc16 pm16 cd16 ct16 : Value} (a16 : PySem.W.nsIn K mainGlobals "_law_tree_due" = some (some (.ref f16))) (l16 : K.lookup f16 = some ⟨oc16, od16, .func (PySem.W.fnOf "_law_tree_due" "_law_tree_due" (defArgs s__law_tree_due) (defBody s__law_tree_due) (defScope s__law_tree_due) .none kV16 dc16 pm16 an16 cd16 ct16), sl16⟩) (c16 : PySem.W.codeIn K cd16 "_law_tree_due" = true) (k16 : PySem.W.keepIn K (.ref f16) = true)
    {od17 an17 : Option Addr} {sl17 : Array (Option Value)} {oc17 kV17 dc17 pm17 cd17 ct17 : Value} (a17 : PySem.W.nsIn K mainGlobals "law" = some (some (.ref f17))) (l17 : K.lookup f17 = some ⟨oc17, od17, .func (PySem.W.fnOf "law" "law" (defArgs s_law) (defBody s_law) (defScope s_law) .none kV17 dc17 pm17 an17 cd17 ct17), sl17⟩) (c17 : PySem.W.codeIn K cd17 "law" = true) (k17 : PySem.W.keepIn K (.ref f17) = true)
    {od18 an18 : Option Addr} {sl18 : Array (Option Value)} {oc18 kV18 dc18 pm18 cd18 ct18 : Value} (a18 : PySem.W.findIn K (.ref O0) "__init__" = some (some (.ref f18))) (l18 : K.lookup f18 = some ⟨oc18, od18, .func (PySem.W.fnOf "__init__" "TreeReader.__init__" (defArgs s_TreeReader_init) (defBody s_TreeReader_init) (defScope s_TreeReader_init) .none kV18 dc18 pm18 an18 cd18 ct18), sl18⟩) (c18 : PySem.W.codeIn K cd18 "TreeReader.__init__" = true) (k18 : PySem.W.keepIn K (.ref f18) = true) (fn18 : PySem.W.isFn K (.ref f18) = true)
    {od19 an19 : Option Addr} {sl19 : Array (Option Value)} {oc19 kV19 dc19 pm19 cd19 ct19 : Value} (a19 : PySem.W.findIn K (.ref O0) "can_follow" = some (some (.ref f19))) (l19 : K.lookup f19 = some ⟨oc19, od19, .func (PySem.W.fnOf "can_follow" "TreeReader.can_follow" (defArgs s_TreeReader_can_follow) (defBody s_TreeReader_can_follow) (defScope s_TreeReader_can_follow) .none kV19 dc19 pm19 an19 cd19 ct19), sl19⟩) (c19 : PySem.W.codeIn K cd19 "TreeReader.can_follow" = true) (k19 : PySem.W.keepIn K (.ref f19) = true) (fn19 : PySem.W.isFn K (.ref f19) = true)
    {od20 an20 : Option Addr} {sl20 : Array (Option Value)} {oc20 kV20 dc20 pm20 cd20 ct20 : Value} (a20 : PySem.W.findIn K (.ref O0) "add" = some (some (.ref f20))) (l20 : K.lookup f20 = some ⟨oc20, od20, .func (PySem.W.fnOf "add" "TreeReader.add" (defArgs s_TreeReader_add) (defBody s_TreeReader_add) (defScope s_TreeReader_add) .none kV20 dc20 pm20 an20 cd20 ct20), sl20⟩) (c20 : PySem.W.codeIn K cd20 "TreeReader.add" = true) (k20 : PySem.W.keepIn K (.ref f20) = true) (fn20 : PySem.W.isFn K (.ref f20) = true)
    {C0 N0 : Addr} {nm0 qn0 : Str} {bs0 bm0 sub0 : List Value} {sn0 : List Str} {ab0 : Bool} {col0 : Option Bool} {dd0 : Option Addr} {ka0 kb0 kc0 kd0 ke0 : Option Value} (xa0 : PySem.W.nsIn K mainGlobals "BadTree" = some (some (.ref C0))) (xl0 : K.lookup C0 = some (excClassObj nm0 qn0 C0 N0 bs0 bm0 true sn0 sub0 ab0 col0 dd0 ka0 kb0 kc0 kd0 ke0 "ValueError.__new__")) (xv0 : PySem.HandSPX.refsVE bm0 = true) (xf0 : XF K C0)
    {I0 : Addr} {xod0 xan0 : Option Addr} {xsl0 : Array (Option Value)} {xoc0 xkV0 xdc0 xpm0 xcd0 xct0 : Value} (xi0 : PySem.W.findIn K (.ref C0) "__init__" = some (some (.ref I0))) (xL0 : K.lookup I0 = some ⟨xoc0, xod0, .func (PySem.W.fnOf "__init__" "BadTree.__init__" (defArgs s_BadTree_init) (defBody s_BadTree_init) (defScope s_BadTree_init) .none xkV0 xdc0 xpm0 xan0 xcd0 xct0), xsl0⟩) (xc0 : PySem.W.codeIn K xcd0 "BadTree.__init__" = true) (xk0 : PySem.W.keepIn K (.ref I0) = true) (xt0 : PySem.W.typeIn K (.ref I0) = some (.type "function")) (xn0 : PySem.W.findIn K (.ref C0) "value" = some none)
    {C1 N1 : Addr} {nm1 qn1 : Str} {bs1 bm1 sub1 : List Value} {sn1 : List Str} {ab1 : Bool} {col1 : Option Bool} {dd1 : Option Addr} {ka1 kb1 kc1 kd1 ke1 : Option Value} (xa1 : PySem.W.nsIn K mainGlobals "BadText" = some (some (.ref C1))) (xl1 : K.lookup C1 = some (excClassObj nm1 qn1 C1 N1 bs1 bm1 true sn1 sub1 ab1 col1 dd1 ka1 kb1 kc1 kd1 ke1 "ValueError.__new__")) (xv1 : PySem.HandSPX.refsVE bm1 = true) (xf1 : XF K C1)
    {I1 : Addr} {xod1 xan1 : Option Addr} {xsl1 : Array (Option Value)} {xoc1 xkV1 xdc1 xpm1 xcd1 xct1 : Value} (xi1 : PySem.W.findIn K (.ref C1) "__init__" = some (some (.ref I1))) (xL1 : K.lookup I1 = some ⟨xoc1, xod1, .func (PySem.W.fnOf "__init__" "BadText.__init__" (defArgs s_BadText_init) (defBody s_BadText_init) (defScope s_BadText_init) .none xkV1 xdc1 xpm1 xan1 xcd1 xct1), xsl1⟩) (xc1 : PySem.W.codeIn K xcd1 "BadText.__init__" = true) (xk1 : PySem.W.keepIn K (.ref I1) = true) (xt1 : PySem.W.typeIn K (.ref I1) = some (.type "function")) (xn1 : PySem.W.findIn K (.ref C1) "line" = some none)
    {C2 N2 : Addr} {nm2 qn2 : Str} {bs2 bm2 sub2 : List Value} {sn2 : List Str} {ab2 : Bool} {col2 : Option Bool} {dd2 : Option Addr} {ka2 kb2 kc2 kd2 ke2 : Option Value} (xa2 : PySem.W.nsIn K mainGlobals "BadLine" = some (some (.ref C2))) (xl2 : K.lookup C2 = some (excClassObj nm2 qn2 C2 N2 bs2 bm2 true sn2 sub2 ab2 col2 dd2 ka2 kb2 kc2 kd2 ke2 "ValueError.__new__")) (xv2 : PySem.HandSPX.refsVE bm2 = true) (xf2 : XF K C2)
    {I2 : Addr} {xod2 xan2 : Option Addr} {xsl2 : Array (Option Value)} {xoc2 xkV2 xdc2 xpm2 xcd2 xct2 : Value} (xi2 : PySem.W.findIn K (.ref C2) "__init__" = some (some (.ref I2))) (xL2 : K.lookup I2 = some ⟨xoc2, xod2, .func (PySem.W.fnOf "__init__" "BadLine.__init__" (defArgs s_BadLine_init) (defBody s_BadLine_init) (defScope s_BadLine_init) .none xkV2 xdc2 xpm2 xan2 xcd2 xct2), xsl2⟩) (xc2 : PySem.W.codeIn K xcd2 "BadLine.__init__" = true) (xk2 : PySem.W.keepIn K (.ref I2) = true) (xt2 : PySem.W.typeIn K (.ref I2) = some (.type "function")) (xn2 : PySem.W.findIn K (.ref C2) "line" = some none)
    {CB : Addr} (ba : PySem.W.nsIn K mainGlobals "KeyedError" = some (some (.ref CB))) (bsp : PySem.W.specialIn K (.ref CB) "__getattribute__" = some (some (.builtin "type.__getattribute__"))) (brd : PySem.W.readsIn K CB (.type "type") = true) (bat : PySem.W.findCls K (.ref CB) (.type "type") "__init__" = some (.val (.builtin "ValueError.__init__"))) (bis : PySem.W.isClsIn K CB = true) (bty : PySem.W.typeIn K (.ref CB) = some (.type "type")) (bsub : PySem.W.subIn K (.ref CB) (.type "BaseException") = some true)
    (kq_BadLine : kitQ [("BadTree", C0, bm0), ("BadText", C1, bm1), ("BadLine", C2, bm2)] "BadLine" C2 = true) (kq_BadText : kitQ [("BadTree", C0, bm0), ("BadText", C1, bm1), ("BadLine", C2, bm2)] "BadText" C1 = true) (kq_BadTree : kitQ [("BadTree", C0, bm0), ("BadText", C1, bm1), ("BadLine", C2, bm2)] "BadTree" C0 = true) (kq_KeyedError : kitQ [("BadTree", C0, bm0), ("BadText", C1, bm1), ("BadLine", C2, bm2)] "KeyedError" CB = true)
    {tk_BLANK : Nat} (c_BLANK : PySem.W.nsIn K mainGlobals "BLANK" = some (some (.str " " tk_BLANK))) {tk_FEED : Nat} (c_FEED : PySem.W.nsIn K mainGlobals "FEED" = some (some (.str "\n" tk_FEED))) {tk_INDENT : Nat} (c_INDENT : PySem.W.nsIn K mainGlobals "INDENT" = some (some (.str "  " tk_INDENT))) {tk_LETTERS : Nat} (c_LETTERS : PySem.W.nsIn K mainGlobals "LETTERS" = some (some (.str "abcdefghijklmnopqrstuvwxyz" tk_LETTERS))) {tk_LONGEST_KEY : Nat} (c_LONGEST_KEY : PySem.W.nsIn K mainGlobals "LONGEST_KEY" = some (some (.int 8 tk_LONGEST_KEY))) {tk_MOST_ELEMENTS : Nat} (c_MOST_ELEMENTS : PySem.W.nsIn K mainGlobals "MOST_ELEMENTS" = some (some (.int 60 tk_MOST_ELEMENTS))) {tk_MOST_NESTED : Nat} (c_MOST_NESTED : PySem.W.nsIn K mainGlobals "MOST_NESTED" = some (some (.int 20 tk_MOST_NESTED)))
    (z_ValueError : PySem.W.nsIn K mainGlobals "ValueError" = some none) (z_abs : PySem.W.nsIn K mainGlobals "abs" = some none) (z_all : PySem.W.nsIn K mainGlobals "all" = some none) (z_divmod : PySem.W.nsIn K mainGlobals "divmod" = some none) (z_enumerate : PySem.W.nsIn K mainGlobals "enumerate" = some none) (z_int : PySem.W.nsIn K mainGlobals "int" = some none) (z_isinstance : PySem.W.nsIn K mainGlobals "isinstance" = some none) (z_len : PySem.W.nsIn K mainGlobals "len" = some none) (z_max : PySem.W.nsIn K mainGlobals "max" = some none) (z_min : PySem.W.nsIn K mainGlobals "min" = some none) (z_range : PySem.W.nsIn K mainGlobals "range" = some none) (z_repr : PySem.W.nsIn K mainGlobals "repr" = some none) (z_str : PySem.W.nsIn K mainGlobals "str" = some none) (z_tuple : PySem.W.nsIn K mainGlobals "tuple" = some none)
    (hcd : cd17 = .ref (tabOf K f17).1) (hth : PySem.W.codeHdIn K (tabOf K f17).1 (tabOf K f17).2 = true) (htn : K.lookup (tabOf K f17).2 = none) :
    ∃ (T0 : Addr) (fd : FuncData), TabAt K "law" T0 ∧ K.lookup T0 = none ∧ (∀ (s : Shared) (v : Value), BindsTo s fd ⟨[v], []⟩ [("_law_script", v)]) ∧ ∀ base : Heap, K.In base → base.Ns mainGlobals mg → BM base mg → FnG l.prog w K mg base CX0 75 fa fd ["_law_script"] (LSp K sp_law) := by
  have e := hfa.symm.trans (PySem.W.mg_of X G a17)
  cases e
  have F0 := fun_mk (st := s_is_key) l0 c0 k0
  have b0 := F0.binds (ps := ["value"]) fun _ _ _ _ _ _ us hl => match us, hl with | [_], _ => rfl
  have F1 := fun_mk (st := s_tree_from) l1 c1 k1
  have b1 := F1.binds (ps := ["key", "children"]) fun _ _ _ _ _ _ us hl => match us, hl with | [_, _], _ => rfl
  have F2 := fun_mk (st := s_split_line) l2 c2 k2
  have b2 := F2.binds (ps := ["line"]) fun _ _ _ _ _ _ us hl => match us, hl with | [_], _ => rfl
  have F3 := fun_mk (st := s_read_tree) l3 c3 k3
  have b3 := F3.binds (ps := ["text"]) fun _ _ _ _ _ _ us hl => match us, hl with | [_], _ => rfl
  have F4 := fun_mk (st := s__law_hand) l4 c4 k4
  have b4 := F4.binds (ps := ["_law_script", "_law_k"]) fun _ _ _ _ _ _ us hl => match us, hl with | [_, _], _ => rfl
  have F5 := fun_mk (st := s__law_take) l5 c5 k5
  have b5 := F5.binds (ps := ["_law_hand_here", "_law_many"]) fun _ _ _ _ _ _ us hl => match us, hl with | [_, _], _ => rfl
  have F6 := fun_mk (st := s__law_of) l6 c6 k6
  have b6 := F6.binds (ps := ["_law_hand_here", "_law_some"]) fun _ _ _ _ _ _ us hl => match us, hl with | [_, _], _ => rfl
  have F7 := fun_mk (st := s__law_keys) l7 c7 k7
  have b7 := F7.binds (ps := ["_law_hand_here", "_law_count"]) fun _ _ _ _ _ _ us hl => match us, hl with | [_, _], _ => rfl
  have F8 := fun_mk (st := s__law_from) l8 c8 k8
  have b8 := F8.binds (ps := ["_law_key", "_law_lists"]) fun _ _ _ _ _ _ us hl => match us, hl with | [_, _], _ => rfl
  have F9 := fun_mk (st := s__law_above) l9 c9 k9
  have b9 := F9.binds (ps := ["_law_lists"]) fun _ _ _ _ _ _ us hl => match us, hl with | [_], _ => rfl
  have F10 := fun_mk (st := s__law_way) l10 c10 k10
  have b10 := F10.binds (ps := ["_law_above_here", "_law_key"]) fun _ _ _ _ _ _ us hl => match us, hl with | [_, _], _ => rfl
  have F11 := fun_mk (st := s__law_grown) l11 c11 k11
  have b11 := F11.binds (ps := ["_law_hand_here", "_law_some", "_law_deep"]) fun _ _ _ _ _ _ us hl => match us, hl with | [_, _, _], _ => rfl
  have F12 := fun_mk (st := s__law_text) l12 c12 k12
  have b12 := F12.binds (ps := ["_law_tree", "_law_depth"]) fun _ _ _ _ _ _ us hl => match us, hl with | [_, _], _ => rfl
  have F13 := fun_mk (st := s__law_is_key) l13 c13 k13
  have b13 := F13.binds (ps := ["_law_word"]) fun _ _ _ _ _ _ us hl => match us, hl with | [_], _ => rfl
  have F14 := fun_mk (st := s__law_heard) l14 c14 k14
  have b14 := F14.binds (ps := ["_law_call"]) fun _ _ _ _ _ _ us hl => match us, hl with | [_], _ => rfl
  have F15 := fun_mk (st := s__law_bent) l15 c15 k15
  have b15 := F15.binds (ps := ["_law_hand_here", "_law_written"]) fun _ _ _ _ _ _ us hl => match us, hl with | [_, _], _ => rfl
  have F16 := fun_mk (st := s__law_tree_due) l16 c16 k16
  have b16 := F16.binds (ps := ["_law_written"]) fun _ _ _ _ _ _ us hl => match us, hl with | [_], _ => rfl
  have F17 := fun_mk (st := s_law) l17 c17 k17
  have b17 := F17.binds (ps := ["_law_script"]) fun _ _ _ _ _ _ us hl => match us, hl with | [_], _ => rfl
  have F18 := fun_mk (st := s_TreeReader_init) l18 c18 k18
  have b18 := F18.binds (ps := ["self"]) fun _ _ _ _ _ _ us hl => match us, hl with | [_], _ => rfl
  have F19 := fun_mk (st := s_TreeReader_can_follow) l19 c19 k19
  have b19 := F19.binds (ps := ["self", "depth", "key"]) fun _ _ _ _ _ _ us hl => match us, hl with | [_, _, _], _ => rfl
  have F20 := fun_mk (st := s_TreeReader_add) l20 c20 k20
  have b20 := F20.binds (ps := ["self", "depth", "key"]) fun _ _ _ _ _ _ us hl => match us, hl with | [_, _, _], _ => rfl
  have xr0 : XRow K ("BadTree", C0, bm0) := ⟨xa0, xv0, _, _, _, _, _, _, _, _, _, _, _, _, _, _, xl0⟩
  have xF0 := fun_mk (st := s_BadTree_init) xL0 xc0 xk0
  have xb0 := xF0.binds (ps := ["self", "value"]) fun _ _ _ _ _ _ us hl => match us, hl with | [_, _], _ => rfl
  have xkb0 : KBinds K _ ["self", "value"] ["value"] (kwG [.inl 0, .inr 0] 1 1) (kwG [.inl 0, .inr 0] 1 1) := kbinds_of xF0 (fun _ _ _ _ _ _ us ws h1 h2 _ => match us, ws, h1, h2 with | [_], [_], _, _ => rfl) (by simp)
  have xr1 : XRow K ("BadText", C1, bm1) := ⟨xa1, xv1, _, _, _, _, _, _, _, _, _, _, _, _, _, _, xl1⟩
  have xF1 := fun_mk (st := s_BadText_init) xL1 xc1 xk1
  have xb1 := xF1.binds (ps := ["self", "line"]) fun _ _ _ _ _ _ us hl => match us, hl with | [_, _], _ => rfl
  have xkb1 : KBinds K _ ["self", "line"] ["line"] (kwG [.inl 0, .inr 0] 1 1) (kwG [.inl 0, .inr 0] 1 1) := kbinds_of xF1 (fun _ _ _ _ _ _ us ws h1 h2 _ => match us, ws, h1, h2 with | [_], [_], _, _ => rfl) (by simp)
  have xr2 : XRow K ("BadLine", C2, bm2) := ⟨xa2, xv2, _, _, _, _, _, _, _, _, _, _, _, _, _, _, xl2⟩
  have xF2 := fun_mk (st := s_BadLine_init) xL2 xc2 xk2
  have xb2 := xF2.binds (ps := ["self", "line"]) fun _ _ _ _ _ _ us hl => match us, hl with | [_, _], _ => rfl
  have xkb2 : KBinds K _ ["self", "line"] ["line"] (kwG [.inl 0, .inr 0] 1 1) (kwG [.inl 0, .inr 0] 1 1) := kbinds_of xF2 (fun _ _ _ _ _ _ us ws h1 h2 _ => match us, ws, h1, h2 with | [_], [_], _, _ => rfl) (by simp)
  have rows : ∀ r ∈ ([("BadTree", C0, bm0), ("BadText", C1, bm1), ("BadLine", C2, bm2)] : List (Str × Addr × List Value)), XRow K r := fun r hr => by
    simp only [List.mem_cons, List.not_mem_nil, or_false] at hr
    rcases hr with rfl | rfl | rfl
    · exact xr0
    · exact xr1
    · exact xr2
  have isCB : (PySem.W.clsIn K CB).isSome = true := bis
  have isC_BadLine : (PySem.W.clsIn K C2).isSome = true := by obtain ⟨cd, e, _⟩ := xrow_cls xr2; exact Option.isSome_iff_exists.mpr ⟨cd, e⟩
  have isC_BadText : (PySem.W.clsIn K C1).isSome = true := by obtain ⟨cd, e, _⟩ := xrow_cls xr1; exact Option.isSome_iff_exists.mpr ⟨cd, e⟩
  have isC_BadTree : (PySem.W.clsIn K C0).isSome = true := by obtain ⟨cd, e, _⟩ := xrow_cls xr0; exact Option.isSome_iff_exists.mpr ⟨cd, e⟩
  let T : All K mg w.params := { x_BadTree := ⟨C0, I0, _, xF0, PySem.W.mg_of X G xa0, xf0.oex xr0, xi0, xt0, xb0, xkb0, xf0.xck xa0 (fun f hf => by cases List.mem_singleton.mp hf; exact xn0)⟩, x_BadText := ⟨C1, I1, _, xF1, PySem.W.mg_of X G xa1, xf1.oex xr1, xi1, xt1, xb1, xkb1, xf1.xck xa1 (fun f hf => by cases List.mem_singleton.mp hf; exact xn1)⟩, x_BadLine := ⟨C2, I2, _, xF2, PySem.W.mg_of X G xa2, xf2.oex xr2, xi2, xt2, xb2, xkb2, xf2.xck xa2 (fun f hf => by cases List.mem_singleton.mp hf; exact xn2)⟩, b_KeyedError := ⟨CB, PySem.W.mg_of X G ba, bsp, brd, bat⟩, exm_KeyedError := fun y b C => exm_ok kq_KeyedError rows isCB bty bsub y b C, a_BadLine := C2, m_BadLine := PySem.W.mg_of X G xa2, kit_BadLine := fun y b C => kit_ok kq_BadLine rows isC_BadLine xf2.ty y b C, a_BadText := C1, m_BadText := PySem.W.mg_of X G xa1, kit_BadText := fun y b C => kit_ok kq_BadText rows isC_BadText xf1.ty y b C, a_BadTree := C0, m_BadTree := PySem.W.mg_of X G xa0, kit_BadTree := fun y b C => kit_ok kq_BadTree rows isC_BadTree xf0.ty y b C, a_KeyedError := CB, m_KeyedError := PySem.W.mg_of X G ba, kit_KeyedError := fun y b C => kit_ok kq_KeyedError rows isCB bty y b C, kit_ValueError := fun y b C => kit_ve rows y b C, o_TreeReader := ⟨O0, PySem.W.mg_of X G oa0, ⟨oa0, ⟨og0, oh0, oo0, os0⟩⟩⟩, n_TreeReader_child_keys := on0_child_keys, n_TreeReader_way := on0_way, is_key := ⟨_, _, F0, PySem.W.mg_of X G a0, b0⟩, tree_from := ⟨_, _, F1, PySem.W.mg_of X G a1, b1⟩, split_line := ⟨_, _, F2, PySem.W.mg_of X G a2, b2⟩, read_tree := ⟨_, _, F3, PySem.W.mg_of X G a3, b3⟩, _law_hand := ⟨_, _, F4, PySem.W.mg_of X G a4, b4⟩, _law_take := ⟨_, _, F5, PySem.W.mg_of X G a5, b5⟩, _law_of := ⟨_, _, F6, PySem.W.mg_of X G a6, b6⟩, _law_keys := ⟨_, _, F7, PySem.W.mg_of X G a7, b7⟩, _law_from := ⟨_, _, F8, PySem.W.mg_of X G a8, b8⟩, _law_above := ⟨_, _, F9, PySem.W.mg_of X G a9, b9⟩, _law_way := ⟨_, _, F10, PySem.W.mg_of X G a10, b10⟩, _law_grown := ⟨_, _, F11, PySem.W.mg_of X G a11, b11⟩, _law_text := ⟨_, _, F12, PySem.W.mg_of X G a12, b12⟩, _law_is_key := ⟨_, _, F13, PySem.W.mg_of X G a13, b13⟩, _law_heard := ⟨_, _, F14, PySem.W.mg_of X G a14, b14⟩, _law_bent := ⟨_, _, F15, PySem.W.mg_of X G a15, b15⟩, _law_tree_due := ⟨_, _, F16, PySem.W.mg_of X G a16, b16⟩, law := ⟨_, _, F17, PySem.W.mg_of X G a17, b17⟩, i_TreeReader := ⟨_, _, F18, ⟨om0, a18, fn18, ok0⟩, b18⟩, m_TreeReader_can_follow := ⟨_, _, F19, ⟨a19, fn19, k19⟩, b19⟩, m_TreeReader_add := ⟨_, _, F20, ⟨a20, fn20, k20⟩, b20⟩, z_ValueError := PySem.W.mg_none_of X G z_ValueError, z_abs := PySem.W.mg_none_of X G z_abs, z_all := PySem.W.mg_none_of X G z_all, z_divmod := PySem.W.mg_none_of X G z_divmod, z_enumerate := PySem.W.mg_none_of X G z_enumerate, z_int := PySem.W.mg_none_of X G z_int, z_isinstance := PySem.W.mg_none_of X G z_isinstance, z_len := PySem.W.mg_none_of X G z_len, z_max := PySem.W.mg_none_of X G z_max, z_min := PySem.W.mg_none_of X G z_min, z_range := PySem.W.mg_none_of X G z_range, z_repr := PySem.W.mg_none_of X G z_repr, z_str := PySem.W.mg_none_of X G z_str, z_tuple := PySem.W.mg_none_of X G z_tuple, c_BLANK := ⟨_, PySem.W.mg_of X G c_BLANK⟩, c_FEED := ⟨_, PySem.W.mg_of X G c_FEED⟩, c_INDENT := ⟨_, PySem.W.mg_of X G c_INDENT⟩, c_LETTERS := ⟨_, PySem.W.mg_of X G c_LETTERS⟩, c_LONGEST_KEY := ⟨_, PySem.W.mg_of X G c_LONGEST_KEY⟩, c_MOST_ELEMENTS := ⟨_, PySem.W.mg_of X G c_MOST_ELEMENTS⟩, c_MOST_NESTED := ⟨_, PySem.W.mg_of X G c_MOST_NESTED⟩ }
  exact ⟨_, PySem.W.fnOf "law" "law" (defArgs s_law) (defBody s_law) (defScope s_law) .none kV17 dc17 pm17 an17 cd17 ct17, ⟨fa, _, _, _, _, _, a17, l17, hcd, hth⟩, htn, fun s v => .of_eq rfl, fun base _ _ bm => ok_law (P := l.prog) (w := w) (base := base) T bm⟩
theorem walk {l : PySem.W.OpenLaw} {q : Program} {loose : List Str} {XP : (Str → Option Value) → Heap → Prop} {YP : World → Heap → Prop} {d : DefRec} {K : Params → PySem.W.Frag} (hn : l.most = some 63) (hdf : d.params.defaults = [])
    (hY : ∀ (w : World) (h : Heap), YP w h → (K w.params).In h)
    (hrec : ((recsOf q).any fun e => e.name == "law") = true) (F : ∀ (w : World) (mg : Str → Option Value) (fa : Addr) (h : Heap), (K w.params).In h → h.Ns mainGlobals mg → mg d.name = some (.ref fa) →
      ∃ (T0 : Addr) (fd : FuncData), TabAt (K w.params) "law" T0 ∧ (K w.params).lookup T0 = none ∧ (∀ (s : Shared) (u : Value), BindsTo s fd ⟨[u], []⟩ [("_law_script", u)]) ∧ ∀ base : Heap, (K w.params).In base → base.Ns mainGlobals mg → BM base mg → FnG l.prog w (K w.params) mg base CX0 75 fa fd ["_law_script"] (LSp (K w.params) sp_law)) :
    PySem.W.WalkO q loose XP YP l.row.toRowW d [] (fun f vs => PySem.call f vs) :=
  walkGT (n := 63) (k := 75) (x := "_law_script") (x0 := "law") (CX := CX0) (sp := fun K => LSp K sp_law) hn (by decide) hdf ⟨rfl, by decide, by decide⟩ hY hrec F (fun K H a T ns hl hA hT hS => law_startT (q := "law.<locals>.<lambda>") hA hT hS (law_takes hl)) fun _ _ _ _ z => z
end LK
open PySem PySem.W PyProof.Rows
set_option maxRecDepth 100000 in
set_option maxHeartbeats 0 in
theorem PySem.Challenge.cw_keyedmoves_k59_texts_of_trees_read_holds : PySem.Challenge.rw_keyedmoves_k59_texts_of_trees_read.Holds := by
  w_on; o_law; k_head; (case hw => w_witness2)
  k_fill
  refine LK.walk (l := PySem.Challenge.rw_keyedmoves_k59_texts_of_trees_read) rfl rfl (fun w h Y => PySem.W.km_in_of Y) ?hrec ?F
  case hrec => kernel_rfl
  case F =>
    intro w mg fa h KX G hmg
    refine' LK.all_mk KX G hmg ?oa0 ?og0 ?oh0 ?oo0 ?os0 ?om0 ?ok0 ?on0_child_keys ?on0_way ?a0 ?l0 ?c0 ?k0 ?a1 ?l1 ?c1 ?k1 ?a2 ?l2 ?c2 ?k2 ?a3 ?l3 ?c3 ?k3 ?a4 ?l4 ?c4 ?k4 ?a5 ?l5 ?c5 ?k5 ?a6 ?l6 ?c6 ?k6 ?a7 ?l7 ?c7 ?k7 ?a8 ?l8 ?c8 ?k8 ?a9 ?l9 ?c9 ?k9 ?a10 ?l10 ?c10 ?k10 ?a11 ?l11 ?c11 ?k11 ?a12 ?l12 ?c12 ?k12 ?a13 ?l13 ?c13 ?k13 ?a14 ?l14 ?c14 ?k14 ?a15 ?l15 ?c15 ?k15 ?a16 ?l16 ?c16 ?k16 ?a17 ?l17 ?c17 ?k17 ?a18 ?l18 ?c18 ?k18 ?fn18 ?a19 ?l19 ?c19 ?k19 ?fn19 ?a20 ?l20 ?c20 ?k20 ?fn20 ?xa0 ?xl0 ?xv0 ?xf0 ?xi0 ?xL0 ?xc0 ?xk0 ?xt0 ?xn0 ?xa1 ?xl1 ?xv1 ?xf1 ?xi1 ?xL1 ?xc1 ?xk1 ?xt1 ?xn1 ?xa2 ?xl2 ?xv2 ?xf2 ?xi2 ?xL2 ?xc2 ?xk2 ?xt2 ?xn2 ?ba ?bsp ?brd ?bat ?bis ?bty ?bsub ?kq_BadLine ?kq_BadText ?kq_BadTree ?kq_KeyedError  ?c_BLANK ?c_FEED ?c_INDENT ?c_LETTERS ?c_LONGEST_KEY ?c_MOST_ELEMENTS ?c_MOST_NESTED ?z_ValueError ?z_abs ?z_all ?z_divmod ?z_enumerate ?z_int ?z_isinstance ?z_len ?z_max ?z_min ?z_range ?z_repr ?z_str ?z_tuple ?hcd ?hth ?htn
    (case oa0 => k_is); (case og0 => k_is); (case oh0 => k_is); (case oo0 => k_is); (case os0 => k_is); (case om0 => k_is); (case ok0 => k_is)
    (case on0_child_keys => k_is); (case on0_way => k_is)
    (case a0 => k_is); (case l0 => k_is); (case c0 => k_is); (case k0 => k_is)
    (case a1 => k_is); (case l1 => k_is); (case c1 => k_is); (case k1 => k_is)
    (case a2 => k_is); (case l2 => k_is); (case c2 => k_is); (case k2 => k_is)
    (case a3 => k_is); (case l3 => k_is); (case c3 => k_is); (case k3 => k_is)
    (case a4 => k_is); (case l4 => k_is); (case c4 => k_is); (case k4 => k_is)
    (case a5 => k_is); (case l5 => k_is); (case c5 => k_is); (case k5 => k_is)
    (case a6 => k_is); (case l6 => k_is); (case c6 => k_is); (case k6 => k_is)
    (case a7 => k_is); (case l7 => k_is); (case c7 => k_is); (case k7 => k_is)
    (case a8 => k_is); (case l8 => k_is); (case c8 => k_is); (case k8 => k_is)
    (case a9 => k_is); (case l9 => k_is); (case c9 => k_is); (case k9 => k_is)
    (case a10 => k_is); (case l10 => k_is); (case c10 => k_is); (case k10 => k_is)
    (case a11 => k_is); (case l11 => k_is); (case c11 => k_is); (case k11 => k_is)
    (case a12 => k_is); (case l12 => k_is); (case c12 => k_is); (case k12 => k_is)
    (case a13 => k_is); (case l13 => k_is); (case c13 => k_is); (case k13 => k_is)
    (case a14 => k_is); (case l14 => k_is); (case c14 => k_is); (case k14 => k_is)
    (case a15 => k_is); (case l15 => k_is); (case c15 => k_is); (case k15 => k_is)
    (case a16 => k_is); (case l16 => k_is); (case c16 => k_is); (case k16 => k_is)
    (case a17 => k_is); (case l17 => k_is); (case c17 => k_is); (case k17 => k_is)
    (case a18 => k_is); (case l18 => k_is); (case c18 => k_is); (case k18 => k_is); (case fn18 => k_is)
    (case a19 => k_is); (case l19 => k_is); (case c19 => k_is); (case k19 => k_is); (case fn19 => k_is)
    (case a20 => k_is); (case l20 => k_is); (case c20 => k_is); (case k20 => k_is); (case fn20 => k_is)
    (case xa0 => k_is); (case xl0 => k_is); (case xv0 => rfl); (case xf0 => refine' DS.XF.mk ?_ ?_ ?_ ?_ ?_ ?_ ?_ ?_ ?_ ?_ ?_ <;> k_is)
    (case xi0 => k_is); (case xL0 => k_is); (case xc0 => k_is); (case xk0 => k_is); (case xt0 => k_is); (case xn0 => k_is)
    (case xa1 => k_is); (case xl1 => k_is); (case xv1 => rfl); (case xf1 => refine' DS.XF.mk ?_ ?_ ?_ ?_ ?_ ?_ ?_ ?_ ?_ ?_ ?_ <;> k_is)
    (case xi1 => k_is); (case xL1 => k_is); (case xc1 => k_is); (case xk1 => k_is); (case xt1 => k_is); (case xn1 => k_is)
    (case xa2 => k_is); (case xl2 => k_is); (case xv2 => rfl); (case xf2 => refine' DS.XF.mk ?_ ?_ ?_ ?_ ?_ ?_ ?_ ?_ ?_ ?_ ?_ <;> k_is)
    (case xi2 => k_is); (case xL2 => k_is); (case xc2 => k_is); (case xk2 => k_is); (case xt2 => k_is); (case xn2 => k_is)
    (case ba => k_is); (case bsp => k_is); (case brd => k_is); (case bat => k_is); (case bis => k_is); (case bty => k_is); (case bsub => k_is)
    (case kq_BadLine => kernel_rfl); (case kq_BadText => kernel_rfl); (case kq_BadTree => kernel_rfl); (case kq_KeyedError => kernel_rfl)
    (case c_BLANK => k_is); (case c_FEED => k_is); (case c_INDENT => k_is); (case c_LETTERS => k_is); (case c_LONGEST_KEY => k_is); (case c_MOST_ELEMENTS => k_is); (case c_MOST_NESTED => k_is)
    (case z_ValueError => k_is); (case z_abs => k_is); (case z_all => k_is); (case z_divmod => k_is); (case z_enumerate => k_is); (case z_int => k_is); (case z_isinstance => k_is); (case z_len => k_is); (case z_max => k_is); (case z_min => k_is); (case z_range => k_is); (case z_repr => k_is); (case z_str => k_is); (case z_tuple => k_is)
    (case hcd => kernel_rfl); (case hth => kernel_rfl); (case htn => kernel_rfl)
