import PyProof.Rows.All
import Wide.All
import OpenK.AllK
import Wide.FinOn
import HandS.ForMost
import HandS.Flow
import HandS.Style
import HandS.Conv
import HandS.Exc
import KE.KExcIs
import HandS.Zip
import HandS.TupAny
import HandS.Wide
import HandS.TryOnly
import HandS.WordsExc
import HandS.ExcInit
import PyProof.ReprReads
import PyProof.ReprRoads
import PyProof.Rows.RuleB_pow
import PyProof.StrOps2
import HandS.IsInst
import HandS.SortInts
import PyProof.AutoSeq1
import KE.KRevSl
import HandS.More
import HandS.Text
import HandS.Codes
import HandS.SetFor
import HandS.Strs
import HandS.Set
import PyProof.Rows.SetFrom
import PyProof.Rows.IntBool
import PyProof.Rows.StrStep
import PyProof.NeKinds
import HandS.ExcValue
import PyProof.Rows.SortShellAny
import PyProof.Rows.StrMeet
import HandS.TupMul
import PyProof.Rows.StrInSeq3
import HandS.ListItems
import HandS.DictComp
import HandS.SortKw
import HandS.WordsDict
import KE.DataMinMax
import KE.GoesEnum
import PyProof.DictUpdate
import KE.KDictList
import KE.KDictPairs
import PyProof.SeqIndex
import HandS.SortOrd
import PyProof.Rows.SortKeyStr
import PyProof.Rows.ReprOcc
import PySem.Challenge.RW_keyedmoves_k07_moved_keys_and_costs
set_option Elab.async false
set_option linter.all false
set_option autoImplicit false
set_option maxRecDepth 100000
set_option maxHeartbeats 4000000
/-! DS1: a layer over HandS in which immutable data are plain trees (SD) and only what changes has an address (Mu). -/
namespace DS
open PySem PySem.Spec PyProof.Rows L2

/-- data without addresses; ref: an address of its own standing (something that changes, a def, a class) -/
inductive SD where
  | non | bl (b : Bool) | int (i : Int) | str (x : Str) | ref (a : Addr) | ty (n : String)
  | tup (xs : List SD) | lst (xs : List SD) | dic (kvs : List (Key × SD))
  /-- a list that is read only (the script) -/
  | rol (xs : List SD)
  /-- an error of the own class named x, with its fields; it changes no more -/
  | exc (x : Str) (fs : List (Str × SD))
  /-- a tuple of which it is known that it has no dict of its own -/
  | ptp (xs : List SD)

/-- at a: an error of the class at C, its dict -/
def exq (a C : Addr) (d : Option Addr) : HO := .ext fun h => ∃ (oe : Obj) (vs : Array Value), h.get? a = some oe ∧ Zc (.ref C) d oe ∧ oe.data = .fields vs
/-- what the written part says of the class named x, and of the names fs as fields of its instances -/
structure XcK (K : PySem.W.Frag) (x : Str) (C : Addr) (fs : List Str) : Prop where
  at_ : PySem.W.nsIn K mainGlobals x = some (some (.ref C))
  ga : PySem.W.findIn K (.ref C) "__getattribute__" = some (some (.builtin "BaseException.__getattribute__"))
  gg : PySem.W.findIn K (.ref C) "__getattr__" = some none
  sub : PySem.W.subIn K (.ref C) (.type "BaseException") = some true
  hd : PySem.W.hasDictIn K C = true
  cl : PySem.W.findIn K (.ref C) "__class__" = some (some (.builtin "object.__class__"))
  sp : PySem.W.specialIn K (.builtin "object.__class__") "__get__" = some (some (.builtin "getset_descriptor.__get__"))
  tk : PySem.W.takesIn K (.builtin "object.__class__") = some true
  mro : PySem.W.mroIn K C (.type "object") = some true
  no : ∀ f ∈ fs, PySem.W.findIn K (.ref C) f = some none
/-- what tells of a thing that stays as it is -/
def still : HO → Bool
  | .ext _ => true
  | .xd _ => true
  | _ => false

mutual
/-- the value v is the datum, by what F knows -/
inductive RepS (K : PySem.W.Frag) (F : Hp) : SD → V → Prop
  | non : RepS K F .non .non
  | bl (b : Bool) : RepS K F (.bl b) (.bl b)
  | int (i : Int) : RepS K F (.int i) (.int i)
  | str (x : Str) : RepS K F (.str x) (.str x)
  | ref (a : Addr) : RepS K F (.ref a) (.ref a)
  | ty (n : String) : RepS K F (.ty n) (.ty n)
  | tup {a : Addr} {ds : List SD} {vs : List V} : SqT K F a vs → RepL K F ds vs → RepS K F (.tup ds) (.ref a)
  | lst {a : Addr} {ds : List SD} {vs : List V} : F a = some (.lst vs) → RepL K F ds vs → RepS K F (.lst ds) (.ref a)
  | rol {a : Addr} {ds : List SD} {vs : List V} : SqL K F a vs → RepL K F ds vs → RepS K F (.rol ds) (.ref a)
  | dic {a : Addr} {ds : List (Key × SD)} {vs : List (Key × V)} : Rd F a (.dK vs) → vs.map (·.1) = ds.map (·.1) → RepL K F (ds.map (·.2)) (vs.map (·.2)) → RepS K F (.dic ds) (.ref a)
  | exc0 {a C : Addr} {x : Str} : XcK K x C [] → F a = some (exq a C none) → RepS K F (.exc x []) (.ref a)
  | exc {a C dx : Addr} {x : Str} {ds : List (Str × SD)} {vs : List (Str × V)} : XcK K x C (ds.map (·.1)) → F a = some (exq a C (some dx)) → F dx = some (.xd vs) → vs.map (·.1) = ds.map (·.1) → RepL K F (ds.map (·.2)) (vs.map (·.2)) → RepS K F (.exc x ds) (.ref a)
  | ptp {a : Addr} {o : Obj} {ds : List SD} {vs : List V} : F a = some (.frz o (.tup vs)) → o.dict = none → RepL K F ds vs → RepS K F (.ptp ds) (.ref a)
inductive RepL (K : PySem.W.Frag) (F : Hp) : List SD → List V → Prop
  | nil : RepL K F [] []
  | cons {d : SD} {v : V} {ds : List SD} {vs : List V} : RepS K F d v → RepL K F ds vs → RepL K F (d :: ds) (v :: vs)
end

/-- F' reads whatever F reads -/
structure Ext (F F' : Hp) : Prop where
  rd : ∀ a u, Rd F a u → Rd F' a u
  ls : ∀ a vs, F a = some (.lst vs) → F' a = some (.lst vs)
  fz : ∀ a o u, F a = some (.frz o u) → F' a = some (.frz o u)
  st : ∀ a o, still o = true → F a = some o → F' a = some o
theorem Ext.refl (F : Hp) : Ext F F := ⟨fun _ _ h => h, fun _ _ h => h, fun _ _ _ h => h, fun _ _ _ h => h⟩
theorem Ext.trans {F F1 F2 : Hp} (a : Ext F F1) (b : Ext F1 F2) : Ext F F2 := ⟨fun x u h => b.rd x u (a.rd x u h), fun x u h => b.ls x u (a.ls x u h), fun x o u h => b.fz x o u (a.fz x o u h), fun x o q h => b.st x o q (a.st x o q h)⟩
theorem Ext.sqL {K : PySem.W.Frag} {F F' : Hp} {a : Addr} {xs : List V} (e : Ext F F') (h : SqL K F a xs) : SqL K F' a xs := h.elim (fun r => .inl (e.rd a _ r)) .inr
theorem Ext.sqT {K : PySem.W.Frag} {F F' : Hp} {a : Addr} {xs : List V} (e : Ext F F') (h : SqT K F a xs) : SqT K F' a xs := h.elim (fun r => .inl (e.rd a _ r)) .inr
theorem Ext.of_sub {F F' : Hp} (h : ∀ a o, F a = some o → F' a = some o) : Ext F F' := ⟨fun a u r => r.elim (fun z => .inl (h a _ z)) fun ⟨o, z⟩ => .inr ⟨o, h a _ z⟩, fun a vs z => h a _ z, fun a o u z => h a _ z, fun a o _ z => h a _ z⟩
theorem Ext.new {F : Hp} {p : Addr} {o : HO} (h : F p = none) : Ext F (upd F p o) := Ext.of_sub fun a u e => by
  rw [upd_ne (ne_of_none e h)]; exact e

mutual
theorem RepS.mono {K : PySem.W.Frag} {F F' : Hp} (e : Ext F F') : ∀ {d : SD} {v : V}, RepS K F d v → RepS K F' d v
  | _, _, .non => .non
  | _, _, .bl b => .bl b
  | _, _, .int i => .int i
  | _, _, .str x => .str x
  | _, _, .ref a => .ref a
  | _, _, .ty n => .ty n
  | _, _, .tup h r => .tup (e.sqT h) (RepL.mono e r)
  | _, _, .lst h r => .lst (e.ls _ _ h) (RepL.mono e r)
  | _, _, .rol h r => .rol (e.sqL h) (RepL.mono e r)
  | _, _, .dic h q r => .dic (e.rd _ _ h) q (RepL.mono e r)
  | _, _, .exc0 h q => .exc0 h (e.st _ _ rfl q)
  | _, _, .exc h q p z r => .exc h (e.st _ _ rfl q) (e.st _ _ rfl p) z (RepL.mono e r)
  | _, _, .ptp h q r => .ptp (e.fz _ _ _ h) q (RepL.mono e r)
theorem RepL.mono {K : PySem.W.Frag} {F F' : Hp} (e : Ext F F') : ∀ {ds : List SD} {vs : List V}, RepL K F ds vs → RepL K F' ds vs
  | _, _, .nil => .nil
  | _, _, .cons h r => .cons (RepS.mono e h) (RepL.mono e r)
end

section
variable {K : PySem.W.Frag} {F : Hp}
theorem RepL.length : ∀ {ds : List SD} {vs : List V}, RepL K F ds vs → ds.length = vs.length
  | _, _, .nil => rfl
  | _, _, .cons _ r => congrArg (· + 1) (RepL.length r)
theorem RepL.get : ∀ {ds : List SD} {vs : List V} {i : Nat} {d : SD}, RepL K F ds vs → ds[i]? = some d → ∃ v, vs[i]? = some v ∧ RepS K F d v
  | _, _, _, _, .nil, e => by simp at e
  | _, _, 0, _, .cons h _, e => by simp at e; subst e; exact ⟨_, rfl, h⟩
  | _, _, i + 1, d, .cons _ r, e => by
    obtain ⟨v, h1, h2⟩ := RepL.get (i := i) (d := d) r (by simpa using e)
    exact ⟨v, by simpa using h1, h2⟩
theorem RepL.getV : ∀ {ds : List SD} {vs : List V} {i : Nat} {v : V}, RepL K F ds vs → vs[i]? = some v → ∃ d, ds[i]? = some d ∧ RepS K F d v
  | _, _, _, _, .nil, e => by simp at e
  | _, _, 0, _, .cons h _, e => by simp at e; subst e; exact ⟨_, rfl, h⟩
  | _, _, i + 1, v, .cons _ r, e => by
    obtain ⟨d, h1, h2⟩ := RepL.getV (i := i) (v := v) r (by simpa using e)
    exact ⟨d, by simpa using h1, h2⟩
theorem RepL.append : ∀ {ds es : List SD} {vs ws : List V}, RepL K F ds vs → RepL K F es ws → RepL K F (ds ++ es) (vs ++ ws)
  | _, _, _, _, .nil, s => s
  | _, _, _, _, .cons h r, s => .cons h (RepL.append r s)
theorem RepL.take : ∀ {ds : List SD} {vs : List V} (n : Nat), RepL K F ds vs → RepL K F (ds.take n) (vs.take n)
  | _, _, 0, _ => .nil
  | _, _, _ + 1, .nil => .nil
  | _, _, n + 1, .cons h r => .cons h (RepL.take n r)
theorem RepL.drop : ∀ {ds : List SD} {vs : List V} (n : Nat), RepL K F ds vs → RepL K F (ds.drop n) (vs.drop n)
  | _, _, 0, r => r
  | _, _, _ + 1, .nil => .nil
  | _, _, n + 1, .cons _ r => RepL.drop n r
theorem RepL.one {d : SD} {v : V} (h : RepS K F d v) : RepL K F [d] [v] := .cons h .nil
theorem RepL.reverse : ∀ {ds : List SD} {vs : List V}, RepL K F ds vs → RepL K F ds.reverse vs.reverse
  | _, _, .nil => .nil
  | _, _, .cons h r => by rw [List.reverse_cons, List.reverse_cons]; exact (RepL.reverse r).append (.one h)
theorem RepL.set {e : SD} {w : V} (h : RepS K F e w) : ∀ {ds : List SD} {vs : List V} (i : Nat), RepL K F ds vs → RepL K F (ds.set i e) (vs.set i w)
  | _, _, _, .nil => .nil
  | _, _, 0, .cons _ r => .cons h r
  | _, _, i + 1, .cons q r => .cons q (RepL.set h i r)
theorem RepL.dropLast {ds : List SD} {vs : List V} (h : RepL K F ds vs) : RepL K F ds.dropLast vs.dropLast := by
  rw [List.dropLast_eq_take, List.dropLast_eq_take, h.length]; exact h.take _
theorem RepL.eraseIdx : ∀ {ds : List SD} {vs : List V} (i : Nat), RepL K F ds vs → RepL K F (ds.eraseIdx i) (vs.eraseIdx i)
  | _, _, _, .nil => .nil
  | _, _, 0, .cons _ r => r
  | _, _, i + 1, .cons q r => .cons q (RepL.eraseIdx i r)
theorem RepL.cut {ds : List SD} {vs : List V} (h : RepL K F ds vs) (i : Nat) : RepL K F (ds.take i ++ ds.drop i) (vs.take i ++ vs.drop i) := (h.take i).append (h.drop i)
theorem RepL.splitL : ∀ {ds es : List SD} {vs : List V}, RepL K F (ds ++ es) vs → ∃ xs ys, vs = xs ++ ys ∧ RepL K F ds xs ∧ RepL K F es ys
  | [], _, vs, h => ⟨[], vs, rfl, .nil, h⟩
  | _ :: _, _, _, .cons q r => by
    obtain ⟨xs, ys, e, a, b⟩ := RepL.splitL r
    exact ⟨_ :: xs, ys, by rw [e]; rfl, .cons q a, b⟩
theorem RepL.nil_iff {ds : List SD} {vs : List V} (h : RepL K F ds vs) : ds = [] ↔ vs = [] := by
  cases h <;> simp
theorem RepL.ints : ∀ {ns : List Int} {vs : List V}, RepL K F (ns.map SD.int) vs → vs = ns.map V.int
  | [], _, .nil => rfl
  | _ :: _, _, .cons (.int _) r => by rw [RepL.ints r]; rfl
theorem RepL.ofInts : ∀ (ns : List Int), RepL K F (ns.map SD.int) (ns.map V.int)
  | [] => .nil
  | n :: r => .cons (.int n) (RepL.ofInts r)
theorem RepL.strs : ∀ {ns : List Str} {vs : List V}, RepL K F (ns.map SD.str) vs → vs = ns.map V.str
  | [], _, .nil => rfl
  | _ :: _, _, .cons (.str _) r => by rw [RepL.strs r]; rfl
theorem RepL.ofStrs : ∀ (ns : List Str), RepL K F (ns.map SD.str) (ns.map V.str)
  | [] => .nil
  | n :: r => .cons (.str n) (RepL.ofStrs r)
end

/-- what stands at an address and may change -/
inductive MO where
  | lst (xs : List SD)
  | dic (kvs : List (Key × SD))
  /-- an instance of the own class named x -/
  | obj (x : Str) (fs : List (Str × SD))
  /-- a dict that is walked through: it stands just so -/
  | fdic (kvs : List (Key × SD)) (o : HO)
abbrev Mu := Addr → Option MO
def up (μ : Mu) (a : Addr) (m : MO) : Mu := fun b => if b = a then some m else μ b
theorem up_same {μ : Mu} {a : Addr} {m : MO} : up μ a m a = some m := by unfold up; rw [if_pos rfl]
theorem up_ne {μ : Mu} {a b : Addr} {m : MO} (h : b ≠ a) : up μ a m b = μ b := by unfold up; rw [if_neg h]
theorem up_up {μ : Mu} {a : Addr} {m n : MO} : up (up μ a m) a n = up μ a n := by funext b; unfold up; split <;> rfl
theorem up_comm {μ : Mu} {a b : Addr} {m n : MO} (h : a ≠ b) : up (up μ a m) b n = up (up μ b n) a m := by
  funext c; unfold up
  by_cases h1 : c = b
  · subst h1; rw [if_pos rfl, if_neg (Ne.symm h), if_pos rfl]
  · rw [if_neg h1, if_neg h1]
theorem up_self {μ : Mu} {a : Addr} {m : MO} (h : μ a = some m) : up μ a m = μ := by
  funext c; unfold up; split
  · rename_i e; rw [e, h]
  · rfl
theorem mu_ne {μ : Mu} {a b : Addr} {m : MO} (h : μ a = some m) (h' : μ b = none) : a ≠ b := by
  intro e; subst e; rw [h] at h'; cases h'
/-- what the written part says of the own class named x -/
structure OcK (K : PySem.W.Frag) (x : Str) (C : Addr) : Prop where
  at_ : PySem.W.nsIn K mainGlobals x = some (some (.ref C))
  c : Cls K C
inductive RepO (K : PySem.W.Frag) (F : Hp) : MO → HO → Prop
  | lst {ds : List SD} {vs : List V} : RepL K F ds vs → RepO K F (.lst ds) (.lst vs)
  | dic {ds : List (Key × SD)} {vs : List (Key × V)} : vs.map (·.1) = ds.map (·.1) → RepL K F (ds.map (·.2)) (vs.map (·.2)) → RepO K F (.dic ds) (.dK vs)
  | obj {C dx : Addr} {x : Str} {ds : List (Str × SD)} {vs : List (Str × V)} : OcK K x C → vs.map (·.1) = ds.map (·.1) → RepL K F (ds.map (·.2)) (vs.map (·.2)) → RepO K F (.obj x ds) (.ins C dx vs)
  | fdic {ob : Obj} {ds : List (Key × SD)} {vs : List (Key × V)} : vs.map (·.1) = ds.map (·.1) → RepL K F (ds.map (·.2)) (vs.map (·.2)) → RepO K F (.fdic ds (.frz ob (.dK vs))) (.frz ob (.dK vs))
theorem RepO.mono {K : PySem.W.Frag} {F F' : Hp} (e : Ext F F') {m : MO} {o : HO} (h : RepO K F m o) : RepO K F' m o := by
  cases h with
  | lst r => exact .lst (r.mono e)
  | dic q r => exact .dic q (r.mono e)
  | obj c q r => exact .obj c q (r.mono e)
  | fdic q r => exact .fdic q (r.mono e)

/-- the heap H is F (known, unchanging) and μ (what changes), and more -/
structure HReal (K : PySem.W.Frag) (F H : Hp) (μ : Mu) : Prop where
  sub : ∀ a o, F a = some o → H a = some o
  mus : ∀ a m, μ a = some m → F a = none ∧ ∃ o, H a = some o ∧ RepO K F m o
/-- what is neither F's nor μ's stays so -/
structure Stp (F H : Hp) (μ : Mu) (F' H' : Hp) (μ' : Mu) : Prop where
  ext : Ext F F'
  fr : ∀ a, H a ≠ none → F a = none → μ a = none → H' a = H a ∧ F' a = none ∧ μ' a = none
theorem Stp.refl (F H : Hp) (μ : Mu) : Stp F H μ F H μ := ⟨Ext.refl F, fun _ _ b c => ⟨rfl, b, c⟩⟩
theorem Stp.trans {F H F1 H1 F2 H2 : Hp} {μ μ1 μ2 : Mu} (a : Stp F H μ F1 H1 μ1) (b : Stp F1 H1 μ1 F2 H2 μ2) : Stp F H μ F2 H2 μ2 :=
  ⟨a.ext.trans b.ext, fun x h1 h2 h3 => by
    obtain ⟨p, q, r⟩ := a.fr x h1 h2 h3
    obtain ⟨p', q', r'⟩ := b.fr x (by rw [p]; exact h1) q r
    exact ⟨p'.trans p, q', r'⟩⟩
section
variable {K : PySem.W.Frag} {F H : Hp} {μ : Mu} {p a : Addr}
theorem HReal.freeF (R : HReal K F H μ) (h : H p = none) : F p = none := by
  cases e : F p with
  | none => rfl
  | some o => rw [R.sub p o e] at h; cases h
theorem HReal.freeM (R : HReal K F H μ) (h : H p = none) : μ p = none := by
  cases e : μ p with
  | none => rfl
  | some m =>
    obtain ⟨_, o, z, _⟩ := R.mus p m e
    rw [z] at h; cases h
theorem HReal.ext (R : HReal K F H μ) : Ext F H := Ext.of_sub R.sub
/-- a new object that will not change -/
theorem HReal.newS (R : HReal K F H μ) {o : HO} (h : H p = none) : HReal K (upd F p o) (upd H p o) μ := by
  have hF := R.freeF h
  refine ⟨fun b u e => ?_, fun b m e => ?_⟩
  · by_cases hb : b = p
    · subst hb; rw [upd_same] at e ⊢; exact e
    · rw [upd_ne hb] at e ⊢; exact R.sub b u e
  · obtain ⟨z, u, q, r⟩ := R.mus b m e
    have hb : b ≠ p := ne_of_none q h
    exact ⟨by rw [upd_ne hb]; exact z, u, by rw [upd_ne hb]; exact q, r.mono (Ext.new hF)⟩
theorem Stp.newS (R : HReal K F H μ) {o : HO} (h : H p = none) : Stp F H μ (upd F p o) (upd H p o) μ :=
  ⟨Ext.new (R.freeF h), fun b h1 h2 h3 => by
    have hb : b ≠ p := fun z => by subst z; exact h1 h
    exact ⟨upd_ne hb, by rw [upd_ne hb]; exact h2, h3⟩⟩
/-- a new object that may change -/
theorem HReal.newM (R : HReal K F H μ) {o : HO} {m : MO} (h : H p = none) (r : RepO K F m o) : HReal K F (upd H p o) (up μ p m) := by
  have hF := R.freeF h
  refine ⟨fun b u e => ?_, fun b n e => ?_⟩
  · rw [upd_ne (ne_of_none e hF)]; exact R.sub b u e
  · by_cases hb : b = p
    · subst hb; rw [up_same] at e; cases e; exact ⟨hF, o, upd_same, r⟩
    · rw [up_ne hb] at e
      obtain ⟨z, u, q, r'⟩ := R.mus b n e
      exact ⟨z, u, by rw [upd_ne hb]; exact q, r'⟩
theorem Stp.newM (R : HReal K F H μ) {o : HO} {m : MO} (h : H p = none) : Stp F H μ F (upd H p o) (up μ p m) :=
  ⟨Ext.refl F, fun b h1 h2 h3 => by
    have hb : b ≠ p := fun z => by subst z; exact h1 h
    exact ⟨upd_ne hb, h2, by rw [up_ne hb]; exact h3⟩⟩
/-- an object is changed -/
theorem HReal.put (R : HReal K F H μ) {o : HO} {m n : MO} (h : μ a = some n) (r : RepO K F m o) : HReal K F (upd H a o) (up μ a m) := by
  have hF := (R.mus a n h).1
  refine ⟨fun b u e => ?_, fun b k e => ?_⟩
  · rw [upd_ne (ne_of_none e hF)]; exact R.sub b u e
  · by_cases hb : b = a
    · subst hb; rw [up_same] at e; cases e; exact ⟨hF, o, upd_same, r⟩
    · rw [up_ne hb] at e
      obtain ⟨z, u, q, r'⟩ := R.mus b k e
      exact ⟨z, u, by rw [upd_ne hb]; exact q, r'⟩
theorem Stp.put {o : HO} {m n : MO} (h : μ a = some n) : Stp F H μ F (upd H a o) (up μ a m) :=
  ⟨Ext.refl F, fun b h1 h2 h3 => by
    have hb : b ≠ a := fun z => by subst z; rw [h] at h3; cases h3
    exact ⟨upd_ne hb, h2, by rw [up_ne hb]; exact h3⟩⟩
/-- forgetting -/
def rm (μ : Mu) (a : Addr) : Mu := fun b => if b = a then none else μ b
theorem rm_same : rm μ a a = none := by unfold rm; rw [if_pos rfl]
theorem rm_ne {b : Addr} (h : b ≠ a) : rm μ a b = μ b := by unfold rm; rw [if_neg h]
theorem rm_up {m : MO} (h : μ a = none) : rm (up μ a m) a = μ := by
  funext b; unfold rm up; split
  · rename_i e; rw [e, h]
  · rfl
/-- a list that changes no more -/
theorem HReal.freeze (R : HReal K F H μ) {xs : List SD} (h : μ a = some (.lst xs)) : ∃ vs, H a = some (.lst vs) ∧ RepL K F xs vs ∧ HReal K (upd F a (.lst vs)) H (rm μ a) ∧ Stp F H μ (upd F a (.lst vs)) H (rm μ a) ∧ RepS K (upd F a (.lst vs)) (.lst xs) (.ref a) := by
  obtain ⟨hF, o, hH, r⟩ := R.mus a _ h
  cases r with
  | lst r =>
    rename_i vs
    have ex : Ext F (upd F a (.lst vs)) := Ext.new hF
    refine ⟨vs, hH, r, ⟨fun b u e => ?_, fun b m e => ?_⟩, ⟨ex, fun b h1 h2 h3 => ?_⟩, .lst upd_same (r.mono ex)⟩
    · by_cases hb : b = a
      · subst hb; rw [upd_same] at e; cases e; exact hH
      · rw [upd_ne hb] at e; exact R.sub b u e
    · by_cases hb : b = a
      · subst hb; rw [rm_same] at e; cases e
      · rw [rm_ne hb] at e
        obtain ⟨z, u, q, r'⟩ := R.mus b m e
        exact ⟨by rw [upd_ne hb]; exact z, u, q, r'.mono ex⟩
    · have hb : b ≠ a := fun z => by subst z; rw [h] at h3; cases h3
      exact ⟨rfl, by rw [upd_ne hb]; exact h2, by rw [rm_ne hb]; exact h3⟩
theorem HReal.freezeD (R : HReal K F H μ) {xs : List (Key × SD)} (h : μ a = some (.dic xs)) : ∃ vs, H a = some (.dK vs) ∧ HReal K (upd F a (.dK vs)) H (rm μ a) ∧ Stp F H μ (upd F a (.dK vs)) H (rm μ a) ∧ RepS K (upd F a (.dK vs)) (.dic xs) (.ref a) := by
  obtain ⟨hF, o, hH, r⟩ := R.mus a _ h
  cases r with
  | dic q r =>
    rename_i vs
    have ex : Ext F (upd F a (.dK vs)) := Ext.new hF
    refine ⟨vs, hH, ⟨fun b u e => ?_, fun b m e => ?_⟩, ⟨ex, fun b h1 h2 h3 => ?_⟩, .dic (.inl upd_same) q (r.mono ex)⟩
    · by_cases hb : b = a
      · subst hb; rw [upd_same] at e; cases e; exact hH
      · rw [upd_ne hb] at e; exact R.sub b u e
    · by_cases hb : b = a
      · subst hb; rw [rm_same] at e; cases e
      · rw [rm_ne hb] at e
        obtain ⟨z, u, q, r'⟩ := R.mus b m e
        exact ⟨by rw [upd_ne hb]; exact z, u, q, r'.mono ex⟩
    · have hb : b ≠ a := fun z => by subst z; rw [h] at h3; cases h3
      exact ⟨rfl, by rw [upd_ne hb]; exact h2, by rw [rm_ne hb]; exact h3⟩
end

abbrev Rho := List (Option SD)
/-- the slots: where ρ knows a datum, σ has it -/
structure Slots (K : PySem.W.Frag) (F : Hp) (σ : L2.St) (ρ : Rho) : Prop where
  len : σ.length = ρ.length
  at_ : ∀ (i : Nat) (d : SD), ρ[i]? = some (some d) → ∃ v, σ[i]? = some (some v) ∧ RepS K F d v
section
variable {K : PySem.W.Frag} {F F' : Hp} {σ : L2.St} {ρ : Rho}
theorem Slots.mono (e : Ext F F') (h : Slots K F σ ρ) : Slots K F' σ ρ := ⟨h.len, fun i d q => let ⟨v, a, b⟩ := h.at_ i d q; ⟨v, a, b.mono e⟩⟩
theorem Slots.set {d : SD} {v : V} (h : Slots K F σ ρ) (i : Nat) (r : RepS K F d v) : Slots K F (σ.set i (some v)) (ρ.set i (some d)) := by
  refine ⟨by simp [h.len], fun j e q => ?_⟩
  by_cases hj : j = i
  · subst hj
    by_cases hl : j < ρ.length
    · rw [List.getElem?_set_self hl] at q
      cases q
      exact ⟨v, List.getElem?_set_self (by rw [h.len]; exact hl), r⟩
    · rw [List.getElem?_eq_none (by simpa using Nat.le_of_not_lt hl)] at q; cases q
  · rw [List.getElem?_set_ne (Ne.symm hj)] at q ⊢
    exact h.at_ j e q
end

/-! ### the readings over data, and their lift -/
abbrev DTE := Rho → Mu → (SD → Mu → Prop) → Prop
abbrev DTT := Rho → Mu → (Bool → Mu → Prop) → Prop
abbrev DTA := Rho → Mu → (List SD → Mu → Prop) → Prop
/-- what an exception's reading may speak of: the class, its attributes -/
abbrev DXK := Addr → List (Str × SD) → Mu → Prop
structure DEnds where
  nx : Rho → Mu → Prop
  rt : SD → Mu → Prop
  bk : Rho → Mu → Prop := fun _ _ => False
  ct : Rho → Mu → Prop := fun _ _ => False
abbrev DTS := DEnds → Rho → Mu → Prop
abbrev DTG := SD → Rho → Mu → (Rho → Mu → Prop) → Prop
abbrev DTGs := List SD → Rho → Mu → (Rho → Mu → Prop) → Prop

/-- the state is (F, H, μ) with the slots; behind it Q' is to hold of the datum -/
def LE (K : PySem.W.Frag) (t : DTE) : TE := fun σ H Q => ∃ F ρ μ Q', HReal K F H μ ∧ Slots K F σ ρ ∧ t ρ μ Q' ∧
  ∀ d μ', Q' d μ' → ∀ F' H' v, Stp F H μ F' H' μ' → HReal K F' H' μ' → RepS K F' d v → Q v H'
def LT (K : PySem.W.Frag) (t : DTT) : TT := fun σ H Q => ∃ F ρ μ Q', HReal K F H μ ∧ Slots K F σ ρ ∧ t ρ μ Q' ∧
  ∀ b μ', Q' b μ' → ∀ F' H', Stp F H μ F' H' μ' → HReal K F' H' μ' → Q b H'
def LA (K : PySem.W.Frag) (t : DTA) : TA := fun σ H Q => ∃ F ρ μ Q', HReal K F H μ ∧ Slots K F σ ρ ∧ t ρ μ Q' ∧
  ∀ ds μ', Q' ds μ' → ∀ F' H' vs, Stp F H μ F' H' μ' → HReal K F' H' μ' → RepL K F' ds vs → Q vs H'
def LG (K : PySem.W.Frag) (t : DTG) : TG := fun v σ H Q => ∃ F ρ μ d Q', HReal K F H μ ∧ Slots K F σ ρ ∧ RepS K F d v ∧ t d ρ μ Q' ∧
  ∀ ρ' μ', Q' ρ' μ' → ∀ F' H' σ', Stp F H μ F' H' μ' → HReal K F' H' μ' → Slots K F' σ' ρ' → Q σ' H'
def LGs (K : PySem.W.Frag) (t : DTGs) : TGs := fun vs σ H Q => ∃ F ρ μ ds Q', HReal K F H μ ∧ Slots K F σ ρ ∧ RepL K F ds vs ∧ t ds ρ μ Q' ∧
  ∀ ρ' μ', Q' ρ' μ' → ∀ F' H' σ', Stp F H μ F' H' μ' → HReal K F' H' μ' → Slots K F' σ' ρ' → Q σ' H'
def LS (K : PySem.W.Frag) (t : DTS) : TS := fun D σ H => ∃ F ρ μ D', HReal K F H μ ∧ Slots K F σ ρ ∧ t D' ρ μ ∧
  (∀ ρ' μ', D'.nx ρ' μ' → ∀ F' H' σ', Stp F H μ F' H' μ' → HReal K F' H' μ' → Slots K F' σ' ρ' → D.nx σ' H') ∧
  (∀ d μ', D'.rt d μ' → ∀ F' H' v, Stp F H μ F' H' μ' → HReal K F' H' μ' → RepS K F' d v → D.rt v H') ∧
  (∀ ρ' μ', D'.bk ρ' μ' → ∀ F' H' σ', Stp F H μ F' H' μ' → HReal K F' H' μ' → Slots K F' σ' ρ' → D.bk σ' H') ∧
  (∀ ρ' μ', D'.ct ρ' μ' → ∀ F' H' σ', Stp F H μ F' H' μ' → HReal K F' H' μ' → Slots K F' σ' ρ' → D.ct σ' H')

abbrev DE (X : Cx) (e : Expr) (t : DTE) : Prop := PE X e (LE X.K t)
abbrev DT (X : Cx) (e : Expr) (t : DTT) : Prop := PT X e (LT X.K t)
abbrev DW (X : Cx) (e : Expr) (t : DTT) : Prop := PW X e (LT X.K t)
abbrev DA (X : Cx) (es : List Expr) (t : DTA) : Prop := PA X es (LA X.K t)
abbrev DG (X : Cx) (e : Expr) (t : DTG) : Prop := PG X e (LG X.K t)
abbrev DGs (X : Cx) (es : List Expr) (t : DTGs) : Prop := PGs X es (LGs X.K t)
abbrev DS_ (X : Cx) (s : Stmt) (t : DTS) : Prop := PS X s (LS X.K t)
abbrev DSs (X : Cx) (s : List Stmt) (t : DTS) : Prop := PSs X s (LS X.K t)

theorem weakE {X : Cx} {e : Expr} {t t' : TE} (h : PE X e t) (w : ∀ σ H Q, t' σ H Q → t σ H Q) : PE X e t' := ⟨fun pins s σ H Q I q => h.run pins s σ H Q I (w σ H Q q)⟩
theorem weakT {X : Cx} {e : Expr} {t t' : TT} (h : PT X e t) (w : ∀ σ H Q, t' σ H Q → t σ H Q) : PT X e t' := ⟨fun pins s σ H Q I q => h.run pins s σ H Q I (w σ H Q q)⟩
theorem weakW {X : Cx} {e : Expr} {t t' : TT} (h : PW X e t) (w : ∀ σ H Q, t' σ H Q → t σ H Q) : PW X e t' := ⟨fun wh pins s σ H Q I q => h.run wh pins s σ H Q I (w σ H Q q)⟩
theorem weakA {X : Cx} {e : List Expr} {t t' : TA} (h : PA X e t) (w : ∀ σ H Q, t' σ H Q → t σ H Q) : PA X e t' := ⟨fun ps pins s σ H Q I q => h.run ps pins s σ H Q I (w σ H Q q)⟩
theorem weakS {X : Cx} {e : Stmt} {t t' : TS} (h : PS X e t) (w : ∀ D σ H, t' D σ H → t D σ H) : PS X e t' := ⟨fun pins s σ H D I q => h.run pins s σ H D I (w D σ H q)⟩
theorem weakSs {X : Cx} {e : List Stmt} {t t' : TS} (h : PSs X e t) (w : ∀ D σ H, t' D σ H → t D σ H) : PSs X e t' := ⟨fun pins s σ H D I q => h.run pins s σ H D I (w D σ H q)⟩
theorem weakG {X : Cx} {e : Expr} {t t' : TG} (h : PG X e t) (w : ∀ v σ H Q, t' v σ H Q → t v σ H Q) : PG X e t' := ⟨fun pins s σ H v u Q I r q => h.run pins s σ H v u Q I r (w v σ H Q q)⟩
theorem weakGs {X : Cx} {e : List Expr} {t t' : TGs} (h : PGs X e t) (w : ∀ v σ H Q, t' v σ H Q → t v σ H Q) : PGs X e t' := ⟨fun pins s σ H v u Q I r q => h.run pins s σ H v u Q I r (w v σ H Q q)⟩

/-! ### expressions -/
section
variable {X : Cx} {pos p : Pos} {a b c e o : Expr} {es : List Expr} {x : Str}
def dVar (i : Nat) : DTE := fun ρ μ Q => match ρ[i]? with
  | some (some d) => Q d μ
  | _ => False
theorem de_var {i : Nat} (hN : X.N[i]? = some x) (hv : Vis X.env.scope x) (hd : (x == ("__debug__" : Str)) = false := by decide) (hcd : (x == ("__classdict__" : Str)) = false := by decide) : DE X (.Name x pos) (dVar i) :=
  weakE (pe_var hN hv hd hcd) fun σ H Q h => by
    obtain ⟨F, ρ, μ, Q', R, S, t, k⟩ := h
    unfold dVar at t
    split at t
    · rename_i d e
      obtain ⟨v, h1, h2⟩ := S.at_ _ _ e
      exact ⟨v, h1, k d μ t F H v (Stp.refl F H μ) R h2⟩
    · exact t.elim
abbrev dC (d : SD) : DTE := fun _ μ Q => Q d μ
/-- a datum whose value is plain -/
def plain : SD → Option V
  | .non => some .non
  | .bl b => some (.bl b)
  | .int i => some (.int i)
  | .str x => some (.str x)
  | .ref a => some (.ref a)
  | .ty n => some (.ty n)
  | _ => none
theorem RepS.plain {K : PySem.W.Frag} {F : Hp} {d : SD} {v : V} (h : plain d = some v) : RepS K F d v := by
  cases d <;> simp [DS.plain] at h <;> subst h <;> constructor
theorem RepS.isPlain {K : PySem.W.Frag} {F : Hp} {d : SD} {v w : V} (h : RepS K F d v) (p : DS.plain d = some w) : v = w := by
  cases h <;> simp [DS.plain] at p <;> exact p
theorem liftC {t : TE} {d : SD} {v : V} (h : PE X e (tC v)) (p : plain d = some v) : DE X e (dC d) :=
  weakE h fun σ H Q h => by
    obtain ⟨F, ρ, μ, Q', R, S, t, k⟩ := h
    exact k d μ t F H v (Stp.refl F H μ) R (RepS.plain p)
theorem de_int {i : Int} {j} : DE X (.Constant (.int i) j pos) (dC (.int i)) := liftC (t := tC (.int i)) pe_int rfl
theorem de_bl {i : Bool} {j} : DE X (.Constant (.bool i) j pos) (dC (.bl i)) := liftC (t := tC (.bl i)) pe_bl rfl
theorem de_non {j} : DE X (.Constant .none j pos) (dC .non) := liftC (t := tC .non) pe_non rfl
theorem de_str {y : Str} {j} : DE X (.Constant (.str y) j pos) (dC (.str y)) := liftC (t := tC (.str y)) pe_str rfl
theorem de_glob {d : SD} {v : V} {u : Value} (hg : Gl X x) (hm : X.mg x = some u) (r : RelV v u) (pl : plain d = some v) (hd : (x == ("__debug__" : Str)) = false := by decide) : DE X (.Name x pos) (dC d) := liftC (t := tC v) (pe_glob hg hm r hd) pl

/-- two operands -/
abbrev DR2 := SD → SD → Mu → (SD → Mu → Prop) → Prop
def LR2 (K : PySem.W.Frag) (dr : DR2) (r : R2) : Prop := ∀ F H μ x y dx dy Q' Q, HReal K F H μ → RepS K F dx x → RepS K F dy y → dr dx dy μ Q' →
  (∀ d μ', Q' d μ' → ∀ F' H' v, Stp F H μ F' H' μ' → HReal K F' H' μ' → RepS K F' d v → Q v H') → r x y H Q
abbrev dOp (dr : DR2) (ta tb : DTE) : DTE := fun ρ μ Q => ta ρ μ fun x μ1 => tb ρ μ1 fun y μ2 => dr x y μ2 Q
theorem lift2 {K : PySem.W.Frag} {dr : DR2} {r : R2} {ta tb : DTE} (hl : LR2 K dr r) : ∀ σ H Q, LE K (dOp dr ta tb) σ H Q → tOp r (LE K ta) (LE K tb) σ H Q := fun σ H Q h => by
  obtain ⟨F, ρ, μ, Q', R, S, t, k⟩ := h
  refine ⟨F, ρ, μ, _, R, S, t, fun d1 μ1 t1 F1 H1 v1 s1 R1 r1 => ?_⟩
  refine ⟨F1, ρ, μ1, _, R1, S.mono s1.ext, t1, fun d2 μ2 t2 F2 H2 v2 s2 R2 r2 => ?_⟩
  exact hl F2 H2 μ2 v1 v2 d1 d2 Q' Q R2 (r1.mono s2.ext) r2 t2 fun d μ' q F' H' v s R' r' => k d μ' q F' H' v ((s1.trans s2).trans s) R' r'
theorem de_op {op : Operator} {r : R2} {dr : DR2} {ta tb : DTE} (ho : OpR X (binaryOp op) r) (hl : LR2 X.K dr r) (ha : DE X a ta) (hb : DE X b tb) : DE X (.BinOp a op b pos) (dOp dr ta tb) :=
  weakE (pe_op ho ha hb) (lift2 hl)
theorem de_cmp {op : CmpOp} {r : R2} {dr : DR2} {ta tb : DTE} (ho : OpR X (compareOp op) r) (hl : LR2 X.K dr r) (ha : DE X a ta) (hb : DE X b tb) (hm : behindInMarks op b = false) : DE X (.Compare a [op] [b] pos) (dOp dr ta tb) :=
  weakE (pe_cmpR ho ha hb hm) (lift2 hl)
abbrev dTest (t : DTE) : DTT := fun ρ μ Q => t ρ μ fun d μ1 => match d with
  | .bl b => Q b μ1
  | _ => False
theorem dt_cmp {op : CmpOp} {r : R2} {dr : DR2} {ta tb : DTE} (ho : OpR X (compareOp op) r) (hl : LR2 X.K dr r) (ha : DE X a ta) (hb : DE X b tb) (hm : behindInMarks op b = false) : DT X (.Compare a [op] [b] pos) (dTest (dOp dr ta tb)) :=
  weakT (pt_cmpR ho ha hb hm) fun σ H Q h => by
    obtain ⟨F, ρ, μ, Q', R, S, t, k⟩ := h
    refine lift2 hl σ H _ ⟨F, ρ, μ, _, R, S, t, fun d μ' q F' H' v s R' r' => ?_⟩
    cases r' with
    | bl b => exact ⟨b, rfl, k b μ' q F' H' s R'⟩
    | _ => exact q.elim
/-- an expression that gives True or False, as a test -/
theorem dt_val {t : DTE} (h : DE X e t) (he : ∀ whole, isTrue e X.env whole = (do let v ← whole; standAt e.pos; holding [v] (truthy v)) := by intro _; rfl) : DT X e (dTest t) :=
  weakT (pt_val h he) fun σ H Q h => by
    obtain ⟨F, ρ, μ, Q', R, S, t, k⟩ := h
    refine ⟨F, ρ, μ, _, R, S, t, fun d μ' q F' H' v s R' r' => ?_⟩
    cases r' with
    | bl b => exact ⟨b, rfl, k b μ' q F' H' s R'⟩
    | _ => exact q.elim
abbrev dAnd (t u : DTT) : DTT := fun ρ μ Q => t ρ μ fun c μ1 => if c = true then u ρ μ1 Q else Q false μ1
abbrev dOr (t u : DTT) : DTT := fun ρ μ Q => t ρ μ fun c μ1 => if c = true then Q true μ1 else u ρ μ1 Q
abbrev dNot (t : DTT) : DTT := fun ρ μ Q => t ρ μ fun c μ1 => Q (!c) μ1
section
variable {K : PySem.W.Frag} {t u : DTT}
theorem lift_and : ∀ σ H Q, LT K (dAnd t u) σ H Q → tAnd (LT K t) (LT K u) σ H Q := fun σ H Q h => by
  obtain ⟨F, ρ, μ, Q', R, S, t, k⟩ := h
  refine ⟨F, ρ, μ, _, R, S, t, fun c μ1 t1 F1 H1 s1 R1 => ?_⟩
  cases c with
  | true => exact ⟨F1, ρ, μ1, Q', R1, S.mono s1.ext, t1, fun b μ' q F' H' s R' => k b μ' q F' H' (s1.trans s) R'⟩
  | false => exact k false μ1 t1 F1 H1 s1 R1
theorem lift_or : ∀ σ H Q, LT K (dOr t u) σ H Q → tOr (LT K t) (LT K u) σ H Q := fun σ H Q h => by
  obtain ⟨F, ρ, μ, Q', R, S, t, k⟩ := h
  refine ⟨F, ρ, μ, _, R, S, t, fun c μ1 t1 F1 H1 s1 R1 => ?_⟩
  cases c with
  | false => exact ⟨F1, ρ, μ1, Q', R1, S.mono s1.ext, t1, fun b μ' q F' H' s R' => k b μ' q F' H' (s1.trans s) R'⟩
  | true => exact k true μ1 t1 F1 H1 s1 R1
end
theorem dw_and1 {t : DTT} (ha : DT X a t) : DW X (.BoolOp .And [a] pos) t := pw_and1 ha
theorem dw_or1 {t : DTT} (ha : DT X a t) : DW X (.BoolOp .Or [a] pos) t := pw_or1 ha
theorem dw_and {t u : DTT} {rest : List Expr} (ha : DT X a t) (hb : DW X (.BoolOp .And (b :: rest) pos) u) : DW X (.BoolOp .And (a :: b :: rest) pos) (dAnd t u) := weakW (pw_and ha hb) lift_and
theorem dw_or {t u : DTT} {rest : List Expr} (ha : DT X a t) (hb : DW X (.BoolOp .Or (b :: rest) pos) u) : DW X (.BoolOp .Or (a :: b :: rest) pos) (dOr t u) := weakW (pw_or ha hb) lift_or
theorem dt_not {t : DTT} (ha : DT X a t) : DT X (.UnaryOp .Not a pos) (dNot t) := weakT (pt_not ha) fun σ H Q h => by
  obtain ⟨F, ρ, μ, Q', R, S, t, k⟩ := h
  exact ⟨F, ρ, μ, _, R, S, t, fun c μ1 t1 F1 H1 s1 R1 => k (!c) μ1 t1 F1 H1 s1 R1⟩
/-- and, or, not as values: all but the last True or False -/
abbrev dAndV (ta tb : DTE) : DTE := fun ρ μ Q => ta ρ μ fun x μ1 => match x with
  | .bl true => tb ρ μ1 Q
  | .bl false => Q (.bl false) μ1
  | _ => False
abbrev dOrV (ta tb : DTE) : DTE := fun ρ μ Q => ta ρ μ fun x μ1 => match x with
  | .bl true => Q (.bl true) μ1
  | .bl false => tb ρ μ1 Q
  | _ => False
abbrev dNotV (ta : DTE) : DTE := fun ρ μ Q => ta ρ μ fun x μ1 => match x with
  | .bl b => Q (.bl (!b)) μ1
  | _ => False
theorem de_one {op} {t : DTE} (h : DE X a t) : DE X (.BoolOp op [a] pos) t := pe_one h
theorem de_and {ta tb : DTE} {rest : List Expr} (ha : DE X a ta) (hb : DE X (.BoolOp .And (b :: rest) pos) tb) : DE X (.BoolOp .And (a :: b :: rest) pos) (dAndV ta tb) := weakE (pe_and ha hb) fun σ H Q h => by
  obtain ⟨F, ρ, μ, Q', R, S, t, k⟩ := h
  refine ⟨F, ρ, μ, _, R, S, t, fun d μ1 t1 F1 H1 v s1 R1 r1 => ?_⟩
  cases r1 with
  | bl c =>
    refine ⟨c, rfl, ?_⟩
    cases c with
    | true => exact ⟨F1, ρ, μ1, Q', R1, S.mono s1.ext, t1, fun b μ' q F' H' v s R' r' => k b μ' q F' H' v (s1.trans s) R' r'⟩
    | false => exact k _ μ1 t1 F1 H1 _ s1 R1 (.bl false)
  | _ => exact t1.elim
theorem de_or {ta tb : DTE} {rest : List Expr} (ha : DE X a ta) (hb : DE X (.BoolOp .Or (b :: rest) pos) tb) : DE X (.BoolOp .Or (a :: b :: rest) pos) (dOrV ta tb) := weakE (pe_or ha hb) fun σ H Q h => by
  obtain ⟨F, ρ, μ, Q', R, S, t, k⟩ := h
  refine ⟨F, ρ, μ, _, R, S, t, fun d μ1 t1 F1 H1 v s1 R1 r1 => ?_⟩
  cases r1 with
  | bl c =>
    refine ⟨c, rfl, ?_⟩
    cases c with
    | false => exact ⟨F1, ρ, μ1, Q', R1, S.mono s1.ext, t1, fun b μ' q F' H' v s R' r' => k b μ' q F' H' v (s1.trans s) R' r'⟩
    | true => exact k _ μ1 t1 F1 H1 _ s1 R1 (.bl true)
  | _ => exact t1.elim
theorem de_not {ta : DTE} (ha : DE X a ta) : DE X (.UnaryOp .Not a pos) (dNotV ta) := weakE (pe_not ha) fun σ H Q h => by
  obtain ⟨F, ρ, μ, Q', R, S, t, k⟩ := h
  refine ⟨F, ρ, μ, _, R, S, t, fun d μ1 t1 F1 H1 v s1 R1 r1 => ?_⟩
  cases r1 with
  | bl c => exact ⟨c, rfl, k _ μ1 t1 F1 H1 _ s1 R1 (.bl _)⟩
  | _ => exact t1.elim
abbrev dIf (t : DTT) (ta tb : DTE) : DTE := fun ρ μ Q => t ρ μ fun c μ1 => if c = true then ta ρ μ1 Q else tb ρ μ1 Q
theorem de_ifExp {t : DTT} {ta tb : DTE} (hc : DT X c t) (ha : DE X a ta) (hb : DE X b tb) : DE X (.IfExp c a b pos) (dIf t ta tb) := weakE (pe_ifExp hc ha hb) fun σ H Q h => by
  obtain ⟨F, ρ, μ, Q', R, S, t, k⟩ := h
  refine ⟨F, ρ, μ, _, R, S, t, fun d μ1 t1 F1 H1 s1 R1 => ?_⟩
  cases d with
  | true => exact ⟨F1, ρ, μ1, Q', R1, S.mono s1.ext, t1, fun b μ' q F' H' v s R' r' => k b μ' q F' H' v (s1.trans s) R' r'⟩
  | false => exact ⟨F1, ρ, μ1, Q', R1, S.mono s1.ext, t1, fun b μ' q F' H' v s R' r' => k b μ' q F' H' v (s1.trans s) R' r'⟩
/-- a < b < c -/
abbrev dChain (r r' : DR2) (ta tb tc : DTE) : DTE := fun ρ μ Q => ta ρ μ fun x μ1 => tb ρ μ1 fun y μ2 => r x y μ2 fun z μ3 => match z with
  | .bl true => tc ρ μ3 fun w μ4 => r' y w μ4 Q
  | .bl false => Q (.bl false) μ3
  | _ => False
theorem de_chain {op op' : CmpOp} {r r' : R2} {dr dr' : DR2} {ta tb tc : DTE} (ho : OpR X (compareOp op) r) (hl : LR2 X.K dr r) (ho' : OpR X (compareOp op') r') (hl' : LR2 X.K dr' r') (ha : DE X a ta) (hb : DE X b tb) (hc : DE X c tc) (hm : lastMarks [op, op'] [b, c] = false := by rfl) :
    DE X (.Compare a [op, op'] [b, c] pos) (dChain dr dr' ta tb tc) := weakE (pe_chain ho ho' ha hb hc hm) fun σ H Q h => by
  obtain ⟨F, ρ, μ, Q', R, S, t, k⟩ := h
  refine ⟨F, ρ, μ, _, R, S, t, fun d1 μ1 t1 F1 H1 v1 s1 R1 r1 => ?_⟩
  refine ⟨F1, ρ, μ1, _, R1, S.mono s1.ext, t1, fun d2 μ2 t2 F2 H2 v2 s2 R2 r2 => ?_⟩
  refine hl F2 H2 μ2 v1 v2 d1 d2 _ _ R2 (r1.mono s2.ext) r2 t2 fun d3 μ3 t3 F3 H3 v3 s3 R3 r3 => ?_
  cases r3 with
  | bl z =>
    refine ⟨z, rfl, ?_⟩
    cases z with
    | true =>
      refine ⟨F3, ρ, μ3, _, R3, S.mono ((s1.trans s2).trans s3).ext, t3, fun d4 μ4 t4 F4 H4 v4 s4 R4 r4 => ?_⟩
      exact hl' F4 H4 μ4 v2 v4 d2 d4 Q' Q R4 (r2.mono (s3.trans s4).ext) r4 t4 fun d μ' q F' H' v s R' r' => k d μ' q F' H' v ((((s1.trans s2).trans s3).trans s4).trans s) R' r'
    | false => exact k _ μ3 t3 F3 H3 _ ((s1.trans s2).trans s3) R3 (.bl false)
  | _ => exact t3.elim

/-! ### arguments, displays -/
abbrev dNil : DTA := fun _ μ Q => Q [] μ
abbrev dCons (te : DTE) (t : DTA) : DTA := fun ρ μ Q => te ρ μ fun x μ1 => t ρ μ1 fun xs μ2 => Q (x :: xs) μ2
theorem da_nil : DA X [] dNil := weakA pa_nil fun σ H Q h => by
  obtain ⟨F, ρ, μ, Q', R, S, t, k⟩ := h
  exact k [] μ t F H [] (Stp.refl F H μ) R .nil
theorem da_cons {te : DTE} {t : DTA} (ha : DE X e te) (hr : DA X es t) (hs : starEach (e :: es) X.env = (false, eval e X.env) :: starEach es X.env := by rfl) : DA X (e :: es) (dCons te t) :=
  weakA (pa_cons ha hr hs) fun σ H Q h => by
    obtain ⟨F, ρ, μ, Q', R, S, t, k⟩ := h
    refine ⟨F, ρ, μ, _, R, S, t, fun d1 μ1 t1 F1 H1 v1 s1 R1 r1 => ?_⟩
    exact ⟨F1, ρ, μ1, _, R1, S.mono s1.ext, t1, fun ds μ2 t2 F2 H2 vs s2 R2 r2 => k _ μ2 t2 F2 H2 _ (s1.trans s2) R2 (.cons (r1.mono s2.ext) r2)⟩
abbrev dTup (t : DTA) : DTE := fun ρ μ Q => t ρ μ fun xs μ1 => xs.length ≤ sizeLine ∧ Q (.tup xs) μ1
abbrev dLst (t : DTA) : DTE := fun ρ μ Q => t ρ μ fun xs μ1 => xs.length ≤ sizeLine ∧ Q (.lst xs) μ1
/-- a list that may change -/
abbrev dLstM (t : DTA) : DTE := fun ρ μ Q => t ρ μ fun xs μ1 => xs.length ≤ sizeLine ∧ ∀ p, μ1 p = none → Q (.ref p) (up μ1 p (.lst xs))
theorem de_tup {t : DTA} {x1} (h : DA X es t) : DE X (.Tuple es x1 pos) (dTup t) := weakE (pe_tup h) fun σ H Q h => by
  obtain ⟨F, ρ, μ, Q', R, S, t, k⟩ := h
  refine ⟨F, ρ, μ, _, R, S, t, fun ds μ1 t1 F1 H1 vs s1 R1 r1 => ⟨by rw [← r1.length]; exact t1.1, fun p hp => ?_⟩⟩
  exact k _ μ1 t1.2 _ _ _ (s1.trans (Stp.newS R1 hp)) (R1.newS hp) (.tup (.inl (.inl upd_same)) (r1.mono (Ext.new (R1.freeF hp))))
theorem de_lst {t : DTA} (h : DA X es t) : DE X (.List es pos) (dLst t) := weakE (pe_lst h) fun σ H Q h => by
  obtain ⟨F, ρ, μ, Q', R, S, t, k⟩ := h
  refine ⟨F, ρ, μ, _, R, S, t, fun ds μ1 t1 F1 H1 vs s1 R1 r1 => ⟨by rw [← r1.length]; exact t1.1, fun p hp => ?_⟩⟩
  exact k _ μ1 t1.2 _ _ _ (s1.trans (Stp.newS R1 hp)) (R1.newS hp) (.lst upd_same (r1.mono (Ext.new (R1.freeF hp))))
theorem de_lstM {t : DTA} (h : DA X es t) : DE X (.List es pos) (dLstM t) := weakE (pe_lst h) fun σ H Q h => by
  obtain ⟨F, ρ, μ, Q', R, S, t, k⟩ := h
  refine ⟨F, ρ, μ, _, R, S, t, fun ds μ1 t1 F1 H1 vs s1 R1 r1 => ⟨by rw [← r1.length]; exact t1.1, fun p hp => ?_⟩⟩
  exact k _ _ (t1.2 p (R1.freeM hp)) _ _ _ (s1.trans (Stp.newM R1 hp)) (R1.newM hp (.lst r1)) (.ref p)
end

/-! ### statements -/
section
variable {X : Cx} {pos p : Pos} {a b c e o : Expr} {es : List Expr} {x : Str} {st : Stmt} {rest : List Stmt}
abbrev dNext : DTS := fun D ρ μ => D.nx ρ μ
abbrev dSeq (t u : DTS) : DTS := fun D ρ μ => t { D with nx := u D } ρ μ
theorem dss_nil : DSs X [] dNext := weakSs pss_nil fun D σ H h => by
  obtain ⟨F, ρ, μ, D', R, S, t, k, _⟩ := h
  exact k ρ μ t F H σ (Stp.refl F H μ) R S
theorem dss_cons {t u : DTS} (h1 : DS_ X st t) (h2 : DSs X rest u) : DSs X (st :: rest) (dSeq t u) := weakSs (pss_cons h1 h2) fun D σ H h => by
  obtain ⟨F, ρ, μ, D', R, S, t, k, k2, k3, k4⟩ := h
  exact ⟨F, ρ, μ, _, R, S, t, fun ρ1 μ1 t1 F1 H1 σ1 s1 R1 S1 => ⟨F1, ρ1, μ1, D', R1, S1, t1, fun ρ' μ' q F' H' σ' s => k ρ' μ' q F' H' σ' (s1.trans s), fun d μ' q F' H' v s => k2 d μ' q F' H' v (s1.trans s),
    fun ρ' μ' q F' H' σ' s => k3 ρ' μ' q F' H' σ' (s1.trans s), fun ρ' μ' q F' H' σ' s => k4 ρ' μ' q F' H' σ' (s1.trans s)⟩, k2, k3, k4⟩
theorem dss_one {t : DTS} (h1 : DS_ X st t) : DSs X [st] t := pss_one h1
theorem ds_pass : DS_ X (.Pass pos) dNext := weakS ps_pass fun D σ H h => by
  obtain ⟨F, ρ, μ, D', R, S, t, k, _⟩ := h
  exact k ρ μ t F H σ (Stp.refl F H μ) R S
theorem ds_doc {y j pos'} : DS_ X (.Expr (.Constant (.str y) j pos) pos') dNext := weakS ps_doc fun D σ H h => by
  obtain ⟨F, ρ, μ, D', R, S, t, k, _⟩ := h
  exact k ρ μ t F H σ (Stp.refl F H μ) R S
abbrev dDrop (te : DTE) : DTS := fun D ρ μ => te ρ μ fun _ μ1 => D.nx ρ μ1
theorem ds_expr {te : DTE} (he : DE X e te) (hs : swapsWith e none pos.line X.env = pure false := by rfl) : DS_ X (.Expr e pos) (dDrop te) := weakS (ps_expr he hs) fun D σ H h => by
  obtain ⟨F, ρ, μ, D', R, S, t, k, _⟩ := h
  exact ⟨F, ρ, μ, _, R, S, t, fun d μ1 t1 F1 H1 v s1 R1 r1 => k ρ μ1 t1 F1 H1 σ s1 R1 (S.mono s1.ext)⟩
abbrev dRet (te : DTE) : DTS := fun D ρ μ => te ρ μ D.rt
theorem ds_ret {te : DTE} (he : DE X e te) : DS_ X (.Return (some e) pos) (dRet te) := weakS (ps_ret he) fun D σ H h => by
  obtain ⟨F, ρ, μ, D', R, S, t, _, k, _⟩ := h
  exact ⟨F, ρ, μ, _, R, S, t, k⟩
/-- return of a list that has been filled: from then on it does not change -/
def frz : (SD → Mu → Prop) → SD → Mu → Prop := fun Q d μ => match d with
  | .ref a => match μ a with
    | some (.lst xs) => Q (.lst xs) (rm μ a)
    | some (.dic xs) => Q (.dic xs) (rm μ a)
    | _ => False
  | _ => False
abbrev dRetF (te : DTE) : DTS := fun D ρ μ => te ρ μ (frz D.rt)
theorem ds_retF {te : DTE} (he : DE X e te) : DS_ X (.Return (some e) pos) (dRetF te) := weakS (ps_ret he) fun D σ H h => by
  obtain ⟨F, ρ, μ, D', R, S, t, _, k, _⟩ := h
  refine ⟨F, ρ, μ, _, R, S, t, fun d μ1 t1 F1 H1 v s1 R1 r1 => ?_⟩
  cases r1 with
  | ref z =>
    unfold frz at t1
    simp only at t1
    split at t1
    · rename_i xs hx
      obtain ⟨vs, h1, h2, R2, s2, r2⟩ := R1.freeze hx
      exact k _ _ t1 _ _ _ (s1.trans s2) R2 r2
    · rename_i xs hx
      obtain ⟨vs, h1, R2, s2, r2⟩ := R1.freezeD hx
      exact k _ _ t1 _ _ _ (s1.trans s2) R2 r2
    · exact t1.elim
  | _ => exact t1.elim
abbrev dRetN : DTS := fun D ρ μ => D.rt .non μ
theorem ds_retN : DS_ X (.Return none pos) dRetN := weakS ps_retN fun D σ H h => by
  obtain ⟨F, ρ, μ, D', R, S, t, _, k, _⟩ := h
  exact k .non μ t F H _ (Stp.refl F H μ) R .non
abbrev dIfS (c : DTT) (t u : DTS) : DTS := fun D ρ μ => c ρ μ fun b μ1 => if b = true then t D ρ μ1 else u D ρ μ1
theorem ds_if {ss uu : List Stmt} {tc : DTT} {t u : DTS} (hc : DT X c tc) (ha : DSs X ss t) (hb : DSs X uu u) : DS_ X (.If c ss uu pos) (dIfS tc t u) := weakS (ps_if hc ha hb) fun D σ H h => by
  obtain ⟨F, ρ, μ, D', R, S, t, k, k2, k3, k4⟩ := h
  refine ⟨F, ρ, μ, _, R, S, t, fun d μ1 t1 F1 H1 s1 R1 => ?_⟩
  cases d with
  | true => exact ⟨F1, ρ, μ1, D', R1, S.mono s1.ext, t1, fun ρ' μ' q F' H' σ' s => k ρ' μ' q F' H' σ' (s1.trans s), fun d μ' q F' H' v s => k2 d μ' q F' H' v (s1.trans s),
    fun ρ' μ' q F' H' σ' s => k3 ρ' μ' q F' H' σ' (s1.trans s), fun ρ' μ' q F' H' σ' s => k4 ρ' μ' q F' H' σ' (s1.trans s)⟩
  | false => exact ⟨F1, ρ, μ1, D', R1, S.mono s1.ext, t1, fun ρ' μ' q F' H' σ' s => k ρ' μ' q F' H' σ' (s1.trans s), fun d μ' q F' H' v s => k2 d μ' q F' H' v (s1.trans s),
    fun ρ' μ' q F' H' σ' s => k3 ρ' μ' q F' H' σ' (s1.trans s), fun ρ' μ' q F' H' σ' s => k4 ρ' μ' q F' H' σ' (s1.trans s)⟩
abbrev dNever : DTS := fun _ _ _ => False
theorem ds_never : DS_ X st dNever := weakS ps_never fun D σ H h => by
  obtain ⟨F, ρ, μ, D', R, S, t, _⟩ := h
  exact t.elim
theorem dss_never : DSs X rest dNever := weakSs pss_never fun D σ H h => by
  obtain ⟨F, ρ, μ, D', R, S, t, _⟩ := h
  exact t.elim
abbrev dBreak : DTS := fun D ρ μ => D.bk ρ μ
abbrev dCont : DTS := fun D ρ μ => D.ct ρ μ
theorem ds_break : DS_ X (.Break pos) dBreak := weakS ps_break fun D σ H h => by
  obtain ⟨F, ρ, μ, D', R, S, t, _, _, k, _⟩ := h
  exact k ρ μ t F H σ (Stp.refl F H μ) R S
theorem ds_continue : DS_ X (.Continue pos) dCont := weakS ps_continue fun D σ H h => by
  obtain ⟨F, ρ, μ, D', R, S, t, _, _, _, k⟩ := h
  exact k ρ μ t F H σ (Stp.refl F H μ) R S

/-! targets -/
abbrev hName (i : Nat) : DTG := fun d ρ μ Q => Q (ρ.set i (some d)) μ
theorem dg_name {i : Nat} (hN : X.N.Nodup) (hi : X.N[i]? = some x) (hx : Loc X.env.scope x) (hf : X.fn x = true ∨ X.env.scope.names.lookup x = some .local := by first | exact .inl rfl | exact .inr rfl | assumption) : DG X (.Name x pos) (hName i) :=
  weakG (pg_name hN hi hx hf) fun v σ H Q h => by
    obtain ⟨F, ρ, μ, d, Q', R, S, r, t, k⟩ := h
    exact k _ μ t F H _ (Stp.refl F H μ) R (S.set i r)
abbrev hNil : DTGs := fun vs ρ μ Q => vs = [] ∧ Q ρ μ
abbrev hCons (t : DTG) (u : DTGs) : DTGs := fun vs ρ μ Q => match vs with
  | v :: r => t v ρ μ fun ρ' μ' => u r ρ' μ' Q
  | [] => False
theorem dgs_nil : DGs X [] hNil := weakGs pgs_nil fun v σ H Q h => by
  obtain ⟨F, ρ, μ, ds, Q', R, S, r, ⟨e, t⟩, k⟩ := h
  subst e
  cases r
  exact ⟨rfl, k ρ μ t F H σ (Stp.refl F H μ) R S⟩
theorem dgs_cons {t : DTG} {u : DTGs} (h1 : DG X e t) (h2 : DGs X es u) (hs : (assignEach (e :: es) X.env).map (·.2) = assign e X.env :: (assignEach es X.env).map (·.2) := by rfl) : DGs X (e :: es) (hCons t u) :=
  weakGs (pgs_cons h1 h2 hs) fun v σ H Q h => by
    obtain ⟨F, ρ, μ, ds, Q', R, S, r, t, k⟩ := h
    cases r with
    | nil => exact t.elim
    | cons r rr =>
      refine ⟨_, _, rfl, F, ρ, μ, _, _, R, S, r, t, fun ρ1 μ1 t1 F1 H1 σ1 s1 R1 S1 => ?_⟩
      exact ⟨F1, ρ1, μ1, _, Q', R1, S1, rr.mono s1.ext, t1, fun ρ' μ' q F' H' σ' s => k ρ' μ' q F' H' σ' (s1.trans s)⟩
abbrev hTup (n : Nat) (t : DTGs) : DTG := fun d ρ μ Q => match d with
  | .tup xs => xs.length = n ∧ t xs ρ μ Q
  | _ => False
theorem dg_tup {k : Nat} {t : DTGs} {n : Nat} (hc : X.calm = true) (h : DGs X es t) (hn : (assignEach es X.env).length = n := by rfl) (hst : (assignEach es X.env).findIdx? (·.1) = none := by rfl) : DG X (.Tuple es k pos) (hTup n t) :=
  weakG (pg_tup hc h hn hst) fun v σ H Q h => by
    obtain ⟨F, ρ, μ, d, Q', R, S, r, t, k⟩ := h
    cases r with
    | tup h r => exact ⟨_, _, rfl, R.ext.sqT h, by rw [← r.length]; exact t.1, F, ρ, μ, _, Q', R, S, r, t.2, k⟩
    | _ => exact t.elim
abbrev dAsg (te : DTE) (g : DTG) : DTS := fun D ρ μ => te ρ μ fun x μ1 => g x ρ μ1 D.nx
theorem liftAsg {K : PySem.W.Frag} {te : DTE} {g : DTG} : ∀ D σ H, LS K (dAsg te g) D σ H → tAsg (LE K te) (LG K g) D σ H := fun D σ H h => by
  obtain ⟨F, ρ, μ, D', R, S, t, k, _⟩ := h
  exact ⟨F, ρ, μ, _, R, S, t, fun d μ1 t1 F1 H1 v s1 R1 r1 => ⟨F1, ρ, μ1, d, _, R1, S.mono s1.ext, r1, t1, fun ρ' μ' q F' H' σ' s => k ρ' μ' q F' H' σ' (s1.trans s)⟩⟩
theorem ds_asg {tg : Expr} {te : DTE} {g : DTG} (he : DE X e te) (hg : DG X tg g) (hs : swapsWithSole [tg] e pos.line X.env = pure false := by rfl) (hw : swappedStores [tg] e X.env = pure none := by rfl)
    (h1 : (assignEach [tg] X.env).map (·.2) = [assign tg X.env] := by rfl) : DS_ X (.Assign [tg] e pos) (dAsg te g) := weakS (ps_asg he hg hs hw h1) liftAsg
abbrev dSet (te : DTE) (i : Nat) : DTS := fun D ρ μ => te ρ μ fun x μ1 => D.nx (ρ.set i (some x)) μ1
theorem ds_set {i : Nat} {te : DTE} {pos' : Pos} (hN : X.N.Nodup) (hi : X.N[i]? = some x) (hx : Loc X.env.scope x) (he : DE X e te) (hs : swapsWith e (some (.Name x pos')) pos.line X.env = pure false := by rfl) (hf : X.fn x = true ∨ X.env.scope.names.lookup x = some .local := by first | exact .inl rfl | exact .inr rfl | assumption) :
    DS_ X (.Assign [.Name x pos'] e pos) (dSet te i) := weakS (ps_set hN hi hx he hs hf) fun D σ H h => by
  obtain ⟨F, ρ, μ, D', R, S, t, k, _⟩ := h
  exact ⟨F, ρ, μ, _, R, S, t, fun d μ1 t1 F1 H1 v s1 R1 r1 => k _ μ1 t1 F1 H1 _ s1 R1 ((S.mono s1.ext).set i r1)⟩
abbrev dPar (i j : Nat) (ta : DTA) : DTS := fun D ρ μ => ta ρ μ fun vs μ1 => match vs with
  | [v, w] => D.nx ((ρ.set i (some v)).set j (some w)) μ1
  | _ => False
theorem ds_par {i j : Nat} {x y : Str} {ta : DTA} {px py pt : Pos} {kt k2 pt2} (hc : X.calm = true) (hN : X.N.Nodup) (hi : X.N[i]? = some x) (hj : X.N[j]? = some y) (hij : i ≠ j)
    (hx : X.env.scope.names.lookup x = some .local) (hy : X.env.scope.names.lookup y = some .local) (ha : DA X [a, b] ta)
    (hw : swappedStores [.Tuple [.Name x px, .Name y py] kt pt] (.Tuple [a, b] k2 pt2) X.env = pure (some [x, y]))
    (hs : swapsWithSole [.Tuple [.Name x px, .Name y py] kt pt] (.Tuple [a, b] k2 pt2) pos.line X.env = pure false := by rfl) :
    DS_ X (.Assign [.Tuple [.Name x px, .Name y py] kt pt] (.Tuple [a, b] k2 pt2) pos) (dPar i j ta) := weakS (ps_par hc hN hi hj hij hx hy ha hw hs) fun D σ H h => by
  obtain ⟨F, ρ, μ, D', R, S, t, k, _⟩ := h
  refine ⟨F, ρ, μ, _, R, S, t, fun ds μ1 t1 F1 H1 vs s1 R1 r1 => ?_⟩
  cases r1 with
  | nil => exact t1.elim
  | cons r1 r2 => cases r2 with
    | nil => exact t1.elim
    | cons r2 r3 => cases r3 with
      | cons _ _ => exact t1.elim
      | nil => exact ⟨_, _, rfl, k _ μ1 t1 F1 H1 _ s1 R1 (((S.mono s1.ext).set i r1).set j r2)⟩
abbrev dPar3 (i j l : Nat) (ta : DTA) : DTS := fun D ρ μ => ta ρ μ fun vs μ1 => match vs with
  | [u, v, w] => D.nx (((ρ.set i (some u)).set j (some v)).set l (some w)) μ1
  | _ => False
theorem ds_par3 {i j l : Nat} {x y z : Str} {ta : DTA} {px py pz pt : Pos} {kt k2 pt2} (hc : X.calm = true) (hN : X.N.Nodup) (hi : X.N[i]? = some x) (hj : X.N[j]? = some y) (hl : X.N[l]? = some z) (hij : i ≠ j) (hil : i ≠ l) (hjl : j ≠ l)
    (hx : X.env.scope.names.lookup x = some .local) (hy : X.env.scope.names.lookup y = some .local) (hz : X.env.scope.names.lookup z = some .local) (ha : DA X [a, b, c] ta)
    (hw : swappedStores [.Tuple [.Name x px, .Name y py, .Name z pz] kt pt] (.Tuple [a, b, c] k2 pt2) X.env = pure (some [x, y, z]))
    (hs : swapsWithSole [.Tuple [.Name x px, .Name y py, .Name z pz] kt pt] (.Tuple [a, b, c] k2 pt2) pos.line X.env = pure false := by rfl) :
    DS_ X (.Assign [.Tuple [.Name x px, .Name y py, .Name z pz] kt pt] (.Tuple [a, b, c] k2 pt2) pos) (dPar3 i j l ta) := weakS (ps_par3 hc hN hi hj hl hij hil hjl hx hy hz ha hw hs) fun D σ H h => by
  obtain ⟨F, ρ, μ, D', R, S, t, k, _⟩ := h
  refine ⟨F, ρ, μ, _, R, S, t, fun ds μ1 t1 F1 H1 vs s1 R1 r1 => ?_⟩
  cases r1 with
  | nil => exact t1.elim
  | cons r1 r2 => cases r2 with
    | nil => exact t1.elim
    | cons r2 r3 => cases r3 with
      | nil => exact t1.elim
      | cons r3 r4 => cases r4 with
        | cons _ _ => exact t1.elim
        | nil => exact ⟨_, _, _, rfl, k _ μ1 t1 F1 H1 _ s1 R1 ((((S.mono s1.ext).set i r1).set j r2).set l r3)⟩
end
end DS
/-! DS2: loops, comprehensions, calls of defs, operators, subscripts. -/
namespace DS
open PySem PySem.Spec PyProof.Rows L2

/-! ### sequences -/
def lstD (μ : Mu) : SD → Option (List SD)
  | .lst xs => some xs
  | .ref a => match μ a with
    | some (.lst xs) => some xs
    | _ => none
  | _ => none
def seqD (μ : Mu) : SD → Option (List SD)
  | .tup xs => some xs
  | .rol xs => some xs
  | .lst xs => some xs
  | .ref a => match μ a with
    | some (.lst xs) => some xs
    | _ => none
  | _ => none
def isTup : SD → Bool
  | .tup _ => true
  | _ => false
section
variable {K : PySem.W.Frag} {F H : Hp} {μ : Mu} {d : SD} {v : V} {xs : List SD}
theorem HReal.lst (R : HReal K F H μ) (r : RepS K F d v) (e : lstD μ d = some xs) : ∃ a vs, v = .ref a ∧ H a = some (.lst vs) ∧ RepL K F xs vs := by
  cases r with
  | lst h q => cases e; exact ⟨_, _, rfl, R.sub _ _ h, q⟩
  | ref a =>
    unfold lstD at e
    simp only at e
    split at e
    · rename_i ys hy
      cases e
      obtain ⟨_, o, h, q⟩ := R.mus a _ hy
      cases q with
      | lst q => exact ⟨a, _, rfl, h, q⟩
    · cases e
  | _ => cases e
theorem HReal.seq (R : HReal K F H μ) (r : RepS K F d v) (e : seqD μ d = some xs) : ∃ a vs, v = .ref a ∧ RepL K F xs vs ∧ ((isTup d = false ∧ SqL K H a vs) ∨ (isTup d = true ∧ SqT K H a vs)) := by
  cases r with
  | lst h q => cases e; exact ⟨_, _, rfl, q, .inl ⟨rfl, SqL.of (R.sub _ _ h)⟩⟩
  | rol h q => cases e; exact ⟨_, _, rfl, q, .inl ⟨rfl, R.ext.sqL h⟩⟩
  | tup h q => cases e; exact ⟨_, _, rfl, q, .inr ⟨rfl, R.ext.sqT h⟩⟩
  | ref a =>
    unfold seqD at e
    simp only at e
    split at e
    · rename_i ys hy
      cases e
      obtain ⟨_, o, h, q⟩ := R.mus a _ hy
      cases q with
      | lst q => exact ⟨a, _, rfl, q, .inl ⟨rfl, SqL.of h⟩⟩
    · cases e
  | _ => cases e
theorem HReal.seq' (R : HReal K F H μ) (r : RepS K F d v) (e : seqD μ d = some xs) : ∃ a vs, v = .ref a ∧ RepL K F xs vs ∧ (SqL K H a vs ∨ SqT K H a vs) := by
  obtain ⟨a, vs, h1, h2, h3⟩ := R.seq r e
  exact ⟨a, vs, h1, h2, h3.imp And.right And.right⟩
end

/-! ### while -/
def dWhile (c : DTT) (tb : DTS) : DTS := fun D ρ μ => ∃ W : Nat → Rho → Mu → Prop, (∃ m, W m ρ μ) ∧ ∀ m ρ μ, W m ρ μ →
  c ρ μ fun b μ1 => if b = true then ∃ N : Rho → Mu → Prop, (∀ ρ' μ', N ρ' μ' → ∃ m', m' < m ∧ W m' ρ' μ') ∧ tb { D with nx := N, ct := N, bk := D.nx } ρ μ1 else D.nx ρ μ1
section
variable {X : Cx} {pos p : Pos} {a b c e o iter tg : Expr} {es : List Expr} {x : Str} {st : Stmt} {rest body : List Stmt}
theorem ds_while {tc : DTT} {tb : DTS} (hp : PassesOwn (model X.prog X.w) X.A X.env X.xe) (hc : DT X c tc) (hb : DSs X body tb) : DS_ X (.While c body [] pos) (dWhile tc tb) := weakS (ps_while hp hc hb) fun D σ H h => by
  obtain ⟨F0, ρ0, μ0, D', R0, S0, ⟨W, ⟨m0, w0⟩, turn⟩, k, k2, k3, k4⟩ := h
  refine ⟨fun m σ1 H1 => ∃ F ρ μ, Stp F0 H μ0 F H1 μ ∧ HReal X.K F H1 μ ∧ Slots X.K F σ1 ρ ∧ W m ρ μ, ⟨m0, F0, ρ0, μ0, Stp.refl _ _ _, R0, S0, w0⟩, ?_⟩
  rintro m σ1 H1 ⟨F, ρ, μ, s, R, S, w⟩
  refine ⟨F, ρ, μ, _, R, S, turn m ρ μ w, fun b μ1 t1 F1 H2 s1 R1 => ?_⟩
  cases b with
  | false => exact k ρ μ1 t1 F1 H2 σ1 (s.trans s1) R1 (S.mono s1.ext)
  | true =>
    obtain ⟨N, hN, t2⟩ := (show ∃ N : Rho → Mu → Prop, _ from t1)
    refine ⟨fun σ' H' => ∃ F ρ μ, Stp F0 H μ0 F H' μ ∧ HReal X.K F H' μ ∧ Slots X.K F σ' ρ ∧ N ρ μ, ?_, ?_⟩
    · rintro σ' H' ⟨F', ρ', μ', s', R', S', n⟩
      obtain ⟨m', hm, w'⟩ := hN ρ' μ' n
      exact ⟨m', hm, F', ρ', μ', s', R', S', w'⟩
    · refine ⟨F1, ρ, μ1, _, R1, S.mono s1.ext, t2, ?_, ?_, ?_, ?_⟩
      · exact fun ρ' μ' q F' H' σ' s' R' S' => ⟨F', ρ', μ', (s.trans s1).trans s', R', S', q⟩
      · exact fun d μ' q F' H' v s' R' r' => k2 d μ' q F' H' v ((s.trans s1).trans s') R' r'
      · exact fun ρ' μ' q F' H' σ' s' R' S' => k ρ' μ' q F' H' σ' ((s.trans s1).trans s') R' S'
      · exact fun ρ' μ' q F' H' σ' s' R' S' => ⟨F', ρ', μ', (s.trans s1).trans s', R', S', q⟩

/-! ### what is walked -/
structure Src (K : PySem.W.Frag) (F0 H0 : Hp) (μ0 : Mu) (J : It) (ds : List SD) (ok : Mu → Prop) : Prop where
  go : ∀ (i : Nat) (F H : Hp) (μ : Mu), Stp F0 H0 μ0 F H μ → HReal K F H μ → ok μ → i < ds.length → J.go i H
  stop : ∀ (F H : Hp) (μ : Mu), Stp F0 H0 μ0 F H μ → HReal K F H μ → ok μ → J.stop ds.length H
  yld : ∀ (i : Nat) (F H : Hp) (μ : Mu) (x : V) (H' : Hp), Stp F0 H0 μ0 F H μ → HReal K F H μ → ok μ → J.yld i H x H' → ∀ d, ds[i]? = some d → ∃ F', Stp F H μ F' H' μ ∧ HReal K F' H' μ ∧ RepS K F' d x
abbrev DTI := Rho → Mu → (List SD → (Mu → Prop) → Mu → Prop) → Prop
def LI (K : PySem.W.Frag) (t : DTI) : TI := fun σ H R => ∃ F ρ μ Q', HReal K F H μ ∧ Slots K F σ ρ ∧ t ρ μ Q' ∧
  ∀ ds ok μ', Q' ds ok μ' → ∀ F' H' J, Stp F H μ F' H' μ' → HReal K F' H' μ' → Src K F' H' μ' J ds ok → R J H'
abbrev DI (X : Cx) (tg iter : Expr) (t : DTI) : Prop := PI X tg iter (LI X.K t)
theorem weakI {t t' : TI} (h : PI X tg iter t) (w : ∀ σ H R, t' σ H R → t σ H R) : PI X tg iter t' := ⟨fun pins s σ H R I q => h.run pins s σ H R I (w σ H R q)⟩

theorem src_list {K : PySem.W.Frag} {F0 H0 : Hp} {μ0 : Mu} {a : Addr} {ds : List SD} {ok : Mu → Prop} (h : ∀ (F H : Hp) (μ : Mu), Stp F0 H0 μ0 F H μ → HReal K F H μ → ok μ → ∃ vs, SqL K H a vs ∧ RepL K F ds vs) : Src K F0 H0 μ0 (Itl K a) ds ok where
  go := fun i F H μ e R k hi => by
    obtain ⟨vs, h1, h2⟩ := h F H μ e R k
    exact ⟨vs, vs[i]'(by rw [← h2.length]; exact hi), h1, List.getElem?_eq_getElem _⟩
  stop := fun F H μ e R k => by
    obtain ⟨vs, h1, h2⟩ := h F H μ e R k
    exact ⟨vs, h1, by rw [h2.length]; exact Nat.le_refl _⟩
  yld := fun i F H μ x H' e R k y d hd => by
    obtain ⟨vs, h1, h2⟩ := h F H μ e R k
    obtain ⟨rfl, y⟩ := y
    obtain ⟨v, h3, h4⟩ := h2.get hd
    have := y vs h1
    rw [h3] at this; cases this
    exact ⟨F, Stp.refl _ _ _, R, h4⟩
theorem src_tup {K : PySem.W.Frag} {F0 H0 : Hp} {μ0 : Mu} {a : Addr} {ds : List SD} {ok : Mu → Prop} (h : ∀ (F H : Hp) (μ : Mu), Stp F0 H0 μ0 F H μ → HReal K F H μ → ok μ → ∃ vs, SqT K H a vs ∧ RepL K F ds vs) : Src K F0 H0 μ0 (Itt K a) ds ok where
  go := fun i F H μ e R k hi => by
    obtain ⟨vs, h1, h2⟩ := h F H μ e R k
    exact ⟨vs, vs[i]'(by rw [← h2.length]; exact hi), h1, List.getElem?_eq_getElem _⟩
  stop := fun F H μ e R k => by
    obtain ⟨vs, h1, h2⟩ := h F H μ e R k
    exact ⟨vs, h1, by rw [h2.length]; exact Nat.le_refl _⟩
  yld := fun i F H μ x H' e R k y d hd => by
    obtain ⟨vs, h1, h2⟩ := h F H μ e R k
    obtain ⟨rfl, y⟩ := y
    obtain ⟨v, h3, h4⟩ := h2.get hd
    have := y vs h1
    rw [h3] at this; cases this
    exact ⟨F, Stp.refl _ _ _, R, h4⟩
/-- list, tuple or text, whichever it is -/
def iSeq (K : PySem.W.Frag) (tl : TE) : TI := fun σ H R => tl σ H fun x H1 => (∃ a, x = .ref a ∧ (∃ xs, SqL K H1 a xs) ∧ R (Itl K a) H1) ∨ (∃ a, x = .ref a ∧ (∃ xs, SqT K H1 a xs) ∧ R (Itt K a) H1) ∨ ∃ y, x = .str y ∧ R (Its y) H1
theorem pi_seq {l : Expr} {tl : TE} (hl : PE X l tl) : PI X tg l (iSeq X.K tl) := by
  refine ⟨fun pins s σ H R I h => ?_⟩
  refine thn (hl.run pins s σ H _ I h) fun v s1 ⟨x, H1, I1, r1, q1⟩ => ?_
  rcases q1 with ⟨a, e, ⟨xs, hq⟩, q⟩ | ⟨a, e, ⟨xs, hq⟩, q⟩ | ⟨y, e, q⟩
  · subst e
    cases r1
    obtain ⟨its, rv, p, hz⟩ := I1.list hq
    refine wpAny_pyIter_list p.isList ?_
    refine ⟨s1.heap.objs.size, [s1.heap.objs.size], _, _, H1, rfl, I1.kept (t' := s1.toks) fun b o e => Heap.get?_push_of_some _ e, turn_list a _, ⟨_, Heap.get?_push_size _ rfl, rfl, rfl⟩, fun b hb => ?_, q⟩
    have e : b = s1.heap.objs.size := by simpa using hb
    subst e
    exact I1.fpOk (Nat.le_refl _) (I1.hok.fresh (Nat.le_refl _))
  · subst e
    cases r1
    obtain ⟨its, rv, p, hz⟩ := I1.tuple hq
    refine wpAny_pyIter_tuple (show s1.heap.IsTuple a its.toArray from p) ?_
    refine ⟨s1.heap.objs.size, [s1.heap.objs.size], _, _, H1, rfl, I1.kept (t' := s1.toks) fun b o e => Heap.get?_push_of_some _ e, turn_tuple a _, ⟨_, Heap.get?_push_size _ rfl, rfl, rfl⟩, fun b hb => ?_, q⟩
    have e : b = s1.heap.objs.size := by simpa using hb
    subst e
    exact I1.fpOk (Nat.le_refl _) (I1.hok.fresh (Nat.le_refl _))
  · subst e
    obtain ⟨t, rfl⟩ := r1
    cases ha : y.cps.all (· < 128)
    · exact wpAny_pyIter_wide ha (pi_one (tk := s1.toks) I1 _ (turn_str _ y t "str_iterator" (.inr rfl)) ⟨_, Heap.get?_push_size _ rfl, rfl, rfl⟩ q)
    · exact wpAny_pyIter_ascii ha (pi_one (tk := s1.toks) I1 _ (turn_str _ y t "str_ascii_iterator" (.inl rfl)) ⟨_, Heap.get?_push_size _ rfl, rfl, rfl⟩ q)
def chars (y : Str) : List SD := y.cps.toList.map fun c => .str ⟨#[c]⟩
abbrev jSeq (t : DTE) : DTI := fun ρ μ Q => t ρ μ fun d μ1 => match d with
  | .str y => Q (chars y) (fun _ => True) μ1
  | d => match seqD μ1 d with
    | some xs => Q xs (fun μ' => seqD μ' d = some xs) μ1
    | none => False
theorem src_seq {K : PySem.W.Frag} {F H : Hp} {μ : Mu} {d : SD} {v : V} {xs : List SD} (R : HReal K F H μ) (r : RepS K F d v) (e : seqD μ d = some xs) :
    ∃ a, v = .ref a ∧ ((∃ vs, SqL K H a vs) ∧ Src K F H μ (Itl K a) xs (fun μ' => seqD μ' d = some xs) ∨ (∃ vs, SqT K H a vs) ∧ Src K F H μ (Itt K a) xs (fun μ' => seqD μ' d = some xs)) := by
  obtain ⟨a, vs, h1, h2, h3⟩ := R.seq r e
  refine ⟨a, h1, ?_⟩
  subst h1
  rcases h3 with ⟨z, h3⟩ | ⟨z, h3⟩
  · refine .inl ⟨⟨vs, h3⟩, src_list fun F' H' μ' ex R' k => ?_⟩
    obtain ⟨b, ws, q1, q2, q3⟩ := R'.seq (r.mono ex.ext) k
    cases q1
    rcases q3 with ⟨_, q3⟩ | ⟨q, _⟩
    · exact ⟨ws, q3, q2⟩
    · rw [z] at q; cases q
  · refine .inr ⟨⟨vs, h3⟩, src_tup fun F' H' μ' ex R' k => ?_⟩
    obtain ⟨b, ws, q1, q2, q3⟩ := R'.seq (r.mono ex.ext) k
    cases q1
    rcases q3 with ⟨q, _⟩ | ⟨_, q3⟩
    · rw [z] at q; cases q
    · exact ⟨ws, q3, q2⟩
theorem src_str {K : PySem.W.Frag} {F H0 : Hp} {μ0 : Mu} (y : Str) : Src K F H0 μ0 (Its y) (chars y) fun _ => True where
  go := fun i F H μ e R k hi => by
    show i < y.cps.size
    simpa [chars] using hi
  stop := fun F H μ e R k => by
    show y.cps.size ≤ (chars y).length
    simp [chars]
  yld := fun i F H μ x H' e R k yy d hd => by
    obtain ⟨rfl, c, h1, rfl⟩ := yy
    have : (chars y)[i]? = some (.str ⟨#[c]⟩) := by simp [chars, h1]
    rw [this] at hd; cases hd
    exact ⟨F, Stp.refl _ _ _, R, .str _⟩
theorem di_seq {l : Expr} {tl : DTE} (hl : DE X l tl) : DI X tg l (jSeq tl) := weakI (pi_seq hl) fun σ H R h => by
  obtain ⟨F, ρ, μ, Q', R0, S, t, k⟩ := h
  refine ⟨F, ρ, μ, _, R0, S, t, fun d μ1 t1 F1 H1 v s1 R1 r1 => ?_⟩
  have seqCase : ∀ xs, seqD μ1 d = some xs → Q' xs (fun μ' => seqD μ' d = some xs) μ1 → ((∃ a, v = .ref a ∧ (∃ xs, SqL X.K H1 a xs) ∧ R (Itl X.K a) H1) ∨ (∃ a, v = .ref a ∧ (∃ xs, SqT X.K H1 a xs) ∧ R (Itt X.K a) H1) ∨ ∃ y, v = .str y ∧ R (Its y) H1) := fun xs e q => by
    obtain ⟨a, e1, h | h⟩ := src_seq R1 r1 e
    · exact .inl ⟨a, e1, h.1, k _ _ _ q F1 H1 _ s1 R1 h.2⟩
    · exact .inr (.inl ⟨a, e1, h.1, k _ _ _ q F1 H1 _ s1 R1 h.2⟩)
  cases r1 with
  | str y => exact .inr (.inr ⟨y, rfl, k _ _ _ t1 F1 H1 _ s1 R1 (src_str y)⟩)
  | lst h q => exact seqCase _ rfl t1
  | tup h q => exact seqCase _ rfl t1
  | rol h q => exact seqCase _ rfl t1
  | ref b =>
    simp only at t1
    cases e : seqD μ1 (.ref b) with
    | none => rw [e] at t1; exact t1.elim
    | some xs => rw [e] at t1; exact seqCase xs e t1
  | _ => exact t1.elim
abbrev jRng1 (ta : DTA) : DTI := fun ρ μ Q => ta ρ μ fun vs μ1 => match vs with
  | [.int j] => (-(2 ^ 62) ≤ j ∧ j < 2 ^ 62) ∧ Q ((List.range j.toNat).map fun i => .int (i : Nat)) (fun _ => True) μ1
  | _ => False
theorem src_rng {K : PySem.W.Frag} {F H0 : Hp} {μ0 : Mu} (lo : Int) (n : Nat) : Src K F H0 μ0 (Itr lo n) ((List.range n).map fun i => .int (lo + (i : Nat))) fun _ => True where
  go := fun i F H μ e R k hi => by
    show i < n
    simpa using hi
  stop := fun F H μ e R k => by
    show n ≤ _
    simp
  yld := fun i F H μ x H' e R k yy d hd => by
    obtain ⟨rfl, rfl⟩ := yy
    rw [List.getElem?_map] at hd
    by_cases hi : i < n
    · rw [List.getElem?_range hi] at hd
      cases hd
      exact ⟨F, Stp.refl _ _ _, R, .int _⟩
    · rw [List.getElem?_eq_none (by simpa using Nat.le_of_not_lt hi)] at hd; cases hd
theorem di_range1 {ta : DTA} (hg : Gl X "range") (hm : X.mg "range" = none) (ha : DA X [a] ta) (hs : starEach [a] X.env = [(false, eval a X.env)] := by rfl) : DI X tg (.Call (.Name "range" p) [a] [] pos) (jRng1 ta) := weakI (pi_range1 hg hm ha hs) fun σ H R h => by
  obtain ⟨F, ρ, μ, Q', R0, S, t, k⟩ := h
  refine ⟨F, ρ, μ, _, R0, S, t, fun ds μ1 t1 F1 H1 vs s1 R1 r1 => ?_⟩
  cases r1 with
  | nil => exact t1.elim
  | cons r1 r2 => cases r2 with
    | cons _ _ => cases r1 <;> exact t1.elim
    | nil => cases r1 with
      | int j =>
        refine ⟨j, rfl, t1.1.1, t1.1.2, ?_⟩
        have hS := src_rng (K := X.K) (F := F1) (H0 := H1) (μ0 := μ1) 0 j.toNat
        simp only [Int.zero_add] at hS
        exact k _ _ _ t1.2 F1 H1 _ s1 R1 hS
      | _ => exact t1.elim
abbrev jRng2 (ta : DTA) : DTI := fun ρ μ Q => ta ρ μ fun vs μ1 => match vs with
  | [.int i, .int j] => (-(2 ^ 62) ≤ i ∧ i < 2 ^ 62 ∧ -(2 ^ 62) ≤ j ∧ j < 2 ^ 62) ∧ Q ((List.range (j - i).toNat).map fun k => .int (i + (k : Nat))) (fun _ => True) μ1
  | _ => False
theorem di_range2 {ta : DTA} (hg : Gl X "range") (hm : X.mg "range" = none) (ha : DA X [a, b] ta) (hs : starEach [a, b] X.env = [(false, eval a X.env), (false, eval b X.env)] := by rfl) (hs2 : starEach [b] X.env = [(false, eval b X.env)] := by rfl) : DI X tg (.Call (.Name "range" p) [a, b] [] pos) (jRng2 ta) := weakI (pi_range2 hg hm ha hs hs2) fun σ H R h => by
  obtain ⟨F, ρ, μ, Q', R0, S, t, k⟩ := h
  refine ⟨F, ρ, μ, _, R0, S, t, fun ds μ1 t1 F1 H1 vs s1 R1 r1 => ?_⟩
  cases r1 with
  | nil => exact t1.elim
  | cons r1 r2 => cases r2 with
    | nil => cases r1 <;> exact t1.elim
    | cons r2 r3 => cases r3 with
      | cons _ _ => cases r1 <;> cases r2 <;> exact t1.elim
      | nil => cases r1 with
        | int i => cases r2 with
          | int j => exact ⟨i, j, rfl, t1.1, k _ _ _ t1.2 F1 H1 _ s1 R1 (src_rng _ _)⟩
          | _ => exact t1.elim
        | _ => cases r2 <;> exact t1.elim
def enums (xs : List SD) : List SD := xs.mapIdx fun i d => .tup [.int (i : Nat), d]
/-- enumerate of a list -/
abbrev jEnum (ta : DTA) : DTI := fun ρ μ Q => ta ρ μ fun vs μ1 => match vs with
  | [d] => isTup d = false ∧ match seqD μ1 d with
    | some xs => Q (enums xs) (fun μ' => seqD μ' d = some xs) μ1
    | none => False
  | _ => False
theorem src_enum {K : PySem.W.Frag} {F0 H0 : Hp} {μ0 : Mu} {a : Addr} {ds : List SD} {ok : Mu → Prop} (h : ∀ (F H : Hp) (μ : Mu), Stp F0 H0 μ0 F H μ → HReal K F H μ → ok μ → ∃ vs, SqL K H a vs ∧ RepL K F ds vs) : Src K F0 H0 μ0 (Ite K a) (enums ds) ok where
  go := fun i F H μ e R k hi => by
    obtain ⟨vs, h1, h2⟩ := h F H μ e R k
    have : i < vs.length := by rw [← h2.length]; simpa [enums] using hi
    exact ⟨vs, vs[i], h1, List.getElem?_eq_getElem _⟩
  stop := fun F H μ e R k => by
    obtain ⟨vs, h1, h2⟩ := h F H μ e R k
    exact ⟨vs, h1, by rw [← h2.length]; simp [enums]⟩
  yld := fun i F H μ x H' e R k y d hd => by
    obtain ⟨vs, h1, h2⟩ := h F H μ e R k
    obtain ⟨T, z, rfl, hT, rfl, y⟩ := y
    have hz := y vs h1
    obtain ⟨d', h3, h4⟩ := h2.getV hz
    have : (enums ds)[i]? = some (.tup [.int (i : Nat), d']) := by simp [enums, h3]
    rw [this] at hd; cases hd
    have ex : Ext F (upd F T (.tup [.int (i : Nat), z])) := Ext.new (R.freeF hT)
    exact ⟨_, Stp.newS R hT, R.newS hT, .tup (.inl (.inl upd_same)) (.cons (.int _) (.one (h4.mono ex)))⟩
theorem di_enum {ta : DTA} {elts : List Expr} {kk : Nat} {tpos : Pos} (hg : Gl X "enumerate") (hm : X.mg "enumerate" = none) (ha : DA X [e] ta) (hs : starEach [e] X.env = [(false, eval e X.env)] := by rfl) : DI X (.Tuple elts kk tpos) (.Call (.Name "enumerate" p) [e] [] pos) (jEnum ta) := weakI (pi_enum hg hm ha hs) fun σ H R h => by
  obtain ⟨F, ρ, μ, Q', R0, S, t, k⟩ := h
  refine ⟨F, ρ, μ, _, R0, S, t, fun ds μ1 t1 F1 H1 vs s1 R1 r1 => ?_⟩
  cases r1 with
  | nil => exact t1.elim
  | cons r1 r2 => cases r2 with
    | cons _ _ => exact t1.elim
    | nil =>
      rename_i d v
      obtain ⟨tt, t1⟩ := (show isTup d = false ∧ _ from t1)
      cases e : seqD μ1 d with
      | none => rw [e] at t1; exact t1.elim
      | some xs =>
        rw [e] at t1
        obtain ⟨a, ws, q1, q2, q3⟩ := R1.seq r1 e
        subst q1
        rcases q3 with ⟨_, q3⟩ | ⟨q, _⟩
        · refine ⟨a, ws, rfl, q3, k _ _ _ t1 F1 H1 _ s1 R1 (src_enum fun F' H' μ' ex R' kk => ?_)⟩
          obtain ⟨b, ys, p1, p2, p3⟩ := R'.seq (r1.mono ex.ext) kk
          cases p1
          rcases p3 with ⟨_, p3⟩ | ⟨p, _⟩
          · exact ⟨ys, p3, p2⟩
          · rw [tt] at p; cases p
        · rw [tt] at q; cases q
/-- zip of two lists or two tuples -/
def zips (xs ys : List SD) : List SD := List.zipWith (fun x y => SD.tup [x, y]) xs ys
def jZip (ta : DTA) : DTI := fun ρ μ Q => ta ρ μ fun vs μ1 => match vs with
  | [d, f] => isTup d = isTup f ∧ match seqD μ1 d, seqD μ1 f with
    | some xs, some ys => Q (zips xs ys) (fun μ' => seqD μ' d = some xs ∧ seqD μ' f = some ys) μ1
    | _, _ => False
  | _ => False

/-! ### for -/
def dFor (wi : DTI) (g : DTG) (tb : DTS) : DTS := fun D ρ μ => wi ρ μ fun ds ok μ1 => ∃ W : Nat → Rho → Mu → Prop, W 0 ρ μ1 ∧ (∀ i ρ μ, i ≤ ds.length → W i ρ μ → ok μ) ∧
  (∀ i d ρ μ, ds[i]? = some d → W i ρ μ → g d ρ μ fun ρ2 μ2 => tb { D with nx := W (i + 1), ct := W (i + 1), bk := D.nx } ρ2 μ2) ∧ ∀ ρ μ, W ds.length ρ μ → D.nx ρ μ
theorem ds_for {wi : DTI} {g : DTG} {tb : DTS} (hp : PassesOwn (model X.prog X.w) X.A X.env X.xe) (hc : X.calm = true) (hi : DI X tg iter wi) (hg : DG X tg g) (hb : DSs X body tb)
    (hs : ∀ x, foldedSetIterable iter X.env x = pure x := by intro _; rfl) : DS_ X (.For tg iter body [] pos) (dFor wi g tb) := weakS (ps_for hp hc hi hg hb hs) fun D σ H h => by
  obtain ⟨F0, ρ0, μ0, D', R0, S0, t, k, k2, k3, k4⟩ := h
  refine ⟨F0, ρ0, μ0, _, R0, S0, t, fun ds ok μ1 t1 F1 H1 J s1 R1 src => ?_⟩
  obtain ⟨W, w0, hok, turn, fin⟩ := t1
  refine ⟨fun i m σ' H' => i + m = ds.length ∧ ∃ F ρ μ, Stp F1 H1 μ1 F H' μ ∧ HReal X.K F H' μ ∧ Slots X.K F σ' ρ ∧ W i ρ μ, ⟨ds.length, by omega, F1, ρ0, μ1, Stp.refl _ _ _, R1, S0.mono s1.ext, w0⟩, ?_⟩
  rintro i m σ' H' ⟨him, F, ρ, μ, s, R, S, w⟩
  have hle : i ≤ ds.length := by omega
  by_cases hi : i < ds.length
  · refine .inr ⟨src.go i F H' μ s R (hok i ρ μ hle w) hi, fun σ2 H2 => ∃ F ρ μ, Stp F1 H1 μ1 F H2 μ ∧ HReal X.K F H2 μ ∧ Slots X.K F σ2 ρ ∧ W (i + 1) ρ μ, ?_, ?_⟩
    · rintro σ2 H2 ⟨F', ρ', μ', s', R', S', w'⟩
      exact ⟨ds.length - (i + 1), by omega, by omega, F', ρ', μ', s', R', S', w'⟩
    · intro x H2 y
      obtain ⟨F', s', R', r'⟩ := src.yld i F H' μ x H2 s R (hok i ρ μ hle w) y _ (List.getElem?_eq_getElem hi)
      refine ⟨F', ρ, μ, _, _, R', S.mono s'.ext, r', turn i _ ρ μ (List.getElem?_eq_getElem hi) w, fun ρ2 μ2 t2 F2 H3 σ2 s2 R2 S2 => ?_⟩
      refine ⟨F2, ρ2, μ2, _, R2, S2, t2, ?_, ?_, ?_, ?_⟩
      · exact fun ρ' μ' q F'' H'' σ'' s'' R'' S'' => ⟨F'', ρ', μ', ((s.trans s').trans s2).trans s'', R'', S'', q⟩
      · exact fun d μ' q F'' H'' v s'' R'' r'' => k2 d μ' q F'' H'' v (s1.trans (((s.trans s').trans s2).trans s'')) R'' r''
      · exact fun ρ' μ' q F'' H'' σ'' s'' R'' S'' => k ρ' μ' q F'' H'' σ'' (s1.trans (((s.trans s').trans s2).trans s'')) R'' S''
      · exact fun ρ' μ' q F'' H'' σ'' s'' R'' S'' => ⟨F'', ρ', μ', ((s.trans s').trans s2).trans s'', R'', S'', q⟩
  · have e : i = ds.length := by omega
    subst e
    exact .inl ⟨src.stop F H' μ s R (hok _ ρ μ hle w), k ρ μ (fin ρ μ w) F H' σ' (s1.trans s) R S⟩

/-! ### list comprehensions -/
def wipeR (ρ : Rho) : List Nat → Rho
  | [] => ρ
  | v :: vs => (wipeR ρ vs).set v none
theorem Slots.setN {K : PySem.W.Frag} {F : Hp} {σ : L2.St} {ρ : Rho} (h : Slots K F σ ρ) (i : Nat) : Slots K F (σ.set i none) (ρ.set i none) := by
  refine ⟨by simp [h.len], fun j e q => ?_⟩
  by_cases hj : j = i
  · subst hj
    by_cases hl : j < ρ.length
    · rw [List.getElem?_set_self hl] at q; cases q
    · rw [List.getElem?_eq_none (by simpa using Nat.le_of_not_lt hl)] at q; cases q
  · rw [List.getElem?_set_ne (Ne.symm hj)] at q ⊢
    exact h.at_ j e q
theorem Slots.wipe {K : PySem.W.Frag} {F : Hp} {σ : L2.St} {ρ : Rho} (h : Slots K F σ ρ) : ∀ vs : List Nat, Slots K F (wipe σ vs) (wipeR ρ vs)
  | [] => h
  | v :: vs => (Slots.wipe h vs).setN v
/-- setting own slots only -/
def Own (σ σ2 : L2.St) (vs : List Nat) : Prop := wipe σ2 vs = wipe σ vs
theorem wipe_set (σ : L2.St) (v : Option V) : ∀ {vs : List Nat} {i : Nat}, i ∈ vs → wipe (σ.set i v) vs = wipe σ vs
  | w :: vs, i, h => by
    by_cases e : i ∈ vs
    · show (wipe (σ.set i v) vs).set w none = (wipe σ vs).set w none
      rw [wipe_set σ v e]
    · have e2 : i = w := by
        rcases List.mem_cons.mp h with z | z
        · exact z
        · exact absurd z e
      subst e2
      show (wipe (σ.set i v) vs).set i none = (wipe σ vs).set i none
      have : ∀ ws : List Nat, i ∉ ws → wipe (σ.set i v) ws = (wipe σ ws).set i v := by
        intro ws
        induction ws with
        | nil => intro _; rfl
        | cons a r ih =>
          intro hn
          have ha : i ≠ a := fun z => hn (by rw [z]; exact List.mem_cons_self)
          show (wipe (σ.set i v) r).set a none = ((wipe σ r).set a none).set i v
          rw [ih (fun z => hn (List.mem_cons_of_mem _ z)), List.set_comm _ _ ha]
      rw [this vs e, List.set_set]
end
end DS
/-! DS3: defs that are known to run while nothing is being shown or compared (so that repr may be asked), their calls; list comprehensions. -/
namespace DS
open PySem PySem.Spec PyProof.Rows L2

/-- nothing that guards itself against going round runs -/
abbrev Quiet (A : Around) : Prop := A.guards = some []
/-- a def's promise, asked only where it is quiet -/
structure FnG (P : Program) (w : World) (K : PySem.W.Frag) (mg : Str → Option Value) (base : Heap) (CX : CXT) (k : Nat) (f : Addr) (fd : FuncData) (ps : List Str) (sp : Sp) : Prop where
  len : ∀ vs H Q E, sp vs H Q E → vs.length = ps.length
  go : ∀ (A : Around) (outer : List Env) (s : Shared) (H : Hp) (args : Args) (us : List Value) (vs : List V) (Q : VK) (E : XK), Quiet A → Room k A → Env0 P w K mg base A outer s H → BindsTo s fd args (ps.zip us) → Vals vs us → sp vs H Q E →
    codeAny (model P w) A (.call (.ref f) args) (CR CX outer P w H s Q E) s
section
variable {P : Program} {w : World} {K : PySem.W.Frag} {mg : Str → Option Value} {base : Heap} {CX : CXT} {j k : Nat} {f C : Addr} {fd : FuncData} {ps : List Str} {sp : Sp}
theorem FnG.of (F : FnOk P w K mg base CX k f fd ps sp) : FnG P w K mg base CX k f fd ps sp := ⟨F.len, fun A outer s H args us vs Q E _ => F.run A outer s H args us vs Q E⟩
theorem FnG.mono (F : FnG P w K mg base CX j f fd ps sp) (h : j ≤ k) : FnG P w K mg base CX k f fd ps sp := ⟨F.len, fun A outer s H args us vs Q E g r => F.go A outer s H args us vs Q E g (r.mono h)⟩
theorem FnG.imp {sp' : Sp} (F : FnG P w K mg base CX k f fd ps sp) (h : ∀ vs H Q E, sp' vs H Q E → sp vs H Q E) : FnG P w K mg base CX k f fd ps sp' :=
  ⟨fun vs H Q E q => F.len vs H Q E (h vs H Q E q), fun A outer s H args us vs Q E g r e b v q => F.go A outer s H args us vs Q E g r e b v (h vs H Q E q)⟩
/-- a promise that holds nowhere costs nothing: for induction on levels -/
theorem FnG.no (f : Addr) (fd : FuncData) (ps : List Str) : FnG P w K mg base CX k f fd ps (fun _ _ _ _ => False) := ⟨fun _ _ _ _ h => False.elim h, fun _ _ _ _ _ _ _ _ _ _ _ _ _ _ h => False.elim h⟩
end
theorem quiet_deeper {A : Around} (h : Quiet A) (env : Env) : Quiet (A.deeper env) := h
theorem quiet_make {A : Around} (h : Quiet A) (C : Addr) (us : List Value) (kw : List (Str × Value)) : Quiet (A.under (.builtin "type.__call__" ⟨.ref C :: us, kw⟩)) := by
  have e : (Code.builtin "type.__call__" ⟨.ref C :: us, kw⟩).guards = [] := by
    unfold Code.guards
    rw [if_neg]
    simp [Code.isGuard, guardIds]
  show pushGuards (Code.builtin "type.__call__" ⟨.ref C :: us, kw⟩).guards A.guards = some []
  rw [e]
  exact h

section
variable {CX : CXT} {P : Program} {w : World} {K : PySem.W.Frag} {mg : Str → Option Value} {base : Heap}
/-- the def's body, walked where it is quiet -/
theorem fnG_of {k : Nat} {f : Addr} {name qual : Str} {params : Arguments} {body : List Stmt} {scope : Scope} {dV kV doc pm cdv ct oc : Value} {an od : Option Addr} {osl : Array (Option Value)} {N ps : List Str} {sp : Sp}
    (lk : K.lookup f = some ⟨oc, od, .func (PySem.W.fnOf name qual params body scope dV kV doc pm an cdv ct), osl⟩) (hcd : PySem.W.codeIn K cdv qual = true) (S : FnScope N ps scope) (len : ∀ vs H Q E, sp vs H Q E → vs.length = ps.length)
    (walk : ∀ (A : Around) (outer : List Env) (s : Shared) (H : Hp) (vs : List V) (Q : VK) (E : XK), Quiet A → Room k (A.deeper (envOfC qual scope s.heap.objs.size f cdv)) → sp vs H Q E →
      ∃ t, PSs (cxOf CX P w K mg base N qual scope f cdv A outer s H E) body t ∧ t { nx := fun _ H' => Q .non H', rt := Q } (L2.start N vs) H) :
    FnG P w K mg base CX (k + 1) f (PySem.W.fnOf name qual params body scope dV kV doc pm an cdv ct) ps sp where
  len := len
  go := fun A outer s H args us vs Q E quiet room e0 binds rel want => by
    have count := len vs H Q E want
    have old := fun b o e => (e0.bs b o e).1
    have here : K.In s.heap := e0.mod.kin.keeps old
    have kinds : ∀ y ∈ ps.zip us, scope.names.lookup y.1 = some .local ∨ (scope.names.lookup y.1 = some .cell ∧ ((cellsFrom (s.heap.objs.size + 1) scope.names []).lookup y.1).isSome = true) := by
      rintro ⟨n, v⟩ hy
      exact (S.par n (List.of_mem_zip hy).1).imp id fun z => ⟨z, PySem.W.cellsFrom_some _ _ _ (.inl z)⟩
    refine codeAny_call_function room.depth (here _ _ lk) rfl S.co S.gen rfl (PySem.W.codeRec_of here hcd) (binds _ _ _ _ ?_)
    refine wpAny_newFunctionEnv_cells S.kind kinds fun env he s1 within => ?_
    subst he
    refine ⟨(e0.mod.nolimit.keeps old).keeps within.toInCall.keep, codeAny_func ?_⟩
    obtain ⟨t, walked, read⟩ := walk A outer s H vs Q E quiet (room.deeper _) want
    have I := inv_start (CX := CX) (E := E) S room.hd e0 count rel within
    refine wpAny_mono (walked.run [] s1 (start N vs) H _ I read) (fun out s' got => ?_) fun _ _ z => z
    have done : ∀ {σ' : L2.St} {H' : Hp} {v : V} {u : Value}, Inv (cxOf CX P w K mg base N qual scope f cdv A outer s H E) [] σ' H' s' → RelV v u → Q v H' → CE outer P w H s Q u s' :=
      fun {_ H' v _} J rv q => ⟨v, H', J.os, J.bare, J.base, J.hok, rv, q⟩
    match out, got with
    | .ret u, ⟨v, _, _, J, rv, q⟩ => exact done J rv q
    | .next, ⟨_, _, J, q⟩ => exact done (v := V.non) (u := Value.none) J rfl q
    | .brk, ⟨_, _, _, q⟩ => exact False.elim q
    | .cont, ⟨_, _, _, q⟩ => exact False.elim q
end

section
variable {X : Cx} {CX : CXT} {k : Nat} {f C : Addr} {fd : FuncData} {ps ks : List Str} {sp : Sp} {dvs : List V} {ds : List Value} {E : XK} {x m : Str} {p pos apos : Pos} {e o : Expr} {es : List Expr} {kws : List Keyword} {ta : TE} {t tk : TA}
def GEnd (X : Cx) (pins : List (Addr × Obj)) (σ : L2.St) (Q : VK) : Result → Shared → Prop
  | .ok (.ret u), s' => EP X pins σ Q u s'
  | .ok _, _ => False
  | .error u, s' => X.xe u s'
theorem run_g {pins : List (Addr × Obj)} {σ : L2.St} {H : Hp} {s : Shared} {Q : VK} {us : List Value} {vs : List V} {args : Args} (F : FnG X.prog X.w X.K X.mg X.base CX k f fd ps sp) (hq : Quiet X.A) (hr : Room k X.A) (hx : Passes CX X E)
    (I : Inv X pins σ H s) (hb : BindsTo s fd args (ps.zip us)) (r : Vals vs us) (h : sp vs H Q E) : codeAny (model X.prog X.w) X.A (.call (.ref f) args) (GEnd X pins σ Q) s := by
  refine codeAny_mono (F.go X.A X.stack s H args us vs Q E hq hr I.env0 hb r h) fun out s' z => ?_
  match out, z with
  | .error u, z => exact hx pins σ H s u s' I z
  | .ok (.ret u), z => exact I.after z
  | .ok .next, z => exact False.elim z
  | .ok .brk, z => exact False.elim z
  | .ok .cont, z => exact False.elim z
theorem call_g {pins : List (Addr × Obj)} {σ : L2.St} {H : Hp} {s : Shared} {Q : VK} {us : List Value} {vs : List V} (F : FnG X.prog X.w X.K X.mg X.base CX k f fd ps sp) (hq : Quiet X.A) (hr : Room k X.A) (hb : Binds X.K fd ps ds) (hd : Vals dvs ds) (hx : Passes CX X E)
    (I : Inv X pins σ H s) (r : Vals vs us) (h : sp (vs ++ dvs) H Q E) : wpAny (model X.prog X.w) X.A (call (.ref f) us) (EP X pins σ Q) X.xe s := by
  have r2 := r.append hd
  have count : (us ++ ds).length = ps.length := r2.length.symm.trans (F.len _ _ _ _ h)
  refine wpAny_call (codeAny_mono (run_g (args := ⟨us, []⟩) F hq hr hx I (hb s us I.kIn count) r2 h) fun out s' z => ?_)
  match out, z with
  | .error _, z => exact z
  | .ok (.ret _), z => exact z
  | .ok .next, z => exact False.elim z
  | .ok .brk, z => exact False.elim z
  | .ok .cont, z => exact False.elim z
/-- f(e, ..) -/
theorem pe_g (F : FnG X.prog X.w X.K X.mg X.base CX k f fd ps sp) (hq : Quiet X.A) (hr : Room k X.A) (hg : Gl X x) (hm : X.mg x = some (.ref f)) (hk : PySem.W.keepIn X.K (.ref f) = true) (hb : Binds X.K fd ps ds) (hd : Vals dvs ds) (hx : Passes CX X E)
    (ha : PA X (e :: es) t) (hdb : (x == ("__debug__" : Str)) = false := by decide) (he : starEach (e :: es) X.env = (false, eval e X.env) :: starEach es X.env := by rfl) (hpl : (backTo pos (starEach es X.env)).any (·.1) = false := by rfl) :
    PE X (.Call (.Name x p) (e :: es) [] pos) (tCall sp dvs E t) :=
  ⟨fun pins s σ H Q I h => wpAny_Call_Name_kw (ld_glob I hg hm (PySem.W.callWith_K (h₀ := X.base) I.ok.mod.kin hk (thn (ha.run pos pins s σ H _ I h) fun _ _ ⟨_, _, I1, r, q⟩ => ⟨I1.kIn, call_g F hq hr hb hd hx I1 r q⟩) he hpl) hdb)⟩
theorem pe_g0 (F : FnG X.prog X.w X.K X.mg X.base CX k f fd ps sp) (hq : Quiet X.A) (hr : Room k X.A) (hg : Gl X x) (hm : X.mg x = some (.ref f)) (hk : PySem.W.keepIn X.K (.ref f) = true) (hb : Binds X.K fd ps ds) (hd : Vals dvs ds) (hx : Passes CX X E)
    (hdb : (x == ("__debug__" : Str)) = false := by decide) : PE X (.Call (.Name x p) [] [] pos) (tCall sp dvs E tNil) :=
  ⟨fun pins s σ H Q I h => wpAny_Call_Name_kw (ld_glob I hg hm (PySem.W.callWith_K0 I.kIn hk (call_g (us := []) F hq hr hb hd hx I .nil h)) hdb)⟩
/-- f(e, .., k = e, ..); no positional one: es may be empty -/
theorem callk_g {g : List Value → List Value → List Value} {gV : List V → List V → List V} {pins : List (Addr × Obj)} {σ : L2.St} {H : Hp} {s : Shared} {Q : VK} {us ws : List Value} {vs zs : List V} (F : FnG X.prog X.w X.K X.mg X.base CX k f fd ps sp) (hq : Quiet X.A) (hr : Room k X.A)
    (hb : KBinds X.K fd ps ks g gV) (hx : Passes CX X E) (I : Inv X pins σ H s) (r : Vals vs us) (rz : Vals zs ws) (h : sp (gV vs zs) H Q E) : wpAny (model X.prog X.w) X.A (call (.ref f) us (ks.zip ws)) (EP X pins σ Q) X.xe s := by
  have r2 := hb.rel r rz
  have count : (g us ws).length = ps.length := r2.length.symm.trans (F.len _ _ _ _ h)
  refine wpAny_call (codeAny_mono (run_g (args := ⟨us, ks.zip ws⟩) F hq hr hx I (hb.to s us ws I.kIn count) r2 h) fun out s' z => ?_)
  match out, z with
  | .error _, z => exact z
  | .ok (.ret _), z => exact z
  | .ok .next, z => exact False.elim z
  | .ok .brk, z => exact False.elim z
  | .ok .cont, z => exact False.elim z
end

/-! ### the law's own call -/
theorem lawG {P : Program} {w : World} {K : PySem.W.Frag} {mg mb : Str → Option Value} {CX : CXT} {k : Nat} {fa a : Addr} {fd : FuncData} {x : Str} {sp : Sp} {s₁ : Shared} {vs : List Value} {ns : List Int}
    (KX : K.In s₁.heap) (hns : s₁.heap.Ns mainGlobals mg) (hb : s₁.heap.Ns builtinsNs mb) (hbb : ∀ x : Str, x ≠ "__name__" → mb x = bootBuiltins x) (hlim : s₁.heap.NoLimit) (hgens : s₁.gens = #[])
    (script : s₁.heap.get? a = some { cls := .type "list", data := .seq vs.toArray }) (hi : IntsAre vs ns) (hl : ns.length ≤ sizeLine) (hr : Room k callerA)
    (F : ∀ base : Heap, K.In base → base.Ns mainGlobals mg → FnG P w K mg base CX k fa fd [x] sp) (hbind : ∀ (s : Shared) (u : Value), BindsTo s fd ⟨[u], []⟩ [(x, u)])
    (promise : ∀ H : Hp, Only H → SqL K H a (ns.map V.int) → sp [.ref a] H (fun v _ => v = .bl true) fun _ _ _ => False) (quiet : ∀ H e s', CX [] H s₁ (fun _ _ _ => False) e s' → False) :
    codeAny (model P w) callerA (.call (.ref fa) ⟨[.ref a], []⟩) (fun r s' => r = .ok (.ret (.bool true)) ∧ OldK s₁.heap s'.heap ∧ s'.os = s₁.os ∧ AllBare s'.gens) s₁ := by
  have vals := vals_ints hi
  have same := hi.length
  -- H: the abstract heap to begin with; it tracks the script, or nothing
  have main : ∀ H : Hp, Only H → SqL K H a (ns.map V.int) → HOk P w H s₁.heap → (∀ b, H b ≠ none → b = a ∧ K.lookup a = none) →
      codeAny (model P w) callerA (.call (.ref fa) ⟨[.ref a], []⟩) (fun r s' => r = .ok (.ret (.bool true)) ∧ OldK s₁.heap s'.heap ∧ s'.os = s₁.os ∧ AllBare s'.gens) s₁ := by
    intro H only seen holds only_a
    have none_at : ∀ b, (b = a → K.lookup a ≠ none) → H b = none := fun b hb => by
      cases q : H b with
      | none => rfl
      | some u =>
        obtain ⟨e1, e2⟩ := only_a b (by rw [q]; exact fun z => nomatch z)
        exact absurd e2 (hb e1)
    have dict_free : ∀ {b : Addr} {o : Obj} {es : Array DictEntry} {ep : Nat}, s₁.heap.get? b = some o → o.data = .dict es ep → H b = none := fun {b o es ep} e d => by
      cases q : H b with
      | none => rfl
      | some u =>
        obtain ⟨rfl, _⟩ := only_a b (by rw [q]; exact fun z => nomatch z)
        rw [script] at e; cases e
        cases (show Data.seq vs.toArray _ = Data.dict es ep from d)
    have ns_of : ∀ {b : Addr} {m : Str → Option Value}, s₁.heap.Ns b m → (hidT s₁.heap H).Ns b m := fun ⟨o, es, ep, e, d, r⟩ => ⟨o, es, ep, hidT_get e (dict_free e d), d, r⟩
    have kb : K.In (hidT s₁.heap H) := fun b o e => hidT_get (KX b o e) (none_at b fun z => by subst z; rw [e]; exact fun q => nomatch q)
    have md : Mod K mg (hidT s₁.heap H) := ⟨kb, ns_of hns, ⟨mb, ns_of hb, hbb⟩, let ⟨mc, h1, h2⟩ := hlim; ⟨mc, ns_of h1, h2⟩⟩
    have e0 : Env0 P w K mg (hidT s₁.heap H) callerA [] s₁ H := ⟨rfl, md, fun b o e => of_hidT e, Nat.le_of_eq (hidT_size _ _), trivial, fun b hb => absurd (show b ∈ ([] : List Addr) from hb) (by simp), holds, .of_eq hgens⟩
    refine codeAny_mono ((F _ kb (ns_of hns)).go callerA [] s₁ H ⟨[.ref a], []⟩ [.ref a] [.ref a] _ _ rfl hr e0 (hbind s₁ (.ref a)) (.cons rfl .nil) (promise H only seen)) fun out s' h => ?_
    match out, h with
    | .error e, h => exact (quiet H e s' h).elim
    | .ok .next, h => exact False.elim h
    | .ok .brk, h => exact False.elim h
    | .ok .cont, h => exact False.elim h
    | .ok (.ret u), h =>
      obtain ⟨v, H', os, bare, un, holds', rel, q⟩ := h
      obtain rfl : v = .bl true := q
      obtain rfl : u = Value.bool true := rel
      refine ⟨rfl, OldK.of_keep fun b o e => ?_, os, bare⟩
      rcases only b with z | ⟨ob, xs, z⟩
      · exact un.keep b o e z (by intro z; exact absurd (show b ∈ ([] : List Addr) from z) (by simp)) (by simp)
      · have now := un.frzs b ob _ z
        obtain ⟨e1, _⟩ := holds b _ z
        obtain ⟨e2, _⟩ := holds' b _ now
        rw [e] at e1; cases e1
        exact e2
  by_cases hk : K.lookup a = none
  · refine main (fun b => if b = a then some (.frz { cls := .type "list", data := .seq vs.toArray } (.lst (ns.map V.int))) else none) (fun b => ?_) (.inl (.inr ⟨{ cls := .type "list", data := .seq vs.toArray }, if_pos rfl⟩)) (fun b u z => ?_) fun b z => ?_
    · by_cases hb : b = a
      · exact .inr ⟨_, _, if_pos hb⟩
      · exact .inl (if_neg hb)
    · by_cases hb : b = a
      · cases (if_pos hb).symm.trans z
        subst hb
        exact ⟨script, by rw [List.length_map]; exact hl, vs, _, vals, script⟩
      · cases (if_neg hb).symm.trans z
    · by_cases hb : b = a
      · exact ⟨hb, hk⟩
      · exact absurd (if_neg hb) z
  · obtain ⟨o, ho⟩ := Option.ne_none_iff_exists'.mp hk
    have e := KX a o ho
    rw [script] at e
    cases e
    exact main (fun _ => none) (fun _ => .inl rfl) (.inr ⟨_, vs.toArray, _, ho, rfl, rfl, rfl, by rw [List.size_toArray, same]; exact hl, by simpa using vals⟩) (fun b u z => nomatch (show (none : Option HO) = some u from z)) fun b z => absurd rfl z
theorem walkG {l : PySem.W.OpenLaw} {n k : Nat} {q : Program} {loose : List Str} {XP : (Str → Option Value) → Heap → Prop} {YP : World → Heap → Prop} {d : DefRec} {K : Params → PySem.W.Frag} {CX : CXT} {sp : PySem.W.Frag → Sp} {x : Str}
    (hn : l.most = some n) (hn2 : n ≤ sizeLine) (hdf : d.params.defaults = []) (hr : Room k callerA) (hY : ∀ (w : World) (h : Heap), YP w h → (K w.params).In h)
    (F : ∀ (w : World) (mg : Str → Option Value) (fa : Addr) (h : Heap), (K w.params).In h → h.Ns mainGlobals mg → mg d.name = some (.ref fa) →
      ∃ fd : FuncData, (∀ (s : Shared) (u : Value), BindsTo s fd ⟨[u], []⟩ [(x, u)]) ∧ ∀ base : Heap, (K w.params).In base → base.Ns mainGlobals mg → FnG l.prog w (K w.params) mg base CX k fa fd [x] (sp (K w.params)))
    (hsp : ∀ (K : PySem.W.Frag) (H : Hp) (a : Addr) (ns : List Int), ns.length ≤ n → Only H → SqL K H a (ns.map V.int) → sp K [.ref a] H (fun v _ => v = .bl true) fun _ _ _ => False)
    (hCX : ∀ (H : Hp) (s : Shared) (e : Value) (s' : Shared), CX [] H s (fun _ _ _ => False) e s' → False) : PySem.W.WalkO q loose XP YP l.row.toRowW d [] (fun f vs => PySem.call f vs) :=
  Att.attach_call hn hdf fun w s₀ s₁ mg mb fa o pm cd doc a vs ns G Y ho hd hcd hmg hobj hints hlen hg => by
    have KX := hY w _ Y
    obtain ⟨fd, hb, hF⟩ := F w mg fa _ KX G.T.g hmg
    exact lawG KX G.T.g G.T.b G.T.builtins G.T.nolimit hg hobj hints (Nat.le_trans hlen hn2) hr hF hb (fun H hO hS => hsp _ H a ns hlen hO hS) fun H e s' => hCX H s₁ e s'

/-! ### promises over data -/
abbrev DSp := List SD → Mu → (SD → Mu → Prop) → DXK → Prop
/-- the own dict of an exception, by what it holds -/
def XRep (K : PySem.W.Frag) (F H : Hp) (od : Option Addr) (fs : List (Str × SD)) : Prop :=
  (od = none ∧ fs = []) ∨ ∃ d vs, od = some d ∧ H d = some (.xd vs) ∧ vs.map (·.1) = fs.map (·.1) ∧ RepL K F (fs.map (·.2)) (vs.map (·.2))
def LSp (K : PySem.W.Frag) (sp : DSp) : Sp := fun vs H Q E => ∃ F μ ds Q' E', HReal K F H μ ∧ RepL K F ds vs ∧ sp ds μ Q' E' ∧
  (∀ d μ', Q' d μ' → ∀ F' H' v, Stp F H μ F' H' μ' → HReal K F' H' μ' → RepS K F' d v → Q v H') ∧
  (∀ C fs μ', E' C fs μ' → ∀ F' H' od, Stp F H μ F' H' μ' → HReal K F' H' μ' → XRep K F' H' od fs → E (.ref C) od H')
abbrev dCall (sp : DSp) (dvs : List SD) (t : DTA) : DTE := fun ρ μ Q => t ρ μ fun ds μ1 => sp (ds ++ dvs) μ1 Q fun _ _ _ => False
section
variable {X : Cx} {k : Nat} {f C : Addr} {fd : FuncData} {ps ks : List Str} {sp : DSp} {dvs : List SD} {dvV : List V} {dv : List Value} {x m : Str} {p pos apos : Pos} {a e o : Expr} {es : List Expr} {kws : List Keyword} {ta : DTE} {t tk : DTA}
theorem RepL.plain {K : PySem.W.Frag} {F : Hp} : ∀ {ds : List SD} {vs : List V}, Paired (fun d v => plain d = some v) ds vs → RepL K F ds vs
  | _, _, .nil => .nil
  | _, _, .cons h r => .cons (RepS.plain h) (RepL.plain r)
/-- a call of a def that lets nothing out -/
theorem de_call {CX : CXT} (F : FnG X.prog X.w X.K X.mg X.base CX k f fd ps (LSp X.K sp)) (hq : Quiet X.A) (hr : Room k X.A) (hg : Gl X x) (hm : X.mg x = some (.ref f)) (hk : PySem.W.keepIn X.K (.ref f) = true) (hb : Binds X.K fd ps []) (hx : Passes CX X E0)
    (ha : DA X (e :: es) t) (hdb : (x == ("__debug__" : Str)) = false := by decide) (he : starEach (e :: es) X.env = (false, eval e X.env) :: starEach es X.env := by rfl) (hpl : (backTo pos (starEach es X.env)).any (·.1) = false := by rfl) :
    DE X (.Call (.Name x p) (e :: es) [] pos) (dCall sp [] t) := weakE (pe_g (E := E0) F hq hr hg hm hk hb .nil hx ha hdb he hpl) fun σ H Q h => by
  obtain ⟨F, ρ, μ, Q', R, S, t, k⟩ := h
  refine ⟨F, ρ, μ, _, R, S, t, fun ds μ1 t1 F1 H1 vs s1 R1 r1 => ?_⟩
  refine ⟨F1, μ1, ds, Q', _, R1, by rw [List.append_nil]; exact r1, by rw [List.append_nil] at t1; exact t1, fun d μ' q F' H' v s R' r' => k d μ' q F' H' v (s1.trans s) R' r', fun _ _ _ q => False.elim q⟩
theorem de_call0 {CX : CXT} (F : FnG X.prog X.w X.K X.mg X.base CX k f fd ps (LSp X.K sp)) (hq : Quiet X.A) (hr : Room k X.A) (hg : Gl X x) (hm : X.mg x = some (.ref f)) (hk : PySem.W.keepIn X.K (.ref f) = true) (hb : Binds X.K fd ps []) (hx : Passes CX X E0)
    (hdb : (x == ("__debug__" : Str)) = false := by decide) : DE X (.Call (.Name x p) [] [] pos) (dCall sp [] dNil) := weakE (pe_g0 (E := E0) F hq hr hg hm hk hb .nil hx hdb) fun σ H Q h => by
  obtain ⟨F, ρ, μ, Q', R, S, t, k⟩ := h
  exact ⟨F, μ, [], Q', _, R, .nil, t, fun d μ' q F' H' v s R' r' => k d μ' q F' H' v s R' r', fun _ _ _ q => False.elim q⟩
end

/-- the slots at a def's entry -/
def begin_ (N : List Str) (ds : List SD) : Rho := ds.map some ++ List.replicate (N.length - ds.length) none
theorem slots_begin {K : PySem.W.Frag} {F : Hp} {N : List Str} {ds : List SD} {vs : List V} (r : RepL K F ds vs) : Slots K F (L2.start N vs) (begin_ N ds) := by
  have hl := r.length
  refine ⟨by simp [L2.start, begin_, hl], fun i d e => ?_⟩
  unfold begin_ at e
  by_cases hi : i < ds.length
  · rw [List.getElem?_append_left (by simpa using hi), List.getElem?_map] at e
    cases q : ds[i]? with
    | none => rw [q] at e; cases e
    | some d' =>
      rw [q] at e
      cases e
      obtain ⟨v, h1, h2⟩ := r.get q
      refine ⟨v, ?_, h2⟩
      unfold L2.start
      rw [List.getElem?_append_left (by simpa [← hl] using hi), List.getElem?_map, h1]
      rfl
  · rw [List.getElem?_append_right (by simpa using Nat.le_of_not_lt hi), List.getElem?_replicate] at e
    split at e <;> cases e
section
variable {P : Program} {w : World} {K : PySem.W.Frag} {mg : Str → Option Value} {base : Heap}
/-- a def that lets nothing out -/
theorem def_ok {x qual : Str} {st : Stmt} {f : Addr} {fd : FuncData} {N ps : List Str} {k : Nat} {sp : DSp} (F : Fun K x qual st f fd) (S : FnScope N ps (defScope st)) (t : DTS) (len : ∀ ds μ Q E, sp ds μ Q E → ds.length = ps.length)
    (walk : ∀ (cdv : Value) (A : Around) (outer : List Env) (s : Shared) (H : Hp) (E : XK), Quiet A → Room k (A.deeper (envOfC qual (defScope st) s.heap.objs.size f cdv)) →
      DSs (cxOf CX0 P w K mg base N qual (defScope st) f cdv A outer s H E).nox (defBody st) t)
    (read : ∀ ds μ Q E, sp ds μ Q E → t { nx := fun _ μ' => Q .non μ', rt := Q } (begin_ N ds) μ) : FnG P w K mg base CX0 (k + 1) f fd ps (LSp K sp) := by
  obtain ⟨oc, od, kV, doc, pm, an, cdv, ct, osl, rfl, lk, hcd⟩ := F.ex
  refine fnG_of lk hcd S (fun vs H Q E h => ?_) fun A outer s H vs Q E quiet room want => ?_
  · obtain ⟨F, μ, ds, Q', E', _, r, q, _⟩ := h
    rw [← r.length]; exact len ds μ Q' E' q
  · obtain ⟨F, μ, ds, Q', E', R, r, q, k1, _⟩ := want
    refine ⟨_, (walk cdv A outer s H E quiet room).nox, F, begin_ N ds, μ, _, R, slots_begin r, read ds μ Q' E' q, ?_, k1, fun _ _ z => False.elim z, fun _ _ z => False.elim z⟩
    exact fun ρ' μ' q F' H' σ' s' R' _ => k1 .non μ' q F' H' .non s' R' .non
/-- a def that may raise -/
theorem def_okX {x qual : Str} {st : Stmt} {f : Addr} {fd : FuncData} {N ps : List Str} {k : Nat} {sp : DSp} (F : Fun K x qual st f fd) (S : FnScope N ps (defScope st)) (len : ∀ ds μ Q E, sp ds μ Q E → ds.length = ps.length)
    (walk : ∀ (cdv : Value) (A : Around) (outer : List Env) (s : Shared) (H : Hp) (E : XK) (E' : DXK) (F0 : Hp) (μ0 : Mu), Quiet A → Room k (A.deeper (envOfC qual (defScope st) s.heap.objs.size f cdv)) →
      (∀ C fs μ', E' C fs μ' → ∀ F' H' od, Stp F0 H μ0 F' H' μ' → HReal K F' H' μ' → XRep K F' H' od fs → E (.ref C) od H') →
      ∃ t, PSs (cxOf (L2.CX P w) P w K mg base N qual (defScope st) f cdv A outer s H E) (defBody st) t ∧ ∀ ds Q Q', sp ds μ0 Q' E' → HReal K F0 H μ0 → (∀ vs, RepL K F0 ds vs → (∀ d μ', Q' d μ' → ∀ F' H' v, Stp F0 H μ0 F' H' μ' → HReal K F' H' μ' → RepS K F' d v → Q v H') →
        t { nx := fun _ H' => Q .non H', rt := Q } (L2.start N vs) H)) : FnG P w K mg base (L2.CX P w) (k + 1) f fd ps (LSp K sp) := by
  obtain ⟨oc, od, kV, doc, pm, an, cdv, ct, osl, rfl, lk, hcd⟩ := F.ex
  refine fnG_of lk hcd S (fun vs H Q E h => ?_) fun A outer s H vs Q E quiet room want => ?_
  · obtain ⟨F, μ, ds, Q', E', _, r, q, _⟩ := h
    rw [← r.length]; exact len ds μ Q' E' q
  · obtain ⟨F, μ, ds, Q', E', R, r, q, k1, k2⟩ := want
    obtain ⟨t, h1, h2⟩ := walk cdv A outer s H E E' F μ quiet room k2
    exact ⟨t, h1, h2 ds Q Q' q R vs r k1⟩
end
end DS
/-! DS4: list comprehensions, operators, comparisons, subscripts, slices, built-ins. -/
namespace DS
open PySem PySem.Spec PyProof.Rows L2

/-! ### something that is neither F's nor μ's -/
section
variable {K : PySem.W.Frag} {F H : Hp} {μ : Mu} {p : Addr}
theorem HReal.aside (R : HReal K F H μ) {o : HO} (hF : F p = none) (hM : μ p = none) : HReal K F (upd H p o) μ :=
  ⟨fun a u e => by rw [upd_ne (ne_of_none e hF)]; exact R.sub a u e, fun a m e => by
    obtain ⟨z, u, q, r⟩ := R.mus a m e
    exact ⟨z, u, by rw [upd_ne (mu_ne e hM)]; exact q, r⟩⟩
theorem HReal.adopt (R : HReal K F H μ) {o : HO} (hF : F p = none) (hM : μ p = none) (hH : H p = some o) : HReal K (upd F p o) H μ :=
  ⟨fun a u e => by
    by_cases ha : a = p
    · subst ha; rw [upd_same] at e; cases e; exact hH
    · rw [upd_ne ha] at e; exact R.sub a u e, fun a m e => by
    obtain ⟨z, u, q, r⟩ := R.mus a m e
    exact ⟨by rw [upd_ne (mu_ne e hM)]; exact z, u, q, r.mono (Ext.new hF)⟩⟩
theorem HReal.adoptM (R : HReal K F H μ) {o : HO} {m : MO} (hF : F p = none) (hH : H p = some o) (r : RepO K F m o) : HReal K F H (up μ p m) :=
  ⟨R.sub, fun a n e => by
    by_cases ha : a = p
    · subst ha; rw [up_same] at e; cases e; exact ⟨hF, o, hH, r⟩
    · rw [up_ne ha] at e; exact R.mus a n e⟩
end

/-! ### list comprehensions -/
/-- a target that touches own slots alone, with its datum's reading -/
structure OwnG (K : PySem.W.Frag) (g : TG) (dg : DTG) (vs : List Nat) : Prop where
  lift : ∀ v σ H Q F ρ μ d Q', HReal K F H μ → Slots K F σ ρ → RepS K F d v → dg d ρ μ Q' →
    (∀ ρ' μ', Q' ρ' μ' → ∀ F' H' σ', Stp F H μ F' H' μ' → HReal K F' H' μ' → Slots K F' σ' ρ' → wipe σ' vs = wipe σ vs → Q σ' H') → g v σ H Q
theorem own_name {K : PySem.W.Frag} {i : Nat} {vs : List Nat} (h : i ∈ vs) : OwnG K (gName i) (hName i) vs :=
  ⟨fun v σ H Q F ρ μ d Q' R S r t k => k _ μ t F H _ (Stp.refl F H μ) R (S.set i r) (wipe_set σ _ h)⟩
def hNames : List Nat → DTGs
  | [] => hNil
  | i :: r => hCons (hName i) (hNames r)
def gNames : List Nat → TGs
  | [] => gNil
  | i :: r => gCons (gName i) (gNames r)
theorem own_names {K : PySem.W.Frag} {F H : Hp} {μ : Mu} {vs : List Nat} (R : HReal K F H μ) : ∀ (is : List Nat), (∀ i ∈ is, i ∈ vs) → ∀ (xs : List V) (ds : List SD) (σ : L2.St) (ρ : Rho) (Q : L2.St → Hp → Prop) (Q' : Rho → Mu → Prop),
    Slots K F σ ρ → RepL K F ds xs → hNames is ds ρ μ Q' → (∀ ρ' μ', Q' ρ' μ' → ∀ F' H' σ', Stp F H μ F' H' μ' → HReal K F' H' μ' → Slots K F' σ' ρ' → wipe σ' vs = wipe σ vs → Q σ' H') → gNames is xs σ H Q
  | [], _, xs, ds, σ, ρ, Q, Q', S, r, t, k => by
    obtain ⟨rfl, t⟩ := t
    cases r
    exact ⟨rfl, k ρ μ t F H σ (Stp.refl F H μ) R S rfl⟩
  | i :: is, h, xs, ds, σ, ρ, Q, Q', S, r, t, k => by
    cases r with
    | nil => exact False.elim t
    | cons r rr =>
      refine ⟨_, _, rfl, own_names R is (fun j hj => h j (List.mem_cons_of_mem _ hj)) _ _ _ _ Q Q' (S.set i r) rr t fun ρ' μ' q F' H' σ' s R' S' e => ?_⟩
      exact k ρ' μ' q F' H' σ' s R' S' (e.trans (wipe_set σ _ (h i List.mem_cons_self)))
theorem own_tup {K : PySem.W.Frag} {n : Nat} {is vs : List Nat} (h : ∀ i ∈ is, i ∈ vs) : OwnG K (gTup K n (gNames is)) (hTup n (hNames is)) vs :=
  ⟨fun v σ H Q F ρ μ d Q' R S r t k => by
    cases r with
    | tup hh r => exact ⟨_, _, rfl, R.ext.sqT hh, by rw [← r.length]; exact t.1, own_names R is h _ _ σ ρ Q Q' S r t.2 k⟩
    | _ => exact False.elim t⟩
def dLc (wi : DTI) (g : DTG) (tt : DTT) (te : DTE) (vs : List Nat) : Rho → Mu → (List SD → Mu → Prop) → Prop := fun ρ μ Q => wi ρ μ fun ds ok μ1 => ds.length ≤ sizeLine ∧ ∃ W : Nat → List SD → Mu → Prop, W 0 [] μ1 ∧
  (∀ i acc μ, i ≤ ds.length → W i acc μ → ok μ) ∧ (∀ i d acc μ, ds[i]? = some d → W i acc μ → g d (wipeR ρ vs) μ fun ρ2 μ2 => tt ρ2 μ2 fun b μ3 => if b = true then te ρ2 μ3 fun y μ4 => W (i + 1) (acc ++ [y]) μ4 else W (i + 1) acc μ3) ∧
  ∀ acc μ, W ds.length acc μ → Q acc μ
/-- the new list will not change | may change -/
def dLcS (wi : DTI) (g : DTG) (tt : DTT) (te : DTE) (vs : List Nat) : DTE := fun ρ μ Q => dLc wi g tt te vs ρ μ fun acc μ' => Q (.lst acc) μ'
def dLcM (wi : DTI) (g : DTG) (tt : DTT) (te : DTE) (vs : List Nat) : DTE := fun ρ μ Q => dLc wi g tt te vs ρ μ fun acc μ' => ∀ p, μ' p = none → Q (.ref p) (up μ' p (.lst acc))
theorem liftLc {K : PySem.W.Frag} {wi : DTI} {g : TG} {dg : DTG} {tt : DTT} {te : DTE} {vs : List Nat} (og : OwnG K g dg vs) {σ : L2.St} {H F : Hp} {ρ : Rho} {μ : Mu} {Q : VK} {Q' : List SD → Mu → Prop} (R : HReal K F H μ) (S : Slots K F σ ρ) (t : dLc wi dg tt te vs ρ μ Q')
    (k : ∀ acc μ', Q' acc μ' → ∀ F' H' p ws, Stp F H μ F' H' μ' → HReal K F' H' μ' → F' p = none → μ' p = none → H' p = some (.lst ws) → RepL K F' acc ws → (∀ a, H a ≠ none → F a = none → μ a = none → a ≠ p) → Q (.ref p) H') : tLc (LI K wi) g (LT K tt) (LE K te) vs σ H Q := by
  refine ⟨F, ρ, μ, _, R, S, t, fun ds ok μ1 t1 F1 H1 J s1 R1 src D hD => ?_⟩
  obtain ⟨hlen, W, w0, hok, turn, fin⟩ := t1
  have hDF := R1.freeF hD
  have hDM := R1.freeM hD
  refine ⟨fun i m H' => i + m = ds.length ∧ ∃ F μ acc ws, Stp F1 H1 μ1 F H' μ ∧ HReal K F H' μ ∧ F D = none ∧ μ D = none ∧ H' D = some (.lst ws) ∧ RepL K F acc ws ∧ acc.length ≤ i ∧ W i acc μ, ⟨ds.length, by omega, F1, μ1, [], [], ?_, R1.aside hDF hDM, hDF, hDM, upd_same, .nil, Nat.le_refl _, w0⟩, ?_⟩
  · exact ⟨Ext.refl _, fun a h1 h2 h3 => ⟨upd_ne (fun z => by subst z; exact h1 hD), h2, h3⟩⟩
  rintro i m H' ⟨him, F2, μ2, acc, ws, s2, R2, f2, m2, hH2, r2, hacc, w2⟩
  have hle : i ≤ ds.length := by omega
  by_cases hi : i < ds.length
  · refine .inr ⟨src.go i F2 H' μ2 s2 R2 (hok i acc μ2 hle w2) hi, fun H3 => ∃ F μ acc ws, Stp F1 H1 μ1 F H3 μ ∧ HReal K F H3 μ ∧ F D = none ∧ μ D = none ∧ H3 D = some (.lst ws) ∧ RepL K F acc ws ∧ acc.length ≤ i + 1 ∧ W (i + 1) acc μ, ?_, ?_⟩
    · rintro H3 ⟨F3, μ3, acc3, ws3, z⟩
      exact ⟨ds.length - (i + 1), by omega, by omega, F3, μ3, acc3, ws3, z⟩
    · intro x H3 y
      obtain ⟨F3, s3, R3, r3⟩ := src.yld i F2 H' μ2 x H3 s2 R2 (hok i acc μ2 hle w2) y _ (List.getElem?_eq_getElem hi)
      obtain ⟨e3, f3, m3⟩ := s3.fr D (by rw [hH2]; exact fun z => nomatch z) f2 m2
      have S3 : Slots K F3 (wipe σ vs) (wipeR ρ vs) := ((S.mono (s1.ext.trans s2.ext)).mono s3.ext).wipe vs
      refine og.lift x _ H3 _ F3 _ μ2 _ _ R3 S3 r3 (turn i _ acc μ2 (List.getElem?_eq_getElem hi) w2) fun ρ4 μ4 t4 F4 H4 σ4 s4 R4 S4 e4 => ⟨e4.trans ?_, ?_⟩
      · have idem : ∀ (τ : L2.St) (us : List Nat), (∀ i ∈ us, τ[i]? = none ∨ τ[i]? = some none) → wipe τ us = τ := by
          intro τ us
          induction us with
          | nil => intro _; rfl
          | cons a r ih =>
            intro hz
            show (wipe τ r).set a none = τ
            rw [ih fun i hi => hz i (List.mem_cons_of_mem _ hi)]
            rcases hz a List.mem_cons_self with q | q
            · exact List.set_eq_of_length_le (List.getElem?_eq_none_iff.mp q)
            · apply List.ext_getElem?
              intro j
              by_cases hj : j = a
              · subst hj
                obtain ⟨hl, _⟩ := List.getElem?_eq_some_iff.mp q
                rw [List.getElem?_set_self hl, q]
              · rw [List.getElem?_set_ne (Ne.symm hj)]
        refine idem _ _ fun i hi => ?_
        have done : ∀ (us : List Nat), i ∈ us → (wipe σ us)[i]? = none ∨ (wipe σ us)[i]? = some none := by
          intro us
          induction us with
          | nil => intro h; cases h
          | cons a r ih =>
            intro h
            show ((wipe σ r).set a none)[i]? = none ∨ ((wipe σ r).set a none)[i]? = some none
            by_cases e : a = i
            · subst e
              by_cases hl : a < (wipe σ r).length
              · exact .inr (List.getElem?_set_self hl)
              · exact .inl (List.getElem?_eq_none (by simpa using Nat.le_of_not_lt hl))
            · rw [List.getElem?_set_ne e]
              exact ih ((List.mem_cons.mp h).resolve_left (fun z => e z.symm))
        exact done vs hi
      · obtain ⟨e5, f5, m5⟩ := s4.fr D (by rw [e3, hH2]; exact fun z => nomatch z) f3 m3
        refine ⟨F4, ρ4, μ4, _, R4, S4, t4, fun b μ6 t6 F6 H6 s6 R6 => ?_⟩
        obtain ⟨e7, f7, m7⟩ := s6.fr D (by rw [e5, e3, hH2]; exact fun z => nomatch z) f5 m5
        have at6 : H6 D = some (.lst ws) := by rw [e7, e5, e3, hH2]
        have st6 := ((s2.trans s3).trans s4).trans s6
        have ext6 : Ext F2 F6 := (s3.ext.trans s4.ext).trans s6.ext
        cases b with
        | false => exact ⟨F6, μ6, acc, ws, st6, R6, f7, m7, at6, r2.mono ext6, Nat.le_succ_of_le hacc, t6⟩
        | true =>
          refine ⟨F6, ρ4, μ6, _, R6, S4.mono s6.ext, t6, fun d μ8 t8 F8 H8 v s8 R8 r8 => ?_⟩
          obtain ⟨e9, f9, m9⟩ := s8.fr D (by rw [at6]; exact fun z => nomatch z) f7 m7
          have at8 : H8 D = some (.lst ws) := e9.trans at6
          have ra : RepL K F8 acc ws := r2.mono (ext6.trans s8.ext)
          refine ⟨ws, at8, by rw [← ra.length]; exact Nat.lt_of_le_of_lt hacc (Nat.lt_of_lt_of_le hi hlen), F8, μ8, acc ++ [d], ws ++ [v], ?_, R8.aside f9 m9, f9, m9, upd_same, ra.append (.one r8), ?_, t8⟩
          · refine ⟨(st6.trans s8).ext, fun a h1 h2 h3 => ?_⟩
            have ha : a ≠ D := fun z => by subst z; exact h1 hD
            obtain ⟨q1, q2, q3⟩ := (st6.trans s8).fr a h1 h2 h3
            exact ⟨(upd_ne ha).trans q1, q2, q3⟩
          · rw [List.length_append]; exact Nat.succ_le_succ hacc
  · have e : i = ds.length := by omega
    subst e
    refine .inl ⟨src.stop F2 H' μ2 s2 R2 (hok _ acc μ2 hle w2), ?_⟩
    refine k acc μ2 (fin acc μ2 w2) F2 H' D ws (s1.trans s2) R2 f2 m2 hH2 r2 fun a ha hb hc z => ?_
    subst z
    exact ha ((s1.fr a ha hb hc).1.symm.trans hD)
end DS
/-! DS5: comprehensions as expressions; operators, subscripts. -/
namespace DS
open PySem PySem.Spec PyProof.Rows L2
section
variable {X : Cx} {pos p spos py : Pos} {a b c e o iter tg elt : Expr} {es ifs : List Expr} {x y : Str} {scope : Scope} {own : List (Str × Nat)} {wi : DTI} {g : TG} {dg : DTG} {tt : DTT} {te : DTE}
abbrev DTs (X : Cx) (ifs : List Expr) (t : DTT) : Prop := PTs X ifs (LT X.K t)
abbrev dYes : DTT := fun _ μ Q => Q true μ
theorem dts_nil : DTs X [] dYes := ⟨fun pins s σ H Q I h => by
  obtain ⟨F, ρ, μ, Q', R, S, t, k⟩ := h
  exact pts_nil.run pins s σ H Q I (k true μ t F H (Stp.refl F H μ) R)⟩
theorem dts_one {t : DTT} (h : DT X c t) : DTs X [c] t := pts_one h
theorem lcS {K : PySem.W.Frag} {vs : List Nat} (og : OwnG K g dg vs) : ∀ σ H Q, LE K (dLcS wi dg tt te vs) σ H Q → tLc (LI K wi) g (LT K tt) (LE K te) vs σ H Q := fun σ H Q h => by
  obtain ⟨F, ρ, μ, Q', R, S, t, k⟩ := h
  refine liftLc og R S t fun acc μ' q F' H' p ws s R' f m hp r ne => ?_
  have ex : Ext F' (upd F' p (.lst ws)) := Ext.new f
  refine k (.lst acc) μ' q (upd F' p (.lst ws)) H' (.ref p) ⟨s.ext.trans ex, fun a h1 h2 h3 => ?_⟩ (R'.adopt f m hp) (.lst upd_same (r.mono ex))
  obtain ⟨q1, q2, q3⟩ := s.fr a h1 h2 h3
  exact ⟨q1, by rw [upd_ne (ne a h1 h2 h3)]; exact q2, q3⟩
theorem lcM {K : PySem.W.Frag} {vs : List Nat} (og : OwnG K g dg vs) : ∀ σ H Q, LE K (dLcM wi dg tt te vs) σ H Q → tLc (LI K wi) g (LT K tt) (LE K te) vs σ H Q := fun σ H Q h => by
  obtain ⟨F, ρ, μ, Q', R, S, t, k⟩ := h
  refine liftLc og R S t fun acc μ' q F' H' p ws s R' f m hp r ne => ?_
  refine k (.ref p) _ (q p m) F' H' (.ref p) ⟨s.ext, fun a h1 h2 h3 => ?_⟩ (R'.adoptM f hp (.lst r)) (.ref p)
  obtain ⟨q1, q2, q3⟩ := s.fr a h1 h2 h3
  exact ⟨q1, q2, by rw [up_ne (ne a h1 h2 h3)]; exact q3⟩
variable (hc : X.calm = true) (hN : X.N.Nodup) (ok : BlkOk X.N X.env.scope scope own) (og : OwnG X.K g dg (own.map (·.2))) (hi : DI X tg iter wi)
  (hg : ∀ (s : Shared) (H : Hp) (C : Addr) (cl : List (Str × Addr)) (fp : List Addr), PG (X.blk s H scope (compEnvC scope cl C X.env) fp) tg g)
  (ht : ∀ (s : Shared) (H : Hp) (C : Addr) (cl : List (Str × Addr)) (fp : List Addr), DTs (X.blk s H scope (compEnvC scope cl C X.env) fp) ifs tt)
  (he : ∀ (s : Shared) (H : Hp) (C : Addr) (cl : List (Str × Addr)) (fp : List Addr), DE (X.blk s H scope (compEnvC scope cl C X.env) fp) elt te)
include hc hN ok og hi hg ht he
theorem de_lc (hs : ∀ x, foldedSetIterable iter X.env x = pure x := by intro _; rfl) : DE X (.ListComp elt [⟨tg, iter, ifs, 0⟩] scope pos) (dLcS wi dg tt te (own.map (·.2))) := weakE (pe_lc hc hN hi ok hg ht he hs) (lcS og)
theorem de_lcM (hs : ∀ x, foldedSetIterable iter X.env x = pure x := by intro _; rfl) : DE X (.ListComp elt [⟨tg, iter, ifs, 0⟩] scope pos) (dLcM wi dg tt te (own.map (·.2))) := weakE (pe_lc hc hN hi ok hg ht he hs) (lcM og)
theorem ds_setLc {i : Nat} (hy : X.N[i]? = some y) (hyl : X.env.scope.names.lookup y = some .local) (hsw : swapsWith (.ListComp elt [⟨tg, iter, ifs, 0⟩] scope pos) (some (.Name y py)) spos.line X.env = pure true) (hs : ∀ x, foldedSetIterable iter X.env x = pure x := by intro _; rfl) :
    DS_ X (.Assign [.Name y py] (.ListComp elt [⟨tg, iter, ifs, 0⟩] scope pos) spos) (dSet (dLcS wi dg tt te (own.map (·.2))) i) := weakS (ps_setLc hc hN hy hyl hsw hi ok hg ht he hs) fun D σ H h => by
  obtain ⟨F, ρ, μ, D', R, S, t, k, _⟩ := h
  exact lcS og σ H _ ⟨F, ρ, μ, _, R, S, t, fun d μ1 t1 F1 H1 v s1 R1 r1 => k _ μ1 t1 F1 H1 _ s1 R1 ((S.mono s1.ext).set i r1)⟩
theorem ds_setLcM {i : Nat} (hy : X.N[i]? = some y) (hyl : X.env.scope.names.lookup y = some .local) (hsw : swapsWith (.ListComp elt [⟨tg, iter, ifs, 0⟩] scope pos) (some (.Name y py)) spos.line X.env = pure true) (hs : ∀ x, foldedSetIterable iter X.env x = pure x := by intro _; rfl) :
    DS_ X (.Assign [.Name y py] (.ListComp elt [⟨tg, iter, ifs, 0⟩] scope pos) spos) (dSet (dLcM wi dg tt te (own.map (·.2))) i) := weakS (ps_setLc hc hN hy hyl hsw hi ok hg ht he hs) fun D σ H h => by
  obtain ⟨F, ρ, μ, D', R, S, t, k, _⟩ := h
  exact lcM og σ H _ ⟨F, ρ, μ, _, R, S, t, fun d μ1 t1 F1 H1 v s1 R1 r1 => k _ μ1 t1 F1 H1 _ s1 R1 ((S.mono s1.ext).set i r1)⟩
end

/-! ### operators -/
section
variable {X : Cx} {K : PySem.W.Frag}
def dAdd : DR2 := fun x y μ Q => match x with
  | .int i => match y with
    | .int j => Q (.int (i + j)) μ
    | _ => False
  | .str i => match y with
    | .str j => i.length + j.length ≤ sizeLine ∧ Q (.str (i ++ j)) μ
    | _ => False
  | .tup xs => match y with
    | .tup ys => xs.length + ys.length ≤ sizeLine ∧ Q (.tup (xs ++ ys)) μ
    | _ => False
  | x => match lstD μ x, lstD μ y with
    | some xs, some ys => xs.length + ys.length ≤ sizeLine ∧ Q (.lst (xs ++ ys)) μ
    | _, _ => False
def rAdd (K : PySem.W.Frag) : R2 := fun x y H Q => (∃ i j, x = .int i ∧ y = .int j ∧ Q (.int (i + j)) H) ∨ ((∃ i j, x = .str i ∧ y = .str j ∧ i.length + j.length ≤ sizeLine ∧ Q (.str (i ++ j)) H) ∨ (rCatA K x y H Q ∨ rCat x y H Q))
theorem opr_add : OpR X (binaryOp .Add) (rAdd X.K) := OpR.or op_add (OpR.or op_add_str (OpR.or op_catA op_cat))
theorem lr_add : LR2 K dAdd (rAdd K) := fun F H μ x y dx dy Q' Q R rx ry t k => by
  have lists : ∀ xs ys, lstD μ dx = some xs → lstD μ dy = some ys → xs.length + ys.length ≤ sizeLine ∧ Q' (.lst (xs ++ ys)) μ → rAdd K x y H Q := fun xs ys ex ey t => by
    obtain ⟨a, vs, rfl, ha, r1⟩ := R.lst rx ex
    obtain ⟨b, ws, rfl, hb, r2⟩ := R.lst ry ey
    refine .inr (.inr (.inr ⟨a, b, vs, ws, rfl, rfl, ha, hb, by rw [← r1.length, ← r2.length]; exact t.1, fun q hq => ?_⟩))
    exact k _ μ t.2 _ _ _ (Stp.newS R hq) (R.newS hq) (.lst upd_same ((r1.append r2).mono (Ext.new (R.freeF hq))))
  have fall : ∀ {b : Prop}, (match lstD μ dx, lstD μ dy with
    | some xs, some ys => xs.length + ys.length ≤ sizeLine ∧ Q' (.lst (xs ++ ys)) μ
    | _, _ => False) → rAdd K x y H Q := fun {b} t => by
    cases e1 : lstD μ dx with
    | none => rw [e1] at t; exact False.elim t
    | some xs => cases e2 : lstD μ dy with
      | none => rw [e1, e2] at t; exact False.elim t
      | some ys => rw [e1, e2] at t; exact lists xs ys e1 e2 t
  cases dx with
  | int i => cases dy with
    | int j => cases rx; cases ry; exact .inl ⟨i, j, rfl, rfl, k _ μ t F H _ (Stp.refl _ _ _) R (.int _)⟩
    | _ => exact False.elim t
  | str i => cases dy with
    | str j => cases rx; cases ry; exact .inr (.inl ⟨i, j, rfl, rfl, t.1, k _ μ t.2 F H _ (Stp.refl _ _ _) R (.str _)⟩)
    | _ => exact False.elim t
  | tup xs => cases dy with
    | tup ys =>
      cases rx with
      | tup h1 r1 => cases ry with
        | tup h2 r2 =>
          refine .inr (.inr (.inl ⟨_, _, _, _, rfl, rfl, R.ext.sqT h1, R.ext.sqT h2, by rw [← r1.length, ← r2.length]; exact t.1, fun z => ?_, fun _ z => ?_, fun _ _ q hq => ?_⟩))
          · have e := r1.nil_iff.mpr z
            subst e
            exact k _ μ t.2 F H _ (Stp.refl _ _ _) R (.tup h2 r2)
          · have e := r2.nil_iff.mpr z
            subst e
            have t2 := t.2
            rw [List.append_nil] at t2
            exact k _ μ t2 F H _ (Stp.refl _ _ _) R (.tup h1 r1)
          · exact k _ μ t.2 _ _ _ (Stp.newS R hq) (R.newS hq) (.tup (.inl (.inl upd_same)) ((r1.append r2).mono (Ext.new (R.freeF hq))))
    | _ => exact False.elim t
  | lst xs => exact fall (b := True) t
  | ref a => exact fall (b := True) t
  | _ => exact fall (b := True) t
def dSub : DR2 := fun x y μ Q => match x with
  | .int i => match y with
    | .int j => Q (.int (i - j)) μ
    | _ => False
  | _ => False
theorem lr_ints {dr : DR2} {C : Int → Int → Prop} {gg : Int → Int → V} {ff : Int → Int → SD} (hf : ∀ i j, plain (ff i j) = some (gg i j)) (h : ∀ x y μ Q, dr x y μ Q → ∃ i j, x = .int i ∧ y = .int j ∧ C i j ∧ Q (ff i j) μ) : LR2 K dr (rI C gg) := fun F H μ x y dx dy Q' Q R rx ry t k => by
  obtain ⟨i, j, rfl, rfl, hC, t2⟩ := h _ _ _ _ t
  cases rx; cases ry
  exact ⟨i, j, rfl, rfl, hC, k _ μ t2 F H _ (Stp.refl _ _ _) R (RepS.plain (hf i j))⟩
theorem lr_ints0 {dr : DR2} {gg : Int → Int → V} {ff : Int → Int → SD} (hf : ∀ i j, plain (ff i j) = some (gg i j)) (h : ∀ x y μ Q, dr x y μ Q → ∃ i j, x = .int i ∧ y = .int j ∧ Q (ff i j) μ) : LR2 K dr (rI0 gg) := fun F H μ x y dx dy Q' Q R rx ry t k => by
  obtain ⟨i, j, rfl, rfl, t2⟩ := h _ _ _ _ t
  cases rx; cases ry
  exact ⟨i, j, rfl, rfl, k _ μ t2 F H _ (Stp.refl _ _ _) R (RepS.plain (hf i j))⟩
theorem lr_sub : LR2 K dSub (rI0 fun i j => .int (i - j)) := lr_ints0 (ff := fun i j => .int (i - j)) (fun _ _ => rfl) fun x y μ Q t => by
  cases x <;> cases y <;> first | exact False.elim t | exact ⟨_, _, rfl, rfl, t⟩
/-- x * y: two ints; a text and an int; a list and an int -/
def repS (x : Str) (n : Nat) : Str := ⟨((List.replicate n x.cps.toList).flatten).toArray⟩
theorem foldl_app (a : Array Nat) : ∀ (n : Nat) (acc : Array Nat), (List.replicate n a).foldl (· ++ ·) acc = (acc.toList ++ (List.replicate n a.toList).flatten).toArray
  | 0, acc => by simp
  | n + 1, acc => by
    rw [List.replicate_succ, List.foldl_cons, foldl_app a n, List.replicate_succ, List.flatten_cons]
    simp
theorem repS_eq (x : Str) (n : Nat) : (⟨(List.replicate n x.cps).foldl (· ++ ·) #[]⟩ : Str) = repS x n := by
  unfold repS
  rw [foldl_app]
  simp
theorem repS_length (x : Str) (n : Nat) : (repS x n).length = x.length * n := by
  show ((List.replicate n x.cps.toList).flatten).toArray.size = x.cps.size * n
  simp [Nat.mul_comm]
theorem op_mulS : OpR X (binaryOp .Mult) (fun x y H Q => ∃ s j, x = .str s ∧ y = .int j ∧ (0 ≤ j ∧ j ≤ 1000000 ∧ s.length * j.toNat ≤ sizeLine) ∧ Q (.str (repS s j.toNat)) H) := by
  intro pins st σ H x y v u Q I rx ry h
  obtain ⟨s, j, rfl, rfl, ⟨h0, h1, h2⟩, q⟩ := h
  obtain ⟨t, rfl⟩ := rx
  obtain ⟨t', rfl⟩ := ry
  refine P.mul_str ?_ (fun a b z => ?_) (fun a b => ?_) ?_
  · rw [decide_eq_false (by omega), decide_eq_false (by omega)]; rfl
  · have hl : (sizeLine : Int) ≤ (2 ^ 63 - 1) / 1000000 := by decide
    have hj : 0 < j := by omega
    have hs : (s.length : Int) * j ≤ sizeLine := by
      have e : ((s.length * j.toNat : Nat) : Int) = (s.length : Int) * j := by rw [Int.natCast_mul, Int.toNat_of_nonneg h0]
      rw [← e]; exact Int.ofNat_le.mpr h2
    have h3 : (s.length : Int) * 1 ≤ (s.length : Int) * j := Int.mul_le_mul_of_nonneg_left (by omega) (Int.natCast_nonneg _)
    have h5 : (2 ^ 63 - 1) / 1000000 ≤ (2 ^ 63 - 1) / j := by
      apply Int.le_ediv_of_mul_le hj
      have : ((2 ^ 63 - 1) / 1000000 : Int) * j ≤ ((2 ^ 63 - 1) / 1000000 : Int) * 1000000 := Int.mul_le_mul_of_nonneg_left h1 (by decide)
      exact Int.le_trans this (by decide)
    omega
  · unfold Builtin.Str.tooLong
    simpa using h2
  · split
    · rename_i hlt
      have e : j = 0 := by omega
      subst e
      exact ⟨by decide, ⟨.str _, H, I.tok _, ⟨_, rfl⟩, q⟩⟩
    · split
      · rename_i hn hy
        have e : repS s j.toNat = s := by
          simp only [Bool.or_eq_true, beq_iff_eq] at hy
          rcases hy with hy | hy
          · subst hy; unfold repS; simp
          · have : s.cps = #[] := by
              have : s.cps.size = 0 := hy
              exact Array.eq_empty_of_size_eq_zero this
            obtain ⟨c⟩ := s
            simp only at this
            subst this
            unfold repS; simp
        rw [e] at q
        exact ⟨.str _, H, I, ⟨_, rfl⟩, q⟩
      · rw [repS_eq]
        exact ⟨by rw [repS_length]; exact h2, ⟨.str _, H, I.tok _, ⟨_, rfl⟩, q⟩⟩
end
end DS
/-! DS6: comparisons, membership, subscripts, built-ins by value, list methods. -/
namespace DS
open PySem PySem.Spec PyProof.Rows L2
/-! ### data as PyData -/
mutual
def pdS : SD → Option PyData
  | .non => some .none
  | .bl b => some (.bool b)
  | .int i => some (.int i)
  | .str s => some (.str s)
  | .ref _ => none
  | .ty _ => none
  | .exc _ _ => none
  | .ptp _ => none
  | .tup xs => match pdL xs with
    | some ds => some (.tuple ds)
    | none => none
  | .lst xs => match pdL xs with
    | some ds => some (.list ds)
    | none => none
  | .rol xs => match pdL xs with
    | some ds => some (.list ds)
    | none => none
  | .dic _ => none
def pdL : List SD → Option (List PyData)
  | [] => some []
  | d :: r => match pdS d, pdL r with
    | some x, some y => some (x :: y)
    | _, _ => none
end
/-- .. of a list that may change, too -/
def pd (μ : Mu) : SD → Option PyData
  | .ref a => match μ a with
    | some (.lst xs) => match pdL xs with
      | some ds => some (.list ds)
      | none => none
    | _ => none
  | d => pdS d
section
variable {K : PySem.W.Frag} {F H : Hp} {μ : Mu}
mutual
theorem RepS.dp (ex : Ext F H) (sub : ∀ a o, F a = some o → H a = some o) : ∀ {d : SD} {v : V} {p : PyData}, RepS K F d v → pdS d = some p → Dp K H v p
  | _, _, _, .non, e => by cases e; exact .non
  | _, _, _, .bl b, e => by cases e; exact .bl b
  | _, _, _, .int b, e => by cases e; exact .int b
  | _, _, _, .str b, e => by cases e; exact .str b
  | _, _, _, .ref _, e => by cases e
  | _, _, _, .ty _, e => by cases e
  | .tup ds, _, _, .tup h r, e => by
    unfold pdS at e
    cases q : pdL ds with
    | none => rw [q] at e; cases e
    | some ps => rw [q] at e; cases e; exact .tup (ex.sqT h) (RepL.dp ex sub r q)
  | .lst ds, _, _, .lst h r, e => by
    unfold pdS at e
    cases q : pdL ds with
    | none => rw [q] at e; cases e
    | some ps => rw [q] at e; cases e; exact .lst (SqL.of (sub _ _ h)) (RepL.dp ex sub r q)
  | .rol ds, _, _, .rol h r, e => by
    unfold pdS at e
    cases q : pdL ds with
    | none => rw [q] at e; cases e
    | some ps => rw [q] at e; cases e; exact .lst (ex.sqL h) (RepL.dp ex sub r q)
  | _, _, _, .dic _ _ _, e => by cases e
  | _, _, _, .exc0 _ _, e => by cases e
  | _, _, _, .exc _ _ _ _ _, e => by cases e
  | _, _, _, .ptp _ _ _, e => by cases e
theorem RepL.dp (ex : Ext F H) (sub : ∀ a o, F a = some o → H a = some o) : ∀ {ds : List SD} {vs : List V} {ps : List PyData}, RepL K F ds vs → pdL ds = some ps → DpAll K H vs ps
  | _, _, _, .nil, e => by cases e; exact .nil
  | d :: ds, _, _, .cons h r, e => by
    unfold pdL at e
    cases q : pdS d with
    | none => rw [q] at e; cases e
    | some x => cases q2 : pdL ds with
      | none => rw [q, q2] at e; cases e
      | some y => rw [q, q2] at e; cases e; exact .cons (RepS.dp ex sub h q) (RepL.dp ex sub r q2)
end
theorem HReal.dp (R : HReal K F H μ) {d : SD} {v : V} {p : PyData} (r : RepS K F d v) (e : pd μ d = some p) : Dp K H v p := by
  cases r with
  | ref a =>
    unfold pd at e
    simp only at e
    cases q : μ a with
    | none => rw [q] at e; cases e
    | some m =>
      rw [q] at e
      obtain ⟨_, o, h, ro⟩ := R.mus a m q
      cases ro with
      | lst r =>
        rename_i ds vs
        cases q2 : pdL ds with
        | none => simp only [q2] at e; cases e
        | some ps => simp only [q2] at e; cases e; exact .lst (SqL.of h) (RepL.dp R.ext R.sub r q2)
      | _ => cases e
  | non => exact RepS.dp R.ext R.sub .non e
  | bl b => exact RepS.dp R.ext R.sub (.bl b) e
  | int b => exact RepS.dp R.ext R.sub (.int b) e
  | str b => exact RepS.dp R.ext R.sub (.str b) e
  | ty b => cases e
  | tup h r => exact RepS.dp R.ext R.sub (.tup h r) e
  | lst h r => exact RepS.dp R.ext R.sub (.lst h r) e
  | rol h r => exact RepS.dp R.ext R.sub (.rol h r) e
  | dic h q r => cases e
  | exc0 _ _ => cases e
  | exc _ _ _ _ _ => cases e
  | ptp _ _ _ => cases e
end
/-- x == y: none where it is not known -/
def eqD (μ : Mu) (x y : SD) : Option Bool := match x, y with
  | .str s, .str t => some (decide (s = t))
  | .int i, .int j => some (decide (i = j))
  | .bl i, .bl j => some (decide (i = j))
  | .non, .non => some true
  | .non, .str _ => some false
  | .str _, .non => some false
  | x, y => match pd μ x, pd μ y with
    | some p, some q => if SeqAt.shaped p = true ∧ SeqAt.shaped q = true then some (PyData.eqv p q) else none
    | _, _ => none
def dEq (neg : Bool) : DR2 := fun x y μ Q => match eqD μ x y with
  | some b => Q (.bl (neg != b)) μ
  | none => False
section
variable {X : Cx} {K : PySem.W.Frag}
def rEqA (K : PySem.W.Frag) : R2 := fun x y H Q => rEq x y H Q ∨ rEqD K x y H Q
def rNeA (K : PySem.W.Frag) : R2 := fun x y H Q => rNe x y H Q ∨ rNeD K x y H Q
theorem opr_eq (hu : X.A.units + 64 < cLine) : OpR X (compareOp .Eq) (rEqA X.K) := op_eq.or (op_eqD hu)
theorem opr_ne (hu : X.A.units + 64 < cLine) : OpR X (compareOp .NotEq) (rNeA X.K) := op_ne.or (op_neD hu)
theorem eqD_cases {μ : Mu} {x y : SD} {b : Bool} (h : eqD μ x y = some b) : (∃ v w, plain x = some v ∧ plain y = some w ∧ scal v w = true ∧ b = decide (v = w)) ∨ ∃ p q, pd μ x = some p ∧ pd μ y = some q ∧ SeqAt.shaped p = true ∧ SeqAt.shaped q = true ∧ b = PyData.eqv p q := by
  unfold eqD at h
  split at h
  · cases h; exact .inl ⟨_, _, rfl, rfl, rfl, by simp⟩
  · cases h; exact .inl ⟨_, _, rfl, rfl, rfl, by simp⟩
  · cases h; exact .inl ⟨_, _, rfl, rfl, rfl, by simp⟩
  · cases h; exact .inl ⟨_, _, rfl, rfl, rfl, by simp⟩
  · cases h; exact .inl ⟨_, _, rfl, rfl, rfl, by simp⟩
  · cases h; exact .inl ⟨_, _, rfl, rfl, rfl, by simp⟩
  · split at h
    · rename_i p q e1 e2
      split at h
      · rename_i hs
        cases h
        exact .inr ⟨p, q, e1, e2, hs.1, hs.2, rfl⟩
      · cases h
    · cases h
theorem lr_eq : LR2 K (dEq false) (rEqA K) := fun F H μ x y dx dy Q' Q R rx ry t k => by
  unfold dEq at t
  cases e : eqD μ dx dy with
  | none => rw [e] at t; exact False.elim t
  | some b =>
    rw [e] at t
    have t : Q' (.bl b) μ := by simpa using t
    rcases eqD_cases e with ⟨v, w, h1, h2, h3, rfl⟩ | ⟨p, q, h1, h2, h3, h4, rfl⟩
    · obtain rfl := rx.isPlain h1
      obtain rfl := ry.isPlain h2
      exact .inl ⟨h3, k _ μ t F H _ (Stp.refl _ _ _) R (.bl _)⟩
    · exact .inr ⟨p, q, R.dp rx h1, R.dp ry h2, h3, h4, k _ μ t F H _ (Stp.refl _ _ _) R (.bl _)⟩
theorem lr_ne : LR2 K (dEq true) (rNeA K) := fun F H μ x y dx dy Q' Q R rx ry t k => by
  unfold dEq at t
  cases e : eqD μ dx dy with
  | none => rw [e] at t; exact False.elim t
  | some b =>
    rw [e] at t
    have t : Q' (.bl (!b)) μ := by simpa using t
    rcases eqD_cases e with ⟨v, w, h1, h2, h3, rfl⟩ | ⟨p, q, h1, h2, h3, h4, rfl⟩
    · obtain rfl := rx.isPlain h1
      obtain rfl := ry.isPlain h2
      exact .inl ⟨h3, k _ μ t F H _ (Stp.refl _ _ _) R (.bl _)⟩
    · exact .inr ⟨p, q, R.dp rx h1, R.dp ry h2, h3, h4, k _ μ t F H _ (Stp.refl _ _ _) R (.bl _)⟩

/-! order -/
def dCmp (fi : Int → Int → Bool) (fs : List Nat → List Nat → Bool) : DR2 := fun x y μ Q => match x with
  | .int i => match y with
    | .int j => Q (.bl (fi i j)) μ
    | _ => False
  | .str s => match y with
    | .str t => Q (.bl (fs s.cps.toList t.cps.toList)) μ
    | _ => False
  | _ => False
def rCmp (fi : Int → Int → Bool) (fs : List Nat → List Nat → Bool) : R2 := fun x y H Q => (∃ i j, x = .int i ∧ y = .int j ∧ Q (.bl (fi i j)) H) ∨ ∃ i j : Str, x = .str i ∧ y = .str j ∧ Q (.bl (fs i.cps.toList j.cps.toList)) H
theorem lr_cmp {fi : Int → Int → Bool} {fs : List Nat → List Nat → Bool} : LR2 K (dCmp fi fs) (rCmp fi fs) := fun F H μ x y dx dy Q' Q R rx ry t k => by
  cases dx with
  | int i => cases dy with
    | int j => cases rx; cases ry; exact .inl ⟨i, j, rfl, rfl, k _ μ t F H _ (Stp.refl _ _ _) R (.bl _)⟩
    | _ => exact False.elim t
  | str i => cases dy with
    | str j => cases rx; cases ry; exact .inr ⟨i, j, rfl, rfl, k _ μ t F H _ (Stp.refl _ _ _) R (.bl _)⟩
    | _ => exact False.elim t
  | _ => exact False.elim t
abbrev dLt : DR2 := dCmp (fun i j => decide (i < j)) fun s t => decide (s < t)
theorem opr_lt : OpR X (compareOp .Lt) (rCmp (fun i j => decide (i < j)) fun s t => decide (s < t)) := op_lt.or op_lt_str
theorem lr_lt : LR2 K dLt (rCmp (fun i j => decide (i < j)) fun s t => decide (s < t)) := lr_cmp

/-! arithmetic, on -/
def rMul : R2 := fun x y H Q => rI IntMulOk (fun i j => .int (i * j)) x y H Q ∨ ((∃ s j, x = .str s ∧ y = .int j ∧ (0 ≤ j ∧ j ≤ 1000000 ∧ s.length * j.toNat ≤ sizeLine) ∧ Q (.str (repS s j.toNat)) H) ∨ rRep x y H Q)
theorem op_mulG : OpR X (binaryOp .Mult) (rI IntMulOk fun i j => .int (i * j)) := opI fun _ _ _ _ _ _ _ hc q => mul_int q hc
theorem opr_mul : OpR X (binaryOp .Mult) rMul := op_mulG.or (op_mulS.or op_rep)
def dMul : DR2 := fun x y μ Q => match y with
  | .int j => match x with
    | .int i => IntMulOk i j ∧ Q (.int (i * j)) μ
    | .str s => (0 ≤ j ∧ j ≤ 1000000 ∧ s.length * j.toNat ≤ sizeLine) ∧ Q (.str (repS s j.toNat)) μ
    | x => match lstD μ x with
      | some xs => (-(2 ^ 63) ≤ j ∧ j < 2 ^ 63 ∧ xs.length * j.toNat ≤ sizeLine) ∧ Q (.lst (List.replicate j.toNat xs).flatten) μ
      | none => False
  | _ => False
theorem RepL.rep {F : Hp} {ds : List SD} {vs : List V} (h : RepL K F ds vs) : ∀ n : Nat, RepL K F (List.replicate n ds).flatten (List.replicate n vs).flatten
  | 0 => .nil
  | n + 1 => by rw [List.replicate_succ, List.replicate_succ, List.flatten_cons, List.flatten_cons]; exact h.append (RepL.rep h n)
theorem lr_mul : LR2 K dMul rMul := fun F H μ x y dx dy Q' Q R rx ry t k => by
  cases dy with
  | int j =>
    cases ry
    have fall : (match lstD μ dx with
      | some xs => (-(2 ^ 63) ≤ j ∧ j < 2 ^ 63 ∧ xs.length * j.toNat ≤ sizeLine) ∧ Q' (.lst (List.replicate j.toNat xs).flatten) μ
      | none => False) → rMul x (.int j) H Q := fun t => by
      cases e : lstD μ dx with
      | none => rw [e] at t; exact False.elim t
      | some xs =>
        rw [e] at t
        obtain ⟨⟨h1, h2, h3⟩, t⟩ := t
        obtain ⟨a, vs, rfl, ha, r⟩ := R.lst rx e
        refine .inr (.inr ⟨a, j, vs, rfl, rfl, ha, h1, h2, by rw [← r.length]; exact h3, fun q hq => ?_⟩)
        exact k _ μ t _ _ _ (Stp.newS R hq) (R.newS hq) (.lst upd_same ((r.rep _).mono (Ext.new (R.freeF hq))))
    cases dx with
    | int i => cases rx; exact .inl ⟨i, j, rfl, rfl, t.1, k _ μ t.2 F H _ (Stp.refl _ _ _) R (.int _)⟩
    | str s => cases rx; exact .inr (.inl ⟨s, j, rfl, rfl, t.1, k _ μ t.2 F H _ (Stp.refl _ _ _) R (.str _)⟩)
    | lst xs => exact fall t
    | ref a => exact fall t
    | _ => exact fall t
  | _ => exact False.elim t
def dI2 (C : Int → Int → Prop) (f : Int → Int → Int) : DR2 := fun x y μ Q => match x with
  | .int i => match y with
    | .int j => C i j ∧ Q (.int (f i j)) μ
    | _ => False
  | _ => False
theorem lr_i2 {C : Int → Int → Prop} {f : Int → Int → Int} : LR2 K (dI2 C f) (rI C fun i j => .int (f i j)) := lr_ints (ff := fun i j => .int (f i j)) (fun _ _ => rfl) fun x y μ Q t => by
  cases x <;> cases y <;> first | exact False.elim t | exact ⟨_, _, rfl, rfl, t.1, t.2⟩
abbrev dMod : DR2 := dI2 (fun _ j => 0 < j) fun i j => i % j
abbrev dDiv : DR2 := dI2 CDivW fun i j => i / j
def CPowW (i j : Int) : Prop := 0 ≤ j ∧ (Builtin.Int.intBits i : Int) * j ≤ 2 ^ 27
theorem op_powW : OpR X (binaryOp .Pow) (rI CPowW fun i j => .int (i ^ j.toNat)) := opI fun _ _ _ _ _ _ _ hc q => pow_int hc.1 hc.2 q
abbrev dPow : DR2 := dI2 CPowW fun i j => i ^ j.toNat
end
/-- one operand -/
abbrev dUnI (f : Int → Int) (ta : DTE) : DTE := fun ρ μ Q => ta ρ μ fun x μ1 => match x with
  | .int i => Q (.int (f i)) μ1
  | _ => False
theorem de_neg {X : Cx} {a : Expr} {pos : Pos} {ta : DTE} (ha : DE X a ta) : DE X (.UnaryOp .USub a pos) (dUnI (fun i => -i) ta) := weakE (pe_un un_neg ha) fun σ H Q h => by
  obtain ⟨F, ρ, μ, Q', R, S, t, k⟩ := h
  refine ⟨F, ρ, μ, _, R, S, t, fun d μ1 t1 F1 H1 v s1 R1 r1 => ?_⟩
  cases r1 with
  | int i => exact ⟨i, rfl, k _ μ1 t1 F1 H1 _ s1 R1 (.int _)⟩
  | _ => exact False.elim t1

/-! ### membership -/
def eqA (a b : SD) : Bool := match plain a, plain b with
  | some v, some w => eqV v w
  | _, _ => false
def flatD (d : SD) : Bool := match plain d with
  | some v => flatV v
  | none => false
def inS (x : SD) (xs : List SD) : Bool := xs.any fun y => eqA y x
def dIn (neg : Bool) : DR2 := fun x y μ Q => match y with
  | .str t => match x with
    | .str s => match s.cps.toList with
      | [c] => Q (.bl (neg != decide (c ∈ t.cps.toList))) μ
      | _ => False
    | _ => False
  | y => match seqD μ y with
    | some xs => (flatD x = true ∧ xs.all flatD = true) ∧ Q (.bl (neg != inS x xs)) μ
    | none => False
section
variable {X : Cx} {K : PySem.W.Frag} {F : Hp}
theorem flatD_V {d : SD} {v : V} (r : RepS K F d v) (h : flatD d = true) : plain d = some v ∧ flatV v = true := by
  unfold flatD at h
  cases e : plain d with
  | none => rw [e] at h; cases h
  | some w =>
    rw [e] at h
    obtain rfl := r.isPlain e
    exact ⟨rfl, h⟩
theorem flatL_V : ∀ {ds : List SD} {vs : List V}, RepL K F ds vs → ds.all flatD = true → vs.all flatV = true ∧ ∀ {x : SD} {v : V}, plain x = some v → (ds.any fun y => eqA y x) = inV v vs
  | _, _, .nil, _ => ⟨rfl, fun _ => rfl⟩
  | d :: ds, _, .cons h r, e => by
    rw [List.all_cons, Bool.and_eq_true] at e
    obtain ⟨p, f⟩ := flatD_V h e.1
    obtain ⟨q1, q2⟩ := flatL_V r e.2
    refine ⟨by rw [List.all_cons, f, q1]; rfl, fun {x v} hx => ?_⟩
    show (eqA d x || (ds.any fun y => eqA y x)) = _
    rw [q2 hx]
    unfold eqA
    rw [p, hx]
    rfl
def rInA (K : PySem.W.Frag) (neg : Bool) : R2 := fun x y H Q => (∃ (c : Nat) (z : Str), x = .str ⟨#[c]⟩ ∧ y = .str z ∧ Q (.bl (neg != decide (c ∈ z.cps.toList))) H) ∨ rIn K neg x y H Q
theorem opr_in : OpR X (compareOp .In) (rInA X.K false) := by
  refine OpR.or (fun pins s σ H x y v u Q I rx ry h => ?_) op_in_seq
  obtain ⟨c, z, e1, e2, q⟩ := h
  exact op_in_sign pins s σ H x y v u Q I rx ry ⟨c, z, e1, e2, by simpa using q⟩
theorem opr_notIn : OpR X (compareOp .NotIn) (rInA X.K true) := by
  refine OpR.or (fun pins s σ H x y v u Q I rx ry h => ?_) op_notIn_seq
  obtain ⟨c, z, e1, e2, q⟩ := h
  exact op_notIn_sign pins s σ H x y v u Q I rx ry ⟨c, z, e1, e2, by simpa using q⟩
theorem one_sign {s : Str} {c : Nat} (h : s.cps.toList = [c]) : s = ⟨#[c]⟩ := by
  obtain ⟨a⟩ := s
  simp only at h
  congr 1
  exact Array.toList_inj.mp (by simpa using h)
theorem lr_in {neg : Bool} : LR2 K (dIn neg) (rInA K neg) := fun F H μ x y dx dy Q' Q R rx ry t k => by
  have fall : (match seqD μ dy with
    | some xs => (flatD dx = true ∧ xs.all flatD = true) ∧ Q' (.bl (neg != inS dx xs)) μ
    | none => False) → rInA K neg x y H Q := fun t => by
    cases e : seqD μ dy with
    | none => rw [e] at t; exact False.elim t
    | some xs =>
      rw [e] at t
      obtain ⟨⟨f1, f2⟩, t⟩ := t
      obtain ⟨a, vs, rfl, r, h3⟩ := R.seq' ry e
      obtain ⟨p, f⟩ := flatD_V rx f1
      obtain ⟨q1, q2⟩ := flatL_V r f2
      refine .inr ⟨a, vs, rfl, h3, f, q1, ?_⟩
      have e2 : inS dx xs = inV x vs := q2 p
      rw [e2] at t
      have e3 : (if neg = true then !inV x vs else inV x vs) = (neg != inV x vs) := by cases neg <;> simp
      rw [e3]
      exact k _ μ t F H _ (Stp.refl _ _ _) R (.bl _)
  cases dy with
  | str z =>
    cases ry
    cases dx with
    | str s =>
      cases rx
      unfold dIn at t
      simp only at t
      split at t
      · rename_i c hc
        have e := one_sign hc
        subst e
        exact .inl ⟨c, z, rfl, rfl, k _ μ t F H _ (Stp.refl _ _ _) R (.bl _)⟩
      · exact False.elim t
    | _ => exact False.elim t
  | _ => exact fall t
end

/-! ### subscripts, slices -/
def dIx : DR2 := fun x y μ Q => match y with
  | .int i => match x with
    | .str z => z.length ≤ sizeLine ∧ match atI z.cps.toList i with
      | some c => Q (.str ⟨#[c]⟩) μ
      | none => False
    | x => match seqD μ x with
      | some xs => match atI xs i with
        | some d => Q d μ
        | none => False
      | none => False
  | _ => False
section
variable {X : Cx} {K : PySem.W.Frag} {a b e : Expr} {pos p2 : Pos} {ta tb te : DTE} {lo hi : Option Expr}
theorem atI_rep {F : Hp} {ds : List SD} {vs : List V} {i : Int} {d : SD} (r : RepL K F ds vs) (h : atI ds i = some d) : ∃ v, atI vs i = some v ∧ RepS K F d v := by
  unfold atI at h ⊢
  rw [← r.length]
  cases q : ixN ds.length i with
  | none => rw [q] at h; cases h
  | some j =>
    rw [q] at h
    obtain ⟨v, h1, h2⟩ := r.get h
    exact ⟨v, h1, h2⟩
theorem lr_ix : LR2 K dIx (rIx K) := fun F H μ x y dx dy Q' Q R rx ry t k => by
  cases dy with
  | int i =>
    cases ry
    have fall : (match seqD μ dx with
      | some xs => match atI xs i with
        | some d => Q' d μ
        | none => False
      | none => False) → rIx K x (.int i) H Q := fun t => by
      cases e : seqD μ dx with
      | none => rw [e] at t; exact False.elim t
      | some xs =>
        rw [e] at t
        simp only at t
        cases e2 : atI xs i with
        | none => rw [e2] at t; exact False.elim t
        | some d =>
          rw [e2] at t
          obtain ⟨a, vs, rfl, r, h3⟩ := R.seq' rx e
          obtain ⟨v, h1, h2⟩ := atI_rep r e2
          rcases h3 with h3 | h3
          · exact .inl ⟨a, vs, i, v, rfl, rfl, h3, h1, k _ μ t F H _ (Stp.refl _ _ _) R h2⟩
          · exact .inr (.inl ⟨a, vs, i, v, rfl, rfl, h3, h1, k _ μ t F H _ (Stp.refl _ _ _) R h2⟩)
    cases dx with
    | str z =>
      cases rx
      obtain ⟨hz, t⟩ := (show z.length ≤ sizeLine ∧ _ from t)
      cases e2 : atI z.cps.toList i with
      | none => rw [e2] at t; exact False.elim t
      | some c => rw [e2] at t; exact .inr (.inr ⟨z, i, c, rfl, rfl, hz, e2, k _ μ t F H _ (Stp.refl _ _ _) R (.str _)⟩)
    | _ => exact fall t
  | _ => exact False.elim t
theorem de_ix (ha : DE X a ta) (hb : DE X b tb) (hs : PlainIx b) : DE X (.Subscript a b pos) (dOp dIx ta tb) := weakE (pe_ix ix_seq ha hb hs) (lift2 lr_ix)
abbrev DTO := Rho → Mu → (Option Int → Mu → Prop) → Prop
def LO (K : PySem.W.Frag) (t : DTO) : TO := fun σ H Q => ∃ F ρ μ Q', HReal K F H μ ∧ Slots K F σ ρ ∧ t ρ μ Q' ∧ ∀ o μ', Q' o μ' → ∀ F' H', Stp F H μ F' H' μ' → HReal K F' H' μ' → Q o H'
abbrev DO (X : Cx) (e : Option Expr) (t : DTO) : Prop := PO X e (LO X.K t)
abbrev dNoPart : DTO := fun _ μ Q => Q none μ
abbrev dPart (t : DTE) : DTO := fun ρ μ Q => t ρ μ fun d μ1 => match d with
  | .int i => Q (some i) μ1
  | _ => False
theorem do_none : DO X none dNoPart := ⟨fun pins s σ H Q I h => by
  obtain ⟨F, ρ, μ, Q', R, S, t, k⟩ := h
  exact po_none.run pins s σ H Q I (k _ μ t F H (Stp.refl _ _ _) R)⟩
theorem do_some (he : DE X e te) : DO X (some e) (dPart te) := ⟨fun pins s σ H Q I h => (po_some he).run pins s σ H Q I (by
  obtain ⟨F, ρ, μ, Q', R, S, t, k⟩ := h
  refine ⟨F, ρ, μ, _, R, S, t, fun d μ1 t1 F1 H1 v s1 R1 r1 => ?_⟩
  cases r1 with
  | int i => exact ⟨i, rfl, k _ μ1 t1 F1 H1 s1 R1⟩
  | _ => exact False.elim t1)⟩
def cutL {α : Type} (xs : List α) (lo hi : Option Int) : List α := (xs.drop (HT.sIx xs.length 0 lo)).take (HT.sIx xs.length xs.length hi - HT.sIx xs.length 0 lo)
theorem RepL.cutL {F : Hp} {ds : List SD} {vs : List V} (r : RepL K F ds vs) (lo hi : Option Int) : RepL K F (DS.cutL ds lo hi) (cutV vs lo hi) := by
  unfold DS.cutL cutV
  rw [r.length]
  exact (r.drop _).take _
theorem cut_all {α : Type} {xs : List α} {lo hi : Option Int} (h : HT.sIx xs.length 0 lo = 0 ∧ HT.sIx xs.length xs.length hi = xs.length) : cutL xs lo hi = xs := by
  unfold cutL
  rw [h.1, h.2]
  simp
/-- x[lo:hi] -/
def drSl (x : SD) (l u : Option Int) (μ3 : Mu) (Q : SD → Mu → Prop) : Prop := match x with
  | .str z => z.length ≤ sizeLine ∧ Q (.str (cutS z l u)) μ3
  | .tup xs => Q (.tup (cutL xs l u)) μ3
  | x => match seqD μ3 x with
    | some xs => Q (.lst (cutL xs l u)) μ3
    | none => False
abbrev dSl (te : DTE) (tl th : DTO) : DTE := fun ρ μ Q => te ρ μ fun x μ1 => tl ρ μ1 fun l μ2 => th ρ μ2 fun u μ3 => drSl x l u μ3 Q
def drSlM (x : SD) (l u : Option Int) (μ3 : Mu) (Q : SD → Mu → Prop) : Prop := match seqD μ3 x with
    | some xs => isTup x = false ∧ ∀ p, μ3 p = none → Q (.ref p) (up μ3 p (.lst (cutL xs l u)))
    | none => False
abbrev dSlM (te : DTE) (tl th : DTO) : DTE := fun ρ μ Q => te ρ μ fun x μ1 => tl ρ μ1 fun l μ2 => th ρ μ2 fun u μ3 => drSlM x l u μ3 Q
def rSlG (K : PySem.W.Frag) : V → Option Int → Option Int → Hp → VK → Prop := fun x lo hi H Q => rSlS x lo hi H Q ∨ (rSlA K x lo hi H Q ∨ rSlL K x lo hi H Q)
theorem slr : SlR X (rSlG X.K) := sl_str.or (sl_tupA.or sl_list)
theorem de_slice {tl th : DTO} (he : DE X e te) (hl : DO X lo tl) (hu : DO X hi th) : DE X (.Subscript e (.Slice lo hi none p2) pos) (dSl te tl th) := weakE (pe_slice slr he hl hu) fun σ H Q h => by
  obtain ⟨F, ρ, μ, Q', R, S, t, k⟩ := h
  refine ⟨F, ρ, μ, _, R, S, t, fun d μ1 t1 F1 H1 v s1 R1 r1 => ⟨F1, ρ, μ1, _, R1, S.mono s1.ext, t1, fun l μ2 t2 F2 H2 s2 R2 => ⟨F2, ρ, μ2, _, R2, (S.mono s1.ext).mono s2.ext, t2, fun u μ3 t3 F3 H3 s3 R3 => ?_⟩⟩⟩
  unfold drSl at t3
  have r3 := r1.mono (s2.trans s3).ext
  have s := (s1.trans s2).trans s3
  have fall : isTup d = false → (match seqD μ3 d with
    | some xs => Q' (.lst (cutL xs l u)) μ3
    | none => False) → rSlG X.K v l u H3 Q := fun ht t => by
    cases e : seqD μ3 d with
    | none => rw [e] at t; exact False.elim t
    | some xs =>
      rw [e] at t
      obtain ⟨a, vs, rfl, r, h3⟩ := R3.seq r3 e
      rcases h3 with ⟨_, h3⟩ | ⟨z, _⟩
      · exact .inr (.inr ⟨a, vs, rfl, h3, fun q hq => k _ μ3 t _ _ _ (s.trans (Stp.newS R3 hq)) (R3.newS hq) (.lst upd_same ((r.cutL l u).mono (Ext.new (R3.freeF hq))))⟩)
      · rw [ht] at z; cases z
  cases d with
  | str z => cases r3; exact .inl ⟨z, rfl, t3.1, k _ μ3 t3.2 F3 H3 _ s R3 (.str _)⟩
  | tup xs =>
    cases r3 with
    | tup h r =>
      refine .inr (.inl ⟨_, _, rfl, R3.ext.sqT h, fun hw => ?_, fun hw q hq => ?_⟩)
      · have t3' : Q' (.tup (cutL xs l u)) μ3 := t3
        rw [cut_all (by rw [r.length]; exact hw)] at t3'
        exact k _ μ3 t3' F3 H3 _ s R3 (.tup h r)
      · exact k _ μ3 t3 _ _ _ (s.trans (Stp.newS R3 hq)) (R3.newS hq) (.tup (.inl (.inl upd_same)) ((r.cutL l u).mono (Ext.new (R3.freeF hq))))
  | _ => exact fall rfl t3
theorem de_sliceM {tl th : DTO} (he : DE X e te) (hl : DO X lo tl) (hu : DO X hi th) : DE X (.Subscript e (.Slice lo hi none p2) pos) (dSlM te tl th) := weakE (pe_slice slr he hl hu) fun σ H Q h => by
  obtain ⟨F, ρ, μ, Q', R, S, t, k⟩ := h
  refine ⟨F, ρ, μ, _, R, S, t, fun d μ1 t1 F1 H1 v s1 R1 r1 => ⟨F1, ρ, μ1, _, R1, S.mono s1.ext, t1, fun l μ2 t2 F2 H2 s2 R2 => ⟨F2, ρ, μ2, _, R2, (S.mono s1.ext).mono s2.ext, t2, fun u μ3 t3 F3 H3 s3 R3 => ?_⟩⟩⟩
  unfold drSlM at t3
  have r3 := r1.mono (s2.trans s3).ext
  have s := (s1.trans s2).trans s3
  cases e : seqD μ3 d with
  | none => rw [e] at t3; exact False.elim t3
  | some xs =>
    rw [e] at t3
    obtain ⟨ht, t3⟩ := t3
    obtain ⟨a, vs, rfl, r, h3⟩ := R3.seq r3 e
    rcases h3 with ⟨_, h3⟩ | ⟨z, _⟩
    · exact .inr (.inr ⟨a, vs, rfl, h3, fun q hq => k _ _ (t3 q (R3.freeM hq)) _ _ _ (s.trans (Stp.newM R3 hq)) (R3.newM hq (.lst (r.cutL l u))) (.ref q)⟩)
    · rw [ht] at z; cases z
end
end DS
/-! DS7: built-ins by value, methods of lists, repr. -/
namespace DS
open PySem PySem.Spec PyProof.Rows L2
abbrev DRc := List SD → Mu → (SD → Mu → Prop) → Prop
def LRc (K : PySem.W.Frag) (dr : DRc) (r : List V → Hp → VK → Prop) : Prop := ∀ F H μ xs ds Q' Q, HReal K F H μ → RepL K F ds xs → dr ds μ Q' →
  (∀ d μ', Q' d μ' → ∀ F' H' v, Stp F H μ F' H' μ' → HReal K F' H' μ' → RepS K F' d v → Q v H') → r xs H Q
abbrev dCB (dr : DRc) (t : DTA) : DTE := fun ρ μ Q => t ρ μ fun ds μ1 => dr ds μ1 Q
section
variable {X : Cx} {K : PySem.W.Frag} {x : Str} {p pos apos cpos : Pos} {e o : Expr} {es : List Expr} {t : DTA} {to : DTE} {dr : DRc} {r : List V → Hp → VK → Prop} {id T : String} {name : Str}
theorem liftCB (hl : LRc K dr r) : ∀ σ H Q, LE K (dCB dr t) σ H Q → tCB r (LA K t) σ H Q := fun σ H Q h => by
  obtain ⟨F, ρ, μ, Q', R, S, t, k⟩ := h
  exact ⟨F, ρ, μ, _, R, S, t, fun ds μ1 t1 F1 H1 vs s1 R1 r1 => hl F1 H1 μ1 vs ds Q' Q R1 r1 t1 fun d μ' q F' H' v s R' r' => k d μ' q F' H' v (s1.trans s) R' r'⟩
theorem de_callB (hc : CallR X (.builtin id) r) (hl : LRc X.K dr r) (hg : Gl X x) (hm : X.mg x = none) (hv : bootBuiltins x = some (.builtin id)) (ha : DA X (e :: es) t) (hn : x ≠ "__name__" := by decide) (hdb : (x == ("__debug__" : Str)) = false := by decide)
    (he : starEach (e :: es) X.env = (false, eval e X.env) :: starEach es X.env := by rfl) (hpl : (backTo pos (starEach es X.env)).any (·.1) = false := by rfl) : DE X (.Call (.Name x p) (e :: es) [] pos) (dCB dr t) :=
  weakE (pe_callB hc hg hm hv ha hn hdb he hpl) (liftCB hl)
theorem de_callT (hc : CallR X (.type T) r) (hl : LRc X.K dr r) (hg : Gl X x) (hm : X.mg x = none) (hv : bootBuiltins x = some (.type T)) (ha : DA X (e :: es) t) (hn : x ≠ "__name__" := by decide) (hdb : (x == ("__debug__" : Str)) = false := by decide)
    (he : starEach (e :: es) X.env = (false, eval e X.env) :: starEach es X.env := by rfl) (hpl : (backTo pos (starEach es X.env)).any (·.1) = false := by rfl) : DE X (.Call (.Name x p) (e :: es) [] pos) (dCB dr t) :=
  weakE (pe_callTy hc hg hm hv ha hn hdb he hpl) (liftCB hl)

/-! len -/
def drLen : DRc := fun ds μ Q => match ds with
  | [d] => match d with
    | .str s => s.length ≤ sizeLine ∧ Q (.int s.length) μ
    | d => match seqD μ d with
      | some xs => Q (.int xs.length) μ
      | none => False
  | _ => False
def rLen (K : PySem.W.Frag) : List V → Hp → VK → Prop := fun xs H Q => (∃ p ys, xs = [.ref p] ∧ (SqL K H p ys ∨ SqT K H p ys) ∧ Q (.int ys.length) H) ∨ (∃ z, xs = [.str z] ∧ z.length ≤ sizeLine ∧ Q (.int z.length) H)
theorem cr_len : CallR X (.builtin "len") (rLen X.K) := call_len_seq.or call_len_str
theorem lc_len : LRc K drLen (rLen K) := fun F H μ xs ds Q' Q R r t k => by
  cases r with
  | nil => exact False.elim t
  | cons r1 r2 => cases r2 with
    | cons _ _ => exact False.elim t
    | nil =>
      rename_i d v
      have fall : (match seqD μ d with
        | some xs => Q' (.int xs.length) μ
        | none => False) → rLen K [v] H Q := fun t => by
        cases e : seqD μ d with
        | none => rw [e] at t; exact False.elim t
        | some xs =>
          rw [e] at t
          obtain ⟨a, vs, rfl, r, h3⟩ := R.seq' r1 e
          refine .inl ⟨a, vs, rfl, h3, ?_⟩
          rw [← r.length]
          exact k _ μ t F H _ (Stp.refl _ _ _) R (.int _)
      cases d with
      | str z => cases r1; exact .inr ⟨z, rfl, t.1, k _ μ t.2 F H _ (Stp.refl _ _ _) R (.int _)⟩
      | _ => exact fall t
/-! tuple(x), list(x) -/
def drTuple : DRc := fun ds μ Q => match ds with
  | [d] => match seqD μ d with
    | some xs => Q (.tup xs) μ
    | none => False
  | _ => False
def drList : DRc := fun ds μ Q => match ds with
  | [d] => match seqD μ d with
    | some xs => Q (.lst xs) μ
    | none => False
  | _ => False
def drListM : DRc := fun ds μ Q => match ds with
  | [d] => match seqD μ d with
    | some xs => ∀ p, μ p = none → Q (.ref p) (up μ p (.lst xs))
    | none => False
  | _ => False
theorem seq1 {dr : (SD → Mu → Prop) → List SD → SD → Mu → Prop} {rr : List V → Hp → VK → Prop}
    (h : ∀ F H μ d a vs xs Q' Q, HReal K F H μ → RepS K F d (.ref a) → RepL K F xs vs → ((isTup d = false ∧ SqL K H a vs) ∨ (isTup d = true ∧ SqT K H a vs)) → seqD μ d = some xs → dr Q' xs d μ →
      (∀ d μ', Q' d μ' → ∀ F' H' v, Stp F H μ F' H' μ' → HReal K F' H' μ' → RepS K F' d v → Q v H') → rr [.ref a] H Q) :
    LRc K (fun ds μ Q => match ds with
      | [d] => match seqD μ d with
        | some xs => dr Q xs d μ
        | none => False
      | _ => False) rr := fun F H μ xs ds Q' Q R r t k => by
  cases r with
  | nil => exact False.elim t
  | cons r1 r2 => cases r2 with
    | cons _ _ => exact False.elim t
    | nil =>
      rename_i d v
      cases e : seqD μ d with
      | none => simp only [e] at t
      | some xs =>
        simp only [e] at t
        obtain ⟨a, vs, rfl, r, h3⟩ := R.seq r1 e
        exact h F H μ d a vs xs Q' Q R r1 r h3 e t k
theorem lc_tuple : LRc K drTuple (fun xs H Q => ∃ p ys, xs = [.ref p] ∧ ((SqL K H p ys ∧ ∀ l, H l = none → Q (.ref l) (upd H l (.tup ys))) ∨ (SqT K H p ys ∧ Q (.ref p) H))) :=
  seq1 (dr := fun Q xs _ μ => Q (.tup xs) μ) fun F H μ d a vs xs Q' Q R rd r h3 e t k => by
    rcases h3 with ⟨_, h3⟩ | ⟨z, h3⟩
    · exact ⟨a, vs, rfl, .inl ⟨h3, fun q hq => k _ μ t _ _ _ (Stp.newS R hq) (R.newS hq) (.tup (.inl (.inl upd_same)) (r.mono (Ext.new (R.freeF hq))))⟩⟩
    · cases rd with
      | tup h q =>
        have e' : some xs = some _ := e.symm.trans rfl
        cases e
        exact ⟨a, _, rfl, .inr ⟨h3, k _ μ t F H _ (Stp.refl _ _ _) R (.tup h q)⟩⟩
      | _ => cases z
theorem lc_list : LRc K drList (fun xs H Q => ∃ p ys, xs = [.ref p] ∧ (SqL K H p ys ∨ SqT K H p ys) ∧ ∀ l, H l = none → Q (.ref l) (upd H l (.lst ys))) :=
  seq1 (dr := fun Q xs _ μ => Q (.lst xs) μ) fun F H μ d a vs xs Q' Q R rd r h3 e t k =>
    ⟨a, vs, rfl, h3.imp And.right And.right, fun q hq => k _ μ t _ _ _ (Stp.newS R hq) (R.newS hq) (.lst upd_same (r.mono (Ext.new (R.freeF hq))))⟩
theorem lc_listM : LRc K drListM (fun xs H Q => ∃ p ys, xs = [.ref p] ∧ (SqL K H p ys ∨ SqT K H p ys) ∧ ∀ l, H l = none → Q (.ref l) (upd H l (.lst ys))) :=
  seq1 (dr := fun Q xs _ μ => ∀ p, μ p = none → Q (.ref p) (up μ p (.lst xs))) fun F H μ d a vs xs Q' Q R rd r h3 e t k =>
    ⟨a, vs, rfl, h3.imp And.right And.right, fun q hq => k _ _ (t q (R.freeM hq)) _ _ _ (Stp.newM R hq) (R.newM hq (.lst r)) (.ref q)⟩
/-! abs, int, max, min of ints -/
def drI1 (f : Int → Int) : DRc := fun ds μ Q => match ds with
  | [.int i] => Q (.int (f i)) μ
  | _ => False
theorem lc_abs : LRc K (drI1 fun i => if i < 0 then -i else i) (fun xs H Q => ∃ i, xs = [.int i] ∧ Q (.int (if i < 0 then -i else i)) H) := fun F H μ xs ds Q' Q R r t k => by
  unfold drI1 at t
  split at t
  · cases r with
    | cons r1 r2 => cases r2; cases r1; exact ⟨_, rfl, k _ μ t F H _ (Stp.refl _ _ _) R (.int _)⟩
  · exact False.elim t
def drInt : DRc := fun ds μ Q => match ds with
  | [.int i] => Q (.int i) μ
  | [.bl b] => Q (.int (if b then 1 else 0)) μ
  | _ => False
theorem lc_int : LRc K drInt (fun xs H Q => (∃ i, xs = [.int i] ∧ Q (.int i) H) ∨ ∃ k, xs = [.bl k] ∧ Q (.int (if k then 1 else 0)) H) := fun F H μ xs ds Q' Q R r t k => by
  unfold drInt at t
  split at t
  · cases r with
    | cons r1 r2 => cases r2; cases r1; exact .inl ⟨_, rfl, k _ μ t F H _ (Stp.refl _ _ _) R (.int _)⟩
  · cases r with
    | cons r1 r2 => cases r2; cases r1; exact .inr ⟨_, rfl, k _ μ t F H _ (Stp.refl _ _ _) R (.int _)⟩
  · exact False.elim t
def drI2 (f : Int → Int → Int) : DRc := fun ds μ Q => match ds with
  | [.int i, .int j] => Q (.int (f i j)) μ
  | _ => False
theorem lc_i2 {f : Int → Int → Int} : LRc K (drI2 f) (fun xs H Q => ∃ i j, xs = [.int i, .int j] ∧ Q (.int (f i j)) H) := fun F H μ xs ds Q' Q R r t k => by
  unfold drI2 at t
  split at t
  · cases r with
    | cons r1 r2 => cases r1; cases r2 with
      | cons r2 r3 => cases r3; cases r2; exact ⟨_, _, rfl, k _ μ t F H _ (Stp.refl _ _ _) R (.int _)⟩
  · exact False.elim t
/-! all, any, sum of lists -/
def blsOf : List SD → Option (List Bool)
  | [] => some []
  | .bl b :: r => match blsOf r with
    | some bs => some (b :: bs)
    | none => none
  | _ :: _ => none
theorem blsOf_rep : ∀ {F : Hp} {ds : List SD} {vs : List V} {bs : List Bool}, RepL K F ds vs → blsOf ds = some bs → vs = bs.map V.bl
  | _, _, _, _, .nil, e => by cases e; rfl
  | _, d :: ds, _, _, .cons h r, e => by
    cases h with
    | bl b =>
      unfold blsOf at e
      cases q : blsOf ds with
      | none => rw [q] at e; cases e
      | some bs => rw [q] at e; cases e; rw [blsOf_rep r q]; rfl
    | _ => cases e
theorem blsOf_map (bs : List Bool) : blsOf (bs.map SD.bl) = some bs := by
  induction bs with
  | nil => rfl
  | cons b r ih => show (match blsOf (r.map SD.bl) with | some bs => some (b :: bs) | none => none) = _; rw [ih]
def drBls (f : List Bool → Bool) : DRc := fun ds μ Q => match ds with
  | [d] => match lstD μ d with
    | some xs => match blsOf xs with
      | some bs => Q (.bl (f bs)) μ
      | none => False
    | none => False
  | _ => False
theorem lc_bls {f : List Bool → Bool} : LRc K (drBls f) (fun vs H Q => ∃ (a : Addr) (bs : List Bool), vs = [V.ref a] ∧ SqL K H a (bs.map V.bl) ∧ Q (.bl (f bs)) H) := fun F H μ xs ds Q' Q R r t k => by
  cases r with
  | nil => exact False.elim t
  | cons r1 r2 => cases r2 with
    | cons _ _ => exact False.elim t
    | nil =>
      rename_i d v
      cases e : lstD μ d with
      | none => simp only [drBls, e] at t
      | some xs =>
        simp only [drBls, e] at t
        cases e2 : blsOf xs with
        | none => rw [e2] at t; exact False.elim t
        | some bs =>
          rw [e2] at t
          obtain ⟨a, vs, rfl, ha, r⟩ := R.lst r1 e
          rw [blsOf_rep r e2] at ha
          exact ⟨a, bs, rfl, SqL.of ha, k _ μ t F H _ (Stp.refl _ _ _) R (.bl _)⟩
theorem lc_all : LRc K (drBls fun bs => bs.all _root_.id) (rAll K) := lc_bls
theorem lc_any : LRc K (drBls fun bs => bs.any _root_.id) (rAny K) := lc_bls

/-! ### methods of lists -/
abbrev DRm := SD → List SD → Mu → (SD → Mu → Prop) → Prop
def LRm (K : PySem.W.Frag) (dr : DRm) (r : V → List V → Hp → VK → Prop) : Prop := ∀ F H μ x xs d ds Q' Q, HReal K F H μ → RepS K F d x → RepL K F ds xs → dr d ds μ Q' →
  (∀ d μ', Q' d μ' → ∀ F' H' v, Stp F H μ F' H' μ' → HReal K F' H' μ' → RepS K F' d v → Q v H') → r x xs H Q
/-- e.m(..) of a list -/
abbrev dLM (dr : DRm) (to : DTE) (t : DTA) : DTE := fun ρ μ Q => to ρ μ fun x μ1 => (lstD μ1 x).isSome = true ∧ t ρ μ1 fun xs μ2 => dr x xs μ2 Q
abbrev dLM0 (dr : DRm) (to : DTE) : DTE := fun ρ μ Q => to ρ μ fun x μ1 => (lstD μ1 x).isSome = true ∧ dr x [] μ1 Q
variable {rm : V → List V → Hp → VK → Prop} {drm : DRm}
theorem de_lm (pa : PlainAttrs "list") (slot : Slot "list" name id) (hty : typeOf (.builtin id) = pure (.type "method_descriptor")) (hm : MtR X id rm) (hl : LRm X.K drm rm) (ho : DE X o to) (ha : DA X (e :: es) t)
    (hbase : attributeBase o name X.env (eval o X.env) = eval o X.env := by rfl)
    (hfew : ((backTo cpos (starEach (e :: es) X.env)).all (fun x => !x.1) && (backToKw cpos (keywordEach [] X.env)).all (fun x => x.1.isSome)
      && decide ((e :: es).length + ([] : List Keyword).length + (if ([] : List Keyword).isEmpty then 0 else 1) < 30)) = true := by rfl)
    (hline : (apos.endLine == cpos.line) = true := by rfl) (hs : starEach (e :: es) X.env = (false, eval e X.env) :: starEach es X.env := by rfl) (hplain : (backTo cpos (starEach es X.env)).any (·.1) = false := by rfl) :
    DE X (.Call (.Attribute o name apos) (e :: es) [] cpos) (dLM drm to t) := weakE (pe_bm pa slot hty hm ho ha hbase hfew hline hs hplain) fun σ H Q h => by
  obtain ⟨F, ρ, μ, Q', R, S, t, k⟩ := h
  refine ⟨F, ρ, μ, _, R, S, t, fun d μ1 t1 F1 H1 v s1 R1 r1 => ?_⟩
  obtain ⟨h1, t1⟩ := t1
  obtain ⟨xs, hx⟩ := Option.isSome_iff_exists.mp h1
  obtain ⟨a, vs, rfl, ha, r⟩ := R1.lst r1 hx
  refine ⟨.inl ⟨rfl, vs, SqL.of ha⟩, F1, ρ, μ1, _, R1, S.mono s1.ext, t1, fun ds μ2 t2 F2 H2 ws s2 R2 r2 => ?_⟩
  exact hl F2 H2 μ2 _ ws d ds Q' Q R2 (r1.mono s2.ext) r2 t2 fun d μ' q F' H' v s R' r' => k d μ' q F' H' v ((s1.trans s2).trans s) R' r'
theorem de_lm0 (pa : PlainAttrs "list") (slot : Slot "list" name id) (hty : typeOf (.builtin id) = pure (.type "method_descriptor")) (hm : MtR X id rm) (hl : LRm X.K drm rm) (ho : DE X o to)
    (hbase : attributeBase o name X.env (eval o X.env) = eval o X.env := by rfl) (hline : (apos.endLine == cpos.line) = true := by rfl) :
    DE X (.Call (.Attribute o name apos) [] [] cpos) (dLM0 drm to) := weakE (pe_bm0 pa slot hty hm ho hbase hline) fun σ H Q h => by
  obtain ⟨F, ρ, μ, Q', R, S, t, k⟩ := h
  refine ⟨F, ρ, μ, _, R, S, t, fun d μ1 t1 F1 H1 v s1 R1 r1 => ?_⟩
  obtain ⟨h1, t1⟩ := t1
  obtain ⟨xs, hx⟩ := Option.isSome_iff_exists.mp h1
  obtain ⟨a, vs, rfl, ha, r⟩ := R1.lst r1 hx
  exact ⟨.inl ⟨rfl, vs, SqL.of ha⟩, hl F1 H1 μ1 _ [] d [] Q' Q R1 r1 .nil t1 fun d μ' q F' H' v s R' r' => k d μ' q F' H' v (s1.trans s) R' r'⟩
/-- the list at a, which may change -/
def mlst (μ : Mu) : SD → Option (Addr × List SD)
  | .ref a => match μ a with
    | some (.lst xs) => some (a, xs)
    | _ => none
  | _ => none
theorem HReal.mlst {F H : Hp} {μ : Mu} {d : SD} {v : V} {a : Addr} {xs : List SD} (R : HReal K F H μ) (r : RepS K F d v) (h : DS.mlst μ d = some (a, xs)) : v = .ref a ∧ μ a = some (.lst xs) ∧ ∃ vs, H a = some (.lst vs) ∧ RepL K F xs vs := by
  cases r with
  | ref b =>
    unfold DS.mlst at h
    simp only at h
    split at h
    · rename_i ys hy
      cases h
      obtain ⟨_, o, h, q⟩ := R.mus _ _ hy
      cases q with
      | lst q => exact ⟨rfl, hy, _, h, q⟩
    · cases h
  | _ => cases h
def dmAppend : DRm := fun d ds μ Q => match ds with
  | [y] => match mlst μ d with
    | some (a, xs) => xs.length < sizeLine ∧ Q .non (up μ a (.lst (xs ++ [y])))
    | none => False
  | _ => False
theorem lm_append : LRm K dmAppend rAppend := fun F H μ x xs d ds Q' Q R r rs t k => by
  cases rs with
  | nil => exact False.elim t
  | cons r1 r2 => cases r2 with
    | cons _ _ => exact False.elim t
    | nil =>
      rename_i y vy
      cases e : mlst μ d with
      | none => simp only [dmAppend, e] at t
      | some p =>
        obtain ⟨a, zs⟩ := p
        simp only [dmAppend, e] at t
        obtain ⟨rfl, hm, vs, ha, r⟩ := R.mlst r e
        exact ⟨a, vs, vy, rfl, rfl, ha, by rw [← r.length]; exact t.1, k _ _ t.2 F _ _ (Stp.put hm) (R.put hm (.lst (r.append (.one r1)))) .non⟩
def dmPop : DRm := fun d ds μ Q => match mlst μ d with
  | some (a, xs) => match xs[xs.length - 1]? with
    | some y => ds = [] ∧ Q y (up μ a (.lst xs.dropLast))
    | none => False
  | none => False
theorem lm_pop : LRm K dmPop rPop := fun F H μ x xs d ds Q' Q R r rs t k => by
  cases e : mlst μ d with
  | none => simp only [dmPop, e] at t
  | some p =>
    obtain ⟨a, zs⟩ := p
    simp only [dmPop, e] at t
    cases e2 : zs[zs.length - 1]? with
    | none => rw [e2] at t; exact False.elim t
    | some y =>
      rw [e2] at t
      obtain ⟨rfl, t⟩ := t
      cases rs
      obtain ⟨rfl, hm, vs, ha, r⟩ := R.mlst r e
      obtain ⟨v, h1, h2⟩ := r.get e2
      exact ⟨a, vs, v, rfl, rfl, ha, by rw [← r.length]; exact h1, k _ _ t F _ _ (Stp.put hm) (R.put hm (.lst r.dropLast)) h2⟩
def dmInsert : DRm := fun d ds μ Q => match ds with
  | [.int i, y] => match mlst μ d with
    | some (a, xs) => (xs.length < sizeLine ∧ 0 ≤ i ∧ i < 2 ^ 63) ∧ Q .non (up μ a (.lst (xs.take i.toNat ++ [y] ++ xs.drop i.toNat)))
    | none => False
  | _ => False
theorem lm_insert : LRm K dmInsert (fun x vs H Q => ∃ (l : Addr) (xs : List V) (i : Int) (y : V), x = .ref l ∧ vs = [.int i, y] ∧ H l = some (.lst xs) ∧ xs.length < sizeLine ∧ 0 ≤ i ∧ i < 2 ^ 63 ∧
    Q .non (upd H l (.lst (xs.take i.toNat ++ [y] ++ xs.drop i.toNat)))) := fun F H μ x xs d ds Q' Q R r rs t k => by
  unfold dmInsert at t
  split at t
  · rename_i i y
    cases rs with
    | cons r1 r2 => cases r1; cases r2 with
      | cons r2 r3 =>
        cases r3
        cases e : mlst μ d with
        | none => simp only [e] at t
        | some p =>
          obtain ⟨a, zs⟩ := p
          simp only [e] at t
          obtain ⟨⟨t1, t2, t3⟩, t⟩ := t
          obtain ⟨rfl, hm, vs, ha, r⟩ := R.mlst r e
          exact ⟨a, vs, i, _, rfl, rfl, ha, by rw [← r.length]; exact t1, t2, t3, k _ _ t F _ _ (Stp.put hm) (R.put hm (.lst (((r.take _).append (.one r2)).append (r.drop _)))) .non⟩
  · exact False.elim t
/-- extend by a list or a tuple -/
def rExtA (K : PySem.W.Frag) : V → List V → Hp → VK → Prop := fun x vs H Q => ∃ l b xs zs, x = .ref l ∧ vs = [.ref b] ∧ H l = some (.lst xs) ∧ (H b = some (.lst zs) ∨ SqT K H b zs) ∧ xs.length + zs.length ≤ sizeLine ∧ Q .non (upd H l (.lst (xs ++ zs)))
def dmExtend : DRm := fun d ds μ Q => match ds with
  | [y] => match mlst μ d with
    | some (a, xs) => (match y with
      | .tup ys => xs.length + ys.length ≤ sizeLine ∧ Q .non (up μ a (.lst (xs ++ ys)))
      | y => match lstD μ y with
        | some ys => xs.length + ys.length ≤ sizeLine ∧ Q .non (up μ a (.lst (xs ++ ys)))
        | none => False)
    | none => False
  | _ => False
theorem lm_extend : LRm K dmExtend (rExtA K) := fun F H μ x xs d ds Q' Q R r rs t k => by
  cases rs with
  | nil => exact False.elim t
  | cons r1 r2 => cases r2 with
    | cons _ _ => exact False.elim t
    | nil =>
      rename_i y vy
      cases e : mlst μ d with
      | none => simp only [dmExtend, e] at t
      | some p =>
        obtain ⟨a, zs⟩ := p
        simp only [dmExtend, e] at t
        obtain ⟨rfl, hm, vs, ha, r⟩ := R.mlst r e
        have fall : (match lstD μ y with
          | some ys => zs.length + ys.length ≤ sizeLine ∧ Q' .non (up μ a (.lst (zs ++ ys)))
          | none => False) → rExtA K (.ref a) [vy] H Q := fun t => by
          cases e2 : lstD μ y with
          | none => rw [e2] at t; exact False.elim t
          | some ys =>
            rw [e2] at t
            obtain ⟨b, ws, rfl, hb, rb⟩ := R.lst r1 e2
            exact ⟨a, b, vs, ws, rfl, rfl, ha, .inl hb, by rw [← r.length, ← rb.length]; exact t.1, k _ _ t.2 F _ _ (Stp.put hm) (R.put hm (.lst (r.append rb))) .non⟩
        cases y with
        | tup ys =>
          cases r1 with
          | tup h rb => exact ⟨a, _, vs, _, rfl, rfl, ha, .inr (R.ext.sqT h), by rw [← r.length, ← rb.length]; exact t.1, k _ _ t.2 F _ _ (Stp.put hm) (R.put hm (.lst (r.append rb))) .non⟩
        | _ => exact fall t
/-! x[i] = v of a list -/
def LSet (K : PySem.W.Frag) (ds : SD → SD → SD → Mu → (Mu → Prop) → Prop) (r : TSet) : Prop := ∀ F H μ o i v do_ di dv Q' Q, HReal K F H μ → RepS K F do_ o → RepS K F di i → RepS K F dv v → ds do_ di dv μ Q' →
  (∀ μ', Q' μ' → ∀ F' H', Stp F H μ F' H' μ' → HReal K F' H' μ' → Q H') → r o i v H Q
abbrev hSub (to ti : DTE) (t : SD → SD → SD → Mu → (Mu → Prop) → Prop) : DTG := fun v ρ μ Q => to ρ μ fun o μ1 => ti ρ μ1 fun i μ2 => t o i v μ2 fun μ3 => Q ρ μ3
theorem dg_sub {oe i : Expr} {to ti : DTE} {ts : SD → SD → SD → Mu → (Mu → Prop) → Prop} {rs : TSet} (ho : DE X oe to) (hi : DE X i ti) (hs : PSet X rs) (hl : LSet X.K ts rs)
    (ha : ∀ v, assign (.Subscript oe i pos) X.env v = (do
      let ov ← holding [v] (eval oe X.env)
      let iv ← holding [v, ov] (eval i X.env)
      standAt pos
      holding [v, ov, iv] (setItem ov iv v)
      release [v, ov, iv] []) := by intro _; rfl) : DG X (.Subscript oe i pos) (hSub to ti ts) := weakG (pg_sub ho hi hs ha) fun v σ H Q h => by
  obtain ⟨F, ρ, μ, d, Q', R, S, r, t, k⟩ := h
  refine ⟨F, ρ, μ, _, R, S, t, fun d1 μ1 t1 F1 H1 v1 s1 R1 r1 => ⟨F1, ρ, μ1, _, R1, S.mono s1.ext, t1, fun d2 μ2 t2 F2 H2 v2 s2 R2 r2 => ?_⟩⟩
  exact hl F2 H2 μ2 v1 v2 v d1 d2 d _ _ R2 (r1.mono s2.ext) r2 (r.mono (s1.trans s2).ext) t2 fun μ' q F' H' s R' => k ρ μ' q F' H' σ ((s1.trans s2).trans s) R' (S.mono ((s1.trans s2).trans s).ext)
def dsetL : SD → SD → SD → Mu → (Mu → Prop) → Prop := fun o i v μ Q => match i with
  | .int k => match mlst μ o with
    | some (a, xs) => match ixN xs.length k with
      | some j => Q (up μ a (.lst (xs.set j v)))
      | none => False
    | none => False
  | _ => False
theorem ls_list : LSet K dsetL rSetL := fun F H μ o i v do_ di dv Q' Q R ro ri rv t k => by
  cases di with
  | int n =>
    cases ri
    cases e : mlst μ do_ with
    | none => simp only [dsetL, e] at t
    | some p =>
      obtain ⟨a, xs⟩ := p
      simp only [dsetL, e] at t
      cases e2 : ixN xs.length n with
      | none => rw [e2] at t; exact False.elim t
      | some j =>
        rw [e2] at t
        obtain ⟨rfl, hm, vs, ha, r⟩ := R.mlst ro e
        exact ⟨a, vs, n, j, rfl, rfl, ha, by rw [← r.length]; exact e2, k _ t F _ (Stp.put hm) (R.put hm (.lst (r.set rv j)))⟩
  | _ => exact False.elim t
end

section
variable {X : Cx} {K : PySem.W.Frag}
theorem ext_tup {l : Addr} {items : Array Value} {n : Nat} {b : Addr} {items2 : Array Value} {n2 : Nat} {dd : Option Addr} {sl : Array (Option Value)} (hs0 : ¬(!items.isEmpty && Builtin.List.listTooLong (items.size + items2.size)) = true) (hs1 : items.size ≤ sizeLine) (hs2 : items.size + items2.size ≤ sizeLine + 1) :
    Meets (Builtin.«list.extend» ⟨[.ref l, .ref b], []⟩) (fun _ R s => s.heap.get? l = some { cls := .type "list", dict := none, data := .seq items n, slots := #[] } ∧ s.heap.get? b = some { cls := .type "tuple", dict := dd, data := .seq items2 n2, slots := sl } ∧ R (.ok (.ret Value.none)) { s with heap := s.heap.update l (Obj.mapSeq fun x => x ++ items2), toks := s.toks }) :=
  .of_wp fun prog w A R s h => by
    obtain ⟨hp, g, d, tk, os⟩ := s
    obtain ⟨hl, hb, h⟩ := h
    have f1 := AutoSeq1.idx_int
    have f2 := AutoSeq1.sub_tuple_tuple
    have f3 := AutoSeq1.sub_list_list
    have f4 := AutoSeq1.sub_tuple_list
    have f5 := AutoSeq1.sub_list_tuple
    have hz' : (items ++ items2).size ≤ sizeLine + 1 := by rw [Array.size_append]; exact hs2
    wp_walk using (wpAny_updateSeq hl rfl (hz := hs1) (_hz' := hz')), AutoSeq1.wpAny_loadPart' hl, AutoSeq1.wpAny_loadPart' hb
    exact ⟨_, rfl, h⟩
theorem mt_extT : MtR X "list.extend" (fun x vs H Q => ∃ l b xs zs, x = .ref l ∧ vs = [.ref b] ∧ H l = some (.lst xs) ∧ SqT X.K H b zs ∧ xs.length + zs.length ≤ sizeLine ∧ Q .non (upd H l (.lst (xs ++ zs)))) := by
  intro pins s σ H x vs v us Q I rx rv h
  obtain ⟨l, b, xs, zs, rfl, rfl, hH, hB, hz, q⟩ := h
  cases rx
  obtain ⟨u, rfl, ru⟩ := rv.one
  cases ru
  obtain ⟨z, its, n, r, hl, e⟩ := I.lstM hH
  obtain ⟨its2, r2, ht, _⟩ := I.tuple hB
  have hl2 := r2.length
  obtain ⟨⟨cls, dd, data, sl⟩, ho, hcls, n2, hdata⟩ := ht
  simp only at hcls hdata
  subst hcls hdata
  have fits : its.toArray.size + its2.toArray.size ≤ sizeLine := by simp only [List.size_toArray]; omega
  have short : ¬ (!its.toArray.isEmpty && Builtin.List.listTooLong (its.toArray.size + its2.toArray.size)) = true := by
    rw [notLongL fits, Bool.and_false]; exact Bool.false_ne_true
  refine call_meets F.slot_list_extend ⟨_, e, rfl⟩ F.entry_list_extend (F.args_list_extend_2 _ _) (ext_tup short (by simp only [List.size_toArray]; omega) (by omega)) ⟨e, ho, ?_⟩
  exact ⟨.non, _, I.lset (its' := its ++ its2) hH e (by simp) (r.append r2) (by rw [List.length_append]; omega), rfl, q⟩
theorem mt_extA : MtR X "list.extend" (rExtA X.K) := by
  intro pins s σ H x vs v us Q I rx rv h
  obtain ⟨l, b, xs, zs, e1, e2, hH, hB | hB, hz, q⟩ := h
  · exact mt_extend pins s σ H x vs v us Q I rx rv ⟨l, b, xs, zs, e1, e2, hH, hB, hz, q⟩
  · exact mt_extT pins s σ H x vs v us Q I rx rv ⟨l, b, xs, zs, e1, e2, hH, hB, hz, q⟩
end
end DS
/-! DS8: repr, keyword calls, dicts. -/
namespace DS
open PySem PySem.Spec PyProof.Rows L2
/-! ### repr -/
def rRepr (K : PySem.W.Frag) : List V → Hp → VK → Prop := fun xs H Q => ∃ x d, xs = [x] ∧ Dp K H x d ∧ (PyData.showable d = true ∧ d.shown.length ≤ sizeLine ∧ d.depth ≤ 64) ∧ Q (.str d.shown) H
section
variable {X : Cx} {K : PySem.W.Frag}
mutual
theorem Dp.noDict {H : Hp} : ∀ {v : V} {d : PyData}, Dp K H v d → d.hasDict = false
  | _, _, .non => rfl
  | _, _, .bl _ => rfl
  | _, _, .int _ => rfl
  | _, _, .str _ => rfl
  | _, _, .lst _ r => DpAll.noDict r
  | _, _, .tup _ r => DpAll.noDict r
theorem DpAll.noDict {H : Hp} : ∀ {vs : List V} {ds : List PyData}, DpAll K H vs ds → PyData.hasDictAll ds = false
  | _, _, .nil => rfl
  | _, _, .cons h r => by
    show (PyData.hasDict _ || PyData.hasDictAll _) = false
    rw [Dp.noDict h, DpAll.noDict r]; rfl
end
theorem cr_repr (hq : Quiet X.A) (hu : X.A.units + 66 < cLine) : CallR X (.builtin "repr") (rRepr X.K) := by
  intro pins s σ H xs us Q I r h
  obtain ⟨x, d, rfl, hd, ⟨h1, h2, h3⟩, q⟩ := h
  obtain ⟨u, rfl, rx⟩ := vals1 r
  obtain ⟨as, rd⟩ := Dp.reads I d x u hd rx
  have nd := Dp.noDict hd
  have hsm : d.hasDict = true → sysModules ∉ as := fun z => by rw [nd] at z; cases z
  cases hd with
  | non => obtain rfl := rx; exact P.repr_of_none ⟨.str _, H, I.tok _, ⟨_, rfl⟩, q⟩
  | bl b => obtain rfl := rx; exact P.repr_of_bool ⟨.str _, H, I.tok _, ⟨_, rfl⟩, q⟩
  | int i =>
    obtain ⟨t, rfl⟩ := rx
    exact P.repr_of_int (of_decide_eq_true (by simpa [PyData.showable] using h1)) ⟨.str _, H, I.tok _, ⟨_, rfl⟩, q⟩
  | str z =>
    obtain ⟨t, rfl⟩ := rx
    exact P.repr_of_str (hsz := h2) ⟨.str _, H, I.tok _, ⟨_, rfl⟩, q⟩
  | lst hl hr =>
    obtain rfl := rx
    refine repr_of_reads' rd h1 hsm hq (by omega) (fun _ _ e => e) (fun h' u tk hk => ?_) h2
    exact ⟨.str _, H, I.kept (h' := h') (t' := tk) hk, ⟨_, rfl⟩, q⟩
  | tup hl hr =>
    obtain rfl := rx
    refine repr_of_reads' rd h1 hsm hq (by omega) (fun _ _ e => e) (fun h' u tk hk => ?_) h2
    exact ⟨.str _, H, I.kept (h' := h') (t' := tk) hk, ⟨_, rfl⟩, q⟩
def drRepr : DRc := fun ds μ Q => match ds with
  | [d] => match pd μ d with
    | some p => (PyData.showable p = true ∧ p.shown.length ≤ sizeLine ∧ p.depth ≤ 64) ∧ Q (.str p.shown) μ
    | none => False
  | _ => False
theorem lc_repr : LRc K drRepr (rRepr K) := fun F H μ xs ds Q' Q R r t k => by
  cases r with
  | nil => exact False.elim t
  | cons r1 r2 => cases r2 with
    | cons _ _ => exact False.elim t
    | nil =>
      rename_i d v
      cases e : pd μ d with
      | none => simp only [drRepr, e] at t
      | some p =>
        simp only [drRepr, e] at t
        exact ⟨v, p, rfl, R.dp r1 e, t.1, k _ μ t.2 F H _ (Stp.refl _ _ _) R (.str _)⟩
theorem boot_repr : bootBuiltins "repr" = some (.builtin "repr") := by decide +kernel
end

/-! ### calls by keywords -/
def kwG {α : Type} (ix : List (Nat ⊕ Nat)) (np nk : Nat) (us ws : List α) : List α := if us.length = np ∧ ws.length = nk then ix.filterMap fun i => match i with
  | .inl i => us[i]?
  | .inr j => ws[j]?
  else []
theorem kwG_rel {α β : Type} {R : α → β → Prop} {ix : List (Nat ⊕ Nat)} {np nk : Nat} {us ws : List α} {us' ws' : List β} (h1 : Paired R us us') (h2 : Paired R ws ws')
    (get : ∀ {xs : List α} {ys : List β} (i : Nat), Paired R xs ys → (∃ a b, xs[i]? = some a ∧ ys[i]? = some b ∧ R a b) ∨ (xs[i]? = none ∧ ys[i]? = none)) : Paired R (kwG ix np nk us ws) (kwG ix np nk us' ws') := by
  unfold kwG
  rw [Paired.length h1, Paired.length h2]
  split
  · induction ix with
    | nil => exact .nil
    | cons i r ih =>
      simp only [List.filterMap_cons]
      cases i with
      | inl i =>
        rcases get i h1 with ⟨a, b, e1, e2, q⟩ | ⟨e1, e2⟩
        · simp only [e1, e2]; exact .cons q ih
        · simp only [e1, e2]; exact ih
      | inr i =>
        rcases get i h2 with ⟨a, b, e1, e2, q⟩ | ⟨e1, e2⟩
        · simp only [e1, e2]; exact .cons q ih
        · simp only [e1, e2]; exact ih
  · exact .nil
theorem paired_get {α β : Type} {R : α → β → Prop} : ∀ {xs : List α} {ys : List β} (i : Nat), Paired R xs ys → (∃ a b, xs[i]? = some a ∧ ys[i]? = some b ∧ R a b) ∨ (xs[i]? = none ∧ ys[i]? = none)
  | _, _, _, .nil => .inr ⟨by simp, by simp⟩
  | _, _, 0, .cons q _ => .inl ⟨_, _, rfl, rfl, q⟩
  | _, _, i + 1, .cons _ r => by
    have := paired_get i r
    simpa using this
theorem kbinds_of {K : PySem.W.Frag} {x qual : Str} {st : Stmt} {f : Addr} {fd : FuncData} {ps ks : List Str} {ix : List (Nat ⊕ Nat)} {np nk : Nat} (F : Fun K x qual st f fd)
    (h : ∀ (kV doc pm : Value) (an : Option Addr) (cdv ct : Value) (us ws : List Value), us.length = np → ws.length = nk → (kwG ix np nk us ws).length = ps.length →
      bindArgs (PySem.W.fnOf x qual (defArgs st) (defBody st) (defScope st) .none kV doc pm an cdv ct) ⟨us, ks.zip ws⟩ = pure (ps.zip (kwG ix np nk us ws))) (h0 : ps ≠ []) : KBinds K fd ps ks (kwG ix np nk) (kwG ix np nk) where
  to := fun s us ws X hl => by
    obtain ⟨oc, od, kV, doc, pm, an, cdv, ct, osl, rfl, _, _⟩ := F.ex
    by_cases hh : us.length = np ∧ ws.length = nk
    · exact .of_eq (h kV doc pm an cdv ct us ws hh.1 hh.2 hl)
    · exact absurd hl (by
        unfold kwG
        rw [if_neg hh]
        intro z
        exact h0 (List.eq_nil_of_length_eq_zero z.symm))
  rel := fun r1 r2 => kwG_rel r1 r2 paired_get
section
variable {X : Cx} {CX : CXT} {k : Nat} {f C : Addr} {fd : FuncData} {ps ks : List Str} {x m : Str} {p pos apos : Pos} {e o : Expr} {es : List Expr} {kws : List Keyword} {nm : Option Str} {kpos : Pos}
theorem pe_gk {g : List Value → List Value → List Value} {gV : List V → List V → List V} {sp : Sp} {E : XK} {t tk : TA} (F : FnG X.prog X.w X.K X.mg X.base CX k f fd ps sp) (hq : Quiet X.A) (hr : Room k X.A) (hg : Gl X x) (hm : X.mg x = some (.ref f)) (hk : PySem.W.keepIn X.K (.ref f) = true) (hb : KBinds X.K fd ps ks g gV) (hx : Passes CX X E)
    (ha : PA X (e :: es) t) (hkw : PK X kws tk) (hall : (backToKw pos (keywordEach kws X.env)).all (·.1.isSome) = true := by rfl) (hks : (backToKw pos (keywordEach kws X.env)).filterMap (·.1) = ks := by rfl)
    (hdb : (x == ("__debug__" : Str)) = false := by decide) (he : starEach (e :: es) X.env = (false, eval e X.env) :: starEach es X.env := by rfl)
    (hpl : ((backTo pos (starEach (e :: es) X.env)).any (·.1) || (backToKw pos (keywordEach kws X.env)).any (·.1.isNone)) = false := by rfl) : PE X (.Call (.Name x p) (e :: es) kws pos) (tCallK sp gV E t tk) :=
  ⟨fun pins s σ H Q I h => wpAny_Call_Name_kw (ld_glob I hg hm (PySem.W.callWith_KW (h₀ := X.base) I.ok.mod.kin hk hall (thn (ha.run pos pins s σ H _ I h) fun us s1 ⟨vs, H1, I1, r, q⟩ =>
    thn (hkw.run pos pins s1 σ H1 _ I1 q) fun ws s2 ⟨zs, H2, I2, rz, q2⟩ => ⟨I2.kIn, by rw [hks]; exact callk_g F hq hr hb hx I2 r rz q2⟩) hpl he) hdb)⟩
theorem pe_gk0 {g : List Value → List Value → List Value} {gV : List V → List V → List V} {sp : Sp} {E : XK} {tk : TA} (F : FnG X.prog X.w X.K X.mg X.base CX k f fd ps sp) (hq : Quiet X.A) (hr : Room k X.A) (hg : Gl X x) (hm : X.mg x = some (.ref f)) (hk : PySem.W.keepIn X.K (.ref f) = true) (hb : KBinds X.K fd ps ks g gV) (hx : Passes CX X E)
    (hkw : PK X kws tk) (hall : (backToKw pos (keywordEach kws X.env)).all (·.1.isSome) = true := by rfl) (hks : (backToKw pos (keywordEach kws X.env)).filterMap (·.1) = ks := by rfl)
    (hdb : (x == ("__debug__" : Str)) = false := by decide) (hpl : ((backToKw pos (keywordEach kws X.env)).any (·.1.isNone)) = false := by rfl) : PE X (.Call (.Name x p) [] kws pos) (tCallK sp gV E tNil tk) :=
  ⟨fun pins s σ H Q I h => wpAny_Call_Name_kw (ld_glob I hg hm (PySem.W.callWith_KW0 (h₀ := X.base) I.ok.mod.kin hk hall (
    thn (hkw.run pos pins s σ H _ I h) fun ws s2 ⟨zs, H2, I2, rz, q2⟩ => ⟨I2.kIn, by rw [hks]; exact callk_g (us := []) F hq hr hb hx I2 .nil rz q2⟩) (by show (_ || _) = false; rw [hpl]; rfl)) hdb)⟩
abbrev DK (X : Cx) (kws : List Keyword) (t : DTA) : Prop := PK X kws (LA X.K t)
theorem dk_nil : DK X [] dNil := ⟨fun ps pins s σ H Q I h => pk_nil.run ps pins s σ H Q I (by
  obtain ⟨F, ρ, μ, Q', R, S, t, k⟩ := h
  exact k [] μ t F H [] (Stp.refl F H μ) R .nil)⟩
theorem dk_cons {te : DTE} {t : DTA} (ha : DE X e te) (hr : DK X kws t) : DK X (⟨nm, e, kpos⟩ :: kws) (dCons te t) := ⟨fun ps pins s σ H Q I h => (pk_cons ha hr).run ps pins s σ H Q I (by
  obtain ⟨F, ρ, μ, Q', R, S, t, k⟩ := h
  refine ⟨F, ρ, μ, _, R, S, t, fun d1 μ1 t1 F1 H1 v1 s1 R1 r1 => ?_⟩
  exact ⟨F1, ρ, μ1, _, R1, S.mono s1.ext, t1, fun ds μ2 t2 F2 H2 vs s2 R2 r2 => k _ μ2 t2 F2 H2 _ (s1.trans s2) R2 (.cons (r1.mono s2.ext) r2)⟩)⟩
abbrev dCallK (sp : DSp) (ix : List (Nat ⊕ Nat)) (np nk : Nat) (t tk : DTA) : DTE := fun ρ μ Q => t ρ μ fun ds μ1 => tk ρ μ1 fun es μ2 => sp (kwG ix np nk ds es) μ2 Q fun _ _ _ => False
theorem RepL.paired {K : PySem.W.Frag} {F : Hp} : ∀ {ds : List SD} {vs : List V}, RepL K F ds vs → Paired (fun d v => RepS K F d v) ds vs
  | _, _, .nil => .nil
  | _, _, .cons h r => .cons h (RepL.paired r)
theorem RepL.ofPaired {K : PySem.W.Frag} {F : Hp} : ∀ {ds : List SD} {vs : List V}, Paired (fun d v => RepS K F d v) ds vs → RepL K F ds vs
  | _, _, .nil => .nil
  | _, _, .cons h r => .cons h (RepL.ofPaired r)
theorem de_callK {sp : DSp} {ix : List (Nat ⊕ Nat)} {np nk : Nat} {t tk : DTA} (F : FnG X.prog X.w X.K X.mg X.base CX k f fd ps (LSp X.K sp)) (hq : Quiet X.A) (hr : Room k X.A) (hg : Gl X x) (hm : X.mg x = some (.ref f)) (hk : PySem.W.keepIn X.K (.ref f) = true) (hb : KBinds X.K fd ps ks (kwG ix np nk) (kwG ix np nk)) (hx : Passes CX X E0)
    (ha : DA X (e :: es) t) (hkw : DK X kws tk) (hall : (backToKw pos (keywordEach kws X.env)).all (·.1.isSome) = true := by rfl) (hks : (backToKw pos (keywordEach kws X.env)).filterMap (·.1) = ks := by rfl)
    (hdb : (x == ("__debug__" : Str)) = false := by decide) (he : starEach (e :: es) X.env = (false, eval e X.env) :: starEach es X.env := by rfl)
    (hpl : ((backTo pos (starEach (e :: es) X.env)).any (·.1) || (backToKw pos (keywordEach kws X.env)).any (·.1.isNone)) = false := by rfl) : DE X (.Call (.Name x p) (e :: es) kws pos) (dCallK sp ix np nk t tk) :=
  weakE (pe_gk (E := E0) F hq hr hg hm hk hb hx ha hkw hall hks hdb he hpl) fun σ H Q h => by
    obtain ⟨F, ρ, μ, Q', R, S, t, k⟩ := h
    refine ⟨F, ρ, μ, _, R, S, t, fun ds μ1 t1 F1 H1 vs s1 R1 r1 => ⟨F1, ρ, μ1, _, R1, S.mono s1.ext, t1, fun es μ2 t2 F2 H2 ws s2 R2 r2 => ?_⟩⟩
    exact ⟨F2, μ2, _, Q', _, R2, RepL.ofPaired (kwG_rel (RepL.paired (r1.mono s2.ext)) (RepL.paired r2) paired_get), t2, fun d μ' q F' H' v s R' r' => k d μ' q F' H' v ((s1.trans s2).trans s) R' r', fun _ _ _ q => False.elim q⟩
theorem de_callK0 {sp : DSp} {ix : List (Nat ⊕ Nat)} {nk : Nat} {tk : DTA} (F : FnG X.prog X.w X.K X.mg X.base CX k f fd ps (LSp X.K sp)) (hq : Quiet X.A) (hr : Room k X.A) (hg : Gl X x) (hm : X.mg x = some (.ref f)) (hk : PySem.W.keepIn X.K (.ref f) = true) (hb : KBinds X.K fd ps ks (kwG ix 0 nk) (kwG ix 0 nk)) (hx : Passes CX X E0)
    (hkw : DK X kws tk) (hall : (backToKw pos (keywordEach kws X.env)).all (·.1.isSome) = true := by rfl) (hks : (backToKw pos (keywordEach kws X.env)).filterMap (·.1) = ks := by rfl)
    (hdb : (x == ("__debug__" : Str)) = false := by decide) (hpl : ((backToKw pos (keywordEach kws X.env)).any (·.1.isNone)) = false := by rfl) : DE X (.Call (.Name x p) [] kws pos) (dCallK sp ix 0 nk dNil tk) :=
  weakE (pe_gk0 (E := E0) F hq hr hg hm hk hb hx hkw hall hks hdb hpl) fun σ H Q h => by
    obtain ⟨F, ρ, μ, Q', R, S, t, k⟩ := h
    refine ⟨F, ρ, μ, _, R, S, t, fun es μ2 t2 F2 H2 ws s2 R2 r2 => ?_⟩
    exact ⟨F2, μ2, _, Q', _, R2, RepL.ofPaired (kwG_rel (us := []) .nil (RepL.paired r2) paired_get), t2, fun d μ' q F' H' v s R' r' => k d μ' q F' H' v (s2.trans s) R' r', fun _ _ _ q => False.elim q⟩
end

/-! ### dicts -/
section
variable {α : Type}
def valD (kvs : List (Key × α)) (k : Key) : Option α := (kvs.find? fun kv => decide (kv.1 = k)).map (·.2)
def putD (kvs : List (Key × α)) (k : Key) (v : α) : List (Key × α) :=
  if (kvs.any fun kv => decide (kv.1 = k)) = true then kvs.map (fun kv => if kv.1 = k then (kv.1, v) else kv) else kvs ++ [(k, v)]
end
def dicD (μ : Mu) : SD → Option (List (Key × SD))
  | .dic kvs => some kvs
  | .ref a => match μ a with
    | some (.dic kvs) => some kvs
    | some (.fdic kvs _) => some kvs
    | _ => none
  | _ => none
def keyD : SD → Option Key
  | .int i => some (.inl i)
  | .str s => some (.inr s)
  | _ => none
section
variable {X : Cx} {K : PySem.W.Frag} {F H : Hp} {μ : Mu}
theorem keyD_rep {d : SD} {v : V} {k : Key} (r : RepS K F d v) (h : keyD d = some k) : v = kV k := by
  cases r <;> simp [keyD] at h <;> subst h <;> rfl
structure RepK (K : PySem.W.Frag) (F : Hp) (ds : List (Key × SD)) (vs : List (Key × V)) : Prop where
  keys : vs.map (·.1) = ds.map (·.1)
  vals : RepL K F (ds.map (·.2)) (vs.map (·.2))
theorem RepK.len {ds : List (Key × SD)} {vs : List (Key × V)} (r : RepK K F ds vs) : ds.length = vs.length := by simpa using r.vals.length
theorem RepK.val : ∀ {ds : List (Key × SD)} {vs : List (Key × V)} (k : Key), RepK K F ds vs → (∃ d v, valD ds k = some d ∧ valV vs k = some v ∧ RepS K F d v) ∨ (valD ds k = none ∧ valV vs k = none)
  | [], [], _, _ => .inr ⟨rfl, rfl⟩
  | [], _ :: _, _, r => by have := r.keys; simp at this
  | _ :: _, [], _, r => by have := r.keys; simp at this
  | (a, d) :: ds, (b, v) :: vs, k, r => by
    have h1 := r.keys
    simp only [List.map_cons, List.cons.injEq] at h1
    obtain ⟨rfl, h1⟩ := h1
    have h2 := r.vals
    simp only [List.map_cons] at h2
    cases h2 with
    | cons q1 q2 =>
      by_cases hk : b = k
      · subst hk
        exact .inl ⟨d, v, by simp [valD], by simp [valV], q1⟩
      · have := RepK.val k ⟨h1, q2⟩
        have e1 : valD ((b, d) :: ds) k = valD ds k := by simp [valD, hk]
        have e2 : valV ((b, v) :: vs) k = valV vs k := by simp [valV, hk]
        rw [e1, e2]; exact this
theorem RepK.put {ds : List (Key × SD)} {vs : List (Key × V)} {d : SD} {v : V} (k : Key) (r : RepK K F ds vs) (q : RepS K F d v) : RepK K F (putD ds k d) (putK vs k v) := by
  have hany : (ds.any fun kv => decide (kv.1 = k)) = (vs.any fun kv => decide (kv.1 = k)) := by
    have e1 : (ds.any fun kv => decide (kv.1 = k)) = ((ds.map (·.1)).any fun x => decide (x = k)) := by rw [List.any_map]; rfl
    have e2 : (vs.any fun kv => decide (kv.1 = k)) = ((vs.map (·.1)).any fun x => decide (x = k)) := by rw [List.any_map]; rfl
    rw [e1, e2, r.keys]
  unfold putD putK
  rw [hany]
  split
  · have aux : ∀ {ds : List (Key × SD)} {vs : List (Key × V)}, RepK K F ds vs → RepK K F (ds.map (fun kv => if kv.1 = k then (kv.1, d) else kv)) (vs.map (fun kv => if kv.1 = k then (kv.1, v) else kv)) := by
      intro ds
      induction ds with
      | nil =>
        intro vs r
        have := r.keys
        cases vs with
        | nil => exact ⟨rfl, .nil⟩
        | cons _ _ => simp at this
      | cons a ds ih =>
        intro vs r
        cases vs with
        | nil => have := r.keys; simp at this
        | cons b vs =>
          obtain ⟨a1, a2⟩ := a
          obtain ⟨b1, b2⟩ := b
          have h1 := r.keys
          simp only [List.map_cons, List.cons.injEq] at h1
          obtain ⟨rfl, h1⟩ := h1
          have h2 := r.vals
          simp only [List.map_cons] at h2
          cases h2 with
          | cons q1 q2 =>
            have rest := ih ⟨h1, q2⟩
            by_cases hk : b1 = k
            · simp only [List.map_cons, if_pos hk]
              exact ⟨by simp only [List.map_cons]; rw [rest.keys], .cons q rest.vals⟩
            · simp only [List.map_cons, if_neg hk]
              exact ⟨by simp only [List.map_cons]; rw [rest.keys], .cons q1 rest.vals⟩
    exact aux r
  · exact ⟨by simp [r.keys], by simp only [List.map_append, List.map_cons, List.map_nil]; exact r.vals.append (.one q)⟩
theorem HReal.dic (R : HReal K F H μ) {d : SD} {v : V} {kvs : List (Key × SD)} (r : RepS K F d v) (e : dicD μ d = some kvs) : ∃ a vs, v = .ref a ∧ Rd H a (.dK vs) ∧ RepK K F kvs vs := by
  cases r with
  | dic h q r => cases e; exact ⟨_, _, rfl, R.ext.rd _ _ h, ⟨q, r⟩⟩
  | ref a =>
    unfold dicD at e
    simp only at e
    split at e
    · rename_i ys hy
      cases e
      obtain ⟨_, o, h, q⟩ := R.mus a _ hy
      cases q with
      | dic q r => exact ⟨a, _, rfl, .inl h, ⟨q, r⟩⟩
    · rename_i ys oo hy
      cases e
      obtain ⟨_, o, h, q⟩ := R.mus a _ hy
      cases q with
      | fdic q r => exact ⟨a, _, rfl, .inr ⟨_, h⟩, ⟨q, r⟩⟩
    · cases e
  | _ => cases e
variable {o i e value : Expr} {pos pos' apos cpos : Pos} {td ty tv tx : DTE}
def drGet (x y : SD) (μ2 : Mu) (Q : SD → Mu → Prop) : Prop := match dicD μ2 x, keyD y with
  | some kvs, some k => match valD kvs k with
    | some v => Q v μ2
    | none => False
  | _, _ => False
abbrev dDGet (td ty : DTE) : DTE := fun ρ μ Q => td ρ μ fun x μ1 => ty ρ μ1 fun y μ2 => drGet x y μ2 Q
theorem de_dget (hu : X.A.units + 1 < cLine) (ho : DE X o td) (hi : DE X i ty) (hs : NoSl i) : DE X (.Subscript o i pos) (dDGet td ty) := weakE (pe_dget hu ho hi hs) fun σ H Q h => by
  obtain ⟨F, ρ, μ, Q', R, S, t, k⟩ := h
  refine ⟨F, ρ, μ, _, R, S, t, fun x μ1 t1 F1 H1 v1 s1 R1 r1 => ⟨F1, ρ, μ1, _, R1, S.mono s1.ext, t1, fun y μ2 t2 F2 H2 v2 s2 R2 r2 => ?_⟩⟩
  unfold drGet at t2
  cases e1 : dicD μ2 x with
  | none => rw [e1] at t2; exact False.elim t2
  | some kvs => cases e2 : keyD y with
    | none => rw [e1, e2] at t2; exact False.elim t2
    | some key =>
      rw [e1, e2] at t2
      simp only at t2
      obtain ⟨a, vs, rfl, hd, rk⟩ := R2.dic (r1.mono s2.ext) e1
      rcases rk.val key with ⟨d, v, q1, q2, q3⟩ | ⟨q1, q2⟩
      · rw [q1] at t2
        exact ⟨a, v, rfl, .inl ⟨vs, key, hd, keyD_rep r2 e2, q2.symm⟩, k d μ2 t2 F2 H2 v (s1.trans s2) R2 q3⟩
      · rw [q1] at t2; exact False.elim t2
/-- d.get(k, x) -/
def drGet2 (x y z : SD) (μ3 : Mu) (Q : SD → Mu → Prop) : Prop := match dicD μ3 x, keyD y with
  | some kvs, some k => Q ((valD kvs k).getD z) μ3
  | _, _ => False
abbrev dDGet2 (td ty tx : DTE) : DTE := fun ρ μ Q => td ρ μ fun x μ1 => (dicD μ1 x).isSome = true ∧ ty ρ μ1 fun y μ2 => tx ρ μ2 fun z μ3 => drGet2 x y z μ3 Q
theorem de_dget2 (hu : X.A.units + 1 < cLine) (ho : DE X o td) (he : DE X i ty) (hf : DE X e tx) (m : M2 X o "get" apos i e cpos) : DE X (.Call (.Attribute o "get" apos) [i, e] [] cpos) (dDGet2 td ty tx) := weakE (pe_dget2 hu ho he hf m) fun σ H Q h => by
  obtain ⟨F, ρ, μ, Q', R, S, t, k⟩ := h
  refine ⟨F, ρ, μ, _, R, S, t, fun x μ1 t1 F1 H1 v1 s1 R1 r1 => ?_⟩
  obtain ⟨h1, t1⟩ := t1
  obtain ⟨kvs0, hk0⟩ := Option.isSome_iff_exists.mp h1
  obtain ⟨a, vs0, rfl, hd0, _⟩ := R1.dic r1 hk0
  refine ⟨a, rfl, .inl ⟨vs0, hd0⟩, F1, ρ, μ1, _, R1, S.mono s1.ext, t1, fun y μ2 t2 F2 H2 v2 s2 R2 r2 => ⟨F2, ρ, μ2, _, R2, (S.mono s1.ext).mono s2.ext, t2, fun z μ3 t3 F3 H3 v3 s3 R3 r3 => ?_⟩⟩
  unfold drGet2 at t3
  cases e1 : dicD μ3 x with
  | none => rw [e1] at t3; exact False.elim t3
  | some kvs => cases e2 : keyD y with
    | none => rw [e1, e2] at t3; exact False.elim t3
    | some key =>
      rw [e1, e2] at t3
      simp only at t3
      obtain ⟨a', vs, e3, hd, rk⟩ := R3.dic ((r1.mono s2.ext).mono s3.ext) e1
      cases e3
      have s := (s1.trans s2).trans s3
      rcases rk.val key with ⟨d, v, q1, q2, q3⟩ | ⟨q1, q2⟩
      · rw [q1] at t3
        exact ⟨some v, .inl ⟨vs, key, hd, keyD_rep (r2.mono s3.ext) e2, q2.symm⟩, k d μ3 t3 F3 H3 v s R3 q3⟩
      · rw [q1] at t3
        exact ⟨none, .inl ⟨vs, key, hd, keyD_rep (r2.mono s3.ext) e2, q2.symm⟩, k z μ3 t3 F3 H3 _ s R3 r3⟩
/-- k in d, k not in d -/
def drDIn (neg : Bool) (x y : SD) (μ2 : Mu) (Q : SD → Mu → Prop) : Prop := match dicD μ2 x, keyD y with
  | some kvs, some k => Q (.bl (neg != (valD kvs k).isSome)) μ2
  | _, _ => False
abbrev dDIn (neg : Bool) (ty td : DTE) : DTE := fun ρ μ Q => ty ρ μ fun y μ1 => td ρ μ1 fun x μ2 => drDIn neg x y μ2 Q
theorem lift_din {neg : Bool} {K : PySem.W.Frag} : ∀ σ H Q, LE K (dDIn neg ty td) σ H Q → LE K ty σ H fun y H1 => LE K td σ H1 fun x H2 => ∃ a o, x = .ref a ∧ DGet H2 a y o ∧ Q (.bl (neg != o.isSome)) H2 := fun σ H Q h => by
  obtain ⟨F, ρ, μ, Q', R, S, t, k⟩ := h
  refine ⟨F, ρ, μ, _, R, S, t, fun y μ1 t1 F1 H1 v1 s1 R1 r1 => ⟨F1, ρ, μ1, _, R1, S.mono s1.ext, t1, fun x μ2 t2 F2 H2 v2 s2 R2 r2 => ?_⟩⟩
  unfold drDIn at t2
  cases e1 : dicD μ2 x with
  | none => rw [e1] at t2; exact False.elim t2
  | some kvs => cases e2 : keyD y with
    | none => rw [e1, e2] at t2; exact False.elim t2
    | some key =>
      rw [e1, e2] at t2
      simp only at t2
      obtain ⟨a, vs, rfl, hd, rk⟩ := R2.dic r2 e1
      refine ⟨a, valV vs key, rfl, .inl ⟨vs, key, hd, keyD_rep (r1.mono s2.ext) e2, rfl⟩, ?_⟩
      have e3 : (valV vs key).isSome = (valD kvs key).isSome := by
        rcases rk.val key with ⟨d, v, q1, q2, q3⟩ | ⟨q1, q2⟩ <;> rw [q1, q2] <;> rfl
      rw [e3]
      exact k _ μ2 t2 F2 H2 _ (s1.trans s2) R2 (.bl _)
theorem de_din (hu : X.A.units + 1 < cLine) (hi : DE X i ty) (ho : DE X o td) (hm : behindInMarks .In o = false := by rfl) : DE X (.Compare i [.In] [o] pos) (dDIn false ty td) := weakE (pe_cmp (pc_din hu hi ho) (h1 := hm)) fun σ H Q h => by
  have := lift_din σ H Q h
  simpa [tDIn] using this
theorem de_dnotin (hu : X.A.units + 1 < cLine) (hi : DE X i ty) (ho : DE X o td) (hm : behindInMarks .NotIn o = false := by rfl) : DE X (.Compare i [.NotIn] [o] pos) (dDIn true ty td) := weakE (pe_cmp (pc_dnotin hu hi ho) (h1 := hm)) fun σ H Q h => by
  have := lift_din σ H Q h
  simpa [tDNotIn] using this
/-- d[k] = v -/
def mdic (μ : Mu) : SD → Option (Addr × List (Key × SD))
  | .ref a => match μ a with
    | some (.dic xs) => some (a, xs)
    | _ => none
  | _ => none
theorem HReal.mdic (R : HReal K F H μ) {d : SD} {v : V} {a : Addr} {xs : List (Key × SD)} (r : RepS K F d v) (h : DS.mdic μ d = some (a, xs)) : v = .ref a ∧ μ a = some (.dic xs) ∧ ∃ vs, H a = some (.dK vs) ∧ RepK K F xs vs := by
  cases r with
  | ref b =>
    unfold DS.mdic at h
    simp only at h
    split at h
    · rename_i ys hy
      cases h
      obtain ⟨_, o, h, q⟩ := R.mus _ _ hy
      cases q with
      | dic q r => exact ⟨rfl, hy, _, h, ⟨q, r⟩⟩
    · cases h
  | _ => cases h
def drPut (x y v : SD) (μ3 : Mu) (Q : Mu → Prop) : Prop := match mdic μ3 x, keyD y with
  | some (a, kvs), some k => kvs.length < sizeLine ∧ Q (up μ3 a (.dic (putD kvs k v)))
  | _, _ => False
abbrev dDPut (td ty tv : DTE) : DTS := fun D ρ μ => tv ρ μ fun v μ1 => td ρ μ1 fun x μ2 => ty ρ μ2 fun y μ3 => drPut x y v μ3 (D.nx ρ)
theorem ds_dput (hu : X.A.units + 1 < cLine) (ho : DE X o td) (hi : DE X i ty) (hv : DE X value tv) (hs : swapsWith value (some (.Subscript o i pos')) pos.line X.env = pure false) :
    DS_ X (.Assign [.Subscript o i pos'] value pos) (dDPut td ty tv) := weakS (ps_dput hu ho hi hv hs) fun D σ H h => by
  obtain ⟨F, ρ, μ, D', R, S, t, k, _⟩ := h
  refine ⟨F, ρ, μ, _, R, S, t, fun v μ1 t1 F1 H1 v1 s1 R1 r1 => ⟨F1, ρ, μ1, _, R1, S.mono s1.ext, t1, fun x μ2 t2 F2 H2 v2 s2 R2 r2 => ⟨F2, ρ, μ2, _, R2, (S.mono s1.ext).mono s2.ext, t2, fun y μ3 t3 F3 H3 v3 s3 R3 r3 => ?_⟩⟩⟩
  unfold drPut at t3
  cases e1 : mdic μ3 x with
  | none => rw [e1] at t3; exact False.elim t3
  | some pr => cases e2 : keyD y with
    | none => rw [e1, e2] at t3; exact False.elim t3
    | some key =>
      obtain ⟨a, kvs⟩ := pr
      rw [e1, e2] at t3
      simp only at t3
      obtain ⟨rfl, hm, vs, hH, rk⟩ := R3.mdic (r2.mono s3.ext) e1
      have rk2 := rk.put key (r1.mono (s2.trans s3).ext)
      refine ⟨a, _, rfl, .inl ⟨vs, key, hH, keyD_rep r3 e2, by rw [← rk.len]; exact t3.1, rfl⟩, ?_⟩
      exact k ρ _ t3.2 F3 _ σ (((s1.trans s2).trans s3).trans (Stp.put hm)) (R3.put hm (.dic rk2.keys rk2.vals)) (((S.mono s1.ext).mono s2.ext).mono s3.ext)
end
end DS
/-! DS9: backward slices, displays of dicts, walks over a dict. -/
namespace DS
open PySem PySem.Spec PyProof.Rows L2
/-! ### x[::-1] -/
section
variable {prog : Program} {w : World} {A : Around} {E : Value → Shared → Prop} {s : Shared}
theorem places_back (n : Nat) : Builtin.Slice.slicePlaces ((n : Int) - 1) (-1) (-1) = n := by
  unfold Builtin.Slice.slicePlaces
  rw [if_neg (by decide)]
  by_cases h : 0 < n
  · rw [if_pos (by omega), show ((n : Int) - 1 - -1 - 1) / (- -1) + 1 = n by rw [show (- -1 : Int) = 1 by decide, Int.ediv_one]; omega]
    exact Int.toNat_natCast n
  · obtain rfl : n = 0 := by omega
    rfl
theorem filterMap_some {α β : Type} {f : α → Option β} {g : α → β} : ∀ l : List α, (∀ k ∈ l, f k = some (g k)) → l.filterMap f = l.map g
  | [], _ => rfl
  | a :: r, h => by rw [List.filterMap_cons, h a List.mem_cons_self, List.map_cons, filterMap_some r fun k hk => h k (List.mem_cons_of_mem _ hk)]
theorem back_pick (xs : List Value) : ((List.range xs.length).filterMap fun (k : Nat) => xs.toArray[((xs.length : Int) - 1 + (k : Int) * -1).toNat]?).toArray = xs.reverse.toArray := by
  congr 1
  have e : ∀ k ∈ List.range xs.length, xs.toArray[((xs.length : Int) - 1 + (k : Int) * -1).toNat]? = some (xs.reverse.getD k .none) := fun k hk => by
    have hk := List.mem_range.mp hk
    have e1 : ((xs.length : Int) - 1 + (k : Int) * -1).toNat = xs.length - 1 - k := by omega
    rw [e1, List.getElem?_toArray, List.getD_eq_getElem?_getD, List.getElem?_reverse hk, List.getElem?_eq_getElem (by omega)]
    rfl
  rw [filterMap_some _ e]
  apply List.ext_getElem
  · simp
  · intro i h1 h2
    simp at h1
    simp [List.getD_eq_getElem?_getD, h1]
theorem applied_back {sl : Addr} {vl vu vs : Value} {n : Nat} {Q : Int × Int × Nat → Shared → Prop} (hs : s.heap.IsSliceOf sl vl vu vs) (pl : IsPart vl none) (pu : IsPart vu none) (ps : IsPart vs (some (-1)))
    (h : Q ((n : Int) - 1, -1, n) s) : wpAny (model prog w) A (Builtin.Slice.sliceApplied (.ref sl) (pure (n : Int))) Q E s := by
  obtain ⟨os, hos, hcs, hds⟩ := id hs
  unfold Builtin.Slice.sliceApplied Builtin.Slice.sliceFields
  refine wpAny_bind (wpAny_bind (wpAny_field hos hds (x := vl) rfl (wpAny_bind (wpAny_field hos hds (x := vu) rfl (wpAny_bind (wpAny_field hos hds (x := vs) rfl (wpAny_pure ?_)))))))
  refine wpAny_bind (HT.slicePart_ ps ?_)
  show wpAny _ _ (if ((-1 : Int) == 0) = true then _ else _) _ _ s
  rw [if_neg (by decide)]
  refine wpAny_bind (HT.slicePart_ pl (wpAny_bind (HT.slicePart_ pu (wpAny_bind (wpAny_pure ?_)))))
  show wpAny _ _ (pure ((n : Int) - 1, (-1 : Int), Builtin.Slice.slicePlaces ((n : Int) - 1) (-1) (-1))) _ _ s
  rw [places_back]
  exact wpAny_pure h
theorem tuple_back {t sl : Addr} {xs : List Value} {vl vu vs : Value} {Q : Value → Shared → Prop} (ht : IsTup s.heap t xs.toArray) (hs : s.heap.IsSliceOf sl vl vu vs) (pl : IsPart vl none) (pu : IsPart vu none) (ps : IsPart vs (some (-1)))
    (h : Q (.ref s.heap.objs.size) { s with heap := s.heap.push { cls := .type "tuple", data := .seq xs.reverse.toArray } }) (hsz : xs.length ≤ sizeLine) : wpAny (model prog w) A (getItem (.ref t) (.ref sl)) Q E s := by
  have fits : sizeOk (.seq xs.reverse.toArray) := by
    show xs.reverse.toArray.size ≤ sizeLine
    rw [List.size_toArray, List.length_reverse]; exact hsz
  obtain ⟨os, hos, hcs, hds⟩ := id hs
  have hTs : s.TypeIs (.ref sl) "slice" := ⟨os, hos, hcs⟩
  unfold getItem
  try with_reducible refine wpAny_holding ?_
  first | refine wpAny_bind (wpAny_pure ?_) | skip
  refine wpAny_bind (wpAny_sequenceKey ht.typeIs (by decide) ?_)
  refine wpAny_bind (wpAny_callSpecial?_slot (name := Str.ofString "__getitem__") ht.typeIs PyProof.Rows.slot_tuple_getitem (wpAny_call_entry PyProof.Rows.slot_tuple_getitem ht.typeIs entry_tuple_getitem ?_ (args_tuple_getitem _ _)))
  show wpAny _ _ (Builtin.Tuple.tupleItemsOf (.ref t) >>= _) _ _ s
  refine wpAny_bind (tupleItemsOf_ ht ?_)
  refine wpAny_bind (wpAny_typeOf hTs ?_)
  rw [if_pos (by decide)]
  have size_ : xs.toArray.size = xs.length := List.size_toArray
  rw [size_]
  refine wpAny_bind (applied_back hs pl pu ps ?_)
  have off : ¬ (((xs.length : Int) - 1 == 0 && (-1 : Int) == 1 && xs.length == xs.length) = true) := by
    rw [show ((-1 : Int) == 1) = false by decide]; simp
  show wpAny _ _ (if ((xs.length : Int) - 1 == 0 && (-1 : Int) == 1 && xs.length == xs.length) = true then _ else _) _ _ s
  rw [if_neg off, back_pick]
  first
    | exact wpAny_bind (m := Builtin.Tuple.tupleExact _) (wpAny_newObj_type (wpAny_pure ⟨_, rfl, wpAny_pure h⟩) fits)
    | exact wpAny_bind (m := Builtin.Tuple.tupleExact _) (wpAny_newObj_type (wpAny_bind (wpAny_pure (wpAny_pure ⟨_, rfl, wpAny_pure h⟩))) fits)
    | exact wpAny_bind (wpAny_bind (m := Builtin.Tuple.tupleExact _) (wpAny_newObj_type (wpAny_pure (wpAny_pure ⟨_, rfl, wpAny_pure h⟩)) fits))
    | exact wpAny_bind (wpAny_bind (m := Builtin.Tuple.tupleExact _) (wpAny_newObj_type (wpAny_pure ⟨_, rfl, wpAny_pure h⟩) fits))
end
section
variable {X : Cx} {K : PySem.W.Frag} {e o i : Expr} {pos p1 p2 p3 : Pos} {te td : DTE} {k1 : Nat}
def tRevA (K : PySem.W.Frag) (te : TE) : TE := fun σ H Q => te σ H fun x H1 => (∃ a xs, x = .ref a ∧ SqL K H1 a xs ∧ ∀ p, H1 p = none → Q (.ref p) (upd H1 p (.lst xs.reverse))) ∨ ∃ a xs, x = .ref a ∧ SqT K H1 a xs ∧ ∀ p, H1 p = none → Q (.ref p) (upd H1 p (.tup xs.reverse))
theorem pe_revA {te : TE} (he : PE X e te) : PE X (.Subscript e (.Slice none none (some (.UnaryOp .USub (.Constant (.int 1) k1 p1) p2)) p3) pos) (tRevA X.K te) := by
  refine ⟨fun pins s σ H Q I h => Subscript_ (thn (he.run pins s σ H _ I h) fun v s1 ⟨x, H1, I1, r1, q1⟩ => ?_)⟩
  have minus1 : PO X (some (.UnaryOp .USub (.Constant (.int 1) k1 p1) p2)) (tPart (tUn (rU fun i => .int (-i)) (tC (.int 1)))) := po_some (pe_un un_neg pe_int)
  refine wpAny_Slice (thn (po_none.run pins s1 σ H1 (fun o H2 => o = none ∧ H2 = H1) I1 ⟨rfl, rfl⟩) fun vl s2 ⟨l, H2, I2, pl, el, e2⟩ => ?_)
  subst el e2
  refine thn (po_none.run pins s2 σ H2 (fun o H3 => o = none ∧ H3 = H2) I2 ⟨rfl, rfl⟩) fun vu s3 ⟨u, H3, I3, pu, eu, e3⟩ => ?_
  subst eu e3
  refine thn (minus1.run pins s3 σ H3 (fun o H4 => o = some (-1) ∧ H4 = H3) I3 ⟨1, rfl, -1, rfl, rfl, rfl⟩) fun vs s4 ⟨o, H4, I4, ps, eo, e4⟩ => ?_
  subst eo e4
  have I5 : Inv X pins σ H4 { s4 with heap := s4.heap.push { cls := .type "slice", data := .fields #[vl, vu, vs] } } := I4.kept (t' := s4.toks) fun b ob q => Heap.get?_push_of_some _ q
  rcases q1 with ⟨a, xs, rfl, hx, q⟩ | ⟨a, xs, rfl, hx, q⟩
  · cases r1
    obtain ⟨its, r, ht, hz⟩ := I5.list hx
    have len := r.length
    show wpAny (model X.prog X.w) X.A (subscriptTail e (.Slice none none (some (.UnaryOp .USub (.Constant (.int 1) k1 p1) p2)) p3) (.ref a) (.ref s4.heap.objs.size)) (EP X pins σ Q) X.xe { s4 with heap := s4.heap.push { cls := .type "slice", data := .fields #[vl, vu, vs] } }
    refine tail_any (ops := [.ref a, .ref s4.heap.objs.size]) ht.isList.typeIs (PySem.slot_list_getitem.lookup) ?_ (by with_unfolding_all rfl)
    refine wpAny_getItem_list_slice ht.isList (Heap.IsSliceOf.new _ vl vu vs) pl pu ps (by decide) ?_ (by rw [List.size_toArray]; omega)
    rw [PySem.W.krv_pick]
    refine ⟨.ref _, _, I5.laid (t' := s4.toks) (o := .lst xs.reverse) (fun b ob q => Heap.get?_push_of_some _ q) (Nat.le_refl _) ?_, rfl, q _ (I5.hok.fresh (Nat.le_refl _))⟩
    exact ⟨by rw [List.length_reverse]; exact hz, _, 0, r.reverse, Heap.get?_push_size _ rfl⟩
  · cases r1
    obtain ⟨its, r, ht, hz⟩ := I5.tuple hx
    have len := r.length
    show wpAny (model X.prog X.w) X.A (subscriptTail e (.Slice none none (some (.UnaryOp .USub (.Constant (.int 1) k1 p1) p2)) p3) (.ref a) (.ref s4.heap.objs.size)) (EP X pins σ Q) X.xe { s4 with heap := s4.heap.push { cls := .type "slice", data := .fields #[vl, vu, vs] } }
    refine tail_any (ops := [.ref a, .ref s4.heap.objs.size]) ht.typeIs (PyProof.Rows.slot_tuple_getitem.lookup) ?_ (by with_unfolding_all rfl)
    refine tuple_back ht (Heap.IsSliceOf.new _ vl vu vs) pl pu ps ?_ (by omega)
    refine ⟨.ref _, _, I5.laid (t' := s4.toks) (o := .tup xs.reverse) (fun b ob q => Heap.get?_push_of_some _ q) (Nat.le_refl _) ?_, rfl, q _ (I5.hok.fresh (Nat.le_refl _))⟩
    exact ⟨by rw [List.length_reverse]; exact hz, _, r.reverse, _, Heap.get?_push_size _ rfl, rfl, 0, rfl⟩
def drRev (x : SD) (μ1 : Mu) (Q : SD → Mu → Prop) : Prop := match x with
  | .tup xs => Q (.tup xs.reverse) μ1
  | x => match seqD μ1 x with
    | some xs => Q (.lst xs.reverse) μ1
    | none => False
abbrev dRev (te : DTE) : DTE := fun ρ μ Q => te ρ μ fun x μ1 => drRev x μ1 Q
theorem de_rev (he : DE X e te) : DE X (.Subscript e (.Slice none none (some (.UnaryOp .USub (.Constant (.int 1) k1 p1) p2)) p3) pos) (dRev te) := weakE (pe_revA he) fun σ H Q h => by
  obtain ⟨F, ρ, μ, Q', R, S, t, k⟩ := h
  refine ⟨F, ρ, μ, _, R, S, t, fun d μ1 t1 F1 H1 v s1 R1 r1 => ?_⟩
  unfold drRev at t1
  have fall : isTup d = false → (match seqD μ1 d with
    | some xs => Q' (.lst xs.reverse) μ1
    | none => False) → _ := fun ht t => show (∃ a xs, v = .ref a ∧ SqL X.K H1 a xs ∧ ∀ p, H1 p = none → Q (.ref p) (upd H1 p (.lst xs.reverse))) ∨ ∃ a xs, v = .ref a ∧ SqT X.K H1 a xs ∧ ∀ p, H1 p = none → Q (.ref p) (upd H1 p (.tup xs.reverse)) by
    cases q : seqD μ1 d with
    | none => rw [q] at t; exact False.elim t
    | some xs =>
      rw [q] at t
      obtain ⟨a, vs, rfl, r, h3⟩ := R1.seq r1 q
      rcases h3 with ⟨_, h3⟩ | ⟨z, _⟩
      · exact .inl ⟨a, vs, rfl, h3, fun q hq => k _ μ1 t _ _ _ (s1.trans (Stp.newS R1 hq)) (R1.newS hq) (.lst upd_same (r.reverse.mono (Ext.new (R1.freeF hq))))⟩
      · rw [ht] at z; cases z
  cases d with
  | tup xs =>
    cases r1 with
    | tup h r => exact .inr ⟨_, _, rfl, R1.ext.sqT h, fun q hq => k _ μ1 t1 _ _ _ (s1.trans (Stp.newS R1 hq)) (R1.newS hq) (.tup (.inl (.inl upd_same)) (r.reverse.mono (Ext.new (R1.freeF hq))))⟩
  | _ => exact fall rfl t1

/-! ### displays of dicts -/
def dPairs : List (DTE × DTE) → Rho → Mu → (List (SD × SD) → Mu → Prop) → Prop
  | [], _, μ, Q => Q [] μ
  | (tk, tv) :: r, ρ, μ, Q => tk ρ μ fun x μ1 => tv ρ μ1 fun y μ2 => dPairs r ρ μ2 fun ps μ3 => Q ((x, y) :: ps) μ3
def keysD : List (SD × SD) → Option (List (Key × SD))
  | [] => some []
  | (x, y) :: r => match keyD x, keysD r with
    | some k, some ks => some ((k, y) :: ks)
    | _, _ => none
def mergeD (kvs more : List (Key × SD)) : List (Key × SD) := more.foldl (fun acc kv => putD acc kv.1 kv.2) kvs
/-- a display that will not change | may change -/
def dDispS (trs : List (DTE × DTE)) : DTE := fun ρ μ Q => dPairs trs ρ μ fun ps μ1 => match keysD ps with
  | some kvs => Q (.dic (mergeD [] kvs)) μ1
  | none => False
def dDispM (trs : List (DTE × DTE)) : DTE := fun ρ μ Q => dPairs trs ρ μ fun ps μ1 => match keysD ps with
  | some kvs => ∀ p, μ1 p = none → Q (.ref p) (up μ1 p (.dic (mergeD [] kvs)))
  | none => False
abbrev lifts (K : PySem.W.Frag) (trs : List (DTE × DTE)) : List (TE × TE) := trs.map fun t => (LE K t.1, LE K t.2)
abbrev DPs (X : Cx) (pos : Pos) (keys : List (Option Expr)) (values : List Expr) (trs : List (DTE × DTE)) : Prop := PPs X pos keys values (lifts X.K trs)
theorem dps_nil : DPs X pos [] [] [] := pps_nil
theorem dps_cons {k v : Expr} {ks : List (Option Expr)} {vs : List Expr} {tk tv : DTE} {trs : List (DTE × DTE)} (hk : DE X k tk) (hv : DE X v tv) (hr : DPs X pos ks vs trs) : DPs X pos (some k :: ks) (v :: vs) ((tk, tv) :: trs) := pps_cons hk hv hr
theorem liftPairs : ∀ (trs : List (DTE × DTE)) {σ : L2.St} {H F : Hp} {ρ : Rho} {μ : Mu} {Q : List (V × V) → Hp → Prop} {Q' : List (SD × SD) → Mu → Prop}, HReal K F H μ → Slots K F σ ρ → dPairs trs ρ μ Q' →
    (∀ ps μ', Q' ps μ' → ∀ F' H' vs, Stp F H μ F' H' μ' → HReal K F' H' μ' → vs.length = trs.length → Paired (fun (p : SD × SD) (q : V × V) => RepS K F' p.1 q.1 ∧ RepS K F' p.2 q.2) ps vs → Q vs H') → tPairs (lifts K trs) σ H Q
  | [], σ, H, F, ρ, μ, Q, Q', R, S, t, k => k [] μ t F H [] (Stp.refl _ _ _) R rfl .nil
  | (tk, tv) :: r, σ, H, F, ρ, μ, Q, Q', R, S, t, k => by
    refine ⟨F, ρ, μ, _, R, S, t, fun x μ1 t1 F1 H1 v1 s1 R1 r1 => ⟨F1, ρ, μ1, _, R1, S.mono s1.ext, t1, fun y μ2 t2 F2 H2 v2 s2 R2 r2 => ?_⟩⟩
    refine liftPairs r R2 ((S.mono s1.ext).mono s2.ext) t2 fun ps μ3 t3 F3 H3 vs s3 R3 hl3 r3 => ?_
    exact k _ μ3 t3 F3 H3 _ ((s1.trans s2).trans s3) R3 (by simp [hl3]) (.cons ⟨(r1.mono s2.ext).mono s3.ext, r2.mono s3.ext⟩ r3)
theorem keysD_rep {F : Hp} : ∀ {ps : List (SD × SD)} {vs : List (V × V)} {kvs : List (Key × SD)}, Paired (fun (p : SD × SD) (q : V × V) => RepS K F p.1 q.1 ∧ RepS K F p.2 q.2) ps vs → keysD ps = some kvs →
    ∃ ws : List (Key × V), vs = ws.map (fun kv => (kV kv.1, kv.2)) ∧ RepK K F kvs ws ∧ ws.length = vs.length
  | _, _, _, .nil, e => by cases e; exact ⟨[], rfl, ⟨rfl, .nil⟩, rfl⟩
  | (x, y) :: ps, (v, u) :: vs, _, .cons q r, e => by
    unfold keysD at e
    cases e1 : keyD x with
    | none => rw [e1] at e; cases e
    | some k => cases e2 : keysD ps with
      | none => rw [e1, e2] at e; cases e
      | some ks =>
        rw [e1, e2] at e
        cases e
        obtain ⟨ws, h1, h2, h3⟩ := keysD_rep r e2
        have hk : v = kV k := keyD_rep q.1 e1
        subst hk
        exact ⟨(k, u) :: ws, by rw [List.map_cons, ← h1], ⟨by simp [h2.keys], .cons q.2 h2.vals⟩, by simp [h3]⟩
theorem RepK.merge {F : Hp} : ∀ {more : List (Key × SD)} {mv : List (Key × V)} {kvs : List (Key × SD)} {vs : List (Key × V)}, RepK K F kvs vs → RepK K F more mv → RepK K F (mergeD kvs more) (mergeK vs mv)
  | [], [], _, _, r, _ => r
  | [], _ :: _, _, _, _, r => by have := r.keys; simp at this
  | _ :: _, [], _, _, _, r => by have := r.keys; simp at this
  | (a, d) :: more, (b, v) :: mv, kvs, vs, r, m => by
    have h1 := m.keys
    simp only [List.map_cons, List.cons.injEq] at h1
    obtain ⟨rfl, h1⟩ := h1
    have h2 := m.vals
    simp only [List.map_cons] at h2
    cases h2 with
    | cons q1 q2 =>
      show RepK K F (mergeD (putD kvs b d) more) (mergeK (putK vs b v) mv)
      exact RepK.merge (r.put b q1) ⟨h1, q2⟩
theorem liftDisp {trs : List (DTE × DTE)} {σ : L2.St} {H F : Hp} {ρ : Rho} {μ : Mu} {Q : VK} {Q' : List (SD × SD) → Mu → Prop} (h15 : trs.length ≤ 15) (R : HReal K F H μ) (S : Slots K F σ ρ) (t : dPairs trs ρ μ Q')
    (k : ∀ ps μ', Q' ps μ' → ∃ kvs, keysD ps = some kvs ∧ ∀ F' H' p ws, Stp F H μ F' H' μ' → HReal K F' H' μ' → F' p = none → μ' p = none → H' p = some (.dK ws) → RepK K F' (mergeD [] kvs) ws → (∀ a, H a ≠ none → F a = none → μ a = none → a ≠ p) → Q (.ref p) H') : tDisp (lifts K trs) σ H Q := by
  intro p hp
  have hF := R.freeF hp
  have hM := R.freeM hp
  refine liftPairs trs (R.aside (o := .dK []) hF hM) S t fun ps μ' t' F' H' vs s R' hl r => ?_
  · obtain ⟨kvs, e, k⟩ := k ps μ' t'
    obtain ⟨q1, q2, q3⟩ := s.fr p (by rw [upd_same]; exact fun z => nomatch z) hF hM
    obtain ⟨ws, h1, h2, h3⟩ := keysD_rep r e
    refine ⟨by rw [q1, upd_same], ws, h1, by rw [h3, hl]; exact h15, ?_⟩
    have ne : ∀ a, H a ≠ none → a ≠ p := fun a ha z => by subst z; exact ha hp
    refine k F' _ p (mergeK [] ws) ⟨s.ext, fun a a1 a2 a3 => ?_⟩ (R'.aside q2 q3) q2 q3 upd_same (RepK.merge ⟨rfl, .nil⟩ h2) fun a a1 _ _ => ne a a1
    have na := ne a a1
    obtain ⟨b1, b2, b3⟩ := s.fr a (by rw [upd_ne na]; exact a1) a2 a3
    exact ⟨by rw [upd_ne na, b1, upd_ne na], b2, b3⟩
theorem de_dispS {keys : List (Option Expr)} {values : List Expr} {trs : List (DTE × DTE)} (h : DPs X pos keys values trs) (hall : keys.all (·.isSome) = true) (hl : keys.length = values.length) (h0 : keys ≠ []) (h15 : keys.length ≤ 15) (ht : trs.length ≤ 15) : DE X (.Dict keys values pos) (dDispS trs) :=
  weakE (pe_disp h hall hl h0 h15) fun σ H Q h => by
    obtain ⟨F, ρ, μ, Q', R, S, t, k⟩ := h
    refine liftDisp ht R S t fun ps μ' t' => ?_
    cases e : keysD ps with
    | none => rw [e] at t'; exact False.elim t'
    | some kvs =>
      rw [e] at t'
      refine ⟨kvs, rfl, fun F' H' p ws s R' f m hp rk ne => ?_⟩
      have ex : Ext F' (upd F' p (.dK ws)) := Ext.new f
      refine k _ μ' t' (upd F' p (.dK ws)) H' (.ref p) ⟨s.ext.trans ex, fun a h1 h2 h3 => ?_⟩ (R'.adopt f m hp) (.dic (.inl upd_same) rk.keys (rk.vals.mono ex))
      obtain ⟨q1, q2, q3⟩ := s.fr a h1 h2 h3
      exact ⟨q1, by rw [upd_ne (ne a h1 h2 h3)]; exact q2, q3⟩
theorem de_dispM {keys : List (Option Expr)} {values : List Expr} {trs : List (DTE × DTE)} (h : DPs X pos keys values trs) (hall : keys.all (·.isSome) = true) (hl : keys.length = values.length) (h0 : keys ≠ []) (h15 : keys.length ≤ 15) (ht : trs.length ≤ 15) : DE X (.Dict keys values pos) (dDispM trs) :=
  weakE (pe_disp h hall hl h0 h15) fun σ H Q h => by
    obtain ⟨F, ρ, μ, Q', R, S, t, k⟩ := h
    refine liftDisp ht R S t fun ps μ' t' => ?_
    cases e : keysD ps with
    | none => rw [e] at t'; exact False.elim t'
    | some kvs =>
      rw [e] at t'
      refine ⟨kvs, rfl, fun F' H' p ws s R' f m hp rk ne => ?_⟩
      refine k _ _ (t' p m) F' H' (.ref p) ⟨s.ext, fun a h1 h2 h3 => ?_⟩ (R'.adoptM f hp (.dic rk.keys rk.vals)) (.ref p)
      obtain ⟨q1, q2, q3⟩ := s.fr a h1 h2 h3
      exact ⟨q1, q2, by rw [up_ne (ne a h1 h2 h3)]; exact q3⟩
/-- {} -/
abbrev dDict0M : DTE := fun _ μ Q => ∀ p, μ p = none → Q (.ref p) (up μ p (.dic []))
abbrev dDict0S : DTE := fun _ μ Q => Q (.dic []) μ
theorem de_dict0M : DE X (.Dict [] [] pos) dDict0M := weakE pe_dnewK fun σ H Q h => by
  obtain ⟨F, ρ, μ, Q', R, S, t, k⟩ := h
  exact fun p hp => k _ _ (t p (R.freeM hp)) _ _ _ (Stp.newM R hp) (R.newM hp (.dic rfl .nil)) (.ref p)
theorem de_dict0S : DE X (.Dict [] [] pos) dDict0S := weakE pe_dnewK fun σ H Q h => by
  obtain ⟨F, ρ, μ, Q', R, S, t, k⟩ := h
  exact fun p hp => k _ _ t _ _ _ (Stp.newS R hp) (R.newS hp) (.dic (.inl upd_same) rfl .nil)

/-! ### walks over a dict -/
/-- an expression that gives a dict, which is locked as it is from then on -/
def tLockA (H0 : Hp) (td : TE) : TE := fun σ H Q => td σ H fun x H1 => ∃ d kvs, x = .ref d ∧ ((H1 d = some (.dK kvs) ∧ ∀ od, (∀ o' u', H0 d ≠ some (.frz o' u')) → Q x (upd H1 d (.frz od (.dK kvs)))) ∨ ∃ od, H1 d = some (.frz od (.dK kvs)) ∧ Q x H1)
theorem pe_lockA {td : TE} (he : PE X e td) : PE X e (tLockA X.H_0 td) := ⟨fun pins s σ H Q I h => thn (he.run pins s σ H _ I h) fun v s1 ⟨x, H1, I1, r1, d, kvs, ex, q⟩ => by
  rcases q with ⟨hd, q⟩ | ⟨od, hd, q⟩
  · obtain ⟨od, I2⟩ := I1.lock hd trivial
    exact ⟨x, _, I2, r1, q od fun o' u' z => by rw [I1.base.frzs d o' u' z] at hd; cases hd⟩
  · exact ⟨x, H1, I1, r1, q⟩⟩
def Unl (H0 : Hp) (P : Hp → Prop) : Hp → Prop := fun H => P H ∨ ∃ d od u, H d = some (.frz od u) ∧ (∀ o' u', H0 d ≠ some (.frz o' u')) ∧ P (upd H d u)
def tUnl (H0 : Hp) (t : TS) : TS := fun D σ H => t { nx := fun σ => Unl H0 (D.nx σ), rt := fun v => Unl H0 (D.rt v), bk := fun σ => Unl H0 (D.bk σ), ct := fun σ => Unl H0 (D.ct σ) } σ H
theorem ps_unl {st : Stmt} {t : TS} (h : PS X st t) : PS X st (tUnl X.H_0 t) := ⟨fun pins s σ H D I q => thn (h.run pins s σ H _ I q) fun fl s1 q1 => by
  have go : ∀ {σ' : L2.St} {H' : Hp} {P : Hp → Prop}, Inv X pins σ' H' s1 → Unl X.H_0 P H' → ∃ H2, Inv X pins σ' H2 s1 ∧ P H2 := fun {σ' H' P} I1 q => by
    rcases q with q | ⟨d, od, u, h1, h2, q⟩
    · exact ⟨_, I1, q⟩
    · exact ⟨_, I1.unlock h1 h2, q⟩
  match fl, q1 with
  | .next, ⟨σ', H', I1, q⟩ => obtain ⟨H2, I2, q⟩ := go I1 q; exact ⟨σ', H2, I2, q⟩
  | .brk, ⟨σ', H', I1, q⟩ => obtain ⟨H2, I2, q⟩ := go I1 q; exact ⟨σ', H2, I2, q⟩
  | .cont, ⟨σ', H', I1, q⟩ => obtain ⟨H2, I2, q⟩ := go I1 q; exact ⟨σ', H2, I2, q⟩
  | .ret u, ⟨v, σ', H', I1, r, q⟩ => obtain ⟨H2, I2, q⟩ := go I1 q; exact ⟨v, σ', H2, I2, r, q⟩⟩
def keyS : Key → SD
  | .inl i => .int i
  | .inr x => .str x
theorem keyS_rep {F : Hp} (k : Key) : RepS K F (keyS k) (kV k) := by cases k <;> constructor
def itemsS (kvs : List (Key × SD)) : List SD := kvs.map fun kv => .tup [keyS kv.1, kv.2]
theorem RepK.get {F : Hp} {ds : List (Key × SD)} {vs : List (Key × V)} (r : RepK K F ds vs) {i : Nat} {k : Key} {v : V} (h : vs[i]? = some (k, v)) : ∃ d, ds[i]? = some (k, d) ∧ RepS K F d v := by
  have h1 : (vs.map (·.2))[i]? = some v := by rw [List.getElem?_map, h]; rfl
  obtain ⟨d, h2, h3⟩ := r.vals.getV h1
  have h4 : (ds.map (·.1))[i]? = some k := by rw [← r.keys, List.getElem?_map, h]; rfl
  rw [List.getElem?_map] at h2 h4
  cases e : ds[i]? with
  | none => rw [e] at h2; cases h2
  | some p =>
    rw [e] at h2 h4
    obtain ⟨a, b⟩ := p
    cases h2; cases h4
    exact ⟨_, rfl, h3⟩
theorem src_items {F0 H0 : Hp} {μ0 : Mu} {d : Addr} {od : Obj} {kvs : List (Key × SD)} {vs : List (Key × V)} (rk : RepK K F0 kvs vs) (h : ∀ (F H : Hp) (μ : Mu), Stp F0 H0 μ0 F H μ → H d = some (.frz od (.dK vs))) : Src K F0 H0 μ0 (Iti d od vs) (itemsS kvs) fun _ => True where
  go := fun i F H μ s R _ hi => ⟨h F H μ s, by rw [← rk.len]; simpa [itemsS] using hi⟩
  stop := fun F H μ s R _ => ⟨h F H μ s, by rw [← rk.len]; simp [itemsS]⟩
  yld := fun i F H μ x H' s R _ y e hd => by
    obtain ⟨T, k, v, h1, rfl, hT, rfl⟩ := y
    obtain ⟨dd, h2, h3⟩ := rk.get h1
    have : (itemsS kvs)[i]? = some (.tup [keyS k, dd]) := by simp [itemsS, h2]
    rw [this] at hd; cases hd
    have ex : Ext F (upd F T (.tup [kV k, v])) := Ext.new (R.freeF hT)
    exact ⟨_, Stp.newS R hT, R.newS hT, .tup (.inl (.inl upd_same)) (.cons (keyS_rep k) (.one ((h3.mono s.ext).mono ex)))⟩
/-- a walk over a written list of data -/
def dForL (ds : List SD) (g : DTG) (tb : DTS) : DTS := dFor (fun _ μ Q => Q ds (fun _ => True) μ) g tb
def dForItems (te : DTE) (g : DTG) (tb : DTS) : DTS := fun D ρ μ => te ρ μ fun d μ1 => match d with
  | .dic kvs => dForL (itemsS kvs) g tb D ρ μ1
  | .ref a => match μ1 a with
    | some (.dic kvs) => dForL (itemsS kvs) g tb { nx := fun ρ μ => D.nx ρ (up μ a (.dic kvs)), rt := fun d μ => D.rt d (up μ a (.dic kvs)), bk := fun ρ μ => D.bk ρ (up μ a (.dic kvs)), ct := fun ρ μ => D.ct ρ (up μ a (.dic kvs)) } ρ (rm μ1 a)
    | _ => False
  | _ => False
end
end DS
/-! DS10: a loop over the items of a dict that is data; returning a dict of lists. -/
namespace DS
open PySem PySem.Spec PyProof.Rows L2
/-- enough to read data -/
structure Ext0 (K : PySem.W.Frag) (F F' : Hp) : Prop where
  t : ∀ a xs, SqT K F a xs → SqT K F' a xs
  l : ∀ a xs, SqL K F a xs → SqL K F' a xs
  ls : ∀ a vs, F a = some (.lst vs) → F' a = some (.lst vs)
  d : ∀ a vs, Rd F a (.dK vs) → Rd F' a (.dK vs)
  st : ∀ a o, still o = true → F a = some o → F' a = some o
  pt : ∀ a o vs, F a = some (.frz o (.tup vs)) → F' a = some (.frz o (.tup vs))
mutual
theorem RepS.mono0 {K : PySem.W.Frag} {F F' : Hp} (e : Ext0 K F F') : ∀ {d : SD} {v : V}, RepS K F d v → RepS K F' d v
  | _, _, .non => .non
  | _, _, .bl b => .bl b
  | _, _, .int i => .int i
  | _, _, .str x => .str x
  | _, _, .ref a => .ref a
  | _, _, .ty n => .ty n
  | _, _, .tup h r => .tup (e.t _ _ h) (RepL.mono0 e r)
  | _, _, .lst h r => .lst (e.ls _ _ h) (RepL.mono0 e r)
  | _, _, .rol h r => .rol (e.l _ _ h) (RepL.mono0 e r)
  | _, _, .dic h q r => .dic (e.d _ _ h) q (RepL.mono0 e r)
  | _, _, .exc0 h q => .exc0 h (e.st _ _ rfl q)
  | _, _, .exc h q p z r => .exc h (e.st _ _ rfl q) (e.st _ _ rfl p) z (RepL.mono0 e r)
  | _, _, .ptp h q r => .ptp (e.pt _ _ _ h) q (RepL.mono0 e r)
theorem RepL.mono0 {K : PySem.W.Frag} {F F' : Hp} (e : Ext0 K F F') : ∀ {ds : List SD} {vs : List V}, RepL K F ds vs → RepL K F' ds vs
  | _, _, .nil => .nil
  | _, _, .cons h r => .cons (RepS.mono0 e h) (RepL.mono0 e r)
end
theorem RepO.mono0 {K : PySem.W.Frag} {F F' : Hp} (e : Ext0 K F F') {m : MO} {o : HO} (h : RepO K F m o) : RepO K F' m o := by
  cases h with
  | lst r => exact .lst (r.mono0 e)
  | dic q r => exact .dic q (r.mono0 e)
  | obj c q r => exact .obj c q (r.mono0 e)
  | fdic q r => exact .fdic q (r.mono0 e)
theorem Slots.mono0 {K : PySem.W.Frag} {F F' : Hp} {σ : L2.St} {ρ : Rho} (e : Ext0 K F F') (h : Slots K F σ ρ) : Slots K F' σ ρ := ⟨h.len, fun i d q => let ⟨v, a, b⟩ := h.at_ i d q; ⟨v, a, b.mono0 e⟩⟩
section
variable {K : PySem.W.Frag} {F H : Hp} {μ : Mu} {d : Addr} {od : Obj} {vs : List (Key × V)}
theorem ext_lock (h : F d = some (.dK vs)) : Ext F (upd F d (.frz od (.dK vs))) := by
  refine ⟨fun a u r => ?_, fun a us r => ?_, fun a o u r => ?_, fun a o hs r => ?_⟩
  · by_cases e : a = d
    · subst e
      rcases r with r | ⟨o, r⟩ <;> rw [h] at r <;> cases r
      exact .inr ⟨od, upd_same⟩
    · rcases r with r | ⟨o, r⟩
      · exact .inl (by rw [upd_ne e]; exact r)
      · exact .inr ⟨o, by rw [upd_ne e]; exact r⟩
  · have e : a ≠ d := fun e => by subst e; rw [h] at r; cases r
    rw [upd_ne e]; exact r
  · have e : a ≠ d := fun e => by subst e; rw [h] at r; cases r
    rw [upd_ne e]; exact r
  · have e : a ≠ d := fun e => by subst e; rw [h] at r; cases r; cases hs
    rw [upd_ne e]; exact r
theorem HReal.lockD (R : HReal K F H μ) (h : F d = some (.dK vs)) : HReal K (upd F d (.frz od (.dK vs))) (upd H d (.frz od (.dK vs))) μ ∧ Stp F H μ (upd F d (.frz od (.dK vs))) (upd H d (.frz od (.dK vs))) μ := by
  have nd : ∀ a, F a = none → a ≠ d := fun a q e => by subst e; rw [h] at q; cases q
  refine ⟨⟨fun a o q => ?_, fun a m q => ?_⟩, ⟨ext_lock h, fun a h1 h2 h3 => ?_⟩⟩
  · by_cases e : a = d
    · subst e; rw [upd_same] at q ⊢; exact q
    · rw [upd_ne e] at q ⊢; exact R.sub a o q
  · obtain ⟨z, o, q1, q2⟩ := R.mus a m q
    have e := nd a z
    exact ⟨by rw [upd_ne e]; exact z, o, by rw [upd_ne e]; exact q1, q2.mono (ext_lock h)⟩
  · have e := nd a h2
    exact ⟨by rw [upd_ne e], by rw [upd_ne e]; exact h2, h3⟩
theorem ext_unlock (h : F d = some (.frz od (.dK vs))) : Ext0 K F (upd F d (.dK vs)) := by
  have rd : ∀ a u, (∀ o u', u ≠ .frz o u') → Rd F a u → Rd (upd F d (.dK vs)) a u := fun a u hu r => by
    by_cases e : a = d
    · subst e
      rcases r with r | ⟨o, r⟩
      · rw [h] at r; cases r; exact (hu _ _ rfl).elim
      · rw [h] at r; cases r; exact .inl upd_same
    · rcases r with r | ⟨o, r⟩
      · exact .inl (by rw [upd_ne e]; exact r)
      · exact .inr ⟨o, by rw [upd_ne e]; exact r⟩
  refine ⟨fun a xs r => r.elim (fun r => .inl (rd a _ (fun _ _ z => by cases z) r)) .inr, fun a xs r => r.elim (fun r => .inl (rd a _ (fun _ _ z => by cases z) r)) .inr, fun a us r => ?_, fun a us r => rd a _ (fun _ _ z => by cases z) r, fun a o hs r => ?_, fun a o us r => ?_⟩
  · have e : a ≠ d := fun e => by subst e; rw [h] at r; cases r
    rw [upd_ne e]; exact r
  · have e : a ≠ d := fun e => by subst e; rw [h] at r; cases r; cases hs
    rw [upd_ne e]; exact r
  · have e : a ≠ d := fun e => by subst e; rw [h] at r; cases r
    rw [upd_ne e]; exact r
theorem HReal.unlockD (R : HReal K F H μ) (h : F d = some (.frz od (.dK vs))) : HReal K (upd F d (.dK vs)) (upd H d (.dK vs)) μ := by
  have nd : ∀ a, F a = none → a ≠ d := fun a q e => by subst e; rw [h] at q; cases q
  refine ⟨fun a o q => ?_, fun a m q => ?_⟩
  · by_cases e : a = d
    · subst e; rw [upd_same] at q ⊢; exact q
    · rw [upd_ne e] at q ⊢; exact R.sub a o q
  · obtain ⟨z, o, q1, q2⟩ := R.mus a m q
    have e := nd a z
    exact ⟨by rw [upd_ne e]; exact z, o, by rw [upd_ne e]; exact q1, q2.mono0 (ext_unlock h)⟩
theorem Stp.unlockD {F0 H0 : Hp} {μ0 μ' : Mu} (h : F0 d = some (.dK vs)) (s : Stp (upd F0 d (.frz od (.dK vs))) (upd H0 d (.frz od (.dK vs))) μ0 F H μ') : Stp F0 H0 μ0 (upd F d (.dK vs)) (upd H d (.dK vs)) μ' := by
  have hF : F d = some (.frz od (.dK vs)) := s.ext.fz d _ _ upd_same
  refine ⟨⟨fun a u r => ?_, fun a us r => ?_, fun a o u r => ?_, fun a o hs r => ?_⟩, fun a h1 h2 h3 => ?_⟩
  · by_cases e : a = d
    · subst e
      rcases r with r | ⟨o, r⟩ <;> rw [h] at r <;> cases r
      exact .inl upd_same
    · have := s.ext.rd a u (r.elim (fun r => .inl (by rw [upd_ne e]; exact r)) fun ⟨o, r⟩ => .inr ⟨o, by rw [upd_ne e]; exact r⟩)
      exact this.elim (fun r => .inl (by rw [upd_ne e]; exact r)) fun ⟨o, r⟩ => .inr ⟨o, by rw [upd_ne e]; exact r⟩
  · have e : a ≠ d := fun e => by subst e; rw [h] at r; cases r
    rw [upd_ne e]; exact s.ext.ls a us (by rw [upd_ne e]; exact r)
  · have e : a ≠ d := fun e => by subst e; rw [h] at r; cases r
    rw [upd_ne e]; exact s.ext.fz a o u (by rw [upd_ne e]; exact r)
  · have e : a ≠ d := fun e => by subst e; rw [h] at r; cases r; cases hs
    rw [upd_ne e]; exact s.ext.st a o hs (by rw [upd_ne e]; exact r)
  · have e : a ≠ d := fun e => by subst e; rw [h] at h2; cases h2
    obtain ⟨p, q, r⟩ := s.fr a (by rw [upd_ne e]; exact h1) (by rw [upd_ne e]; exact h2) h3
    rw [upd_ne e] at p
    exact ⟨by rw [upd_ne e]; exact p, by rw [upd_ne e]; exact q, r⟩
end
theorem src_items2 {K : PySem.W.Frag} {F0 H0 : Hp} {μ0 : Mu} {d : Addr} {od : Obj} {kvs : List (Key × SD)} {vs : List (Key × V)} (rk : RepK K F0 kvs vs) (h : F0 d = some (.frz od (.dK vs))) : Src K F0 H0 μ0 (Iti d od vs) (itemsS kvs) fun _ => True where
  go := fun i F H μ s R _ hi => ⟨R.sub _ _ (s.ext.fz d _ _ h), by rw [← rk.len]; simpa [itemsS] using hi⟩
  stop := fun F H μ s R _ => ⟨R.sub _ _ (s.ext.fz d _ _ h), by rw [← rk.len]; simp [itemsS]⟩
  yld := fun i F H μ x H' s R _ y e hd => by
    obtain ⟨T, k, v, h1, rfl, hT, rfl⟩ := y
    obtain ⟨dd, h2, h3⟩ := rk.get h1
    have : (itemsS kvs)[i]? = some (.tup [keyS k, dd]) := by simp [itemsS, h2]
    rw [this] at hd; cases hd
    have ex : Ext F (upd F T (.tup [kV k, v])) := Ext.new (R.freeF hT)
    exact ⟨_, Stp.newS R hT, R.newS hT, .tup (.inl (.inl upd_same)) (.cons (keyS_rep k) (.one ((h3.mono s.ext).mono ex)))⟩
/-- the inside of a for loop, lifted -/
theorem for_core {K : PySem.W.Frag} {g : DTG} {tb : DTS} {D : Ends} {D' : DEnds} {F1 H1 : Hp} {μ1 : Mu} {σ0 : L2.St} {ρ0 : Rho} {J : It} {ds : List SD} {ok : Mu → Prop} (R1 : HReal K F1 H1 μ1) (S1 : Slots K F1 σ0 ρ0) (src : Src K F1 H1 μ1 J ds ok)
    (t : ∃ W : Nat → Rho → Mu → Prop, W 0 ρ0 μ1 ∧ (∀ i ρ μ, i ≤ ds.length → W i ρ μ → ok μ) ∧ (∀ i d ρ μ, ds[i]? = some d → W i ρ μ → g d ρ μ fun ρ2 μ2 => tb { D' with nx := W (i + 1), ct := W (i + 1), bk := D'.nx } ρ2 μ2) ∧ ∀ ρ μ, W ds.length ρ μ → D'.nx ρ μ)
    (k : ∀ ρ' μ', D'.nx ρ' μ' → ∀ F' H' σ', Stp F1 H1 μ1 F' H' μ' → HReal K F' H' μ' → Slots K F' σ' ρ' → D.nx σ' H')
    (k2 : ∀ d μ', D'.rt d μ' → ∀ F' H' v, Stp F1 H1 μ1 F' H' μ' → HReal K F' H' μ' → RepS K F' d v → D.rt v H') :
    ∃ W : Nat → Nat → L2.St → Hp → Prop, (∃ m, W 0 m σ0 H1) ∧ ∀ i m σ H, W i m σ H →
  (J.stop i H ∧ D.nx σ H) ∨ (J.go i H ∧ ∃ N : L2.St → Hp → Prop, (∀ σ' H', N σ' H' → ∃ m', m' < m ∧ W (i + 1) m' σ' H') ∧ ∀ x H', J.yld i H x H' → LG K g x σ H' fun σ2 H2 => LS K tb { D with nx := N, ct := N, bk := D.nx } σ2 H2) := by
  obtain ⟨W, w0, hok, turn, fin⟩ := t
  refine ⟨fun i m σ' H' => i + m = ds.length ∧ ∃ F ρ μ, Stp F1 H1 μ1 F H' μ ∧ HReal K F H' μ ∧ Slots K F σ' ρ ∧ W i ρ μ, ⟨ds.length, by omega, F1, ρ0, μ1, Stp.refl _ _ _, R1, S1, w0⟩, ?_⟩
  rintro i m σ' H' ⟨him, F, ρ, μ, s, R, S, w⟩
  have hle : i ≤ ds.length := by omega
  by_cases hi : i < ds.length
  · refine .inr ⟨src.go i F H' μ s R (hok i ρ μ hle w) hi, fun σ2 H2 => ∃ F ρ μ, Stp F1 H1 μ1 F H2 μ ∧ HReal K F H2 μ ∧ Slots K F σ2 ρ ∧ W (i + 1) ρ μ, ?_, ?_⟩
    · rintro σ2 H2 ⟨F', ρ', μ', s', R', S', w'⟩
      exact ⟨ds.length - (i + 1), by omega, by omega, F', ρ', μ', s', R', S', w'⟩
    · intro x H2 y
      obtain ⟨F', s', R', r'⟩ := src.yld i F H' μ x H2 s R (hok i ρ μ hle w) y _ (List.getElem?_eq_getElem hi)
      refine ⟨F', ρ, μ, _, _, R', S.mono s'.ext, r', turn i _ ρ μ (List.getElem?_eq_getElem hi) w, fun ρ2 μ2 t2 F2 H3 σ2 s2 R2 S2 => ?_⟩
      refine ⟨F2, ρ2, μ2, _, R2, S2, t2, ?_, ?_, ?_, ?_⟩
      · exact fun ρ' μ' q F'' H'' σ'' s'' R'' S'' => ⟨F'', ρ', μ', ((s.trans s').trans s2).trans s'', R'', S'', q⟩
      · exact fun d μ' q F'' H'' v s'' R'' r'' => k2 d μ' q F'' H'' v (((s.trans s').trans s2).trans s'') R'' r''
      · exact fun ρ' μ' q F'' H'' σ'' s'' R'' S'' => k ρ' μ' q F'' H'' σ'' (((s.trans s').trans s2).trans s'') R'' S''
      · exact fun ρ' μ' q F'' H'' σ'' s'' R'' S'' => ⟨F'', ρ', μ', ((s.trans s').trans s2).trans s'', R'', S'', q⟩
  · have e : i = ds.length := by omega
    subst e
    exact .inl ⟨src.stop F H' μ s R (hok _ ρ μ hle w), k ρ μ (fin ρ μ w) F H' σ' s R S⟩
/-- the items of a dict that is data -/
def dForD (te : DTE) (g : DTG) (tb : DTS) : DTS := fun D ρ μ => te ρ μ fun d μ1 => match d with
  | .dic kvs => ∃ W : Nat → Rho → Mu → Prop, W 0 ρ μ1 ∧ (∀ i d ρ μ, (itemsS kvs)[i]? = some d → W i ρ μ → g d ρ μ fun ρ2 μ2 => tb { D with nx := W (i + 1), ct := W (i + 1), bk := D.nx } ρ2 μ2) ∧ ∀ ρ μ, W kvs.length ρ μ → D.nx ρ μ
  | _ => False
section
variable {X : Cx} {e : Expr} {elts : List Expr} {kk : Nat} {tpos pos apos cpos : Pos} {body : List Stmt}
theorem ds_forItems {te : DTE} {g : DTG} {tb : DTS} (hp : PassesOwn (model X.prog X.w) X.A X.env X.xe) (hc : X.calm = true) (he : DE X e te) (hg : DG X (.Tuple elts kk tpos) g) (hb : DSs X body tb)
    (hbase : attributeBase e "items" X.env (eval e X.env) = eval e X.env := by rfl) (hline : (apos.endLine == cpos.line) = true := by rfl)
    (hs : ∀ x, foldedSetIterable (.Call (.Attribute e "items" apos) [] [] cpos) X.env x = pure x := by intro _; rfl) :
    DS_ X (.For (.Tuple elts kk tpos) (.Call (.Attribute e "items" apos) [] [] cpos) body [] pos) (dForD te g tb) := weakS (ps_unl (ps_for hp hc (pi_items (pe_lockA he) hbase hline) hg hb hs)) fun D σ H h => by
  obtain ⟨F0, ρ0, μ0, D', R0, S0, t, k, k2, k3, k4⟩ := h
  refine ⟨F0, ρ0, μ0, _, R0, S0, t, fun d μ1 t1 F1 H1 v s1 R1 r1 => ?_⟩
  cases r1 with
  | dic hd hk hv =>
    rename_i a ds vs
    obtain ⟨W, w0, turn, fin⟩ := t1
    have fin' : ∀ ρ μ, W (itemsS ds).length ρ μ → D'.nx ρ μ := by
      rw [show (itemsS ds).length = ds.length by simp [itemsS]]; exact fin
    have rk : RepK X.K F1 ds vs := ⟨hk, hv⟩
    refine ⟨a, vs, rfl, ?_⟩
    rcases hd with hd | ⟨od, hd⟩
    · refine .inl ⟨R1.sub _ _ hd, fun od h0 => ?_⟩
      obtain ⟨R2, s2⟩ := R1.lockD (od := od) hd
      refine ⟨a, od, vs, rfl, upd_same, ?_⟩
      refine for_core R2 ((S0.mono s1.ext).mono s2.ext) (src_items2 (od := od) ⟨rk.keys, rk.vals.mono s2.ext⟩ upd_same) ⟨W, w0, fun _ _ _ _ _ => trivial, turn, fin'⟩ ?_ ?_
      · intro ρ' μ' q F' H' σ' s R S
        have hF : F' a = some (.frz od (.dK vs)) := s.ext.fz a _ _ upd_same
        exact .inr ⟨a, od, _, R.sub _ _ hF, h0, k ρ' μ' q _ _ σ' (s1.trans (Stp.unlockD hd s)) (R.unlockD hF) (S.mono0 (ext_unlock hF))⟩
      · intro d μ' q F' H' v s R r
        have hF : F' a = some (.frz od (.dK vs)) := s.ext.fz a _ _ upd_same
        exact .inr ⟨a, od, _, R.sub _ _ hF, h0, k2 d μ' q _ _ v (s1.trans (Stp.unlockD hd s)) (R.unlockD hF) (r.mono0 (ext_unlock hF))⟩
    · refine .inr ⟨od, R1.sub _ _ hd, ?_⟩
      refine ⟨a, od, vs, rfl, R1.sub _ _ hd, ?_⟩
      refine for_core R1 (S0.mono s1.ext) (src_items2 (od := od) rk hd) ⟨W, w0, fun _ _ _ _ _ => trivial, turn, fin'⟩ ?_ ?_
      · exact fun ρ' μ' q F' H' σ' s R S => .inl (k ρ' μ' q F' H' σ' (s1.trans s) R S)
      · exact fun d μ' q F' H' v s R r => .inl (k2 d μ' q F' H' v (s1.trans s) R r)
  | _ => exact t1.elim
end
/-! ### freezing a dict with its lists -/
def fz1 (μ : Mu) : SD → SD
  | .ref b => match μ b with
    | some (.lst xs) => .lst xs
    | _ => .ref b
  | d => d
def lstRefs (μ : Mu) (ds : List SD) : List Addr := ds.filterMap fun d => match d with
  | .ref b => match μ b with
    | some (.lst _) => some b
    | _ => none
  | _ => none
def rmL (μ : Mu) (bs : List Addr) : Mu := fun b => if b ∈ bs then none else μ b
theorem rmL_nil (μ : Mu) : rmL μ [] = μ := by funext b; simp [rmL]
theorem rmL_cons (μ : Mu) (a : Addr) (bs : List Addr) : rmL μ (a :: bs) = rmL (rm μ a) bs := by
  funext b; unfold rmL rm; by_cases h : b = a <;> by_cases h2 : b ∈ bs <;> simp [h, h2]
section
variable {K : PySem.W.Frag}
theorem freezeL : ∀ (bs : List Addr) {F H : Hp} {μ : Mu}, HReal K F H μ → (∀ b ∈ bs, ∀ m, μ b = some m → ∃ xs, m = .lst xs) → ∃ F', HReal K F' H (rmL μ bs) ∧ Stp F H μ F' H (rmL μ bs) ∧ ∀ b ∈ bs, ∀ xs, μ b = some (.lst xs) → RepS K F' (.lst xs) (.ref b)
  | [], F, H, μ, R, _ => ⟨F, by rw [rmL_nil]; exact R, by rw [rmL_nil]; exact Stp.refl _ _ _, fun b hb => by cases hb⟩
  | a :: bs, F, H, μ, R, h => by
    rw [rmL_cons]
    have go : ∃ F1, HReal K F1 H (rm μ a) ∧ Stp F H μ F1 H (rm μ a) ∧ ∀ xs, μ a = some (.lst xs) → RepS K F1 (.lst xs) (.ref a) := by
      cases e : μ a with
      | none =>
        have : rm μ a = μ := by funext b; unfold rm; split
                                · rename_i q; rw [q, e]
                                · rfl
        rw [this]; exact ⟨F, R, Stp.refl _ _ _, fun _ z => by cases z⟩
      | some m =>
        obtain ⟨xs, rfl⟩ := h a (List.mem_cons_self ..) m e
        obtain ⟨vs, _, _, R1, s1, r⟩ := R.freeze e
        exact ⟨_, R1, s1, fun _ z => by cases z; exact r⟩
    obtain ⟨F1, R1, s1, r1⟩ := go
    obtain ⟨F2, R2, s2, r2⟩ := freezeL bs R1 fun b hb m q => h b (List.mem_cons_of_mem _ hb) m (by
      unfold rm at q; split at q
      · cases q
      · exact q)
    refine ⟨F2, R2, s1.trans s2, fun b hb xs q => ?_⟩
    by_cases e : b = a
    · subst e; exact (r1 xs q).mono s2.ext
    · rcases List.mem_cons.mp hb with hb | hb
      · exact (e hb).elim
      · exact r2 b hb xs (by rw [rm_ne e]; exact q)
theorem mem_lstRefs {μ : Mu} {ds : List SD} {b : Addr} : b ∈ lstRefs μ ds → ∃ xs, μ b = some (.lst xs) := by
  intro h
  obtain ⟨d, _, e⟩ := List.mem_filterMap.mp h
  cases d <;> simp at e
  split at e
  · rename_i xs q; simp at e; subst e; exact ⟨xs, q⟩
  · cases e
theorem lstRefs_mem {μ : Mu} {ds : List SD} {b : Addr} {xs : List SD} (h : SD.ref b ∈ ds) (e : μ b = some (.lst xs)) : b ∈ lstRefs μ ds := List.mem_filterMap.mpr ⟨_, h, by simp [e]⟩
theorem rep_fz1 {F F' : Hp} {μ : Mu} (ex : Ext F F') : ∀ {ds : List SD} {vs : List V}, (∀ b xs, SD.ref b ∈ ds → μ b = some (.lst xs) → RepS K F' (.lst xs) (.ref b)) → RepL K F ds vs → RepL K F' (ds.map (fz1 μ)) vs
  | _, _, _, .nil => .nil
  | d :: ds, _, h, .cons q r => by
    refine .cons ?_ (rep_fz1 ex (fun b xs hb e => h b xs (List.mem_cons_of_mem _ hb) e) r)
    cases q with
    | ref b =>
      cases e : μ b with
      | none => rw [show fz1 μ (.ref b) = .ref b by simp only [fz1, e]]; exact .ref b
      | some m =>
        cases m with
        | lst xs => rw [show fz1 μ (.ref b) = .lst xs by simp only [fz1, e]]; exact h b xs (List.mem_cons_self ..) e
        | dic xs => rw [show fz1 μ (.ref b) = .ref b by simp only [fz1, e]]; exact .ref b
        | obj C xs => rw [show fz1 μ (.ref b) = .ref b by simp only [fz1, e]]; exact .ref b
        | fdic xs o => rw [show fz1 μ (.ref b) = .ref b by simp only [fz1, e]]; exact .ref b
    | non => exact .non
    | bl => exact .bl _
    | int => exact .int _
    | str => exact .str _
    | ty => exact .ty _
    | tup a b => exact (RepS.tup a b).mono ex
    | lst a b => exact (RepS.lst a b).mono ex
    | rol a b => exact (RepS.rol a b).mono ex
    | dic a b c => exact (RepS.dic a b c).mono ex
    | exc0 a b => exact (RepS.exc0 a b).mono ex
    | exc a b c z r => exact (RepS.exc a b c z r).mono ex
    | ptp a b c => exact (RepS.ptp a b c).mono ex
end
def fzD (μ : Mu) (kvs : List (Key × SD)) : List (Key × SD) := kvs.map fun kv => (kv.1, fz1 μ kv.2)
def frzD : (SD → Mu → Prop) → SD → Mu → Prop := fun Q d μ => match d with
  | .ref a => match μ a with
    | some (.dic kvs) => Q (.dic (fzD μ kvs)) (rm (rmL μ (lstRefs μ (kvs.map (·.2)))) a)
    | _ => False
  | _ => False
abbrev dRetFD (te : DTE) : DTS := fun D ρ μ => te ρ μ (frzD D.rt)
section
variable {X : Cx} {e : Expr} {pos : Pos}
theorem ds_retFD {te : DTE} (he : DE X e te) : DS_ X (.Return (some e) pos) (dRetFD te) := weakS (ps_ret he) fun D σ H h => by
  obtain ⟨F, ρ, μ, D', R, S, t, k, k2, k3, k4⟩ := h
  refine ⟨F, ρ, μ, _, R, S, t, fun d μ1 q F1 H1 v s R1 r => ?_⟩
  unfold frzD at q
  split at q
  · rename_i a
    split at q
    · rename_i kvs hm
      cases r
      obtain ⟨F2, R2, s2, r2⟩ := freezeL (lstRefs μ1 (kvs.map (·.2))) R1 fun b hb m e => by
        obtain ⟨xs, z⟩ := mem_lstRefs hb
        rw [z] at e; cases e; exact ⟨xs, rfl⟩
      have ha : rmL μ1 (lstRefs μ1 (kvs.map (·.2))) a = some (.dic kvs) := by
        unfold rmL; rw [if_neg, hm]
        intro hb; obtain ⟨xs, z⟩ := mem_lstRefs hb
        rw [hm] at z; cases z
      obtain ⟨hF, o, hH, ro⟩ := R1.mus a _ hm
      obtain ⟨vs, hH2, R3, s3, r3⟩ := R2.freezeD ha
      cases ro with
      | dic qk qr =>
        rename_i vs'
        rw [hH] at hH2; cases hH2
        refine k2 _ _ q _ H1 _ ((s.trans s2).trans s3) R3 (.dic (.inl upd_same) (by rw [qk]; simp [fzD]) ?_)
        have := rep_fz1 (F' := upd F2 a (.dK vs)) (μ := μ1) (s2.ext.trans s3.ext) (ds := kvs.map (·.2)) (fun b xs hb e => (r2 b (lstRefs_mem hb e) xs e).mono s3.ext) qr
        rw [List.map_map] at this
        rw [fzD, List.map_map]
        exact this
    · exact q.elim
  · exact q.elim
end
end DS
/-! DS11: is None, isinstance of built-in types, the remaining comparisons; a def with all that is known of it. -/
namespace DS
open PySem PySem.Spec PyProof.Rows L2
section
variable {X : Cx} {K : PySem.W.Frag} {a : Expr} {pos pos' : Pos} {j : Nat} {ta : DTE}
def isNon : SD → Bool
  | .non => true
  | _ => false
theorem isNon_rep {F : Hp} {d : SD} {v : V} (r : RepS K F d v) : decide (v = .non) = isNon d := by
  cases r <;> simp [isNon]
abbrev dIsN (ta : DTE) : DTE := fun ρ μ Q => ta ρ μ fun x μ1 => Q (.bl (isNon x)) μ1
abbrev dNotN (ta : DTE) : DTE := fun ρ μ Q => ta ρ μ fun x μ1 => Q (.bl (!isNon x)) μ1
theorem de_isN {j pos'} (ha : DE X a ta) : DE X (.Compare a [.Is] [.Constant .none j pos'] pos) (dIsN ta) := weakE (pe_cmp (pc_isN ha) rfl) fun σ H Q h => by
  obtain ⟨F, ρ, μ, Q', R, S, t, k⟩ := h
  exact ⟨F, ρ, μ, _, R, S, t, fun d μ1 t1 F1 H1 v s1 R1 r1 => k _ μ1 t1 F1 H1 _ s1 R1 (by rw [isNon_rep r1]; exact .bl _)⟩
theorem de_notN {j pos'} (ha : DE X a ta) : DE X (.Compare a [.IsNot] [.Constant .none j pos'] pos) (dNotN ta) := weakE (pe_cmp (pc_notN ha) rfl) fun σ H Q h => by
  obtain ⟨F, ρ, μ, Q', R, S, t, k⟩ := h
  exact ⟨F, ρ, μ, _, R, S, t, fun d μ1 t1 F1 H1 v s1 R1 r1 => k _ μ1 t1 F1 H1 _ s1 R1 (by rw [isNon_rep r1]; exact .bl _)⟩
theorem dt_isN {j pos'} (ha : DE X a ta) : DT X (.Compare a [.Is] [.Constant .none j pos'] pos) (dTest (dIsN ta)) := weakT (pt_cmp (pc_isN ha) rfl) fun σ H Q h => by
  obtain ⟨F, ρ, μ, Q', R, S, t, k⟩ := h
  exact ⟨F, ρ, μ, _, R, S, t, fun d μ1 t1 F1 H1 v s1 R1 r1 => ⟨_, by rw [isNon_rep r1], k _ μ1 t1 F1 H1 s1 R1⟩⟩
theorem dt_notN {j pos'} (ha : DE X a ta) : DT X (.Compare a [.IsNot] [.Constant .none j pos'] pos) (dTest (dNotN ta)) := weakT (pt_cmp (pc_notN ha) rfl) fun σ H Q h => by
  obtain ⟨F, ρ, μ, Q', R, S, t, k⟩ := h
  exact ⟨F, ρ, μ, _, R, S, t, fun d μ1 t1 F1 H1 v s1 R1 r1 => ⟨_, by rw [isNon_rep r1], k _ μ1 t1 F1 H1 s1 R1⟩⟩
abbrev dGt : DR2 := dCmp (fun i j => decide (j < i)) fun s t => decide (t < s)
theorem opr_gt : OpR X (compareOp .Gt) (rCmp (fun i j => decide (j < i)) fun s t => decide (t < s)) := op_gt.or op_gt_str
abbrev dLe : DR2 := dCmp (fun i j => decide (i ≤ j)) fun s t => !decide (t < s)
theorem opr_le : OpR X (compareOp .LtE) (rCmp (fun i j => decide (i ≤ j)) fun s t => !decide (t < s)) := op_le.or op_le_str
abbrev dGe : DR2 := dCmp (fun i j => decide (j ≤ i)) fun s t => !decide (s < t)
theorem opr_ge : OpR X (compareOp .GtE) (rCmp (fun i j => decide (j ≤ i)) fun s t => !decide (s < t)) := op_ge.or op_ge_str
def tyD (μ : Mu) : SD → Option String
  | .non => some "NoneType"
  | .bl _ => some "bool"
  | .int _ => some "int"
  | .str _ => some "str"
  | .tup _ => some "tuple"
  | .lst _ => some "list"
  | .rol _ => some "list"
  | .dic _ => some "dict"
  | .ref a => match μ a with
    | some (.lst _) => some "list"
    | some (.dic _) => some "dict"
    | _ => none
  | .ty _ => none
  | .exc _ _ => none
  | .ptp _ => none
theorem HReal.ty {F H : Hp} {μ : Mu} (R : HReal K F H μ) {d : SD} {v : V} {t : String} (r : RepS K F d v) (h : tyD μ d = some t) : TyX K H v (.type t) := by
  cases r with
  | non => cases h; exact .base .non
  | bl b => cases h; exact .base (.bl b)
  | int i => cases h; exact .base (.int i)
  | str x => cases h; exact .base (.str x)
  | ty n => cases h
  | tup q _ =>
    cases h
    rcases R.ext.sqT q with (q | ⟨o, q⟩) | ⟨o, its, n, q, c, _⟩
    · exact .base (.tup q)
    · exact .fTuple q
    · exact .kTuple q c
  | lst q _ => cases h; exact .base (.lst (R.ext.ls _ _ q))
  | rol q _ =>
    cases h
    rcases R.ext.sqL q with (q | ⟨o, q⟩) | ⟨o, its, n, q, c, _⟩
    · exact .base (.lst q)
    · exact .base (.frz q)
    · exact .kList q c
  | dic q _ _ =>
    cases h
    rcases R.ext.rd _ _ q with q | ⟨o, q⟩
    · exact .base (.dK q)
    · exact .fDict q
  | ref a =>
    simp only [tyD] at h
    split at h
    · rename_i xs e
      cases h
      obtain ⟨_, o, q, ro⟩ := R.mus a _ e
      cases ro; exact .base (.lst q)
    · rename_i xs e
      cases h
      obtain ⟨_, o, q, ro⟩ := R.mus a _ e
      cases ro; exact .base (.dK q)
    · cases h
  | exc0 _ _ => cases h
  | exc _ _ _ _ _ => cases h
  | ptp _ _ _ => cases h
def isiB (μ : Mu) (d : SD) (n : String) : Option Bool := match tyD μ d with
  | some t => kitB t n
  | none => none
def drIsi : DRc := fun ds μ Q => match ds with
  | [d, .ty n] => match isiB μ d n with
    | some b => Q (.bl b) μ
    | none => False
  | _ => False
theorem lc_isi : LRc K drIsi (rIsi K) := fun F H μ xs ds Q' Q R r t k => by
  unfold drIsi at t
  split at t
  · rename_i d n
    cases r with
    | cons r1 r2 => cases r2 with
      | cons r2 r3 =>
        cases r2; cases r3
        split at t
        · rename_i b e
          unfold isiB at e
          split at e
          · rename_i T eT
            exact ⟨_, _, _, _, b, rfl, .ty n, R.ty r1 eT, kit_ty e, k _ _ t _ _ _ (Stp.refl _ _ _) R (.bl b)⟩
          · cases e
        · exact t.elim
  · exact t.elim
/-- the name of a built-in type -/
theorem de_ty {x : Str} {T : String} {p : Pos} (hg : Gl X x) (hm : X.mg x = none) (hv : bootBuiltins x = some (.type T)) (hn : x ≠ "__name__" := by decide) (hd : (x == ("__debug__" : Str)) = false := by decide) : DE X (.Name x p) (dC (.ty T)) :=
  liftC (t := tC (.ty T)) (pe_bltn hg hm hv (show RelV (.ty T) (Value.type T) from rfl) hn hd) rfl
end
/-- a def that stands in the written part -/
structure Def (K : PySem.W.Frag) (mg : Str → Option Value) (x : Str) (st : Stmt) (ps : List Str) where
  f : Addr
  fd : FuncData
  F : Fun K x x st f fd
  m : mg x = some (.ref f)
  b : Binds K fd ps []
section
variable {X : Cx} {k n : Nat} {x : Str} {st : Stmt} {ps ks : List Str} {sp : DSp} {p pos : Pos} {e : Expr} {es : List Expr} {kws : List Keyword} {t tk : DTA}
abbrev FnD (P : Program) (w : World) (base : Heap) {K : PySem.W.Frag} {mg : Str → Option Value} {x : Str} {st : Stmt} {ps : List Str} (D : Def K mg x st ps) (k : Nat) (sp : DSp) : Prop := FnG P w K mg base CX0 k D.f D.fd ps (LSp K sp)
theorem Room.le {A : Around} (h : Room n A) (hk : k ≤ n) : Room k A := h.mono hk
theorem de_def {D : Def X.K X.mg x st ps} (F : FnD X.prog X.w X.base D k sp) (hq : Quiet X.A) (hr : Room n X.A) (ha : DA X (e :: es) t) (hk : k ≤ n := by omega) (hg : Gl X x := by rfl)
    (hdb : (x == ("__debug__" : Str)) = false := by decide) (he : starEach (e :: es) X.env = (false, eval e X.env) :: starEach es X.env := by rfl) (hpl : (backTo pos (starEach es X.env)).any (·.1) = false := by rfl) :
    DE X (.Call (.Name x p) (e :: es) [] pos) (dCall sp [] t) := de_call F hq (hr.mono hk) hg D.m D.F.kp D.b pass0 ha hdb he hpl
theorem de_def0 {D : Def X.K X.mg x st ps} (F : FnD X.prog X.w X.base D k sp) (hq : Quiet X.A) (hr : Room n X.A) (hk : k ≤ n := by omega) (hg : Gl X x := by rfl)
    (hdb : (x == ("__debug__" : Str)) = false := by decide) : DE X (.Call (.Name x p) [] [] pos) (dCall sp [] dNil) := de_call0 F hq (hr.mono hk) hg D.m D.F.kp D.b pass0 hdb
theorem de_defK {D : Def X.K X.mg x st ps} {ix : List (Nat ⊕ Nat)} {np nk : Nat} (F : FnD X.prog X.w X.base D k sp) (hq : Quiet X.A) (hr : Room n X.A) (hb : KBinds X.K D.fd ps ks (kwG ix np nk) (kwG ix np nk))
    (ha : DA X (e :: es) t) (hkw : DK X kws tk) (hk : k ≤ n := by omega) (hg : Gl X x := by rfl) (hall : (backToKw pos (keywordEach kws X.env)).all (·.1.isSome) = true := by rfl) (hks : (backToKw pos (keywordEach kws X.env)).filterMap (·.1) = ks := by rfl)
    (hdb : (x == ("__debug__" : Str)) = false := by decide) (he : starEach (e :: es) X.env = (false, eval e X.env) :: starEach es X.env := by rfl)
    (hpl : ((backTo pos (starEach (e :: es) X.env)).any (·.1) || (backToKw pos (keywordEach kws X.env)).any (·.1.isNone)) = false := by rfl) : DE X (.Call (.Name x p) (e :: es) kws pos) (dCallK sp ix np nk t tk) :=
  de_callK F hq (hr.mono hk) hg D.m D.F.kp hb pass0 ha hkw hall hks hdb he hpl
theorem de_defK0 {D : Def X.K X.mg x st ps} {ix : List (Nat ⊕ Nat)} {nk : Nat} (F : FnD X.prog X.w X.base D k sp) (hq : Quiet X.A) (hr : Room n X.A) (hb : KBinds X.K D.fd ps ks (kwG ix 0 nk) (kwG ix 0 nk))
    (hkw : DK X kws tk) (hk : k ≤ n := by omega) (hg : Gl X x := by rfl) (hall : (backToKw pos (keywordEach kws X.env)).all (·.1.isSome) = true := by rfl) (hks : (backToKw pos (keywordEach kws X.env)).filterMap (·.1) = ks := by rfl)
    (hdb : (x == ("__debug__" : Str)) = false := by decide) (hpl : ((backToKw pos (keywordEach kws X.env)).any (·.1.isNone)) = false := by rfl) : DE X (.Call (.Name x p) [] kws pos) (dCallK sp ix 0 nk dNil tk) :=
  de_callK0 F hq (hr.mono hk) hg D.m D.F.kp hb pass0 hkw hall hks hdb hpl
theorem dv (i : Nat) {x : Str} {pos : Pos} (hN : X.N[i]? = some x := by rfl) (hv : Vis X.env.scope x := by first | exact Or.inl rfl | exact Or.inr (Or.inl rfl) | exact Or.inr (Or.inr rfl)) (hd : (x == ("__debug__" : Str)) = false := by decide)
    (hcd : (x == ("__classdict__" : Str)) = false := by decide) : DE X (.Name x pos) (dVar i) := de_var hN hv hd hcd
end
theorem bt_len : bootBuiltins "len" = some (.builtin "len") := by decide +kernel
theorem bt_repr : bootBuiltins "repr" = some (.builtin "repr") := by decide +kernel
theorem bt_abs : bootBuiltins "abs" = some (.builtin "abs") := by decide +kernel
theorem bt_min : bootBuiltins "min" = some (.builtin "min") := by decide +kernel
theorem bt_max : bootBuiltins "max" = some (.builtin "max") := by decide +kernel
theorem bt_all : bootBuiltins "all" = some (.builtin "all") := by decide +kernel
theorem bt_any : bootBuiltins "any" = some (.builtin "any") := by decide +kernel
theorem bt_isinstance : bootBuiltins "isinstance" = some (.builtin "isinstance") := by decide +kernel
theorem bt_sorted : bootBuiltins "sorted" = some (.builtin "sorted") := by decide +kernel
theorem bt_sum : bootBuiltins "sum" = some (.builtin "sum") := by decide +kernel
theorem bt_int : bootBuiltins "int" = some (.type "int") := by decide +kernel
theorem bt_bool : bootBuiltins "bool" = some (.type "bool") := by decide +kernel
theorem bt_str : bootBuiltins "str" = some (.type "str") := by decide +kernel
theorem bt_list : bootBuiltins "list" = some (.type "list") := by decide +kernel
theorem bt_dict : bootBuiltins "dict" = some (.type "dict") := by decide +kernel
theorem bt_tuple : bootBuiltins "tuple" = some (.type "tuple") := by decide +kernel
theorem bt_set : bootBuiltins "set" = some (.type "set") := by decide +kernel
theorem bt_range : bootBuiltins "range" = some (.type "range") := by decide +kernel
theorem bt_enumerate : bootBuiltins "enumerate" = some (.type "enumerate") := by decide +kernel
theorem bt_zip : bootBuiltins "zip" = some (.type "zip") := by decide +kernel
theorem bt_float : bootBuiltins "float" = some (.type "float") := by decide +kernel
theorem bt_bytes : bootBuiltins "bytes" = some (.type "bytes") := by decide +kernel
end DS
/-! DS12: short forms for printed walks. -/
namespace DS
open PySem PySem.Spec PyProof.Rows L2
section
variable {X : Cx} {o e i a b : Expr} {es : List Expr} {apos cpos p pos : Pos} {to te ti td ty : DTE} {t : DTA} {k : Nat}
theorem de_append (ho : DE X o to) (ha : DE X e te) (hs : starEach [e] X.env = (false, eval e X.env) :: starEach [] X.env := by rfl) (hbase : attributeBase o "append" X.env (eval o X.env) = eval o X.env := by rfl)
    (hfew : ((backTo cpos (starEach [e] X.env)).all (fun x => !x.1) && (backToKw cpos (keywordEach [] X.env)).all (fun x => x.1.isSome) && decide (([e] : List Expr).length + ([] : List Keyword).length + (if ([] : List Keyword).isEmpty then 0 else 1) < 30)) = true := by rfl)
    (hline : (apos.endLine == cpos.line) = true := by rfl) (hplain : (backTo cpos (starEach [] X.env)).any (·.1) = false := by rfl) :
    DE X (.Call (.Attribute o "append" apos) [e] [] cpos) (dLM dmAppend to (dCons te dNil)) := de_lm F.plainAttrs_list F.slot_list_append F.type_list_append mt_append lm_append ho (da_cons ha da_nil hs) hbase hfew hline hs hplain
theorem de_extend (ho : DE X o to) (ha : DE X e te) (hs : starEach [e] X.env = (false, eval e X.env) :: starEach [] X.env := by rfl) (hbase : attributeBase o "extend" X.env (eval o X.env) = eval o X.env := by rfl)
    (hfew : ((backTo cpos (starEach [e] X.env)).all (fun x => !x.1) && (backToKw cpos (keywordEach [] X.env)).all (fun x => x.1.isSome) && decide (([e] : List Expr).length + ([] : List Keyword).length + (if ([] : List Keyword).isEmpty then 0 else 1) < 30)) = true := by rfl)
    (hline : (apos.endLine == cpos.line) = true := by rfl) (hplain : (backTo cpos (starEach [] X.env)).any (·.1) = false := by rfl) :
    DE X (.Call (.Attribute o "extend" apos) [e] [] cpos) (dLM dmExtend to (dCons te dNil)) := de_lm F.plainAttrs_list F.slot_list_extend F.type_list_extend mt_extA lm_extend ho (da_cons ha da_nil hs) hbase hfew hline hs hplain
theorem de_insert (ho : DE X o to) (hi : DE X i ti) (ha : DE X e te) (hs : starEach [i, e] X.env = (false, eval i X.env) :: starEach [e] X.env := by rfl) (hs2 : starEach [e] X.env = (false, eval e X.env) :: starEach [] X.env := by rfl) (hbase : attributeBase o "insert" X.env (eval o X.env) = eval o X.env := by rfl)
    (hfew : ((backTo cpos (starEach [i, e] X.env)).all (fun x => !x.1) && (backToKw cpos (keywordEach [] X.env)).all (fun x => x.1.isSome) && decide (([i, e] : List Expr).length + ([] : List Keyword).length + (if ([] : List Keyword).isEmpty then 0 else 1) < 30)) = true := by rfl)
    (hline : (apos.endLine == cpos.line) = true := by rfl) (hplain : (backTo cpos (starEach [e] X.env)).any (·.1) = false := by rfl) :
    DE X (.Call (.Attribute o "insert" apos) [i, e] [] cpos) (dLM dmInsert to (dCons ti (dCons te dNil))) := de_lm F.plainAttrs_list F.slot_list_insert F.type_list_insert mt_insert lm_insert ho (da_cons hi (da_cons ha da_nil hs2) hs) hbase hfew hline hs hplain
theorem de_pop (ho : DE X o to) (hbase : attributeBase o "pop" X.env (eval o X.env) = eval o X.env := by rfl) (hline : (apos.endLine == cpos.line) = true := by rfl) :
    DE X (.Call (.Attribute o "pop" apos) [] [] cpos) (dLM0 dmPop to) := de_lm0 F.plainAttrs_list F.slot_list_pop F.type_list_pop mt_pop lm_pop ho hbase hline
theorem dt_din (hu : X.A.units + 1 < cLine) (hi : DE X i ty) (ho : DE X o td) (hm : behindInMarks .In o = false := by with_unfolding_all rfl) : DT X (.Compare i [.In] [o] pos) (dTest (dDIn false ty td)) := weakT (pt_cmp (pc_din hu hi ho) hm) fun σ H Q h => by
  obtain ⟨F, ρ, μ, Q', R, S, t, k⟩ := h
  have := lift_din (neg := false) σ H (fun x H' => ∃ c, x = V.bl c ∧ Q c H') ⟨F, ρ, μ, _, R, S, t, fun d μ' q F' H' v s R' r' => ?_⟩
  · simpa [tB, tDIn] using this
  cases r' with
  | bl b => exact ⟨b, rfl, k b μ' q F' H' s R'⟩
  | _ => exact q.elim
theorem dt_dnotin (hu : X.A.units + 1 < cLine) (hi : DE X i ty) (ho : DE X o td) (hm : behindInMarks .NotIn o = false := by with_unfolding_all rfl) : DT X (.Compare i [.NotIn] [o] pos) (dTest (dDIn true ty td)) := weakT (pt_cmp (pc_dnotin hu hi ho) hm) fun σ H Q h => by
  obtain ⟨F, ρ, μ, Q', R, S, t, k⟩ := h
  have := lift_din (neg := true) σ H (fun x H' => ∃ c, x = V.bl c ∧ Q c H') ⟨F, ρ, μ, _, R, S, t, fun d μ' q F' H' v s R' r' => ?_⟩
  · simpa [tB, tDNotIn] using this
  cases r' with
  | bl b => exact ⟨b, rfl, k b μ' q F' H' s R'⟩
  | _ => exact q.elim
end
theorem len_of {sp : DSp} {n : Nat} (h : ∀ ds μ Q E, sp ds μ Q E → ds.length = n) {ps : List Str} (e : ps.length = n := by rfl) : ∀ ds μ Q E, sp ds μ Q E → ds.length = ps.length := fun ds μ Q E q => (h ds μ Q E q).trans e.symm
theorem unit64 {A : Around} {k : Nat} (h : Room k A) : A.units + 64 < cLine := by have := h.un; omega
theorem unit66 {A : Around} {k : Nat} (h : Room k A) : A.units + 66 < cLine := by have := h.un; omega
/-- the script is handed in -/
theorem law_start {K : PySem.W.Frag} {H : Hp} {a : Addr} {ns : List Int} {sp : DSp} (hS : SqL K H a (ns.map V.int)) (h : ∀ μ, sp [.rol (ns.map SD.int)] μ (fun d _ => d = .bl true) (fun _ _ _ => False)) : LSp K sp [.ref a] H (fun v _ => v = .bl true) fun _ _ _ => False :=
  ⟨H, fun _ => none, [.rol (ns.map SD.int)], _, _, ⟨fun _ _ e => e, fun _ _ e => by cases e⟩, .one (.rol hS (RepL.ofInts ns)), h _, fun d μ' q F' H' v s R r => by subst q; cases r; rfl, fun _ _ _ q => q.elim⟩
end DS
/-! DS13: loops over a dict that may change otherwise, text methods, constants of the module. -/
namespace DS
open PySem PySem.Spec PyProof.Rows L2
section
variable {K : PySem.W.Frag} {F0 H0 : Hp} {μ0 : Mu} {a : Addr} {od : Obj} {kvs : List (Key × SD)} {vs : List (Key × V)}
theorem fdic_at {F H : Hp} {μ : Mu} {o : HO} (R : HReal K F H μ) (h : μ a = some (.fdic kvs o)) : H a = some o ∧ ∃ ob vs, o = .frz ob (.dK vs) ∧ RepK K F kvs vs := by
  obtain ⟨_, o', e, r⟩ := R.mus a _ h
  cases r with
  | fdic q r => exact ⟨e, _, _, rfl, ⟨q, r⟩⟩
theorem src_itemsM (rk : RepK K F0 kvs vs) : Src K F0 H0 μ0 (Iti a od vs) (itemsS kvs) fun μ => μ a = some (.fdic kvs (.frz od (.dK vs))) where
  go := fun i F H μ s R h hi => ⟨(fdic_at R h).1, by rw [← rk.len]; simpa [itemsS] using hi⟩
  stop := fun F H μ s R h => ⟨(fdic_at R h).1, by rw [← rk.len]; simp [itemsS]⟩
  yld := fun i F H μ x H' s R _ y e hd => by
    obtain ⟨T, k, v, h1, rfl, hT, rfl⟩ := y
    obtain ⟨dd, h2, h3⟩ := rk.get h1
    have : (itemsS kvs)[i]? = some (.tup [keyS k, dd]) := by simp [itemsS, h2]
    rw [this] at hd; cases hd
    have ex : Ext F (upd F T (.tup [kV k, v])) := Ext.new (R.freeF hT)
    exact ⟨_, Stp.newS R hT, R.newS hT, .tup (.inl (.inl upd_same)) (.cons (keyS_rep k) (.one ((h3.mono s.ext).mono ex)))⟩
def keysS (kvs : List (Key × SD)) : List SD := kvs.map fun kv => keyS kv.1
theorem src_keysM (rk : RepK K F0 kvs vs) : Src K F0 H0 μ0 (Itk a od vs) (keysS kvs) fun μ => μ a = some (.fdic kvs (.frz od (.dK vs))) where
  go := fun i F H μ s R h hi => ⟨(fdic_at R h).1, by rw [← rk.len]; simpa [keysS] using hi⟩
  stop := fun F H μ s R h => ⟨(fdic_at R h).1, by rw [← rk.len]; simp [keysS]⟩
  yld := fun i F H μ x H' s R _ y e hd => by
    obtain ⟨rfl, k, v, h1, rfl⟩ := y
    obtain ⟨dd, h2, h3⟩ := rk.get h1
    have : (keysS kvs)[i]? = some (keyS k) := by simp [keysS, h2]
    rw [this] at hd; cases hd
    exact ⟨F, Stp.refl _ _ _, R, keyS_rep k⟩
end
/-- a loop over (the items of) a dict in memory -/
def dForM (items : List (Key × SD) → List SD) (te : DTE) (g : DTG) (tb : DTS) : DTS := fun D ρ μ => te ρ μ fun d μ1 => match d with
  | .ref a => match μ1 a with
    | some (.dic kvs) => ∀ o, ∃ W : Nat → Rho → Mu → Prop, W 0 ρ (up μ1 a (.fdic kvs o)) ∧ (∀ i ρ μ, i ≤ (items kvs).length → W i ρ μ → μ a = some (.fdic kvs o)) ∧
      (∀ i d ρ μ, (items kvs)[i]? = some d → W i ρ μ → g d ρ μ fun ρ2 μ2 => tb { nx := W (i + 1), ct := W (i + 1), bk := fun ρ μ => μ a = some (.fdic kvs o) ∧ D.nx ρ (up μ a (.dic kvs)), rt := fun d μ => μ a = some (.fdic kvs o) ∧ D.rt d (up μ a (.dic kvs)) } ρ2 μ2) ∧
      ∀ ρ μ, W (items kvs).length ρ μ → D.nx ρ (up μ a (.dic kvs))
    | _ => False
  | _ => False
section
variable {X : Cx} {e tg : Expr} {pos : Pos}
theorem lift_forM {items : List (Key × SD) → List SD} {mk : Addr → Obj → List (Key × V) → It} {g : DTG} {tb : DTS} {te : DTE} {K : PySem.W.Frag} {H_0 : Hp} {P : V → Hp → (It → Hp → Prop) → Prop} (hP : ∀ d o kvs H R, H d = some (.frz o (.dK kvs)) → R (mk d o kvs) H → P (.ref d) H R)
    (src : ∀ {F0 H0 : Hp} {μ0 : Mu} {a : Addr} {od : Obj} {kvs : List (Key × SD)} {vs : List (Key × V)}, RepK K F0 kvs vs → Src K F0 H0 μ0 (mk a od vs) (items kvs) fun μ => μ a = some (.fdic kvs (.frz od (.dK vs)))) :
    ∀ D σ H, LS K (dForM items te g tb) D σ H → tUnl H_0 (tFor (fun σ H R => tLockA H_0 (LE K te) σ H fun x H1 => P x H1 R) (LG K g) (LS K tb)) D σ H := fun D σ H h => by
  obtain ⟨F0, ρ0, μ0, D', R0, S0, t, k, k2, k3, k4⟩ := h
  refine ⟨F0, ρ0, μ0, _, R0, S0, t, fun d μ1 t1 F1 H1 v s1 R1 r1 => ?_⟩
  cases r1 with
  | ref a =>
    simp only at t1
    split at t1
    · rename_i kvs hm
      obtain ⟨hF, o, hH, ro⟩ := R1.mus a _ hm
      cases ro with
      | dic q r =>
        rename_i vs
        refine ⟨a, vs, rfl, .inl ⟨hH, fun od h0 => ?_⟩⟩
        obtain ⟨W, w0, hok, turn, fin⟩ := t1 (.frz od (.dK vs))
        have rk : RepK K F1 kvs vs := ⟨q, r⟩
        have R2 : HReal K F1 (upd H1 a (.frz od (.dK vs))) (up μ1 a (.fdic kvs (.frz od (.dK vs)))) := R1.put hm (.fdic q r)
        have s2 : Stp F1 H1 μ1 F1 (upd H1 a (.frz od (.dK vs))) (up μ1 a (.fdic kvs (.frz od (.dK vs)))) := Stp.put hm
        refine hP a od vs _ _ upd_same ?_
        have back : ∀ {F' H' : Hp} {μ' : Mu}, HReal K F' H' μ' → μ' a = some (.fdic kvs (.frz od (.dK vs))) → H' a = some (.frz od (.dK vs)) ∧ HReal K F' (upd H' a (.dK vs)) (up μ' a (.dic kvs)) ∧ Stp F' H' μ' F' (upd H' a (.dK vs)) (up μ' a (.dic kvs)) := fun R' e => by
          obtain ⟨h1, ob, vs', e2, rk'⟩ := fdic_at R' e
          cases e2
          exact ⟨h1, R'.put e (.dic rk'.keys rk'.vals), Stp.put e⟩
        refine for_core (D' := { nx := fun ρ μ => μ a = some (.fdic kvs (.frz od (.dK vs))) ∧ D'.nx ρ (up μ a (.dic kvs)), rt := fun d μ => μ a = some (.fdic kvs (.frz od (.dK vs))) ∧ D'.rt d (up μ a (.dic kvs)) }) R2 ((S0.mono s1.ext).mono s2.ext) (src rk) ⟨W, w0, hok, turn, fun ρ μ w => ⟨hok _ ρ μ (Nat.le_refl _) w, fin ρ μ w⟩⟩ ?_ ?_
        · rintro ρ' μ' ⟨e, qn⟩ F' H' σ' s R S
          obtain ⟨h1, R3, s3⟩ := back R e
          exact .inr ⟨a, od, _, h1, h0, k ρ' _ qn F' _ σ' (((s1.trans s2).trans s).trans s3) R3 S⟩
        · rintro d μ' ⟨e, qn⟩ F' H' v s R r
          obtain ⟨h1, R3, s3⟩ := back R e
          exact .inr ⟨a, od, _, h1, h0, k2 d _ qn F' _ v (((s1.trans s2).trans s).trans s3) R3 r⟩
    · exact t1.elim
  | _ => exact t1.elim
theorem ds_forKeysM {body : List Stmt} {te : DTE} {g : DTG} {tb : DTS} (hp : PassesOwn (model X.prog X.w) X.A X.env X.xe) (hc : X.calm = true) (he : DE X e te) (hg : DG X tg g) (hb : DSs X body tb) (hs : ∀ x, foldedSetIterable e X.env x = pure x := by intro _; rfl) :
    DS_ X (.For tg e body [] pos) (dForM keysS te g tb) := weakS (ps_unl (ps_for hp hc (pi_keys (pe_lockA he)) hg hb hs)) (lift_forM (mk := Itk) (fun d o kvs H R h r => ⟨d, o, rfl, .inl ⟨kvs, h, r⟩⟩) fun rk => src_keysM rk)
theorem ds_forItemsM {body : List Stmt} {elts : List Expr} {kk : Nat} {tpos apos cpos : Pos} {te : DTE} {g : DTG} {tb : DTS} (hp : PassesOwn (model X.prog X.w) X.A X.env X.xe) (hc : X.calm = true) (he : DE X e te) (hg : DG X (.Tuple elts kk tpos) g) (hb : DSs X body tb)
    (hbase : attributeBase e "items" X.env (eval e X.env) = eval e X.env := by rfl) (hline : (apos.endLine == cpos.line) = true := by rfl)
    (hs : ∀ x, foldedSetIterable (.Call (.Attribute e "items" apos) [] [] cpos) X.env x = pure x := by intro _; rfl) :
    DS_ X (.For (.Tuple elts kk tpos) (.Call (.Attribute e "items" apos) [] [] cpos) body [] pos) (dForM itemsS te g tb) := weakS (ps_unl (ps_for hp hc (pi_items (pe_lockA he) hbase hline) hg hb hs)) (lift_forM (mk := Iti) (fun d o kvs H R h r => ⟨d, o, kvs, rfl, h, r⟩) fun rk => src_itemsM rk)
/-- texts of a list or tuple -/
def strsOf : List SD → Option (List Str)
  | [] => some []
  | .str s :: r => match strsOf r with
    | some l => some (s :: l)
    | none => none
  | _ :: _ => none
theorem strsOf_rep : ∀ {F : Hp} {K : PySem.W.Frag} {ds : List SD} {vs : List V} {l : List Str}, RepL K F ds vs → strsOf ds = some l → vs = l.map V.str
  | _, _, [], _, _, .nil, e => by cases e; rfl
  | _, _, d :: ds, _, l, .cons q r, e => by
    cases d with
    | str s =>
      unfold strsOf at e
      cases e2 : strsOf ds with
      | none => rw [e2] at e; cases e
      | some l2 => rw [e2] at e; cases e; cases q; rw [strsOf_rep r e2]; rfl
    | _ => cases e
theorem strsOf_map (l : List Str) : strsOf (l.map SD.str) = some l := by
  induction l with
  | nil => rfl
  | cons a r ih => rw [List.map_cons, strsOf, ih]
def drJoin (x y : SD) (μ : Mu) (Q : SD → Mu → Prop) : Prop := match x with
  | .str a => match seqD μ y with
    | some ds => match strsOf ds with
      | some ys => (ys.map (·.length)).sum + ys.length * a.length ≤ 16777216 ∧ Q (.str (Txt.join a ys)) μ
      | none => False
    | none => False
  | _ => False
def isStr : SD → Bool
  | .str _ => true
  | _ => false
abbrev dJoin (to te : DTE) : DTE := fun ρ μ Q => to ρ μ fun x μ1 => isStr x = true ∧ te ρ μ1 fun y μ2 => drJoin x y μ2 Q
theorem de_join {o e : Expr} {to te : DTE} {apos pos : Pos} (ho : DE X o to) (he : DE X e te) (hs : starEach [e] X.env = [(false, eval e X.env)] := by rfl) (hbase : attributeBase o "join" X.env (eval o X.env) = eval o X.env := by rfl) (hline : (apos.endLine == pos.line) = true := by rfl) :
    DE X (.Call (.Attribute o "join" apos) [e] [] pos) (dJoin to te) := weakE (pe_join ho he hs hbase hline) fun σ H Q h => by
  obtain ⟨F, ρ, μ, Q', R, S, t, k⟩ := h
  refine ⟨F, ρ, μ, _, R, S, t, fun d μ1 t1 F1 H1 v s1 R1 r1 => ?_⟩
  obtain ⟨hst, t1⟩ := t1
  cases d with
  | str a =>
    cases r1
    refine ⟨⟨a, rfl⟩, F1, ρ, μ1, _, R1, S.mono s1.ext, t1, fun y μ2 t2 F2 H2 w s2 R2 r2 => ?_⟩
    unfold drJoin at t2
    simp only at t2
    split at t2
    · rename_i ds e
      split at t2
      · rename_i ys e2
        obtain ⟨p, vs, rfl, rl, hq⟩ := R2.seq' r2 e
        obtain rfl := strsOf_rep rl e2
        exact ⟨a, p, ys, rfl, rfl, hq, t2.1, k _ _ t2.2 F2 H2 _ (s1.trans s2) R2 (.str _)⟩
      · exact t2.elim
    · exact t2.elim
  | _ => cases hst
/-- a text that the module has named -/
theorem de_gstr {x : Str} {y : Str} {p : Pos} (h : ∃ t, X.mg x = some (.str y t)) (hg : Gl X x := by rfl) (hd : (x == ("__debug__" : Str)) = false := by decide) : DE X (.Name x p) (dC (.str y)) := by
  obtain ⟨t, h⟩ := h
  exact liftC (t := tC (.str y)) (pe_glob hg h (show RelV (.str y) (Value.str y t) from ⟨t, rfl⟩) hd) rfl
theorem de_gint {x : Str} {i : Int} {p : Pos} (h : ∃ t, X.mg x = some (.int i t)) (hg : Gl X x := by rfl) (hd : (x == ("__debug__" : Str)) = false := by decide) : DE X (.Name x p) (dC (.int i)) := by
  obtain ⟨t, h⟩ := h
  exact liftC (t := tC (.int i)) (pe_glob hg h (show RelV (.int i) (Value.int i t) from ⟨t, rfl⟩) hd) rfl
end
end DS
/-! DS14: sets of texts: made of a list or tuple, told by who is in. -/
namespace DS
open PySem PySem.Spec PyProof.Rows L2
/-- u: the different ones of l -/
structure Dist {α : Type} (l u : List α) : Prop where
  nd : u.Nodup
  mem : ∀ k, k ∈ u ↔ k ∈ l
theorem Dist.nil {α : Type} {l : List α} : Dist (l.take 0) [] := ⟨List.nodup_nil, fun k => by simp⟩
theorem strsAre_len {vs : List Value} {ns : List Str} (h : StrsAre vs ns) : vs.length = ns.length := by
  induction h with
  | nil => rfl
  | cons k t r ih => exact congrArg (· + 1) ih
theorem strsAre_at {vs : List Value} {ns : List Str} (h : StrsAre vs ns) : ∀ (i : Nat) (v : Value), vs[i]? = some v → ∃ (k : Str) (t : Tok), ns[i]? = some k ∧ v = Value.str k t := by
  induction h with
  | nil => intro i v e; simp at e
  | cons k t r ih =>
    intro i v e
    cases i with
    | zero => simp at e; subst e; exact ⟨_, _, rfl, rfl⟩
    | succ i =>
      obtain ⟨k', t', a, b⟩ := ih i v (by simpa using e)
      exact ⟨k', t', by simpa using a, b⟩
abbrev eset (w : World) : Obj := { cls := .type "set", dict := none, data := .set #[] 0 (.fresh 0 0 (!w.params.followText "set-order")) }
/-- the set at a: S says who is in, n how many; its table stands in order -/
def TxR (P : Program) (w : World) (h : Heap) (a : Addr) (S : Str → Bool) (n : Nat) : Prop := ∃ o es ep t, h.get? a = some o ∧ o.ExactSet ∧ o.data = .set es ep t ∧ ElemsOf (strKind P w) es.toList ∧ (∀ k, S k = true ↔ ∃ e ∈ es.toList, (strKind P w).is k e.2 = true) ∧
  es.size < scanBound ∧ t.fits es.size = true ∧ es.size = n ∧ Ris t.place.toList ∧ (w.params.followText "set-order" = true ∨ t.led = true)
section
variable {P : Program} {w : World} {A : Around} {E : Value → Shared → Prop} {s : Shared} {a : Addr} {S : Str → Bool} {n : Nat}
theorem TxR.keep {h h' : Heap} (R : TxR P w h a S n) (k : ∀ o, h.get? a = some o → h'.get? a = some o) : TxR P w h' a S n := by
  obtain ⟨o, es, ep, t, ho, r⟩ := R
  exact ⟨o, es, ep, t, k o ho, r⟩
theorem txR_new {h : Heap} (ho : h.get? a = some (eset w)) : TxR P w h a (fun k => decide (k ∈ ([] : List Str))) 0 :=
  ⟨_, #[], 0, _, ho, ⟨rfl, rfl, rfl⟩, rfl, (fun e he => by simp at he), (fun k => by simp), (by decide), (by rfl), rfl, List.Pairwise.nil, (by
    cases w.params.followText "set-order" with
    | true => exact .inl rfl
    | false => exact .inr rfl)⟩
/-- the end of an adding: the table is stored, and grows -/
theorem txR_tail {g : Bool → Sem Unit} (hg : ∀ (b : Bool) (s₁ : Shared) (R : Unit → Shared → Prop), R () s₁ → wpAny (model P w) A (g b) R E s₁) {o : Obj} {es es1 : Array (Int × Value)} {ep : Nat} {t t2 : SetTable} {S' : Str → Bool} {was : Bool} {R : Option Bool → Shared → Prop}
    (ho : s.heap.get? a = some o) (hex : o.ExactSet) (hd : o.data = .set es ep t) (el : ElemsOf (strKind P w) es1.toList) (me : ∀ k, S' k = true ↔ ∃ e ∈ es1.toList, (strKind P w).is k e.2 = true) (hb : es1.size < scanBound) (hf : t2.fits es1.size = true)
    (hr : Ris t2.place.toList) (hl : w.params.followText "set-order" = true ∨ t2.led = true) (k : ∀ h', Heap.SameBut a s.heap h' → TxR P w h' a S' es1.size → R (some true) { s with heap := h' }) :
    wpAny (model P w) A (do
        storeSet a es1 t2
        if (!was && t2.tooFull) = true then do
            g (relayAll t2 es1 (SetTable.grown es1.size)).2.2
            storeSet a (relayAll t2 es1 (SetTable.grown es1.size)).1 (relayAll t2 es1 (SetTable.grown es1.size)).2.1
            pure (some true)
          else pure (some true)) R E s := by
  refine wpAny_bind (wpAny_storeSet_of ho hd ?_ (fits_of_scanBound hb))
  obtain ⟨o1, _⟩ := SetOf_store (knd := strKind P w) ho hex hd el me hb hf
  have b1 := Heap.SameBut.update s.heap a (Obj.putSet es1 t2)
  split
  · have p := relayAll_perm t2 es1 (SetTable.grown es1.size)
    have f3 := relayAll_fits t2 es1 (SetTable.grown es1.size)
    have r3 := relayAll_ris t2 es1 (SetTable.grown es1.size)
    have l3 := relayAll_led t2 es1 (SetTable.grown es1.size)
    generalize relayAll t2 es1 (SetTable.grown es1.size) = Y at p f3 r3 l3 ⊢
    obtain ⟨es2, t3, way⟩ := Y
    dsimp only at p f3 r3 l3 ⊢
    have many : es2.size = es1.size := by simpa using p.length_eq
    have el2 := el.perm p
    have me2 : ∀ k, S' k = true ↔ ∃ e ∈ es2.toList, (strKind P w).is k e.2 = true := fun k => by
      rw [me k]
      exact ⟨fun ⟨e, he, q⟩ => ⟨e, p.mem_iff.mpr he, q⟩, fun ⟨e, he, q⟩ => ⟨e, p.mem_iff.mp he, q⟩⟩
    have hb2 : es2.size < scanBound := by omega
    refine wpAny_bind (hg _ _ _ ?_)
    refine wpAny_bind (wpAny_storeSet_of o1 rfl ?_ (fits_of_scanBound hb2))
    obtain ⟨o2, _⟩ := SetOf_store (knd := strKind P w) o1 hex rfl el2 me2 hb2 f3
    exact wpAny_pure (k _ (b1.trans (Heap.SameBut.update _ a _)) ⟨_, es2, _, t3, o2, hex, rfl, el2, me2, hb2, f3, many, r3, hl.imp id fun z => by rw [l3]; exact z⟩)
  · exact wpAny_pure (k _ b1 ⟨_, es1, _, t2, o1, hex, rfl, el, me, hb, hf, rfl, hr, hl⟩)
theorem txR_add {z : Str} {tk : Tok} {Q : Bool → Shared → Prop} (R : TxR P w s.heap a S n) (room : n + 1 < scanBound)
    (hQ : ∀ h', Heap.SameBut a s.heap h' → TxR P w h' a (fun j => S j || decide (j = z)) (if S z = true then n else n + 1) → Q (!S z) { s with heap := h' }) :
    wpAny (model P w) A (setAddHashed a (.str z tk) ((strKind P w).hash z)) Q E s := by
  obtain ⟨o, es, ep, t, ho, hex, hd, el, me, hb, hf, hn, hr, hl⟩ := R
  have isz := strKind_is P w z tk
  have scan : (Value.str z tk).scannable = true := rfl
  unfold setAddHashed setAddHashedIn
  refine wpAny_holding (wpAny_bind (wpAny_setState_of ho hd hf ?_))
  dsimp only
  rw [byScan_of scan hb el]
  simp only [↓reduceIte]
  unfold setAddByScan
  refine wpAny_bind (wpAny_bind (wpAny_rule (wpAny_bind (wpAny_setScan_of isz ho hd hf el ?_))))
  cases hfi : List.findIdx? (fun e => (strKind P w).is z e.2) es.toList with
  | some j =>
    dsimp only
    obtain ⟨hj, pj, _⟩ := List.findIdx?_eq_some_iff_getElem.mp hfi
    have inS : S z = true := (me z).mpr ⟨_, List.getElem_mem hj, pj⟩
    have same : (fun k => S k || decide (k = z)) = S := by
      funext k
      by_cases e : k = z
      · subst e; rw [inS]; rfl
      · rw [decide_eq_false e, Bool.or_false]
    have q := hQ s.heap (Heap.SameBut.refl a s.heap)
    rw [same, inS, if_pos rfl] at q
    exact wpAny_pure (wpAny_pure (q ⟨o, es, ep, t, ho, hex, hd, el, me, hb, hf, hn, hr, hl⟩))
  | none =>
    dsimp only
    have notS : S z = false := by
      rw [Bool.eq_false_iff]
      intro q
      obtain ⟨e, he, h1⟩ := (me z).mp q
      have := List.findIdx?_eq_none_iff.mp hfi e he
      rw [h1] at this
      cases this
    have way : ∀ (b : Bool) {s₁ : Shared} {R : Unit → Shared → Prop}, R () s₁ → wpAny (model P w) A (match b with | true => rule "set.scan.the-table-gave-way" | false => pure ()) R E s₁ := fun b s₁ R q => by
      cases b
      · exact wpAny_pure q
      · exact wpAny_rule q
    have p := layNew_perm t es ((strKind P w).hash z) (.str z tk)
    have f1 := layNew_fits t es ((strKind P w).hash z) (.str z tk)
    have r1 := layNew_ris t es ((strKind P w).hash z) (.str z tk) hr
    have l1 := layNew_led t es ((strKind P w).hash z) (.str z tk)
    generalize layNew t es ((strKind P w).hash z) (.str z tk) = Y at p f1 r1 l1 ⊢
    obtain ⟨es1, t1, was, gave⟩ := Y
    dsimp only at p f1 r1 l1 ⊢
    rw [Array.toList_push] at p
    have el1 : ElemsOf (strKind P w) es1.toList := (el.push isz scan).perm p
    have me1 : ∀ k, (S k || decide (k = z)) = true ↔ ∃ e ∈ es1.toList, (strKind P w).is k e.2 = true := mem_push_iff isz me p
    have many : es1.size = n + 1 := by
      have := p.length_eq
      rw [List.length_append] at this
      simpa [hn] using this
    have hb1 : es1.size < scanBound := by omega
    have led1 : w.params.followText "set-order" = true ∨ t1.led = true := hl.imp id fun q => by rw [l1]; exact q
    have fin : ∀ h', Heap.SameBut a s.heap h' → TxR P w h' a (fun j => S j || decide (j = z)) es1.size → Q true { s with heap := h' } := fun h' b r => by
      have q := hQ h' b
      rw [notS, if_neg Bool.false_ne_true] at q
      rw [many] at r
      exact q r
    refine wpAny_bind (way _ ?_)
    split
    · refine wpAny_bind ?_
      rw [hashByValue_scannable 8 scan]
      refine wpAny_pure ?_
      refine txR_tail ?_ ho hex hd el1 me1 hb1 ?_ ?_ ?_ ?_
      · intro b s₁ R q
        exact way b q
      · split
        · exact f1
        · exact SetTable.fits_plain_off f1
      · split <;> exact r1
      · split <;> exact led1
      · intro h' b r
        dsimp only
        exact wpAny_pure (fin h' b r)
    · refine wpAny_bind (wpAny_pure ?_)
      simp only [↓reduceIte]
      refine txR_tail ?_ ho hex hd el1 me1 hb1 f1 r1 led1 ?_
      · intro b s₁ R q
        exact way b q
      · intro h' b r
        dsimp only
        exact wpAny_pure (fin h' b r)
end
/-- the set at a: who is in is in ns, as many as u has -/
def TxSet (P : Program) (w : World) (h : Heap) (a : Addr) (ns u : List Str) : Prop := TxR P w h a (fun j => decide (j ∈ ns)) u.length
section
variable {P : Program} {w : World} {A : Around} {E : Value → Shared → Prop} {s : Shared}
theorem txSet_new {h : Heap} {a : Addr} {ns : List Str} (ho : h.get? a = some (eset w)) : TxSet P w h a (ns.take 0) [] := txR_new ho
theorem TxSet.keep {h h' : Heap} {a : Addr} {ns u : List Str} (R : TxSet P w h a ns u) (k : ∀ o, h.get? a = some o → h'.get? a = some o) : TxSet P w h' a ns u := TxR.keep R k
theorem set_update_strs {I : Addr} {fp wr : List Addr} {G : Array GenState → Array GenState → Prop} {n : Nat} {Pv : Nat → Value → Prop} {St : Nat → Shared → Prop} {R : Result → Shared → Prop}
    (W : WalksS P w A.in1 I fp wr G n Pv St) (S : Addr) (apart : S ∉ fp) (ns : List Str) (hn : n = ns.length) (hb : ns.length + 1 < scanBound) (vals : ∀ i v, Pv i v → ∃ k t, ns[i]? = some k ∧ v = .str k t) :
    ∀ (m i : Nat) (s : Shared), n - i = m → i ≤ n → St i s → (∃ u, Dist (ns.take i) u ∧ u.length ≤ i ∧ TxSet P w s.heap S (ns.take i) u) →
      (∀ s' u, Moved (S :: wr) G s s' → Dist ns u → TxSet P w s'.heap S ns u → R (.ok (.ret .none)) s') →
      codeAny (model P w) A (.builtin "set.update.loop" ⟨[Value.ref S, Value.ref I], []⟩) R s := by
  have notW : S ∉ wr := fun h => apart (W.sub S h)
  have more : ∀ b ∈ wr, b ∈ S :: wr := fun b hb => List.mem_cons_of_mem S hb
  intro m
  induction m with
  | zero =>
    intro i s hm hi st ⟨u, hd, hu, hS⟩ hR
    obtain rfl : i = n := by omega
    refine codeAny_builtin F.entry_set_update_loop ?_
    rw [Around.under_plainId F.plain_set_update_loop _]
    show wpAny (model P w) A.in1 (pyNext (.ref I) >>= _) _ _ s
    refine wpAny_bind (W.done s _ _ st fun s' hm => ?_)
    show wpAny (model P w) A.in1 (ret Value.none) _ _ s'
    have e : ns.take i = ns := List.take_of_length_le (by omega)
    rw [e] at hS hd
    exact wpAny_pure (hR s' u (hm.mono more) hd (hS.keep fun o e => hm.heap S o notW e))
  | succ m ih =>
    intro i s hm hi st ⟨u, hd, hu, hS⟩ hR
    have hlt : i < n := by omega
    refine codeAny_builtin F.entry_set_update_loop ?_
    rw [Around.under_plainId F.plain_set_update_loop _]
    show wpAny (model P w) A.in1 (pyNext (.ref I) >>= _) _ _ s
    refine wpAny_bind (W.item i s _ _ hlt st fun v s' hP st' hm => ?_)
    obtain ⟨z, t, hz, rfl⟩ := vals i v hP
    have hS' : TxSet P w s'.heap S (ns.take i) u := hS.keep fun o e => hm.heap S o notW e
    show wpAny (model P w) A.in1 (holding [Value.str z t] (setAdd S (.str z t)) >>= _) _ _ s'
    refine wpAny_bind (wpAny_holding ?_)
    unfold setAdd
    refine wpAny_holding ?_
    refine wpAny_bind ((strKind P w).pyHash (k := z) (strKind_is P w z t) ?_)
    refine txR_add (s := { s' with toks := s'.toks + 1 }) hS' (by omega) fun h' hsb hS2 => ?_
    have tk : ns.take (i + 1) = ns.take i ++ [z] := by rw [List.take_add_one, hz]; rfl
    have S3 : ∃ u', Dist (ns.take (i + 1)) u' ∧ u'.length ≤ i + 1 ∧ TxSet P w h' S (ns.take (i + 1)) u' := by
      have ef : (fun k' => decide (k' ∈ ns.take i) || decide (k' = z)) = fun k' => decide (k' ∈ ns.take (i + 1)) := by
        funext k'; rw [tk]; simp
      by_cases hin : z ∈ ns.take i
      · refine ⟨u, ⟨hd.nd, fun k => ?_⟩, by omega, ?_⟩
        · rw [tk, hd.mem k]; simp; intro e; subst e; exact hin
        · rw [if_pos (decide_eq_true hin)] at hS2
          unfold TxSet; rw [← ef]; exact hS2
      · have hzu : z ∉ u := fun q => hin ((hd.mem z).mp q)
        refine ⟨u ++ [z], ⟨?_, fun k => ?_⟩, by simp; omega, ?_⟩
        · rw [List.nodup_append]
          exact ⟨hd.nd, by simp, fun a ha b hb e => by have := List.mem_singleton.mp hb; subst this; subst e; exact hzu ha⟩
        · rw [tk]; simp [hd.mem k]
        · rw [if_neg (by simpa using hin)] at hS2
          unfold TxSet; rw [← ef, List.length_append]; exact hS2
    refine wpAny_pure ⟨plainId_quiet F.plain_set_update_loop _, ih (i + 1) _ (by omega) hlt (W.frame _ s' _ _ st' (Nat.le_succ _) fun b hb o e => ?_) S3 fun s2 u2 hm2 hd2 hS4 => ?_⟩
    · rw [hsb.2 b (fun h : b = S => apart (by rw [← h]; exact hb))]; exact e
    · refine hR s2 u2 (Moved.trans W.gtrans ((hm.mono more).then_heap (Nat.le_succ _) fun b o hb e => ?_) hm2) hd2 hS4
      rw [hsb.2 b (fun h : b = S => hb (by rw [h]; exact List.mem_cons_self))]; exact e

set_option maxHeartbeats 8000000 in
theorem set_of_list {l : Addr} {items : Array Value} (ns : List Str) {Q : Value → Shared → Prop} (hh : A.handled = none) (hl : s.heap.IsList l items) (hit : StrsAre items.toList ns) (hb : ns.length + 1 < scanBound)
    (h : ∀ (h' : Heap) (tk : Nat) (u : List Str), Dist ns u → TxSet P w h' s.heap.objs.size ns u → (∀ b o, s.heap.get? b = some o → h'.get? b = some o) → Q (.ref s.heap.objs.size) { s with heap := h', toks := tk }) :
    wpAny (model P w) A (call (.type "set") [.ref l]) Q E s := by
  have hisz : items.size = ns.length := by
    have q := strsAre_len hit
    rw [Array.length_toList] at q
    exact q
  obtain ⟨cc, tl, hmro⟩ := F.called_set.mro
  have hmadeBy := F.called_set.made
  have hsubOf := F.called_set.sub
  refine wpAny_call (codeAny_of_tree ?tree)
  case tree =>
   show wpAny (model P w) A.in1 (callAny (.type "set") ⟨[.ref l], []⟩) _ _ s
   refine wpAny_pure ⟨Code.quiet_builtin ⟨[Value.type "set", .ref l], []⟩ (by decide +kernel), codeAny_builtin F.entry_type_call ?under⟩
   case under =>
    rw [Around.under_plain (weight_type_call_type "set" [Value.ref l] ([] : List (Str × Value))) rfl]
    have notType := F.called_set.notType
    have canMake := F.called_set.canCreate
    have checked := F.typeCall_set_1 (Value.ref l)
    repeat (any_goals (first | assumption | wp_step))
    refine codeAny_mono (code_set_led1 (Value.ref l) (E := E) (Q₁ := fun obj t => obj = .ref s.heap.objs.size ∧ t = { s with heap := s.heap.push (eset w) }) ⟨rfl, rfl⟩) fun r t hr => ?_
    cases r with
    | error e => exact hr
    | ok fl =>
     cases fl with
     | ret obj =>
      obtain ⟨rfl, rfl⟩ := hr
      have hS : (s.heap.push (eset w)).get? s.heap.objs.size = some (eset w) := Heap.get?_push_size _ rfl
      have hT : Shared.TypeIs { s with heap := s.heap.push (eset w) } (.ref s.heap.objs.size) "set" := ⟨eset w, hS, rfl⟩
      have initLook := F.called_set.init.lookup
      have initBind := F.called_set.init.bind (Value.ref s.heap.objs.size)
      repeat (any_goals (first | assumption | wp_step))
      refine codeAny_mono (codeAny_call_builtin (R := wants (fun r t2 => r = .none ∧ ∃ h' tk u, t2 = { s with heap := h', toks := tk } ∧ Dist ns u ∧ TxSet P w h' s.heap.objs.size ns u ∧
          (∀ b o, s.heap.get? b = some o → h'.get? b = some o)) E) F.called_set.init.plain F.entry_set_init (check_set_init_1 hT ?_)) fun r2 t2 hr2 => ?_
      · obtain ⟨ol, hol, hcl, nl, hdl⟩ := hl
        obtain ⟨ocls, odict, odata, oslots⟩ := ol
        simp only at hcl hdl
        subst hcl; subst hdl
        have hol2 : (s.heap.push (eset w)).get? l = some { cls := .type "list", dict := odict, data := .seq items nl, slots := oslots } := Heap.get?_push_of_some (eset w) hol
        have noSet := F.sub_list_set
        have noFrozen := F.sub_list_frozenset
        have noDict : (Value.type "list" == Value.type "dict") = false := by decide
        have hl1 : (s.heap.push (eset w)).IsList l items := ⟨_, hol2, rfl, nl, rfl⟩
        unfold Builtin.«set.__init__» noKeywords Builtin.Frozenset.updateFrom
        generalize hPI : pyIter = walked
        wp_walk
        subst hPI
        refine wpAny_pyIter_list hl1 (wpAny_bind (wpAny_runValue ?_))
        have hlS : l < s.heap.objs.size := Heap.lt_size hol
        have calm3 : A.in1.in1.in1.handled = none := by simp [hh]
        have hz1 : (s.heap.push (eset w)).objs.size = s.heap.objs.size + 1 := Heap.size_push ..
        have apartI : l ≠ (s.heap.push (eset w)).objs.size := by rw [hz1]; exact Nat.ne_of_lt (Nat.lt_succ_of_lt hlS)
        have apartS : s.heap.objs.size ∉ [(s.heap.push (eset w)).objs.size, l] := by
          rw [hz1]; intro z
          rcases List.mem_cons.mp z with z | z
          · exact absurd z (Nat.ne_of_lt (Nat.lt_succ_self _))
          · exact absurd (List.mem_singleton.mp z) (Nat.ne_of_gt hlS)
        have vals : ∀ (i : Nat) (v : Value), items[i]? = some v → ∃ k t, ns[i]? = some k ∧ v = .str k t := fun i v hv => strsAre_at hit i v (by rw [Array.getElem?_toList]; exact hv)
        refine set_update_strs ((Walks.list calm3 _ l apartI items).toS) s.heap.objs.size
          apartS ns hisz hb vals (items.size - 0) 0 _ (by omega) (Nat.zero_le _)
          ⟨⟨_, Heap.get?_push_size _ rfl, rfl, rfl⟩, (hl1.push _)⟩ ⟨[], Dist.nil, Nat.le_refl _, txSet_new (Heap.get?_push_of_some _ hS)⟩ ?done
        case done =>
          intro s' u hm hd hS'
          obtain ⟨h', g2, d', tk', os'⟩ := s'
          have eg : g2 = s.gens := hm.gens
          have ed : d' = s.drawn := hm.drawn
          have eo : os' = s.os := hm.os
          subst eg; subst ed; subst eo
          show wpAny _ _ _ _ _ _
          refine wpAny_pure ?_
          show wpAny _ _ (ret Value.none) _ _ _
          refine wpAny_pure ⟨rfl, h', tk', u, rfl, hd, hS', fun b o e => ?_⟩
          have b0 : b < s.heap.objs.size := Heap.lt_size e
          refine hm.heap b o (fun z => ?_) (Heap.get?_push_of_some _ (Heap.get?_push_of_some _ e))
          rcases List.mem_cons.mp z with z | z
          · exact absurd z (Nat.ne_of_lt b0)
          · have z := List.mem_singleton.mp z
            rw [hz1] at z
            exact absurd z (Nat.ne_of_lt (Nat.lt_succ_of_lt b0))
      · cases r2 with
        | error e => exact hr2
        | ok fl2 =>
          cases fl2 with
          | ret r =>
            obtain ⟨rfl, h', tk, u, rfl, hd, hS', hk'⟩ := hr2
            repeat (any_goals (first | assumption | wp_step))
            exact h h' tk u hd hS' hk'
          | next => exact hr2.elim
          | brk => exact hr2.elim
          | cont => exact hr2.elim
     | next => exact hr.elim
     | brk => exact hr.elim
     | cont => exact hr.elim
end
/-! ### len(set(xs)) -/
def tLenSetS (K : PySem.W.Frag) (ta : TE) : TE := fun σ H Q => ta σ H fun x H1 => ∃ (l : Addr) (ns : List Str), x = .ref l ∧ SqL K H1 l (ns.map V.str) ∧ ns.length ≤ 4000 ∧ ∀ u, Dist ns u → Q (.int (u.length : Nat)) H1
theorem pe_lenSetS {X : Cx} {a : Expr} {ta : TE} {p p2 q pos : Pos} (hg : Gl X "len") (hm : X.mg "len" = none) (hg2 : Gl X "set") (hm2 : X.mg "set" = none) (ha : PE X a ta) (hc : X.calm = true := by rfl)
    (na : starEach [a] X.env = (false, eval a X.env) :: starEach [] X.env := by rfl) : PE X (.Call (.Name "len" p) [.Call (.Name "set" p2) [a] [] q] [] pos) (tLenSetS X.K ta) := by
  refine ⟨fun pins s σ H Q I h => Call_ (ld_blt I hg hm boot_len ?_)⟩
  refine PyProof.Rows.callWith_builtin1 (PyProof.Rows.args_cons ?_ rfl) rfl rfl
  refine Call_ (ld_blt I hg2 hm2 boot_set (PyProof.Rows.callWith_type1 (PyProof.Rows.args_cons ?_ na) na rfl))
  refine thn (ha.run pins s σ H _ I h) fun v s1 ⟨x, H1, I1, r1, q1⟩ => PyProof.Rows.args_nil ?_
  obtain ⟨l, ns, rfl, hq, hl, q1⟩ := q1
  cases r1
  have fin : ∀ (h' : Heap) (tk : Nat) (u : List Str), Dist ns u → TxSet X.prog X.w h' s1.heap.objs.size ns u → (∀ b o, s1.heap.get? b = some o → h'.get? b = some o) →
      wpAny (model X.prog X.w) X.A (spliced (backTo pos (starEach [] X.env))) (fun vs s₂ => wpAny (model X.prog X.w) X.A (call (.builtin "len") (Value.ref s1.heap.objs.size :: vs)) (EP X pins σ Q) X.xe s₂) X.xe { s1 with heap := h', toks := tk } := fun h' tk u hd hS hk => by
    refine PyProof.Rows.args_nil ?_
    obtain ⟨o, es, ep, t, ho, hex, hda, _, _, hb, hf, hn, _, _⟩ := hS
    have I2 : Inv X pins σ H1 { s1 with heap := h', toks := tk } := I1.kept fun b o e => hk b o e
    exact call_len_set ho hex hda hf (by unfold scanBound at hb; omega) ⟨.int u.length, H1, I2.tok _, ⟨_, by rw [hn]⟩, q1 u hd⟩
  obtain ⟨its, r, pl, hz⟩ := I1.list hq
  exact set_of_list ns (I1.ok.hd hc) pl.isList (by simpa using strsAre_of r) (by unfold scanBound; omega) fun h' tk u hd hS hk => fin h' tk u hd hS hk
/-- len(set(e)), e a list of texts -/
def drLenSet (x : SD) (μ : Mu) (Q : SD → Mu → Prop) : Prop := match lstD μ x with
  | some xs => match strsOf xs with
    | some ns => ns.length ≤ 4000 ∧ ∀ u, Dist ns u → Q (.int (u.length : Nat)) μ
    | none => False
  | none => False
abbrev dLenSet (te : DTE) : DTE := fun ρ μ Q => te ρ μ fun x μ1 => drLenSet x μ1 Q
theorem de_lenSet {X : Cx} {a : Expr} {ta : DTE} {p p2 q pos : Pos} (hg : Gl X "len") (hm : X.mg "len" = none) (hg2 : Gl X "set") (hm2 : X.mg "set" = none) (ha : DE X a ta) (hc : X.calm = true := by rfl)
    (na : starEach [a] X.env = (false, eval a X.env) :: starEach [] X.env := by rfl) : DE X (.Call (.Name "len" p) [.Call (.Name "set" p2) [a] [] q] [] pos) (dLenSet ta) := weakE (pe_lenSetS hg hm hg2 hm2 ha hc na) fun σ H Q h => by
  obtain ⟨F, ρ, μ, Q', R, S, t, k⟩ := h
  refine ⟨F, ρ, μ, _, R, S, t, fun d μ1 t1 F1 H1 v s1 R1 r1 => ?_⟩
  unfold drLenSet at t1
  cases e : lstD μ1 d with
  | none => rw [e] at t1; exact t1.elim
  | some xs =>
    rw [e] at t1
    simp only at t1
    cases e2 : strsOf xs with
    | none => rw [e2] at t1; exact t1.elim
    | some ns =>
      rw [e2] at t1
      simp only at t1
      obtain ⟨a, vs, h1, h3, h2⟩ := R1.lst r1 e
      obtain rfl := strsOf_rep h2 e2
      exact ⟨a, ns, h1, SqL.of h3, t1.1, fun u hd => k _ _ (t1.2 u hd) F1 H1 _ s1 R1 (.int _)⟩
end DS
/-! DS15: truth values among ints, str(x), upper, texts turned round, max and min of lists. -/
namespace DS
open PySem PySem.Spec PyProof.Rows L2
section
variable {X : Cx} {K : PySem.W.Frag}
def b2d (b : Bool) : Int := if b = true then 1 else 0
/-- x + y, x - y of ints, one of which may be a truth value -/
def dIB (f : Int → Int → Int) : DR2 := fun x y μ Q => match x with
  | .int i => match y with
    | .int j => Q (.int (f i j)) μ
    | .bl b => Q (.int (f i (b2d b))) μ
    | _ => False
  | .bl b => match y with
    | .int j => Q (.int (f (b2d b) j)) μ
    | _ => False
  | _ => False
def rIB (f : Int → Int → Int) : R2 := fun x y H Q => (∃ i j, x = .int i ∧ y = .int j ∧ Q (.int (f i j)) H) ∨ (∃ i b, x = .int i ∧ y = .bl b ∧ Q (.int (f i (b2d b))) H) ∨ ∃ b j, x = .bl b ∧ y = .int j ∧ Q (.int (f (b2d b) j)) H
theorem opr_addB : OpR X (binaryOp .Add) (rIB fun i j => i + j) := by
  intro pins s σ H x y v u Q I rx ry h
  rcases h with ⟨i, j, rfl, rfl, q⟩ | ⟨i, b, rfl, rfl, q⟩ | ⟨b, j, rfl, rfl, q⟩
  · exact op_add pins s σ H _ _ v u Q I rx ry ⟨i, j, rfl, rfl, q⟩
  · obtain ⟨t, rfl⟩ := rx; cases ry; exact add_int_bool ⟨.int _, H, I.tok _, ⟨_, rfl⟩, q⟩
  · obtain ⟨t, rfl⟩ := ry; cases rx; exact PySem.IntBool.add_bool_int ⟨.int _, H, I.tok _, ⟨_, rfl⟩, q⟩
theorem opr_subB : OpR X (binaryOp .Sub) (rIB fun i j => i - j) := by
  intro pins s σ H x y v u Q I rx ry h
  rcases h with ⟨i, j, rfl, rfl, q⟩ | ⟨i, b, rfl, rfl, q⟩ | ⟨b, j, rfl, rfl, q⟩
  · exact op_sub pins s σ H _ _ v u Q I rx ry ⟨i, j, rfl, rfl, q⟩
  · obtain ⟨t, rfl⟩ := rx; cases ry; exact PySem.IntBool.sub_int_bool ⟨.int _, H, I.tok _, ⟨_, rfl⟩, q⟩
  · obtain ⟨t, rfl⟩ := ry; cases rx; exact PySem.IntBool.sub_bool_int ⟨.int _, H, I.tok _, ⟨_, rfl⟩, q⟩
theorem lr_IB {f : Int → Int → Int} : LR2 K (dIB f) (rIB f) := fun F H μ x y dx dy Q' Q R rx ry t k => by
  cases dx with
  | int i => cases dy with
    | int j => cases rx; cases ry; exact .inl ⟨i, j, rfl, rfl, k _ μ t F H _ (Stp.refl _ _ _) R (.int _)⟩
    | bl b => cases rx; cases ry; exact .inr (.inl ⟨i, b, rfl, rfl, k _ μ t F H _ (Stp.refl _ _ _) R (.int _)⟩)
    | _ => exact False.elim t
  | bl b => cases dy with
    | int j => cases rx; cases ry; exact .inr (.inr ⟨b, j, rfl, rfl, k _ μ t F H _ (Stp.refl _ _ _) R (.int _)⟩)
    | _ => exact False.elim t
  | _ => exact False.elim t
/-- str(x) of an int or a truth value -/
def drStr : DRc := fun ds μ Q => match ds with
  | [.int i] => i.natAbs.log2 < 1920 ∧ Q (.str (toString i)) μ
  | [.bl b] => Q (.str (if b then "True" else "False")) μ
  | _ => False
theorem call_str_bl : CallR X (.type "str") (fun xs H Q => ∃ b, xs = [.bl b] ∧ Q (.str (if b then "True" else "False")) H) := by
  intro pins s σ H xs us Q I r h
  obtain ⟨b, rfl, q⟩ := h
  obtain ⟨u, rfl, r1⟩ := vals1 r
  cases r1
  exact PySem.P.str_of_bool ⟨.str _, H, I.tok _, ⟨_, rfl⟩, q⟩
def rStrOf : List V → Hp → VK → Prop := fun xs H Q => (∃ i, xs = [.int i] ∧ i.natAbs.log2 < 1920 ∧ Q (.str (toString i)) H) ∨ ∃ b, xs = [.bl b] ∧ Q (.str (if b then "True" else "False")) H
theorem cr_strOf : CallR X (.type "str") rStrOf := call_str_int.or call_str_bl
theorem lc_strOf : LRc K drStr rStrOf := fun F H μ xs ds Q' Q R r t k => by
  unfold drStr at t
  split at t
  · cases r with
    | cons r1 r2 => cases r2; cases r1; exact .inl ⟨_, rfl, t.1, k _ μ t.2 F H _ (Stp.refl _ _ _) R (.str _)⟩
  · cases r with
    | cons r1 r2 => cases r2; cases r1; exact .inr ⟨_, rfl, k _ μ t F H _ (Stp.refl _ _ _) R (.str _)⟩
  · exact False.elim t
/-- max(xs), min(xs) of a list of ints -/
def intsOf : List SD → Option (List Int)
  | [] => some []
  | .int s :: r => match intsOf r with
    | some l => some (s :: l)
    | none => none
  | _ :: _ => none
theorem intsOf_rep : ∀ {F : Hp} {K : PySem.W.Frag} {ds : List SD} {vs : List V} {l : List Int}, RepL K F ds vs → intsOf ds = some l → vs = l.map V.int
  | _, _, [], _, _, .nil, e => by cases e; rfl
  | _, _, d :: ds, _, l, .cons q r, e => by
    cases d with
    | int s =>
      unfold intsOf at e
      cases e2 : intsOf ds with
      | none => rw [e2] at e; cases e
      | some l2 => rw [e2] at e; cases e; cases q; rw [intsOf_rep r e2]; rfl
    | _ => cases e
theorem intsOf_map (l : List Int) : intsOf (l.map SD.int) = some l := by
  induction l with
  | nil => rfl
  | cons a r ih => rw [List.map_cons, intsOf, ih]
def drMost (P : Int → Int → Prop) : DRc := fun ds μ Q => match ds with
  | [d] => match lstD μ d with
    | some xs => match intsOf xs with
      | some ns => 0 < ns.length ∧ ∀ m, m ∈ ns → (∀ y, y ∈ ns → P y m) → Q (.int m) μ
      | none => False
    | none => False
  | _ => False
theorem lc_most {P : Int → Int → Prop} : LRc K (drMost P) (fun vs H Q => ∃ (a : Addr) (ns : List Int), vs = [V.ref a] ∧ SqL K H a (ns.map V.int) ∧ 0 < ns.length ∧ ∀ m, m ∈ ns → (∀ y, y ∈ ns → P y m) → Q (.int m) H) := fun F H μ xs ds Q' Q R r t k => by
  cases r with
  | nil => exact False.elim t
  | cons r1 r2 => cases r2 with
    | cons _ _ => exact False.elim t
    | nil =>
      rename_i d v
      unfold drMost at t
      simp only at t
      cases e : lstD μ d with
      | none => rw [e] at t; exact False.elim t
      | some xs =>
        rw [e] at t
        simp only at t
        cases e2 : intsOf xs with
        | none => rw [e2] at t; exact False.elim t
        | some ns =>
          rw [e2] at t
          obtain ⟨a, vs, rfl, ha, r⟩ := R.lst r1 e
          obtain rfl := intsOf_rep r e2
          exact ⟨a, ns, rfl, SqL.of ha, t.1, fun m h1 h2 => k _ μ (t.2 m h1 h2) F H _ (Stp.refl _ _ _) R (.int _)⟩
theorem lc_max1 : LRc K (drMost fun y m => y ≤ m) (rMax K) := lc_most
theorem lc_min1 : LRc K (drMost fun y m => m ≤ y) (rMin K) := lc_most
/-- s.upper() -/
abbrev dUpper (to : DTE) : DTE := fun ρ μ Q => to ρ μ fun x μ1 => match x with
  | .str a => a.length ≤ 5592405 ∧ Q (.str (Txt.upper a)) μ1
  | _ => False
theorem de_upper {o : Expr} {to : DTE} {apos pos : Pos} (ho : DE X o to) (hbase : attributeBase o "upper" X.env (eval o X.env) = eval o X.env := by rfl) (hline : (apos.endLine == pos.line) = true := by rfl) :
    DE X (.Call (.Attribute o "upper" apos) [] [] pos) (dUpper to) := weakE (pe_upper ho hbase hline) fun σ H Q h => by
  obtain ⟨F, ρ, μ, Q', R, S, t, k⟩ := h
  refine ⟨F, ρ, μ, _, R, S, t, fun d μ1 t1 F1 H1 v s1 R1 r1 => ?_⟩
  cases d with
  | str a => cases r1; exact ⟨⟨a, rfl⟩, a, rfl, rfl, t1.1, k _ μ1 t1.2 F1 H1 _ s1 R1 (.str _)⟩
  | _ => exact False.elim t1
/-- x[::-1] of a text (some text of its signs, no longer), a list or a tuple -/
def tRevX (K : PySem.W.Frag) (te : TE) : TE := fun σ H Q => te σ H fun x H1 => (∃ z : Str, x = .str z ∧ z.length ≤ sizeLine ∧ ∀ t : Str, t.length ≤ z.length → (∀ c ∈ t.cps.toList, c ∈ z.cps.toList) → Q (.str t) H1) ∨
  (∃ a xs, x = .ref a ∧ SqL K H1 a xs ∧ ∀ p, H1 p = none → Q (.ref p) (upd H1 p (.lst xs.reverse))) ∨ ∃ a xs, x = .ref a ∧ SqT K H1 a xs ∧ ∀ p, H1 p = none → Q (.ref p) (upd H1 p (.tup xs.reverse))
theorem slice_signs (z : Str) (l u st : Option (Int × Tok)) : ∀ c ∈ (⟨((slicePicked z l u st).filterMap (z.cps[·]?)).toArray⟩ : Str).cps.toList, c ∈ z.cps.toList := by
  intro c hc
  have hc : c ∈ (slicePicked z l u st).filterMap (z.cps[·]?) := by simpa using hc
  obtain ⟨i, _, hi⟩ := List.mem_filterMap.mp hc
  exact List.mem_of_getElem? (by rw [Array.getElem?_toList]; exact hi)
abbrev backE (e : Expr) (k1 : Nat) (p1 p2 p3 : Pos) : Expr := .Slice none none (some (.UnaryOp .USub (.Constant (.int 1) k1 p1) p2)) p3
theorem pe_revX {e : Expr} {te : TE} {pos p1 p2 p3 : Pos} {k1 : Nat} (he : PE X e te) : PE X (.Subscript e (.Slice none none (some (.UnaryOp .USub (.Constant (.int 1) k1 p1) p2)) p3) pos) (tRevX X.K te) := by
  refine ⟨fun pins s σ H Q I h => Subscript_ (thn (he.run pins s σ H _ I h) fun v s1 ⟨x, H1, I1, r1, q1⟩ => ?_)⟩
  have back : PO X (some (.UnaryOp .USub (.Constant (.int 1) k1 p1) p2)) (tPart (tUn (rU fun i => .int (-i)) (tC (.int 1)))) := po_some (pe_un un_neg pe_int)
  refine wpAny_Slice (thn (po_none.run pins s1 σ H1 (fun o G => o = none ∧ G = H1) I1 ⟨rfl, rfl⟩) fun vl s2 ⟨l, H2, I2, pl, el, e2⟩ => ?_)
  subst el e2
  refine thn (po_none.run pins s2 σ H2 (fun o G => o = none ∧ G = H2) I2 ⟨rfl, rfl⟩) fun vu s3 ⟨u, H3, I3, pu, eu, e3⟩ => ?_
  subst eu e3
  refine thn (back.run pins s3 σ H3 (fun o G => o = some (-1) ∧ G = H3) I3 ⟨1, rfl, -1, rfl, rfl, rfl⟩) fun vs s4 ⟨o, H4, I4, ps, eo, e4⟩ => ?_
  subst eo e4
  have I5 : Inv X pins σ H4 { s4 with heap := s4.heap.push { cls := .type "slice", data := .fields #[vl, vu, vs] } } := I4.kept (t' := s4.toks) fun b ob w => Heap.get?_push_of_some _ w
  rcases q1 with ⟨z, rfl, hz, q⟩ | ⟨a, xs, rfl, hx, q⟩ | ⟨a, xs, rfl, hx, q⟩
  · obtain ⟨t, rfl⟩ := r1
    obtain ⟨l0, rfl, el⟩ := IsPart.raw pl
    obtain ⟨u0, rfl, eu⟩ := IsPart.raw pu
    obtain ⟨st, rfl, est⟩ := IsPart.raw ps
    show wpAny (model X.prog X.w) X.A (subscriptTail e (backE e k1 p1 p2 p3) (.str z t) (.ref s4.heap.objs.size)) (EP X pins σ Q) X.xe { s4 with heap := s4.heap.push { cls := .type "slice", data := .fields #[partValue l0, partValue u0, partValue st] } }
    refine tail_any (ops := [.ref s4.heap.objs.size, .str z t]) (typeIs_str _ z t) (F.slot_str_getitem.lookup) ?_ (by with_unfolding_all rfl)
    cases st with
    | none => cases est
    | some st =>
      have e1 : st.1 = -1 := Option.some.inj est
      refine wpAny_getItem_str_slice (l := l0) (u := u0) (st := some st) ⟨_, Heap.get?_push_size _ rfl, rfl, rfl⟩ (by simp [e1]) ?_
      have off : (((some st).map (·.1)).getD 1 == 1 && (slicePicked z l0 u0 (some st)).length == z.length) = false := by simp [e1]
      unfold sliceMade
      rw [off]
      have len : (⟨((slicePicked z l0 u0 (some st)).filterMap (z.cps[·]?)).toArray⟩ : Str).length ≤ z.length := by
        have := Txt.sliceBy_le z l0 u0 st (by rw [e1]; decide)
        unfold Txt.sliceBy at this
        rw [off] at this
        exact this
      exact ⟨Nat.le_trans len hz, .str _, H4, I5.tok _, ⟨_, rfl⟩, q _ len (slice_signs z l0 u0 (some st))⟩
  · cases r1
    obtain ⟨its, r, ht, hz⟩ := I5.list hx
    have len := r.length
    show wpAny (model X.prog X.w) X.A (subscriptTail e (backE e k1 p1 p2 p3) (.ref a) (.ref s4.heap.objs.size)) (EP X pins σ Q) X.xe { s4 with heap := s4.heap.push { cls := .type "slice", data := .fields #[vl, vu, vs] } }
    refine tail_any (ops := [.ref a, .ref s4.heap.objs.size]) ht.isList.typeIs (PySem.slot_list_getitem.lookup) ?_ (by with_unfolding_all rfl)
    refine wpAny_getItem_list_slice ht.isList (Heap.IsSliceOf.new _ vl vu vs) pl pu ps (by decide) ?_ (by rw [List.size_toArray]; omega)
    rw [PySem.W.krv_pick]
    refine ⟨.ref _, _, I5.laid (t' := s4.toks) (o := .lst xs.reverse) (fun b ob w => Heap.get?_push_of_some _ w) (Nat.le_refl _) ?_, rfl, q _ (I5.hok.fresh (Nat.le_refl _))⟩
    exact ⟨by rw [List.length_reverse]; exact hz, _, 0, r.reverse, Heap.get?_push_size _ rfl⟩
  · cases r1
    obtain ⟨its, r, ht, hz⟩ := I5.tuple hx
    have len := r.length
    show wpAny (model X.prog X.w) X.A (subscriptTail e (backE e k1 p1 p2 p3) (.ref a) (.ref s4.heap.objs.size)) (EP X pins σ Q) X.xe { s4 with heap := s4.heap.push { cls := .type "slice", data := .fields #[vl, vu, vs] } }
    refine tail_any (ops := [.ref a, .ref s4.heap.objs.size]) ht.typeIs (PyProof.Rows.slot_tuple_getitem.lookup) ?_ (by with_unfolding_all rfl)
    refine tuple_back ht (Heap.IsSliceOf.new _ vl vu vs) pl pu ps ?_ (by omega)
    refine ⟨.ref _, _, I5.laid (t' := s4.toks) (o := .tup xs.reverse) (fun b ob w => Heap.get?_push_of_some _ w) (Nat.le_refl _) ?_, rfl, q _ (I5.hok.fresh (Nat.le_refl _))⟩
    exact ⟨by rw [List.length_reverse]; exact hz, _, r.reverse, _, Heap.get?_push_size _ rfl, rfl, 0, rfl⟩
def drRevX (x : SD) (μ1 : Mu) (Q : SD → Mu → Prop) : Prop := match x with
  | .str z => z.length ≤ sizeLine ∧ ∀ t : Str, t.length ≤ z.length → (∀ c ∈ t.cps.toList, c ∈ z.cps.toList) → Q (.str t) μ1
  | .tup xs => Q (.tup xs.reverse) μ1
  | .lst xs => Q (.lst xs.reverse) μ1
  | _ => False
abbrev dRevX (te : DTE) : DTE := fun ρ μ Q => te ρ μ fun x μ1 => drRevX x μ1 Q
theorem de_revX {e : Expr} {te : DTE} {pos p1 p2 p3 : Pos} {k1 : Nat} (he : DE X e te) : DE X (.Subscript e (.Slice none none (some (.UnaryOp .USub (.Constant (.int 1) k1 p1) p2)) p3) pos) (dRevX te) := weakE (pe_revX he) fun σ H Q h => by
  obtain ⟨F, ρ, μ, Q', R, S, t, k⟩ := h
  refine ⟨F, ρ, μ, _, R, S, t, fun d μ1 t1 F1 H1 v s1 R1 r1 => ?_⟩
  cases d with
  | str z => cases r1; exact .inl ⟨z, rfl, t1.1, fun y h1 h2 => k _ μ1 (t1.2 y h1 h2) F1 H1 _ s1 R1 (.str _)⟩
  | tup xs =>
    cases r1 with
    | tup h r => exact .inr (.inr ⟨_, _, rfl, R1.ext.sqT h, fun q hq => k _ μ1 t1 _ _ _ (s1.trans (Stp.newS R1 hq)) (R1.newS hq) (.tup (.inl (.inl upd_same)) (r.reverse.mono (Ext.new (R1.freeF hq))))⟩)
  | lst xs =>
    cases r1 with
    | lst h r => exact .inr (.inl ⟨_, _, rfl, SqL.of (R1.sub _ _ h), fun q hq => k _ μ1 t1 _ _ _ (s1.trans (Stp.newS R1 hq)) (R1.newS hq) (.lst upd_same (r.reverse.mono (Ext.new (R1.freeF hq))))⟩)
  | _ => exact False.elim t1
/-- xs + ys, a new list that may change -/
def dAddM : DR2 := fun x y μ Q => match lstD μ x, lstD μ y with
  | some xs, some ys => xs.length + ys.length ≤ sizeLine ∧ ∀ p, μ p = none → Q (.ref p) (up μ p (.lst (xs ++ ys)))
  | _, _ => False
theorem lr_addM : LR2 K dAddM rCat := fun F H μ x y dx dy Q' Q R rx ry t k => by
  unfold dAddM at t
  cases e1 : lstD μ dx with
  | none => rw [e1] at t; exact False.elim t
  | some xs => cases e2 : lstD μ dy with
    | none => rw [e1, e2] at t; exact False.elim t
    | some ys =>
      rw [e1, e2] at t
      obtain ⟨a, vs, rfl, ha, r1⟩ := R.lst rx e1
      obtain ⟨b, ws, rfl, hb, r2⟩ := R.lst ry e2
      refine ⟨a, b, vs, ws, rfl, rfl, ha, hb, by rw [← r1.length, ← r2.length]; exact t.1, fun q hq => ?_⟩
      exact k _ _ (t.2 q (R.freeM hq)) _ _ _ (Stp.newM R hq) (R.newM hq (.lst (r1.append r2))) (.ref q)
/-! chains as tests -/
theorem lift_chain {r r' : R2} {dr dr' : DR2} {ta tb tc : DTE} (hl : LR2 K dr r) (hl' : LR2 K dr' r') : ∀ σ H Q, LE K (dChain dr dr' ta tb tc) σ H Q → tChain r r' (LE K ta) (LE K tb) (LE K tc) σ H Q := fun σ H Q h => by
  obtain ⟨F, ρ, μ, Q', R, S, t, k⟩ := h
  refine ⟨F, ρ, μ, _, R, S, t, fun d1 μ1 t1 F1 H1 v1 s1 R1 r1 => ?_⟩
  refine ⟨F1, ρ, μ1, _, R1, S.mono s1.ext, t1, fun d2 μ2 t2 F2 H2 v2 s2 R2 r2 => ?_⟩
  refine hl F2 H2 μ2 v1 v2 d1 d2 _ _ R2 (r1.mono s2.ext) r2 t2 fun d3 μ3 t3 F3 H3 v3 s3 R3 r3 => ?_
  cases r3 with
  | bl z =>
    refine ⟨z, rfl, ?_⟩
    cases z with
    | true =>
      refine ⟨F3, ρ, μ3, _, R3, S.mono ((s1.trans s2).trans s3).ext, t3, fun d4 μ4 t4 F4 H4 v4 s4 R4 r4 => ?_⟩
      exact hl' F4 H4 μ4 v2 v4 d2 d4 Q' Q R4 (r2.mono (s3.trans s4).ext) r4 t4 fun d μ' q F' H' v s R' r' => k d μ' q F' H' v ((((s1.trans s2).trans s3).trans s4).trans s) R' r'
    | false => exact k _ μ3 t3 F3 H3 _ ((s1.trans s2).trans s3) R3 (.bl false)
  | _ => exact t3.elim
theorem dt_chain {op op' : CmpOp} {r r' : R2} {dr dr' : DR2} {ta tb tc : DTE} {a b c : Expr} {pos : Pos} (ho : OpR X (compareOp op) r) (hl : LR2 X.K dr r) (ho' : OpR X (compareOp op') r') (hl' : LR2 X.K dr' r') (ha : DE X a ta) (hb : DE X b tb) (hc : DE X c tc) (hm : lastMarks [op, op'] [b, c] = false := by rfl) :
    DT X (.Compare a [op, op'] [b, c] pos) (dTest (dChain dr dr' ta tb tc)) := weakT (pt_chain ho ho' ha hb hc hm) fun σ H Q h => by
  obtain ⟨F, ρ, μ, Q', R, S, t, k⟩ := h
  refine lift_chain hl hl' σ H _ ⟨F, ρ, μ, _, R, S, t, fun d μ' q F' H' v s R' r' => ?_⟩
  cases r' with
  | bl b => exact ⟨b, rfl, k b μ' q F' H' s R'⟩
  | _ => exact q.elim
end
end DS
/-! DS16: repr of data with {} in it; == with (). -/
namespace DS
open PySem PySem.Spec PyProof.Rows L2
/-! ### values as data -/
mutual
/-- the value shows as the datum; empty dicts among it stand at no place of the machine's own -/
inductive Shw (h : Heap) : Value → PyData → Prop
  | non : Shw h .none .none
  | bl (b : Bool) : Shw h (.bool b) (.bool b)
  | int (i : Int) (t : Tok) : Shw h (.int i t) (.int i)
  | str (x : Str) (t : Tok) : Shw h (.str x t) (.str x)
  | lst {a : Addr} {o : Obj} {vs : Array Value} {n : Nat} {xs : List PyData} : h.get? a = some o → o.cls = .type "list" → o.data = .seq vs n → ShwL h vs.toList xs → Shw h (.ref a) (.list xs)
  | tup {a : Addr} {o : Obj} {vs : Array Value} {n : Nat} {xs : List PyData} : h.get? a = some o → o.cls = .type "tuple" → o.data = .seq vs n → ShwL h vs.toList xs → Shw h (.ref a) (.tuple xs)
  | dic {a : Addr} {o : Obj} {n : Nat} : (a == sysModules) = false → h.get? a = some o → o.cls = .type "dict" → o.data = .dict #[] n → Shw h (.ref a) (.dict [])
inductive ShwL (h : Heap) : List Value → List PyData → Prop
  | nil : ShwL h [] []
  | cons {v : Value} {vs : List Value} {d : PyData} {ds : List PyData} : Shw h v d → ShwL h vs ds → ShwL h (v :: vs) (d :: ds)
end
mutual
theorem Shw.reads {h : Heap} : ∀ {v : Value} {d : PyData}, Shw h v d → ∃ as, Reads h v d as
  | _, _, .non => ⟨_, .none⟩
  | _, _, .bl b => ⟨_, .bool b⟩
  | _, _, .int i t => ⟨_, .int i t⟩
  | _, _, .str x t => ⟨_, .str x t⟩
  | _, _, .lst a b c r => let ⟨_, q⟩ := ShwL.reads r; ⟨_, .list a b c q⟩
  | _, _, .tup a b c r => let ⟨_, q⟩ := ShwL.reads r; ⟨_, .tuple a b c q⟩
  | _, _, .dic _ a b c => ⟨_, .dict (kvs := []) a b c .nil .nil⟩
theorem ShwL.reads {h : Heap} : ∀ {vs : List Value} {ds : List PyData}, ShwL h vs ds → ∃ as, ReadsAll h vs ds as
  | _, _, .nil => ⟨_, .nil⟩
  | _, _, .cons h r => let ⟨_, p⟩ := Shw.reads h; let ⟨_, q⟩ := ShwL.reads r; ⟨_, .cons p q⟩
end
section
variable {prog : Program} {w : World} {h₀ : Heap}
theorem dict0_shown : (PyData.dict []).shown = dictText [] := by simp only [PyData.shown, PyData.shownKv]
mutual
theorem Shw.K : ∀ {v : Value} {d : PyData}, Shw h₀ v d → d.showable = true → d.shown.length ≤ sizeLine → ∃ bs, ReadAtMost h₀ d.depth bs ∧ ReprK prog w bs h₀ d.depth v d.shown
  | _, _, .non, hs, hz => ReprK.of_reads Reads.none hs (fun z => by simp [PyData.hasDict] at z) hz
  | _, _, .bl b, hs, hz => ReprK.of_reads (Reads.bool b) hs (fun z => by simp [PyData.hasDict] at z) hz
  | _, _, .int i t, hs, hz => ReprK.of_reads (Reads.int i t) hs (fun z => by simp [PyData.hasDict] at z) hz
  | _, _, .str x t, hs, hz => ReprK.of_reads (Reads.str x t) hs (fun z => by simp [PyData.hasDict] at z) hz
  | _, _, .lst (a := a) (vs := vs) (xs := xs) h1 h2 h3 h4, hs, hz => by
    have fits : (listText (PyData.shownAll xs)).length ≤ sizeLine := by simpa only [PyData.shown] using hz
    obtain ⟨bs, hb, hk⟩ := ShwL.K h4 (by simpa [PyData.showable] using hs) fun t ht => Nat.le_trans (listText_mem_le ht) fits
    obtain ⟨as, q⟩ := ShwL.reads h4
    have r : Reads h₀ (.ref a) (.list xs) (a :: as) := .list h1 h2 h3 q
    have apart : a ∉ bs := not_mem_of_deeper r (by simp only [PyData.depth]; omega) hb
    refine ⟨a :: bs, ReadAtMost.cons r (by simp only [PyData.depth]; omega) hb, ?_⟩
    simp only [PyData.depth, PyData.shown]
    obtain ⟨l⟩ := vs
    cases l with
    | nil =>
      have e : ShwL h₀ [] xs := h4
      cases e
      simp only [PyData.shownAll, listText_nil]
      exact ReprK.listEmpty h1 h2 h3
    | cons x l => exact ReprK.list h1 h2 h3 apart (by simpa using hk.length_eq) fun i y e => hk.item i y (by simpa using e)
  | _, _, .tup (a := a) (xs := xs) h1 h2 h3 h4, hs, hz => by
    have fits : (tupleText (PyData.shownAll xs)).length ≤ sizeLine := by simpa only [PyData.shown] using hz
    obtain ⟨bs, hb, hk⟩ := ShwL.K h4 (by simpa [PyData.showable] using hs) fun t ht => Nat.le_trans (tupleText_mem_le ht) fits
    obtain ⟨as, q⟩ := ShwL.reads h4
    have r : Reads h₀ (.ref a) (.tuple xs) as := .tuple h1 h2 h3 q
    have apart : a ∉ bs := not_mem_of_deeper r (by simp only [PyData.depth]; omega) hb
    refine ⟨a :: bs, ReadAtMost.cons r (by simp only [PyData.depth]; omega) hb, ?_⟩
    simp only [PyData.depth, PyData.shown]
    exact ReprK.tuple h1 h2 h3 apart hk
  | _, _, .dic (a := a) h0 h1 h2 h3, hs, hz => by
    have r : Reads h₀ (.ref a) (.dict []) _ := .dict (kvs := []) h1 h2 h3 .nil .nil
    refine ⟨[a], fun b hb => ⟨_, _, List.mem_singleton.mp hb ▸ r, Nat.le_refl _⟩, ?_⟩
    rw [dict0_shown]
    exact ReprK.dict h1 h2 h3 h0 (List.not_mem_nil) .nil
theorem ShwL.K : ∀ {vs : List Value} {ds : List PyData}, ShwL h₀ vs ds → PyData.showableAll ds = true → (∀ t ∈ PyData.shownAll ds, t.length ≤ sizeLine) →
    ∃ bs, ReadAtMost h₀ (PyData.depthAll ds) bs ∧ ReprAllK prog w bs h₀ (PyData.depthAll ds) vs (PyData.shownAll ds)
  | _, _, .nil, _, _ => ⟨[], (fun _ h => nomatch h), by simp only [PyData.shownAll]; exact .nil⟩
  | _, _, .cons (d := d) (ds := ds) r rs, hs, hz => by
    have both : d.showable = true ∧ PyData.showableAll ds = true := by simpa [PyData.showableAll] using hs
    obtain ⟨b1, hb1, k1⟩ := Shw.K r both.1 (hz _ (by simp only [PyData.shownAll]; exact List.mem_cons_self ..))
    obtain ⟨b2, hb2, k2⟩ := ShwL.K rs both.2 fun t ht => hz t (by simp only [PyData.shownAll]; exact List.mem_cons_of_mem _ ht)
    refine ⟨b1 ++ b2, ?_, ?_⟩
    · simp only [PyData.depthAll]
      exact (hb1.mono (Nat.le_max_left _ _)).append (hb2.mono (Nat.le_max_right _ _))
    · simp only [PyData.depthAll, PyData.shownAll]
      exact .cons ((k1.more fun b hb => List.mem_append_left b2 hb).level_le (Nat.le_max_left _ _)) (k2.more_le (fun b hb => List.mem_append_right b1 hb) (Nat.le_max_right _ _))
end
theorem Shw.by {a : Addr} {d : PyData} (r : Shw h₀ (.ref a) d) (hs : d.showable = true) (hz : d.shown.length ≤ sizeLine) : ∃ T idr, ShowsBy prog w h₀ a d T idr := by
  cases r with
  | lst h1 h2 h3 h4 =>
    rename_i o vs n xs
    have fits : (listText (PyData.shownAll xs)).length ≤ sizeLine := by simpa only [PyData.shown] using hz
    obtain ⟨bs, hb, hk⟩ := ShwL.K (prog := prog) (w := w) h4 (by simpa [PyData.showable] using hs) fun t ht => Nat.le_trans (listText_mem_le ht) fits
    obtain ⟨as, q⟩ := ShwL.reads h4
    have apart : a ∉ bs := not_mem_of_deeper (.list h1 h2 h3 q) (by simp only [PyData.depth]; omega) hb
    refine ⟨"list", "list.__repr__", F.slot_list_repr.toG, F.slot_list_str, F.slot_list_format, fun s keep => ⟨o, keep _ _ h1, h2⟩, fun A E s Q hg hu keep hQ => ?_⟩
    simp only [PyData.depth] at hu
    simp only [PyData.shown] at hQ
    obtain ⟨l⟩ := vs
    cases l with
    | nil =>
      have e : ShwL h₀ [] xs := h4
      cases e
      simp only [PyData.shownAll, listText_nil] at hQ
      exact call_list_repr_empty ⟨o, keep _ _ h1, h2⟩ (keep _ _ h1) h3 (hQ s.heap _ _ fun _ _ e => e)
    | cons x l => exact call_list_reprK h1 h2 h3 apart (by simpa using hk.length_eq) (fun i y e => hk.item i y (by simpa using e)) hg (fun b _ => Clear.nil b) hu keep hQ fits
  | tup h1 h2 h3 h4 =>
    rename_i o vs n xs
    have fits : (tupleText (PyData.shownAll xs)).length ≤ sizeLine := by simpa only [PyData.shown] using hz
    obtain ⟨bs, hb, hk⟩ := ShwL.K (prog := prog) (w := w) h4 (by simpa [PyData.showable] using hs) fun t ht => Nat.le_trans (tupleText_mem_le ht) fits
    obtain ⟨as, q⟩ := ShwL.reads h4
    have apart : a ∉ bs := not_mem_of_deeper (.tuple h1 h2 h3 q) (by simp only [PyData.depth]; omega) hb
    refine ⟨"tuple", "tuple.__repr__", F.slot_tuple_repr, F.slot_tuple_str, F.slot_tuple_format, fun s keep => ⟨o, keep _ _ h1, h2⟩, fun A E s Q hg hu keep hQ => ?_⟩
    simp only [PyData.depth] at hu
    simp only [PyData.shown] at hQ
    exact call_tuple_reprK h1 h2 h3 apart hk hg (fun b _ => Clear.nil b) hu keep hQ fits
  | dic h0 h1 h2 h3 =>
    rename_i o n
    refine ⟨"dict", "dict.__repr__", F.slot_dict_repr, F.slot_dict_str, F.slot_dict_format, fun s keep => ⟨o, keep _ _ h1, h2⟩, fun A E s Q hg hu keep hQ => ?_⟩
    rw [dict0_shown] at hQ hz
    simp only [PyData.depth] at hu
    exact call_dict_reprK h1 h2 h3 h0 (List.not_mem_nil) .nil hg (fun b _ => Clear.nil b) hu keep hQ hz
end
/-! ### over the layer -/
mutual
inductive Dq (K : PySem.W.Frag) (H : Hp) : V → PyData → Prop
  | non : Dq K H .non .none
  | bl (b : Bool) : Dq K H (.bl b) (.bool b)
  | int (i : Int) : Dq K H (.int i) (.int i)
  | str (x : Str) : Dq K H (.str x) (.str x)
  | lst {a : Addr} {xs : List V} {ds : List PyData} : SqL K H a xs → DqL K H xs ds → Dq K H (.ref a) (.list ds)
  | tup {a : Addr} {xs : List V} {ds : List PyData} : SqT K H a xs → DqL K H xs ds → Dq K H (.ref a) (.tuple ds)
  | dic {a : Addr} : Rd H a (.dK []) → Dq K H (.ref a) (.dict [])
inductive DqL (K : PySem.W.Frag) (H : Hp) : List V → List PyData → Prop
  | nil : DqL K H [] []
  | cons {v : V} {vs : List V} {d : PyData} {ds : List PyData} : Dq K H v d → DqL K H vs ds → DqL K H (v :: vs) (d :: ds)
end
section
variable {X : Cx} {K : PySem.W.Frag} {pins : List (Addr × Obj)} {σ : L2.St} {H : Hp} {s : Shared}
mutual
theorem Dq.shw (I : Inv X pins σ H s) : ∀ {v : V} {d : PyData} {u : Value}, Dq X.K H v d → RelV v u → Shw s.heap u d
  | _, _, u, .non, r => by cases r; exact .non
  | _, _, u, .bl b, r => by cases r; exact .bl b
  | _, _, u, .int i, r => by obtain ⟨t, rfl⟩ := r; exact .int i t
  | _, _, u, .str x, r => by obtain ⟨t, rfl⟩ := r; exact .str x t
  | _, _, u, .lst hs ha, r => by
    cases r
    obtain ⟨its, rv, ⟨o, n, ho, hc, _, hd⟩, _⟩ := I.list hs
    exact .lst ho hc hd (DqL.shw I ha rv)
  | _, _, u, .tup hs ha, r => by
    cases r
    obtain ⟨its, rv, ⟨o, ho, hc, n, hd⟩, _⟩ := I.tuple hs
    exact .tup ho hc hd (DqL.shw I ha rv)
  | _, _, u, .dic e, r => by
    cases r
    obtain ⟨_, h0, vs, rel, o, es, ep, ho, hex, hd, _, hp, _⟩ := dk_rd I.hok e
    cases rel
    have e0 : es.toList = [] := by
      generalize es.toList = l at hp
      cases hp; rfl
    have : es = #[] := by
      cases es
      simp at e0; subst e0; rfl
    subst this
    exact .dic h0 ho hex.1 hd
theorem DqL.shw (I : Inv X pins σ H s) : ∀ {vs : List V} {ds : List PyData} {us : List Value}, DqL X.K H vs ds → Vals vs us → ShwL s.heap us ds
  | _, _, _, .nil, .nil => .nil
  | _, _, _, .cons h r, .cons q t => .cons (Dq.shw I h q) (DqL.shw I r t)
end
def rReprQ (K : PySem.W.Frag) : List V → Hp → VK → Prop := fun xs H Q => ∃ x d, xs = [x] ∧ Dq K H x d ∧ (PyData.showable d = true ∧ d.shown.length ≤ sizeLine ∧ d.depth ≤ 64) ∧ Q (.str d.shown) H
theorem cr_reprQ (hq : Quiet X.A) (hu : X.A.units + 66 < cLine) : CallR X (.builtin "repr") (rReprQ X.K) := by
  intro pins s σ H xs us Q I r h
  obtain ⟨x, d, rfl, hd, ⟨h1, h2, h3⟩, q⟩ := h
  obtain ⟨u, rfl, rx⟩ := vals1 r
  have far : ∀ a, u = .ref a → wpAny (model X.prog X.w) X.A (call (.builtin "repr") [u]) (EP X pins σ Q) X.xe s := fun a e => by
    subst e
    obtain ⟨T, idr, S⟩ := Shw.by (prog := X.prog) (w := X.w) (Dq.shw I hd rx) h1 h2
    have keep : ∀ b o, s.heap.get? b = some o → s.heap.get? b = some o := fun _ _ e => e
    refine call_repr_slot (by omega) (S.typeIs s keep) S.slotRepr (S.call X.A.in1 X.xe s _ hq (by show X.A.units + 1 + d.depth < cLine; omega) keep fun h' t tk hk => ⟨_, _, rfl, ?_⟩)
    exact ⟨.str _, H, I.kept (h' := h') (t' := tk) hk, ⟨_, rfl⟩, q⟩
  cases hd with
  | non => obtain rfl := rx; exact P.repr_of_none ⟨.str _, H, I.tok _, ⟨_, rfl⟩, q⟩
  | bl b => obtain rfl := rx; exact P.repr_of_bool ⟨.str _, H, I.tok _, ⟨_, rfl⟩, q⟩
  | int i =>
    obtain ⟨t, rfl⟩ := rx
    exact P.repr_of_int (of_decide_eq_true (by simpa [PyData.showable] using h1)) ⟨.str _, H, I.tok _, ⟨_, rfl⟩, q⟩
  | str z =>
    obtain ⟨t, rfl⟩ := rx
    exact P.repr_of_str (hsz := h2) ⟨.str _, H, I.tok _, ⟨_, rfl⟩, q⟩
  | lst hl hr => exact far _ rx
  | tup hl hr => exact far _ rx
  | dic e => exact far _ rx
end
/-! ### data of trees -/
mutual
def pqS : SD → Option PyData
  | .non => some .none
  | .bl b => some (.bool b)
  | .int i => some (.int i)
  | .str s => some (.str s)
  | .ref _ => none
  | .ty _ => none
  | .exc _ _ => none
  | .ptp _ => none
  | .tup xs => match pqL xs with
    | some ds => some (.tuple ds)
    | none => none
  | .lst xs => match pqL xs with
    | some ds => some (.list ds)
    | none => none
  | .rol xs => match pqL xs with
    | some ds => some (.list ds)
    | none => none
  | .dic [] => some (.dict [])
  | .dic (_ :: _) => none
def pqL : List SD → Option (List PyData)
  | [] => some []
  | d :: r => match pqS d, pqL r with
    | some x, some y => some (x :: y)
    | _, _ => none
end
def pq (μ : Mu) : SD → Option PyData
  | .ref a => match μ a with
    | some (.lst xs) => match pqL xs with
      | some ds => some (.list ds)
      | none => none
    | _ => none
  | d => pqS d
section
variable {K : PySem.W.Frag} {F H : Hp} {μ : Mu}
mutual
theorem RepS.dq (ex : Ext F H) (sub : ∀ a o, F a = some o → H a = some o) : ∀ {d : SD} {v : V} {p : PyData}, RepS K F d v → pqS d = some p → Dq K H v p
  | _, _, _, .non, e => by cases e; exact .non
  | _, _, _, .bl b, e => by cases e; exact .bl b
  | _, _, _, .int b, e => by cases e; exact .int b
  | _, _, _, .str b, e => by cases e; exact .str b
  | _, _, _, .ref _, e => by cases e
  | _, _, _, .ty _, e => by cases e
  | .tup ds, _, _, .tup h r, e => by
    unfold pqS at e
    cases q : pqL ds with
    | none => rw [q] at e; cases e
    | some ps => rw [q] at e; cases e; exact .tup (ex.sqT h) (RepL.dq ex sub r q)
  | .lst ds, _, _, .lst h r, e => by
    unfold pqS at e
    cases q : pqL ds with
    | none => rw [q] at e; cases e
    | some ps => rw [q] at e; cases e; exact .lst (SqL.of (sub _ _ h)) (RepL.dq ex sub r q)
  | .rol ds, _, _, .rol h r, e => by
    unfold pqS at e
    cases q : pqL ds with
    | none => rw [q] at e; cases e
    | some ps => rw [q] at e; cases e; exact .lst (ex.sqL h) (RepL.dq ex sub r q)
  | .dic [], _, _, .dic h q r, e => by
    unfold pqS at e
    cases e
    have : ∀ vs : List (Key × V), vs.map (·.1) = ([] : List (Key × SD)).map (·.1) → vs = [] := fun vs hv => by simpa using hv
    have e2 := this _ q
    subst e2
    exact .dic (ex.rd _ _ h)
  | .dic (_ :: _), _, _, .dic _ _ _, e => by unfold pqS at e; cases e
  | _, _, _, .exc0 _ _, e => by unfold pqS at e; cases e
  | _, _, _, .exc _ _ _ _ _, e => by unfold pqS at e; cases e
  | _, _, _, .ptp _ _ _, e => by unfold pqS at e; cases e
theorem RepL.dq (ex : Ext F H) (sub : ∀ a o, F a = some o → H a = some o) : ∀ {ds : List SD} {vs : List V} {ps : List PyData}, RepL K F ds vs → pqL ds = some ps → DqL K H vs ps
  | _, _, _, .nil, e => by unfold pqL at e; cases e; exact .nil
  | d :: ds, _, _, .cons h r, e => by
    unfold pqL at e
    cases q : pqS d with
    | none => rw [q] at e; cases e
    | some x => cases q2 : pqL ds with
      | none => rw [q, q2] at e; cases e
      | some y => rw [q, q2] at e; cases e; exact .cons (RepS.dq ex sub h q) (RepL.dq ex sub r q2)
end
theorem HReal.dq (R : HReal K F H μ) {d : SD} {v : V} {p : PyData} (r : RepS K F d v) (e : pq μ d = some p) : Dq K H v p := by
  cases r with
  | ref a =>
    unfold pq at e
    simp only at e
    cases q : μ a with
    | none => rw [q] at e; cases e
    | some m =>
      rw [q] at e
      obtain ⟨_, o, h, ro⟩ := R.mus a m q
      cases ro with
      | lst r =>
        rename_i ds vs
        cases q2 : pqL ds with
        | none => simp only [q2] at e; cases e
        | some ps => simp only [q2] at e; cases e; exact .lst (SqL.of h) (RepL.dq R.ext R.sub r q2)
      | _ => cases e
  | non => exact RepS.dq R.ext R.sub .non e
  | bl b => exact RepS.dq R.ext R.sub (.bl b) e
  | int b => exact RepS.dq R.ext R.sub (.int b) e
  | str b => exact RepS.dq R.ext R.sub (.str b) e
  | ty b => cases e
  | tup h r => exact RepS.dq R.ext R.sub (.tup h r) e
  | lst h r => exact RepS.dq R.ext R.sub (.lst h r) e
  | rol h r => exact RepS.dq R.ext R.sub (.rol h r) e
  | dic h q r => exact RepS.dq R.ext R.sub (.dic h q r) e
  | exc0 _ _ => cases e
  | exc _ _ _ _ _ => cases e
  | ptp _ _ _ => cases e
def drReprQ : DRc := fun ds μ Q => match ds with
  | [d] => match pq μ d with
    | some p => (PyData.showable p = true ∧ p.shown.length ≤ sizeLine ∧ p.depth ≤ 64) ∧ Q (.str p.shown) μ
    | none => False
  | _ => False
theorem lc_reprQ : LRc K drReprQ (rReprQ K) := fun F H μ xs ds Q' Q R r t k => by
  cases r with
  | nil => exact False.elim t
  | cons r1 r2 => cases r2 with
    | cons _ _ => exact False.elim t
    | nil =>
      rename_i d v
      cases e : pq μ d with
      | none => simp only [drReprQ, e] at t
      | some p =>
        simp only [drReprQ, e] at t
        exact ⟨v, p, rfl, R.dq r1 e, t.1, k _ μ t.2 F H _ (Stp.refl _ _ _) R (.str _)⟩
end
/-! ### x == (), x != () of tuples -/
section
variable {X : Cx} {K : PySem.W.Frag}
def rT0 (K : PySem.W.Frag) (neg : Bool) : R2 := fun x y H Q => ∃ a b xs, x = .ref a ∧ y = .ref b ∧ SqT K H a xs ∧ SqT K H b [] ∧ Q (.bl (neg != xs.isEmpty)) H
theorem size_vals {xs : List V} {its : List Value} (r : Vals xs its) : (its.toArray.size == (#[] : Array Value).size) = xs.isEmpty := by
  cases r <;> simp
theorem opr_eqT0 (hu : X.A.units + 64 < cLine) : OpR X (compareOp .Eq) (rT0 X.K false) := by
  intro pins s σ H x y v u Q I rx ry h
  obtain ⟨a, b, xs, rfl, rfl, ha, hb, q⟩ := h
  cases rx; cases ry
  obtain ⟨its, r, ht, _⟩ := I.tuple ha
  obtain ⟨its2, r2, ht2, _⟩ := I.tuple hb
  cases r2
  refine SeqAt.eq_tupleAt (e := fun _ => true) (show s.heap.IsTuple a its.toArray from ht) (show s.heap.IsTuple b #[] from ht2) (by omega) (fun j _ h2 => absurd h2 (Nat.not_lt_zero _)) ?_
  refine ⟨.bl _, H, I, rfl, ?_⟩
  rw [size_vals r]
  simpa using q
theorem opr_neT0 (hu : X.A.units + 64 < cLine) : OpR X (compareOp .NotEq) (rT0 X.K true) := by
  intro pins s σ H x y v u Q I rx ry h
  obtain ⟨a, b, xs, rfl, rfl, ha, hb, q⟩ := h
  cases rx; cases ry
  obtain ⟨its, r, ht, _⟩ := I.tuple ha
  obtain ⟨its2, r2, ht2, _⟩ := I.tuple hb
  cases r2
  refine SeqAt.RcNeAt.tuples (e := fun _ => true) (show s.heap.IsTuple a its.toArray from ht) (show s.heap.IsTuple b #[] from ht2) (by omega) (fun j _ h2 => absurd h2 (Nat.not_lt_zero _)) X.prog X.w X.xe _ ?_
  refine ⟨.bl _, H, I, rfl, ?_⟩
  rw [size_vals r]
  simpa using q
def dT0 (neg : Bool) : DR2 := fun x y μ Q => match x with
  | .tup xs => match y with
    | .tup [] => Q (.bl (neg != xs.isEmpty)) μ
    | _ => False
  | _ => False
theorem lr_T0 {neg : Bool} : LR2 K (dT0 neg) (rT0 K neg) := fun F H μ x y dx dy Q' Q R rx ry t k => by
  cases dx with
  | tup xs => cases dy with
    | tup ys => cases ys with
      | nil =>
        cases rx with
        | tup h1 r1 => cases ry with
          | tup h2 r2 =>
            cases r2
            refine ⟨_, _, _, rfl, rfl, R.ext.sqT h1, R.ext.sqT h2, ?_⟩
            exact k _ μ t F H _ (Stp.refl _ _ _) R (by
              have : ∀ vs : List V, RepL K F xs vs → xs.isEmpty = vs.isEmpty := fun vs q => by cases q <;> rfl
              rw [this _ r1]; exact .bl _)
      | cons _ _ => exact False.elim t
    | _ => exact False.elim t
  | _ => exact False.elim t
end
end DS
/-! DS17: == [], != [] of lists of anything. -/
namespace DS
open PySem PySem.Spec PyProof.Rows L2
section
variable {X : Cx} {K : PySem.W.Frag}
def rL0 (K : PySem.W.Frag) (neg : Bool) : R2 := fun x y H Q => ∃ a b xs, x = .ref a ∧ y = .ref b ∧ SqL K H a xs ∧ SqL K H b [] ∧ Q (.bl (neg != xs.isEmpty)) H
theorem opr_eqL0 (hu : X.A.units + 64 < cLine) : OpR X (compareOp .Eq) (rL0 X.K false) := by
  intro pins s σ H x y v u Q I rx ry h
  obtain ⟨a, b, xs, rfl, rfl, ha, hb, q⟩ := h
  cases rx; cases ry
  obtain ⟨its, r, ht, _⟩ := I.list ha
  obtain ⟨its2, r2, ht2, _⟩ := I.list hb
  cases r2
  have l1 : s.heap.IsList a its.toArray := ht.isList
  have l2 : s.heap.IsList b #[] := ht2.isList
  cases r with
  | nil => exact SeqAt.eq_listAt (e := fun _ => true) l1 l2 rfl (by omega) (fun j _ h2 => absurd h2 (Nat.not_lt_zero _)) ⟨.bl _, H, I, rfl, q⟩
  | cons _ _ => exact SeqAt.eq_list_lengthsAt l1 l2 (by simp) (by omega) ⟨.bl _, H, I, rfl, q⟩
theorem opr_neL0 (hu : X.A.units + 64 < cLine) : OpR X (compareOp .NotEq) (rL0 X.K true) := by
  intro pins s σ H x y v u Q I rx ry h
  obtain ⟨a, b, xs, rfl, rfl, ha, hb, q⟩ := h
  cases rx; cases ry
  obtain ⟨its, r, ht, _⟩ := I.list ha
  obtain ⟨its2, r2, ht2, _⟩ := I.list hb
  cases r2
  have l1 : s.heap.IsList a its.toArray := ht.isList
  have l2 : s.heap.IsList b #[] := ht2.isList
  cases r with
  | nil => exact SeqAt.RcNeAt.lists (e := fun _ => true) l1 l2 rfl (by omega) (fun j _ h2 => absurd h2 (Nat.not_lt_zero _)) X.prog X.w X.xe _ ⟨.bl _, H, I, rfl, q⟩
  | cons _ _ => exact SeqAt.RcNeAt.lists_lengths l1 l2 (by simp) (by omega) X.prog X.w X.xe _ ⟨.bl _, H, I, rfl, q⟩
def dL0 (neg : Bool) : DR2 := fun x y μ Q => match lstD μ x, lstD μ y with
  | some xs, some [] => Q (.bl (neg != xs.isEmpty)) μ
  | _, _ => False
theorem lr_L0 {neg : Bool} : LR2 K (dL0 neg) (rL0 K neg) := fun F H μ x y dx dy Q' Q R rx ry t k => by
  unfold dL0 at t
  cases e1 : lstD μ dx with
  | none => rw [e1] at t; exact False.elim t
  | some xs => cases e2 : lstD μ dy with
    | none => rw [e1, e2] at t; exact False.elim t
    | some ys => cases ys with
      | cons _ _ => rw [e1, e2] at t; exact False.elim t
      | nil =>
        rw [e1, e2] at t
        obtain ⟨a, vs, rfl, ha, r1⟩ := R.lst rx e1
        obtain ⟨b, ws, rfl, hb, r2⟩ := R.lst ry e2
        cases r2
        refine ⟨a, b, vs, rfl, rfl, SqL.of ha, SqL.of hb, ?_⟩
        have : xs.isEmpty = vs.isEmpty := by cases r1 <;> rfl
        exact k _ μ t F H _ (Stp.refl _ _ _) R (by rw [this]; exact .bl _)
end
end DS
/-! DS18: errors of own classes, made by a call with keywords: type.__call__, walked. -/
namespace PySem.DSX
open PySem PySem.W PySem.Calls PyProof.Rows PySem.HandSPX
section
variable {prog : Program} {w : World} {A : Around} {h : Heap} {g : Array GenState} {d : Drawn} {t : Nat} {os : OsState} {T newId initId : String} {tl bmT : List Value}
variable {nm qn : Str} {C N : Addr} {bs : List Value} {hd : Bool} {sn : List Str} {sub : List Value} {ab : Bool} {col : Option Bool} {dd : Option Addr} {k0 k1 k2 k3 k5 : Option Value} {kw : List (Str × Value)}
/-- T.__new__(C, k = v, ..) is let in -/
theorem newK_in {M : Model} {E : Value → Shared → Prop} (hC : h.get? C = some (excClassObj nm qn C N bs tl hd sn sub ab col dd k0 k1 k2 k3 k5 newId)) (F : ExcBaseFacts T newId initId bmT) (same : ∀ X : String, tl.contains (.type X) = bmT.contains (.type X)) {Q : Unit → Shared → Prop}
    (hq : Q () ⟨h, g, d, t, os⟩) : wpAny M A (checkBuiltinCall newId ⟨[.ref C], kw⟩) Q E ⟨h, g, d, t, os⟩ := by
  have star := F.noStar
  have isT : (Value.ref C :: tl).contains (.type T) = true := by
    rw [List.contains_cons, same, F.hasB]
    exact Bool.or_true _
  simp only [checkBuiltinCall, F.newKind, F.newSplit, F.newRow]
  repeat (first
    | refine wpAny_loadPart_at hC ?_
    | (refine wpAny_isSubtype_exc hC ?_
       rw [isT])
    | refine wpAny_staticBase_exc hC ?_
    | refine wpAny_madeBy_exc hC ?_
    | simp only [bne_self_eq_false, Bool.false_eq_true, if_false]
    | wp_step)
  exact hq
/-- .. and lays the object -/
theorem newK {R : Result → Shared → Prop} (hC : h.get? C = some (excClassObj nm qn C N bs tl hd sn sub ab col dd k0 k1 k2 k3 k5 newId)) (F : ExcBaseFacts T newId initId bmT) (same : ∀ X : String, tl.contains (.type X) = bmT.contains (.type X))
    (hq : R (.ok (.ret (.ref (h.objs.size + 1)))) ⟨(h.push (kdv_tup [])).push (excO C h.objs.size), g, d, t, os⟩) : codeAny (model prog w) A (.builtin newId ⟨[.ref C], kw⟩) R ⟨h, g, d, t, os⟩ := by
  have ends := F.ends
  have mem : ∀ (X : String) (b : Bool), bmT.contains (.type X) = b → (Value.ref C :: tl).contains (.type X) = b := fun X b e => by
    rw [List.contains_cons, same, e]
    cases b <;> rfl
  have m1 := mem _ _ F.hasB
  have m2 := mem _ _ F.noAttr
  have m3 := mem _ _ F.noName
  refine codeAny_builtinAt F.entry ?_
  unfold Builtin.«BaseException.__new__»
  refine wpAt_bind ?_
  show wpAt _ _ _ (stack >>= _) _ _ _
  refine wpAt_bind (wpAt_stack fun p below => wpAt_of_wpAny ?_)
  wp_walk
  refine wpAt_of_wpAny ?_
  rw [F.owner]
  repeat (first
    | with_reducible refine wpAny_madeHere_exc F.canon hC ?_
    | with_reducible refine wpAny_loadPart_at hC ?_
    | (with_reducible refine wpAny_isSubtype_exc hC ?_
       first | rw [m1] | rw [m2] | rw [m3])
    | wp_step)
  show R _ _
  rw [Heap.size_push]
  exact hq
/-- type.__call__(C, k = v, ..): the object, then C's own __init__ with the keywords -/
theorem typeK {E : Value → Shared → Prop} {fI : Addr} {Q : Fin → Shared → Prop} (hC : h.get? C = some (excClassObj nm qn C N bs tl hd sn sub ab col dd k0 k1 k2 k3 k5 newId)) (F : ExcBaseFacts T newId initId bmT) (same : ∀ X : String, tl.contains (.type X) = bmT.contains (.type X))
    (li : Looks (model prog w) h (typeLookup (.ref C) "__init__") (some (.ref fI))) (lb : ∀ self, Looks (model prog w) h (bindSpecial (.ref fI) self) (.ref fI, [self]))
    (hq : codeAny (model prog w) A (.call (.ref fI) ⟨[.ref (h.objs.size + 1)], kw⟩) (fun r s' => match r with
      | .ok (.ret v) => v = .none ∧ Q (.done (.ret (.ref (h.objs.size + 1)))) s'
      | .ok _ => False
      | .error e => E e s') ⟨(h.push (kdv_tup [])).push (excO C h.objs.size), g, d, t, os⟩) : wpAny (model prog w) A (Builtin.«type.__call__» ⟨[.ref C], kw⟩) Q E ⟨h, g, d, t, os⟩ := by
  have kept : ∀ b o, h.get? b = some o → ((h.push (kdv_tup [])).push (excO C h.objs.size)).get? b = some o := fun b o e => Heap.get?_push_of_some _ (Heap.get?_push_of_some _ e)
  have hC' := kept _ _ hC
  have hO : ((h.push (kdv_tup [])).push (excO C h.objs.size)).get? (h.objs.size + 1) = some (excO C h.objs.size) := by heap_get
  have own : (Value.ref C :: tl).contains (.ref C) = true := by simp
  have li' := li.keeps kept
  have lb' := (lb (.ref (h.objs.size + 1))).keeps kept
  repeat (first
    | with_reducible refine wpAny_loadPart_at hC ?_
    | with_reducible refine wpAny_madeBy_exc hC ?_
    | wp_step)
  refine codeAny_call_builtin_code (Code.quiet_builtin _ F.quiet) (newK_in hC F same ?_)
  refine newK hC F same ?_
  show wpAny _ _ _ _ _ _
  unfold isInstance
  repeat (first
    | with_reducible refine wpAny_loadPart_at hO ?_
    | (with_reducible refine wpAny_isSubtype_exc hC' ?_
       rw [own])
    | wp_step)
  show wpAny _ _ (typeLookup (.ref C) _) _ _ _
  refine li'.at ?_
  refine wpAny_holding (wpAny_bind (lb'.at ?_))
  refine wpAny_bind (wpAny_call (codeAny_mono hq fun r s' z => ?_))
  match r, z with
  | .error _, z => exact z
  | .ok .next, z => exact z.elim
  | .ok .brk, z => exact z.elim
  | .ok .cont, z => exact z.elim
  | .ok (.ret _), z =>
    obtain ⟨rfl, z⟩ := z
    first
      | exact wpAny_pure (wpAny_pure z)
      | (wp_walk; exact z)
theorem typeK_in {M : Model} {E : Value → Shared → Prop} (hC : h.get? C = some (excClassObj nm qn C N bs tl hd sn sub ab col dd k0 k1 k2 k3 k5 newId)) {Q : Unit → Shared → Prop} (hq : Q () ⟨h, g, d, t, os⟩) : wpAny M A (checkBuiltinCall "type.__call__" ⟨[.ref C], kw⟩) Q E ⟨h, g, d, t, os⟩ := by
  have ty : (⟨h, g, d, t, os⟩ : Shared).TypeIs (.ref C) "type" := ⟨_, hC, rfl⟩
  have c3 := tc_sub
  simp only [checkBuiltinCall, tc_kind, tc_split]
  repeat (any_goals (first
    | assumption
    | with_reducible refine wpAny_loadPart_at hC ?_
    | with_reducible refine wpAny_onRaise ?_
    | with_reducible refine wpAny_map ?_
    | wp_step))
theorem callK {R : Result → Shared → Prop} {fI : Addr} (hC : h.get? C = some (excClassObj nm qn C N bs tl hd sn sub ab col dd k0 k1 k2 k3 k5 newId)) (F : ExcBaseFacts T newId initId bmT) (same : ∀ X : String, tl.contains (.type X) = bmT.contains (.type X))
    (li : Looks (model prog w) h (typeLookup (.ref C) "__init__") (some (.ref fI))) (lb : ∀ self, Looks (model prog w) h (bindSpecial (.ref fI) self) (.ref fI, [self]))
    (hq : codeAny (model prog w) (A.under (.builtin "type.__call__" ⟨[.ref C], kw⟩)) (.call (.ref fI) ⟨[.ref (h.objs.size + 1)], kw⟩) (InitBack (h.objs.size + 1) R) ⟨(h.push (kdv_tup [])).push (excO C h.objs.size), g, d, t, os⟩) :
    codeAny (model prog w) A (.call (.ref C) ⟨[], kw⟩) R ⟨h, g, d, t, os⟩ := by
  have ty : (⟨h, g, d, t, os⟩ : Shared).TypeIs (.ref C) "type" := ⟨_, hC, rfl⟩
  have c1 := tc_lookup
  have c2 := tc_bind (.ref C)
  refine codeAny_of_tree ?_
  show wpAny _ _ (callAny (.ref C) _) _ _ _
  repeat (any_goals (first
    | assumption
    | with_reducible refine wpAny_loadPart_at hC ?_
    | wp_step))
  refine ⟨rfl, ?_⟩
  refine codeAny_call_builtin_at (Code.quiet_builtin _ (by decide +kernel)) entry_typeCall (typeK_in hC (typeK hC F same li lb (codeAny_mono hq fun r s' z => ?_)))
  match r, z with
  | .error _, z => exact z
  | .ok .next, z => exact z
  | .ok .brk, z => exact z
  | .ok .cont, z => exact z
  | .ok (.ret _), z => exact z
end
end PySem.DSX
/-! DS19: errors of own classes as values: made, asked for their class, their field read. -/
namespace DS
open PySem PySem.Spec PyProof.Rows L2
/-- an own __init__ of an error's class: B.__init__(self, y); self.f = y -/
def spI (C : Addr) (f : Str) : Sp := fun vs H Q _ => ∃ (a : Addr) (y : V), vs = [.ref a, y] ∧ H a = some (exo a C none) ∧ ∀ dx, H dx = none → dx ≠ a → Q .non (upd (upd H dx (exd dx [(f, y)])) a (exo a C (some dx)))
/-- all that is known of an error's class with an __init__ of its own -/
structure XDef (K : PySem.W.Frag) (mg : Str → Option Value) (x f p qual : Str) (st : Stmt) where
  C : Addr
  fI : Addr
  fd : FuncData
  F : Fun K "__init__" qual st fI fd
  m : mg x = some (.ref C)
  o : OexC K C
  ini : PySem.W.findIn K (.ref C) "__init__" = some (some (.ref fI))
  fn : PySem.W.typeIn K (.ref fI) = some (.type "function")
  b : Binds K fd ["self", p] []
  kb : KBinds K fd ["self", p] [p] (kwG [.inl 0, .inr 0] 1 1) (kwG [.inl 0, .inr 0] 1 1)
  xk : XcK K x C [f]
abbrev XIni (P : Program) (w : World) (base : Heap) {K : PySem.W.Frag} {mg : Str → Option Value} {x f p qual : Str} {st : Stmt} (D : XDef K mg x f p qual st) (k : Nat) : Prop := FnG P w K mg base CX0 k D.fI D.fd ["self", p] (spI D.C f)
/-- what is known of the class whose __init__ is asked -/
structure XBase (K : PySem.W.Frag) (mg : Str → Option Value) (x : Str) where
  C : Addr
  m : mg x = some (.ref C)
  sp : PySem.W.specialIn K (.ref C) "__getattribute__" = some (some (.builtin "type.__getattribute__"))
  rd : PySem.W.readsIn K C (.type "type") = true
  at_ : PySem.W.findCls K (.ref C) (.type "type") "__init__" = some (.val (.builtin "ValueError.__init__"))
section
variable {X : Cx} {pins : List (Addr × Obj)} {σ : L2.St} {H1 : Hp} {s2 s' : Shared} {a C : Addr} {f : Str} {y : V} {u : Value} {Q : VK}
/-- the error is made: from now on it stays as it is -/
theorem xmk_fin (I : Inv X pins σ (upd H1 a (exo a C none)) s2) (na : H1 a = none)
    (z : CE X.stack X.prog X.w (upd H1 a (exo a C none)) s2 (fun v H2 => v = .non ∧ ∃ dx, H1 dx = none ∧ dx ≠ a ∧ H2 = upd (upd (upd H1 a (exo a C none)) dx (exd dx [(f, y)])) a (exo a C (some dx))) u s')
    (h : ∀ dx, H1 dx = none → dx ≠ a → Q (.ref a) (upd (upd H1 dx (.xd [(f, y)])) a (exq a C (some dx)))) : u = .none ∧ EP X pins σ Q (.ref a) s' := by
  obtain ⟨v, H2, I3, rv, ev, dx, n, ne, rfl⟩ := I.after z
  subst ev
  refine ⟨rv, ?_⟩
  have hd : upd (upd (upd H1 a (exo a C none)) dx (exd dx [(f, y)])) a (exo a C (some dx)) dx = some (exd dx [(f, y)]) := by rw [upd_ne ne, upd_same]
  obtain ⟨mA, hn, rel⟩ := exd_at I3.hok hd
  have J1 := I3.write (t' := s'.toks) (h' := s'.heap) (x := dx) (e := dx) (o := .xd [(f, y)]) (by rw [hd]; exact True.intro) (.inl rfl) (fun _ _ _ e => e) (let ⟨o, _, _, e, _⟩ := hn; ⟨o, e⟩) ⟨mA, hn, rel⟩
  have ha : upd (upd (upd (upd H1 a (exo a C none)) dx (exd dx [(f, y)])) a (exo a C (some dx))) dx (.xd [(f, y)]) a = some (exo a C (some dx)) := by rw [upd_ne (Ne.symm ne), upd_same]
  obtain ⟨t1, ho⟩ := exo_at J1.hok ha
  have J2 := J1.write (t' := s'.toks) (h' := s'.heap) (x := a) (e := a) (o := exq a C (some dx)) (by rw [ha]; exact True.intro) (.inl rfl) (fun _ _ _ e => e) ⟨_, ho⟩
    ⟨⟨_, _, ho, ⟨rfl, rfl⟩, rfl⟩, ⟨_, ho⟩, fun _ _ ⟨oe, vs, e1, e2, e3⟩ k => ⟨oe, vs, k _ e1, e2, e3⟩⟩
  have e : upd (upd (upd (upd (upd H1 a (exo a C none)) dx (exd dx [(f, y)])) a (exo a C (some dx))) dx (.xd [(f, y)])) a (exq a C (some dx)) = upd (upd H1 dx (.xd [(f, y)])) a (exq a C (some dx)) := by
    funext b
    by_cases h1 : b = a
    · rw [h1, upd_same, upd_same]
    · rw [upd_ne h1, upd_ne h1]
      by_cases h2 : b = dx
      · rw [h2, upd_same, upd_same]
      · rw [upd_ne h2, upd_ne h2, upd_ne h1, upd_ne h2, upd_ne h1]
  rw [e] at J2
  exact ⟨V.ref a, _, J2, rfl, h dx n ne⟩
end
def tXmk (C : Addr) (f : Str) (te : TE) : TE := fun σ H Q => te σ H fun y H1 => ∀ a dx, H1 a = none → H1 dx = none → dx ≠ a → Q (.ref a) (upd (upd H1 dx (.xd [(f, y)])) a (exq a C (some dx)))
section
variable {X : Cx} {x f q qual : Str} {st : Stmt} {k : Nat} {e : Expr} {te : TE} {p pos kpos : Pos}
theorem xmk_go {D : XDef X.K X.mg x f q qual st} (F : XIni X.prog X.w X.base D k) (hq : Quiet X.A) (hr : Room (k + 1) X.A) {pins : List (Addr × Obj)} {σ : L2.St} {H1 : Hp} {s1 : Shared} {y : V} {u : Value} {Q : VK} (I : Inv X pins σ H1 s1) (r : RelV y u)
    (h : ∀ a dx, H1 a = none → H1 dx = none → dx ≠ a → Q (.ref a) (upd (upd H1 dx (.xd [(f, y)])) a (exq a D.C (some dx)))) (us : List Value) (kw : List (Str × Value)) (hus : (us = [u] ∧ kw = []) ∨ (us = [] ∧ kw = ([q] : List Str).zip [u])) :
    wpAny (model X.prog X.w) X.A (call (.ref D.C) us kw) (EP X pins σ Q) X.xe s1 := by
  obtain ⟨nm, qn, N, bs, bm, sn, sub, ab, col, dd, k0, k1, k2, k3, k5, hC, hbm⟩ := D.o.cls
  obtain ⟨hp, g, dr, tk, os⟩ := s1
  have old : ∀ b o, hp.get? b = some o → ((hp.push (PySem.W.kdv_tup us)).push (PySem.HandSPX.excO D.C hp.objs.size)).get? b = some o := fun b o e => Heap.get?_push_of_some _ (Heap.get?_push_of_some _ e)
  have new : ((hp.push (PySem.W.kdv_tup us)).push (PySem.HandSPX.excO D.C hp.objs.size)).get? (hp.objs.size + 1) = some (PySem.HandSPX.excO D.C hp.objs.size) := by heap_get
  have na : H1 (hp.objs.size + 1) = none := I.hok.fresh (Nat.le_succ _)
  have J := I.laid (t' := tk) (a := hp.objs.size + 1) (o := exo (hp.objs.size + 1) D.C none) (h' := (hp.push (PySem.W.kdv_tup us)).push (PySem.HandSPX.excO D.C hp.objs.size)) old (Nat.le_succ _) (exo_ok new)
  have want : spI D.C f [.ref (hp.objs.size + 1), y] (upd H1 (hp.objs.size + 1) (exo (hp.objs.size + 1) D.C none))
      (fun v H2 => v = .non ∧ ∃ dx, H1 dx = none ∧ dx ≠ hp.objs.size + 1 ∧ H2 = upd (upd (upd H1 (hp.objs.size + 1) (exo (hp.objs.size + 1) D.C none)) dx (exd dx [(f, y)])) (hp.objs.size + 1) (exo (hp.objs.size + 1) D.C (some dx))) E0 :=
    ⟨_, y, rfl, upd_same, fun dx n ne => ⟨rfl, dx, by rw [upd_ne ne] at n; exact n, ne, rfl⟩⟩
  have vals : Vals [V.ref (hp.objs.size + 1), y] [Value.ref (hp.objs.size + 1), u] := .cons rfl (.cons r .nil)
  have binds : BindsTo ⟨(hp.push (PySem.W.kdv_tup us)).push (PySem.HandSPX.excO D.C hp.objs.size), g, dr, tk, os⟩ D.fd ⟨.ref (hp.objs.size + 1) :: us, kw⟩ ((["self", q] : List Str).zip [.ref (hp.objs.size + 1), u]) := by
    rcases hus with ⟨rfl, rfl⟩ | ⟨rfl, rfl⟩
    · exact D.b _ [_, _] J.kIn rfl
    · exact D.kb.to _ [_] [_] J.kIn rfl
  have go := F.go (X.A.under (.builtin "type.__call__" ⟨.ref D.C :: us, kw⟩)) X.stack _ _ _ _ _ _ E0 (quiet_make hq D.C us kw) (hr.make D.C us kw) (J.env0.make D.C us kw) binds vals want
  have back : codeAny (model X.prog X.w) X.A (.call (.ref D.C) ⟨us, kw⟩) (fun r s' => match r with
      | .ok (.ret u) => EP X pins σ Q u s'
      | .ok _ => False
      | .error e => X.xe e s') ⟨hp, g, dr, tk, os⟩ := by
    have fin : codeAny (model X.prog X.w) (X.A.under (.builtin "type.__call__" ⟨.ref D.C :: us, kw⟩)) (.call (.ref D.fI) ⟨.ref (hp.objs.size + 1) :: us, kw⟩) (PySem.W.InitBack (hp.objs.size + 1) (fun r s' => match r with
      | .ok (.ret u) => EP X pins σ Q u s'
      | .ok _ => False
      | .error e => X.xe e s')) ⟨(hp.push (PySem.W.kdv_tup us)).push (PySem.HandSPX.excO D.C hp.objs.size), g, dr, tk, os⟩ := by
      refine codeAny_mono go fun r s' z => ?_
      match r, z with
      | .error _, z => exact False.elim z
      | .ok .next, z => exact False.elim z
      | .ok .brk, z => exact False.elim z
      | .ok .cont, z => exact False.elim z
      | .ok (.ret u), z => exact xmk_fin J na z fun dx n ne => h _ dx na n ne
    have look := PySem.W.looks_findIn (M := model X.prog X.w) I.kIn D.ini
    have same := fun Y : String => PySem.HandSPX.refsVE_contains Y bm hbm
    have bnd := fun self => PySem.W.bind_fn (M := model X.prog X.w) I.kIn self D.fn
    rcases hus with ⟨rfl, rfl⟩ | ⟨rfl, rfl⟩
    · exact PySem.HandSPX.call_own PySem.F.excBase_ValueError same (I.kIn _ _ hC) look bnd (by show 1 ≤ sizeLine; decide) fin
    · exact PySem.DSX.callK (I.kIn _ _ hC) PySem.F.excBase_ValueError same look bnd fin
  refine wpAny_call (codeAny_mono back fun r s' z => ?_)
  match r, z with
  | .error _, z => exact z
  | .ok .next, z => exact z
  | .ok .brk, z => exact z
  | .ok .cont, z => exact z
  | .ok (.ret _), z => exact z
end
section
variable {X : Cx} {x f q qual B : Str} {st : Stmt} {k n : Nat} {e : Expr} {es : List Expr} {te : TE} {t : TA} {p p1 p2 p3 p4 p5 p6 p7 p8 p9 p10 pos kpos : Pos}
/-- B.__init__(e, ..), B an own class of errors -/
theorem pe_bini (D : XBase X.K X.mg B) (hg : Gl X B) (ha : PA X (e :: es) t) (hdb : (B == ("__debug__" : Str)) = false) {pl : Sem Bool}
    (hc : eval (.Call (.Attribute (.Name B p1) "__init__" p2) (e :: es) [] pos) X.env = (do
      let ov ← eval (.Name B p1) X.env
      standAt p2.atName
      let (f, first) ← holding [ov] (getMethod ov "__init__" pl)
      callWith pos f first (backTo pos (starEach (e :: es) X.env)) (backToKw pos (keywordEach [] X.env))))
    (he : starEach (e :: es) X.env = (false, eval e X.env) :: starEach es X.env := by rfl) (hpl : (backTo pos (starEach es X.env)).any (·.1) = false := by rfl) :
    PE X (.Call (.Attribute (.Name B p1) "__init__" p2) (e :: es) [] pos) (tVeI X.K t) := by
  refine ⟨fun pins s σ H Q I h => ?_⟩
  refine PySem.W.methodCall_KW (ld_glob I hg D.m ?_ hdb) hc
  refine PySem.W.method_cls I.kIn D.sp (PySem.W.cls_value I.kIn D.rd D.at_ (by decide +kernel) ?_)
  show wpAny _ _ (callWith pos (Value.builtin "ValueError.__init__") [] (backTo pos (starEach (e :: es) X.env)) []) _ _ _
  refine PyProof.Rows.callWith_method1 (thn (ha.run pos pins _ σ H _ (I.tok _) h) fun us s1 ⟨vs, H1, I1, r1, a, C, ws, ev, hl, T, ea, q⟩ => ?_) he hpl
  subst ev
  match us, r1 with
  | _ :: us, .cons r0 r1 =>
    cases r0
    exact oinit_ok T I1 ea (by rw [← r1.length, sizeLine_eq]; omega) fun s' J => ⟨.non, H1, J, rfl, q⟩
/-- self.f = y behind it: the whole __init__ -/
theorem xini_ok {P : Program} {w : World} {K : PySem.W.Frag} {mg : Str → Option Value} {base : Heap} (D : XDef K mg x f q qual st) (Z : XBase K mg B) (S : FnScope ["self", q] ["self", q] (defScope st))
    (hb : defBody st = [.Expr (.Call (.Attribute (.Name B p1) "__init__" p2) [.Name "self" p3, .Name q p4] [] p5) p6, .Assign [.Attribute (.Name "self" p7) f p8] (.Name q p9) p10])
    (hg : (defScope st).names.lookup B = some .globalImplicit) (v0 : Vis (defScope st) "self") (v1 : Vis (defScope st) q) (hdb : (B == ("__debug__" : Str)) = false) (hq1 : (q == ("__debug__" : Str)) = false) (hq2 : (q == ("__classdict__" : Str)) = false)
    (hc : ∀ (L : Addr) (cdv : Value), ∃ pl : Sem Bool, eval (.Call (.Attribute (.Name B p1) "__init__" p2) [.Name "self" p3, .Name q p4] [] p5) (envOfC qual (defScope st) L D.fI cdv) = (do
      let ov ← eval (.Name B p1) (envOfC qual (defScope st) L D.fI cdv)
      standAt p2.atName
      let (f, first) ← holding [ov] (getMethod ov "__init__" pl)
      callWith p5 f first (backTo p5 (starEach [.Name "self" p3, .Name q p4] (envOfC qual (defScope st) L D.fI cdv))) (backToKw p5 (keywordEach [] (envOfC qual (defScope st) L D.fI cdv))))) : XIni P w base D 2 := by
  obtain ⟨oc, od, kV, doc, pm, an, cdv, ct, osl, e, lk, hcd⟩ := D.F.ex
  unfold XIni
  rw [e] at lk ⊢
  refine fnG_of lk hcd S (fun vs H Q E h => by obtain ⟨_, _, rfl, _⟩ := h; rfl) fun A outer s H vs Q E quiet room want => ?_
  obtain ⟨a, y, rfl, ea, k⟩ := want
  obtain ⟨pl, hpl⟩ := hc s.heap.objs.size cdv
  refine ⟨_, by
    rw [hb]
    exact pss_cons (ps_expr (pe_bini (t := tCons (tVar 0) (tCons (tVar 1) tNil)) Z hg (pa_cons (pe_var (i := 0) rfl v0) (pa_cons (pe_var (i := 1) rfl v1 hq1 hq2) pa_nil)) hdb hpl)) (pss_one (ps_ost (pe_var (i := 0) rfl v0) (pe_var (i := 1) rfl v1 hq1 hq2))), ?_⟩
  exact ⟨.ref a, rfl, y, rfl, a, D.C, [y], rfl, (by show 1 ≤ 1000; decide), D.o, ea, y, rfl, .ref a, rfl, a, D.C, rfl, D.o, D.xk.no f (List.mem_cons_self ..), .inl ⟨ea, k⟩⟩
theorem pe_xmk {D : XDef X.K X.mg x f q qual st} (F : XIni X.prog X.w X.base D k) (hq : Quiet X.A) (hr : Room n X.A) (ha : PE X e te) (hk : k + 1 ≤ n := by omega) (hg : Gl X x := by rfl) (hdb : (x == ("__debug__" : Str)) = false := by decide)
    (he : starEach [e] X.env = (false, eval e X.env) :: starEach [] X.env := by rfl) : PE X (.Call (.Name x p) [e] [] pos) (tXmk D.C f te) := by
  refine ⟨fun pins s σ H Q I h => ?_⟩
  refine wpAny_Call_Name_kw (ld_glob I hg D.m ?_ hdb)
  refine PySem.W.callWith_K (h₀ := X.base) I.ok.mod.kin D.o.kC (thn ((pa_cons ha pa_nil he).run pos pins s σ H (fun vs H1 => match vs with | [y] => ∀ a dx, H1 a = none → H1 dx = none → dx ≠ a → Q (.ref a) (upd (upd H1 dx (.xd [(f, y)])) a (exq a D.C (some dx))) | _ => False) I h) fun us s1 z => ?_) he (by rfl)
  obtain ⟨vs, H1, I1, r1, q1⟩ := z
  match vs, us, r1, q1 with
  | [y], [u], .cons r0 .nil, q1 => exact ⟨I1.kIn, xmk_go F hq (hr.mono hk) I1 r0 q1 [u] [] (.inl ⟨rfl, rfl⟩)⟩
  | [], _, _, q1 => exact q1.elim
  | _ :: _ :: _, _, _, q1 => exact q1.elim
theorem pe_xmkK {D : XDef X.K X.mg x f q qual st} {kws : List Keyword} {tk : TA} (F : XIni X.prog X.w X.base D k) (hq : Quiet X.A) (hr : Room n X.A) (hkw : PK X kws tk) (hk : k + 1 ≤ n := by omega) (hg : Gl X x := by rfl) (hdb : (x == ("__debug__" : Str)) = false := by decide)
    (hall : (backToKw pos (keywordEach kws X.env)).all (·.1.isSome) = true := by rfl) (hks : (backToKw pos (keywordEach kws X.env)).filterMap (·.1) = [q] := by rfl) (hpl : ((backToKw pos (keywordEach kws X.env)).any (·.1.isNone)) = false := by rfl) :
    PE X (.Call (.Name x p) [] kws pos) (fun σ H Q => tk σ H fun vs H1 => match vs with | [y] => ∀ a dx, H1 a = none → H1 dx = none → dx ≠ a → Q (.ref a) (upd (upd H1 dx (.xd [(f, y)])) a (exq a D.C (some dx))) | _ => False) := by
  refine ⟨fun pins s σ H Q I h => ?_⟩
  refine wpAny_Call_Name_kw (ld_glob I hg D.m ?_ hdb)
  refine PySem.W.callWith_KW0 (h₀ := X.base) I.ok.mod.kin D.o.kC hall (thn (hkw.run pos pins s σ H _ I h) fun ws s1 z => ?_) (by show (_ || _) = false; rw [hpl]; rfl)
  obtain ⟨vs, H1, I1, r1, q1⟩ := z
  rw [hks]
  match vs, ws, r1, q1 with
  | [y], [u], .cons r0 .nil, q1 => exact ⟨I1.kIn, xmk_go F hq (hr.mono hk) I1 r0 q1 [] _ (.inr ⟨rfl, rfl⟩)⟩
  | [], _, _, q1 => exact q1.elim
  | _ :: _ :: _, _, _, q1 => exact q1.elim
end
/-- C(e): the error with its field -/
abbrev dXmk (x f : Str) (te : DTE) : DTE := fun ρ μ Q => te ρ μ fun d μ1 => Q (.exc x [(f, d)]) μ1
def dXmkK (x f : Str) (t : DTA) : DTE := fun ρ μ Q => t ρ μ fun ds μ1 => match ds with
  | [d] => Q (.exc x [(f, d)]) μ1
  | _ => False
/-- a class of errors without an __init__ of its own -/
structure XDef0 (K : PySem.W.Frag) (mg : Str → Option Value) (x : Str) where
  C : Addr
  m : mg x = some (.ref C)
  ex : PySem.W.excIn K C [.type "ValueError", .type "Exception", .type "BaseException", .type "object"] "ValueError.__new__" = true
  kC : PySem.W.keepIn K (.ref C) = true
  xk : XcK K x C []
section
variable {X : Cx} {x f q qual : Str} {st : Stmt} {k n : Nat} {e : Expr} {te : DTE} {t : DTA} {p pos kpos : Pos}
theorem rep_xmk {K : PySem.W.Frag} {F1 H1 : Hp} {μ1 : Mu} {x f : Str} {C a dx : Addr} {d : SD} {v : V} (c : XcK K x C [f]) (R1 : HReal K F1 H1 μ1) (r1 : RepS K F1 d v) (na : H1 a = none) (nd : H1 dx = none) (ne : dx ≠ a) :
    ∃ F2, Stp F1 H1 μ1 F2 (upd (upd H1 dx (.xd [(f, v)])) a (exq a C (some dx))) μ1 ∧ HReal K F2 (upd (upd H1 dx (.xd [(f, v)])) a (exq a C (some dx))) μ1 ∧ RepS K F2 (.exc x [(f, d)]) (.ref a) := by
  have n2 : upd H1 dx (.xd [(f, v)]) a = none := by rw [upd_ne (Ne.symm ne)]; exact na
  have RA := R1.newS (o := .xd [(f, v)]) nd
  have SA := Stp.newS R1 (o := .xd [(f, v)]) nd
  refine ⟨_, SA.trans (Stp.newS RA (o := exq a C (some dx)) n2), RA.newS n2, ?_⟩
  exact .exc (ds := [(f, d)]) (vs := [(f, v)]) c upd_same (by rw [upd_ne ne, upd_same]) rfl (RepL.one ((r1.mono SA.ext).mono (Stp.newS RA (o := exq a C (some dx)) n2).ext))
theorem de_xmk {D : XDef X.K X.mg x f q qual st} (F : XIni X.prog X.w X.base D k) (hq : Quiet X.A) (hr : Room n X.A) (ha : DE X e te) (hk : k + 1 ≤ n := by omega) (hg : Gl X x := by rfl) (hdb : (x == ("__debug__" : Str)) = false := by decide)
    (he : starEach [e] X.env = (false, eval e X.env) :: starEach [] X.env := by rfl) : DE X (.Call (.Name x p) [e] [] pos) (dXmk x f te) := weakE (pe_xmk F hq hr ha hk hg hdb he) fun σ H Q h => by
  obtain ⟨F, ρ, μ, Q', R, S, t, k⟩ := h
  refine ⟨F, ρ, μ, _, R, S, t, fun d μ1 t1 F1 H1 v s1 R1 r1 a dx na nd ne => ?_⟩
  obtain ⟨F2, s2, R2, r2⟩ := rep_xmk D.xk R1 r1 na nd ne
  exact k _ μ1 t1 F2 _ _ (s1.trans s2) R2 r2
theorem de_xmkK {D : XDef X.K X.mg x f q qual st} {kws : List Keyword} (F : XIni X.prog X.w X.base D k) (hq : Quiet X.A) (hr : Room n X.A) (ha : DK X kws t) (hk : k + 1 ≤ n := by omega) (hg : Gl X x := by rfl) (hdb : (x == ("__debug__" : Str)) = false := by decide)
    (hall : (backToKw pos (keywordEach kws X.env)).all (·.1.isSome) = true := by rfl) (hks : (backToKw pos (keywordEach kws X.env)).filterMap (·.1) = [q] := by rfl) (hpl : ((backToKw pos (keywordEach kws X.env)).any (·.1.isNone)) = false := by rfl) :
    DE X (.Call (.Name x p) [] kws pos) (dXmkK x f t) := weakE (pe_xmkK F hq hr ha hk hg hdb hall hks hpl) fun σ H Q h => by
  obtain ⟨F, ρ, μ, Q', R, S, t, k⟩ := h
  refine ⟨F, ρ, μ, _, R, S, t, fun ds μ1 t1 F1 H1 vs s1 R1 r1 => ?_⟩
  match ds, vs, r1, t1 with
  | [d], [v], .cons r1 .nil, t1 =>
    intro a dx na nd ne
    obtain ⟨F2, s2, R2, r2⟩ := rep_xmk D.xk R1 r1 na nd ne
    exact k _ μ1 t1 F2 _ _ (s1.trans s2) R2 r2
  | [], _, _, t1 => exact t1.elim
  | _ :: _ :: _, _, _, t1 => exact t1.elim
theorem de_xmk0 {D : XDef0 X.K X.mg x} (hg : Gl X x := by rfl) (hdb : (x == ("__debug__" : Str)) = false := by decide) : DE X (.Call (.Name x p) [] [] pos) (dC (.exc x [])) := by
  refine ⟨fun pins s σ H Q I h => ?_⟩
  obtain ⟨F, ρ, μ, Q', R, S, t, k⟩ := h
  refine wpAny_Call_Name_kw (ld_glob I hg D.m ?_ hdb)
  refine PySem.W.callWith_K0 I.kIn D.kC ?_
  show wpAny _ _ (call (.ref D.C) []) _ _ _
  obtain ⟨bm, N, nm, qn, bs, hdct, sn, sub, ab, col, dd, k0, k1, k2, k3, k5, mN, hC, hN, hni, T⟩ := exc_obj I.kIn D.ex
  refine wpAny_call_exc_subT PySem.F.excBase_ValueError T hC hN hni (fun h' a hm => ?_) (by show 0 ≤ sizeLine; exact Nat.zero_le _)
  have n : H a = none := I.hok.gone hm.new
  obtain ⟨tt, ht, _, _⟩ := hm.there
  exact ⟨V.ref a, upd H a (exq a D.C none), I.laidN hm.keeps hm.new n ⟨⟨_, _, ht, ⟨rfl, rfl⟩, rfl⟩, ⟨_, ht⟩, fun _ _ ⟨oe, vs, e1, e2, e3⟩ kk => ⟨oe, vs, kk _ e1, e2, e3⟩⟩, rfl,
    k _ μ t _ _ _ (Stp.newS R n) (R.newS n) (.exc0 D.xk upd_same)⟩
end
/-! ### isinstance -/
def rX (K : PySem.W.Frag) (c : V) (cv : Value) : List V → Hp → VK → Prop := fun xs H Q => ∃ (a C : Addr) (od : Option Addr) (b : Bool) (x : Str) (fs : List Str), xs = [.ref a, c] ∧ H a = some (exq a C od) ∧ (∀ d, od = some d → ∃ vs, H d = some (.xd vs)) ∧ XcK K x C fs ∧ PySem.W.kitOne K (.ref C) cv = some b ∧ Q (.bl b) H
section
variable {X : Cx} {c : V} {cv : Value}
theorem call_x (hcv : ∀ u, RelV c u → u = cv) : CallR X (.builtin "isinstance") (rX X.K c cv) := by
  intro pins s σ H xs us Q I r h
  obtain ⟨a, C, od, b, x, fs, rfl, ea, ed, T, e, q⟩ := h
  match us, r with
  | [_, u], .cons r0 (.cons r1 .nil) =>
    cases r0
    have eu := hcv _ r1
    subst eu
    obtain ⟨⟨oe, vs, e1, ⟨z1, z2⟩, e3⟩, _, _⟩ := I.hok a _ ea
    have cls : (PySem.W.clsIn X.K C).isSome = true := by
      obtain ⟨cd, hc, _⟩ := PySem.W.any_some T.hd
      rw [hc]; rfl
    have no : PySem.W.notCls oe = true := by unfold PySem.W.notCls; rw [e3] <;> rfl
    have at_ : ∃ o : Option Obj, PySem.W.InstAt s.heap a oe C o := by
      cases q2 : od with
      | none => exact ⟨none, e1, z1, no, by rw [z2, q2]; exact True.intro⟩
      | some d =>
        obtain ⟨ws, hd⟩ := ed d q2
        have hx : ObjOk X.prog X.w H s.heap d (.xd ws) := I.hok d _ hd
        obtain ⟨mA, ⟨o, es, ep, ho, _⟩, _⟩ := hx
        exact ⟨some o, e1, z1, no, by rw [z2, q2]; exact ho⟩
    obtain ⟨o, J⟩ := at_
    exact PySem.W.kia_one (PySem.W.kitx_exc cls T.ga T.gg T.sub T.cl T.sp T.tk T.mro) I.kIn J e (fun z => nomatch z) fun tk => ⟨.bl b, H, I.kept (t' := tk) fun _ _ z => z, rfl, q⟩
end
/-- isinstance(an error, one class): kx says what for the class named -/
def isQ (kx : Str → Option Bool) (Q : SD → Mu → Prop) : SD → Mu → Prop := fun d μ => match d with
  | .exc x _ => (match kx x with
    | some b => Q (.bl b) μ
    | none => False)
  | _ => False
abbrev dIsX (kx : Str → Option Bool) (te : DTE) : DTE := fun ρ μ Q => te ρ μ (isQ kx Q)
section
variable {X : Cx} {x f : Str} {C : Addr} {e : Expr} {te : DTE} {p p2 pos : Pos} {kx : Str → Option Bool} {T : String}
theorem isx_go {c : SD} {v : V} {cv : Value} {Q' : SD → Mu → Prop} {Q : VK} {K : PySem.W.Frag} {F H : Hp} {μ : Mu} (hc : plain c = some v) (hk : ∀ x b C, kx x = some b → PySem.W.nsIn K mainGlobals x = some (some (.ref C)) → PySem.W.kitOne K (.ref C) cv = some b) {d : SD} {w : V} (R : HReal K F H μ) (r1 : RepS K F d w) (t : isQ kx Q' d μ)
    (k : ∀ d' μ', Q' d' μ' → ∀ F' H' v, Stp F H μ F' H' μ' → HReal K F' H' μ' → RepS K F' d' v → Q v H') : rX K v cv [w, v] H Q := by
  unfold isQ at t
  cases r1 with
  | exc0 T q =>
    simp only at t
    split at t
    · rename_i b e
      exact ⟨_, _, none, b, _, [], rfl, R.sub _ _ q, fun _ z => (by cases z), T, hk _ _ _ e T.at_, k _ _ t _ _ _ (Stp.refl _ _ _) R (.bl b)⟩
    · exact t.elim
  | exc T q q2 z r3 =>
    simp only at t
    split at t
    · rename_i b e
      exact ⟨_, _, some _, b, _, _, rfl, R.sub _ _ q, fun d z => (by cases z; exact ⟨_, R.sub _ _ q2⟩), T, hk _ _ _ e T.at_, k _ _ t _ _ _ (Stp.refl _ _ _) R (.bl b)⟩
    · exact t.elim
  | _ => exact t.elim
theorem isx_lift {c : SD} {v : V} {cv : Value} (hc : plain c = some v) (hk : ∀ x b C, kx x = some b → PySem.W.nsIn X.K mainGlobals x = some (some (.ref C)) → PySem.W.kitOne X.K (.ref C) cv = some b) (σ : L2.St) (H : Hp) (Q : VK) (h : LE X.K (dIsX kx te) σ H Q) :
    LA X.K (dCons te (dCons (dC c) dNil)) σ H (fun xs H1 => rX X.K v cv xs H1 Q) := by
  obtain ⟨F, ρ, μ, Q', R, S, t, k⟩ := h
  refine ⟨F, ρ, μ, fun ds μ1 => match ds with
    | [d, c'] => c' = c ∧ isQ kx Q' d μ1
    | _ => False, R, S, ?_, fun ds μ1 t1 F1 H1 vs s1 R1 r1 => ?_⟩
  · have mono : (fun (d : SD) (μ1 : Mu) => c = c ∧ isQ kx Q' d μ1) = isQ kx Q' := by
      funext d μ1
      exact propext ⟨fun z => z.2, fun z => ⟨rfl, z⟩⟩
    show te ρ μ (fun d μ1 => c = c ∧ isQ kx Q' d μ1)
    rw [mono]
    exact t
  · match ds, vs, r1, t1 with
    | [d, c'], [w, w'], .cons ra (.cons rb .nil), t2 =>
      have t3 : c' = c ∧ isQ kx Q' d μ1 := t2
      have ew : w' = v := by
        rw [t3.1] at rb
        exact rb.isPlain hc
      rw [ew]
      exact isx_go hc hk R1 ra t3.2 fun d' μ' q F' H' v' s R' r' => k d' μ' q F' H' v' (s1.trans s) R' r'
    | [], _, _, t1 => exact t1.elim
    | [_], _, _, t1 => exact t1.elim
    | _ :: _ :: _ :: _, _, _, t1 => exact t1.elim
theorem de_isX {D : Addr} (ha : DE X e te) (hI : Gl X "isinstance") (zI : X.mg "isinstance" = none) (hg : Gl X x) (hm : X.mg x = some (.ref D)) (hk : ∀ y b C, kx y = some b → PySem.W.nsIn X.K mainGlobals y = some (some (.ref C)) → PySem.W.kitOne X.K (.ref C) (.ref D) = some b)
    (hdb : (x == ("__debug__" : Str)) = false := by decide) (he : starEach [e, .Name x p2] X.env = (false, eval e X.env) :: starEach [.Name x p2] X.env := by rfl) (he2 : starEach [.Name x p2] X.env = (false, eval (.Name x p2) X.env) :: starEach [] X.env := by rfl)
    (hpl : (backTo pos (starEach [.Name x p2] X.env)).any (·.1) = false := by rfl) : DE X (.Call (.Name "isinstance" p) [e, .Name x p2] [] pos) (dIsX kx te) :=
  weakE (pe_callB (call_x (c := .ref D) (cv := .ref D) fun u r => r) hI zI bt_isinstance (da_cons ha (da_cons (de_glob (d := .ref D) (v := .ref D) hg hm rfl rfl hdb) da_nil he2) he) (by decide) (by decide) he hpl) (isx_lift (v := .ref D) rfl hk)
theorem de_isXT (ha : DE X e te) (hI : Gl X "isinstance") (zI : X.mg "isinstance" = none) (hg : Gl X x) (hm : X.mg x = none) (hv : bootBuiltins x = some (.type T)) (hk : ∀ y b C, kx y = some b → PySem.W.nsIn X.K mainGlobals y = some (some (.ref C)) → PySem.W.kitOne X.K (.ref C) (.type T) = some b)
    (hdb : (x == ("__debug__" : Str)) = false := by decide) (hn : x ≠ "__name__" := by decide) (he : starEach [e, .Name x p2] X.env = (false, eval e X.env) :: starEach [.Name x p2] X.env := by rfl) (he2 : starEach [.Name x p2] X.env = (false, eval (.Name x p2) X.env) :: starEach [] X.env := by rfl)
    (hpl : (backTo pos (starEach [.Name x p2] X.env)).any (·.1) = false := by rfl) : DE X (.Call (.Name "isinstance" p) [e, .Name x p2] [] pos) (dIsX kx te) :=
  weakE (pe_callB (call_x (c := .ty T) (cv := .type T) fun u r => r) hI zI bt_isinstance (da_cons ha (da_cons (de_ty hg hm hv hn hdb) da_nil he2) he) (by decide) (by decide) he hpl) (isx_lift (v := .ty T) rfl hk)
end
/-! ### the field of an error -/
def tXfl (K : PySem.W.Frag) (f : Str) (te : TE) : TE := fun σ H Q => te σ H fun x H1 => ∃ (a C dx : Addr) (fs : List (Str × V)) (v : V) (y : Str) (ns : List Str), x = .ref a ∧ H1 a = some (exq a C (some dx)) ∧ H1 dx = some (.xd fs) ∧ fs.lookup f = some v ∧ XcK K y C ns ∧ f ∈ ns ∧ Q v H1
def dFld (f : Str) (te : DTE) : DTE := fun ρ μ Q => te ρ μ fun d μ1 => match d with
  | .exc _ fs => (match fs.lookup f with
    | some v => Q v μ1
    | none => False)
  | _ => False
theorem fld_at {K : PySem.W.Frag} {F : Hp} {f : Str} {d : SD} : ∀ {ds : List (Str × SD)} {vs : List (Str × V)}, vs.map (·.1) = ds.map (·.1) → RepL K F (ds.map (·.2)) (vs.map (·.2)) → ds.lookup f = some d → ∃ v, vs.lookup f = some v ∧ RepS K F d v ∧ f ∈ ds.map (·.1)
  | [], _, _, _, h => by cases h
  | (g, e) :: ds, [], h, _, _ => by simp at h
  | (g, e) :: ds, (g', w) :: vs, h, .cons r rs, hl => by
    simp only [List.map_cons, List.cons.injEq] at h
    obtain ⟨rfl, h⟩ := h
    simp only [List.lookup_cons] at hl ⊢
    split at hl
    · rename_i z
      cases hl
      exact ⟨w, rfl, r, by rw [beq_iff_eq.mp z]; exact List.mem_cons_self ..⟩
    · obtain ⟨v, a, b, c⟩ := fld_at h rs hl
      exact ⟨v, a, b, List.mem_cons_of_mem _ c⟩
section
variable {X : Cx} {f : Str} {e : Expr} {te : TE} {td : DTE} {pos : Pos}
theorem pe_xfl (he : PE X e te) (hb : attributeBase e f X.env (eval e X.env) = eval e X.env := by rfl) : PE X (.Attribute e f pos) (tXfl X.K f te) := by
  refine ⟨fun pins s σ H Q I h => attr_of hb (thn (he.run pins s σ H _ I h) fun u s1 z => ?_)⟩
  obtain ⟨x, H1, I1, rx, a, C, dx, fs, v, y, ns, rfl, ea, ed, l, T, hf, q⟩ := z
  cases rx
  obtain ⟨⟨oe, vs, e1, ⟨z1, z2⟩, e3⟩, _, _⟩ := I1.hok a _ ea
  have hx : ObjOk X.prog X.w H1 s1.heap dx (.xd fs) := I1.hok dx _ ed
  obtain ⟨mA, hns, hr⟩ := hx
  obtain ⟨o, ho, hl⟩ := lookIn_ns hns
  obtain ⟨u, hu, ru⟩ := RelO.some_of (v := v) (o := mA f) (by rw [← l]; exact hr f)
  have J : PySem.W.InstAt s1.heap a oe C (some o) := ⟨e1, z1, by unfold PySem.W.notCls; rw [e3] <;> rfl, by rw [z2]; exact ho⟩
  exact PySem.HandSPX.exc_get I1.kIn J T.ga T.gg T.sub (PySem.W.findObj_own T.hd (T.no f hf) rfl (by rw [hl, hu])) (handed_of ru) ⟨v, H1, I1.tok _, ru, q⟩
theorem de_fld (he : DE X e td) (hb : attributeBase e f X.env (eval e X.env) = eval e X.env := by rfl) : DE X (.Attribute e f pos) (dFld f td) := weakE (pe_xfl he hb) fun σ H Q h => by
  obtain ⟨F, ρ, μ, Q', R, S, t, k⟩ := h
  refine ⟨F, ρ, μ, _, R, S, t, fun d μ1 t1 F1 H1 v s1 R1 r1 => ?_⟩
  cases r1 with
  | exc0 T q => exact t1.elim
  | exc T q q2 z r3 =>
    simp only at t1
    split at t1
    · rename_i w e
      obtain ⟨v, l, r, m⟩ := fld_at z r3 e
      exact ⟨_, _, _, _, v, _, _, rfl, R1.sub _ _ q, R1.sub _ _ q2, l, T, m, k _ μ1 t1 F1 H1 v s1 R1 r⟩
    · exact t1.elim
  | _ => exact t1.elim
end
end DS
/-! DS20: what must be known of the classes of errors, asked of the written part. -/
namespace DS
open PySem PySem.Spec PyProof.Rows L2
def inCls : Stmt → List Stmt
  | .ClassDef (body := b) .. => b
  | _ => []
/-- the plain facts of a class of errors (C the class, fI its own __init__, f its field) -/
structure XF (K : PySem.W.Frag) (C : Addr) : Prop where
  sa : PySem.W.findIn K (.ref C) "__setattr__" = some (some (.builtin "object.__setattr__"))
  ex : PySem.W.subIn K (.ref C) (.type "BaseException") = some true
  ty : PySem.W.typeIn K (.ref C) = some (.type "type")
  kc : PySem.W.keepIn K (.ref C) = true
  ga : PySem.W.findIn K (.ref C) "__getattribute__" = some (some (.builtin "BaseException.__getattribute__"))
  gg : PySem.W.findIn K (.ref C) "__getattr__" = some none
  hd : PySem.W.hasDictIn K C = true
  cl : PySem.W.findIn K (.ref C) "__class__" = some (some (.builtin "object.__class__"))
  sp : PySem.W.specialIn K (.builtin "object.__class__") "__get__" = some (some (.builtin "getset_descriptor.__get__"))
  tk : PySem.W.takesIn K (.builtin "object.__class__") = some true
  mro : PySem.W.mroIn K C (.type "object") = some true
/-- the class object: its name, address and the classes behind it -/
def XRow (K : PySem.W.Frag) (r : Str × Addr × List Value) : Prop := PySem.W.nsIn K mainGlobals r.1 = some (some (.ref r.2.1)) ∧ PySem.HandSPX.refsVE r.2.2 = true ∧
  ∃ nm q N bs sn sub ab col dd k0 k1 k2 k3 k5, K.lookup r.2.1 = some (excClassObj nm q r.2.1 N bs r.2.2 true sn sub ab col dd k0 k1 k2 k3 k5 "ValueError.__new__")
section
variable {K : PySem.W.Frag} {mg : Str → Option Value} {h : Heap} {x f : Str} {C fI D : Addr} {bm : List Value}
theorem XF.xck (F : XF K C) (a : PySem.W.nsIn K mainGlobals x = some (some (.ref C))) {fs : List Str} (no : ∀ f ∈ fs, PySem.W.findIn K (.ref C) f = some none) : XcK K x C fs := ⟨a, F.ga, F.gg, F.ex, F.hd, F.cl, F.sp, F.tk, F.mro, no⟩
theorem XF.oex (F : XF K C) (r : XRow K (x, C, bm)) : OexC K C := ⟨let ⟨_, v, nm, q, N, bs, sn, sub, ab, col, dd, k0, k1, k2, k3, k5, e⟩ := r; ⟨nm, q, N, bs, bm, sn, sub, ab, col, dd, k0, k1, k2, k3, k5, e, v⟩, F.sa, F.ex, F.ty, F.kc⟩
theorem xrow_cls {r : Str × Addr × List Value} (h : XRow K r) : ∃ cd, PySem.W.clsIn K r.2.1 = some cd ∧ cd.mro = .ref r.2.1 :: r.2.2 := by
  obtain ⟨_, _, nm, q, N, bs, sn, sub, ab, col, dd, k0, k1, k2, k3, k5, e⟩ := h
  refine ⟨_, by unfold PySem.W.clsIn; rw [e], rfl⟩
theorem xrow_mro {r : Str × Addr × List Value} (h : XRow K r) (b : Value) : PySem.W.mroIn K r.2.1 b = some ((Value.ref r.2.1 :: r.2.2).contains b) := by
  obtain ⟨cd, e, m⟩ := xrow_cls h
  unfold PySem.W.mroIn
  rw [e, Option.bind_some, m]
  rfl
/-- kX names c y: what isinstance says of an error of the class y asked for c -/
def kX (names : List Str) (c y : Str) : Option Bool := if y ∈ names then some (y == c || c == "KeyedError" || c == "ValueError") else none
theorem kit_row {r : Str × Addr × List Value} (h : XRow K r) (hD : (PySem.W.clsIn K D).isSome = true) (tD : PySem.W.typeIn K (.ref D) = some (.type "type")) : PySem.W.kitOne K (.ref r.2.1) (.ref D) = some (r.2.1 == D || r.2.2.contains (.ref D)) := by
  unfold PySem.W.kitOne
  by_cases e : r.2.1 = D
  · rw [if_pos (by rw [e]; exact beq_self_eq_true _), e]
    simp
  · rw [if_neg (by intro z; exact e (Value.ref.inj (beq_iff_eq.mp z)))]
    unfold PySem.W.kitCls
    dsimp only
    rw [hD, tD]
    show PySem.W.mroIn K r.2.1 (.ref D) = _
    rw [xrow_mro h, List.contains_cons]
    have : (Value.ref D == Value.ref r.2.1) = false := by
      rw [beq_eq_false_iff_ne]
      intro z
      exact e (Value.ref.inj z).symm
    rw [this, Bool.false_or]
    have : (r.2.1 == D) = false := by rw [beq_eq_false_iff_ne]; exact e
    rw [this, Bool.false_or]
def kitQ (rows : List (Str × Addr × List Value)) (c : Str) (D : Addr) : Bool := rows.all fun r => (r.2.1 == D || r.2.2.contains (.ref D)) == (r.1 == c || c == "KeyedError" || c == "ValueError")
theorem bt_ValueError : bootBuiltins "ValueError" = some (.type "ValueError") := by decide +kernel
theorem kit_ok {rows : List (Str × Addr × List Value)} {c : Str} (q : kitQ rows c D = true) (h : ∀ r ∈ rows, XRow K r) (hD : (PySem.W.clsIn K D).isSome = true) (tD : PySem.W.typeIn K (.ref D) = some (.type "type")) (y : Str) (b : Bool) (C : Addr) (e : kX (rows.map (·.1)) c y = some b)
    (a : PySem.W.nsIn K mainGlobals y = some (some (.ref C))) : PySem.W.kitOne K (.ref C) (.ref D) = some b := by
  unfold kX at e
  split at e
  · rename_i hm
    obtain ⟨r, hr, rfl⟩ := List.mem_map.mp hm
    have hx := h r hr
    obtain rfl : r.2.1 = C := by
      have z := hx.1.symm.trans a
      cases z; rfl
    rw [kit_row hx hD tD]
    have z := List.all_eq_true.mp q r hr
    rw [beq_iff_eq.mp z, e]
  · cases e
theorem kit_ve {rows : List (Str × Addr × List Value)} (h : ∀ r ∈ rows, XRow K r) (y : Str) (b : Bool) (C : Addr) (e : kX (rows.map (·.1)) "ValueError" y = some b)
    (a : PySem.W.nsIn K mainGlobals y = some (some (.ref C))) : PySem.W.kitOne K (.ref C) (.type "ValueError") = some b := by
  unfold kX at e
  split at e
  · rename_i hm
    obtain ⟨r, hr, rfl⟩ := List.mem_map.mp hm
    have hx := h r hr
    obtain rfl : r.2.1 = C := by
      have z := hx.1.symm.trans a
      cases z; rfl
    unfold PySem.W.kitOne
    rw [if_neg (by intro z; cases beq_iff_eq.mp z)]
    unfold PySem.W.kitCls
    dsimp only
    have km : PySem.W.kitMeta "ValueError" = true := by decide +kernel
    rw [if_pos km]
    show PySem.W.mroIn K r.2.1 _ = _
    rw [xrow_mro hx, List.contains_cons, PySem.HandSPX.refsVE_contains "ValueError" _ hx.2.1, ← e]
    simp
  · cases e
end
end DS
/-! DS21: sorted of texts, of any number; sum; list.index, list.pop(i). -/
namespace DS
open PySem PySem.Spec PyProof.Rows L2
/-! texts in order -/
def leS (a b : Str) : Bool := !ltCps b.cps.toList a.cps.toList
theorem leS_iff {a b : Str} : leS a b = true ↔ ¬ b.cps.toList < a.cps.toList := by
  unfold leS
  rw [ltCps_eq]
  simp
theorem leS_trans {a b c : Str} (h : leS a b = true) (k : leS b c = true) : leS a c = true := by
  rw [leS_iff] at *
  exact List.not_lt.mpr (List.le_trans (List.not_lt.mp h) (List.not_lt.mp k))
theorem leS_anti {a b : Str} (h : leS a b = true) (k : leS b a = true) : a = b := by
  rw [leS_iff] at *
  have e : a.cps.toList = b.cps.toList := List.le_antisymm (List.not_lt.mp h) (List.not_lt.mp k)
  obtain ⟨⟨a⟩⟩ := a
  obtain ⟨⟨b⟩⟩ := b
  simp only at e
  rw [e]
theorem leS_total (a b : Str) : leS a b = true ∨ leS b a = true := by
  rw [leS_iff, leS_iff]
  rcases List.le_total a.cps.toList b.cps.toList with h | h
  · exact .inl (List.not_lt.mpr h)
  · exact .inr (List.not_lt.mpr h)
theorem rising_cons : ∀ {r : List Str} {p : Str}, risingS p r = true → (p :: r).Pairwise fun a b => leS a b = true
  | [], p, _ => List.pairwise_singleton _ _
  | x :: r, p, h => by
    rw [risingS, Bool.and_eq_true] at h
    have ih := rising_cons h.2
    have px : leS p x = true := h.1
    refine List.pairwise_cons.mpr ⟨fun y hy => ?_, ih⟩
    rcases List.mem_cons.mp hy with rfl | hy
    · exact px
    · exact leS_trans px ((List.pairwise_cons.mp ih).1 y hy)
theorem sortedS_pw {ys : List Str} (h : sortedS ys = true) : ys.Pairwise fun a b => leS a b = true := by
  cases ys with
  | nil => exact List.Pairwise.nil
  | cons x r => exact rising_cons h
/-- the texts in order -/
def srt (xs : List Str) : List Str := xs.mergeSort leS
theorem srt_perm (xs : List Str) : (srt xs).Perm xs := List.mergeSort_perm xs leS
theorem srt_pw (xs : List Str) : (srt xs).Pairwise fun a b => leS a b = true := by
  have := List.pairwise_mergeSort (le := leS) (fun a b c => leS_trans) (fun a b => by rcases leS_total a b with h | h <;> simp [h]) xs
  exact this
theorem pw_uniq : ∀ {ys zs : List Str}, ys.Perm zs → (ys.Pairwise fun a b => leS a b = true) → (zs.Pairwise fun a b => leS a b = true) → ys = zs
  | [], zs, p, _, _ => (List.nil_perm.mp p).symm
  | y :: ys, [], p, _, _ => (List.perm_nil.mp p)
  | y :: ys, z :: zs, p, h, k => by
    have hy := List.pairwise_cons.mp h
    have hz := List.pairwise_cons.mp k
    have e : y = z := by
      have a : z ∈ y :: ys := p.mem_iff.mpr (List.mem_cons_self ..)
      have b : y ∈ z :: zs := p.mem_iff.mp (List.mem_cons_self ..)
      rcases List.mem_cons.mp a with a | a
      · exact a.symm
      · rcases List.mem_cons.mp b with b | b
        · exact b
        · exact leS_anti (hy.1 z a) (hz.1 y b)
    subst e
    rw [pw_uniq (List.perm_cons y |>.mp p) hy.2 hz.2]
theorem srt_of {ys xs : List Str} (p : ys.Perm xs) (h : sortedS ys = true) : ys = srt xs := pw_uniq (p.trans (srt_perm xs).symm) (sortedS_pw h) (srt_pw xs)
theorem srt_congr {xs ys : List Str} (p : xs.Perm ys) : srt xs = srt ys := pw_uniq ((srt_perm xs).trans (p.trans (srt_perm ys).symm)) (srt_pw xs) (srt_pw ys)
/-! sorted -/
def rSortedL (K : PySem.W.Frag) : List V → Hp → VK → Prop := fun vs H Q => ∃ (a : Addr) (xs : List Str), vs = [V.ref a] ∧ SqL K H a (xs.map V.str) ∧ ∀ p, H p = none → Q (.ref p) (upd H p (.lst ((srt xs).map V.str)))
section
variable {X : Cx}
theorem cr_sortedL : CallR X (.builtin "sorted") (rSortedL X.K) := by
  intro pins s σ H vs us Q I r h
  obtain ⟨a, xs, rfl, hs, q⟩ := h
  obtain ⟨its, rv, hl, hz⟩ := I.list hs
  rw [Vals.ref1 r]
  have many : its.length ≤ sizeLine := by rw [← rv.length]; exact hz
  refine sorted_strsAny hl.isList rv.strs many fun out ys h1 h2 h3 => ?_
  obtain rfl := srt_of h2 h3
  obtain ⟨ep, at_⟩ := sortedAll_at s.heap its out
  have new : ((srt xs).map V.str).length ≤ sizeLine := by
    rw [List.length_map, h2.length_eq]
    simpa using hz
  have free : H (s.heap.objs.size + 1) = none := I.hok.fresh (Nat.le_succ _)
  exact ⟨V.ref _, _, I.laid (t' := s.toks) (o := .lst ((srt xs).map V.str)) (fun _ _ => sortedAll_old) (Nat.le_succ _) ⟨new, out.toList, ep, vals_of_strs h1, at_⟩, rfl, q _ free⟩
end
/-- the texts of data that are texts -/
def txtsD : List SD → Option (List Str)
  | [] => some []
  | .str x :: r => (match txtsD r with
    | some l => some (x :: l)
    | none => none)
  | _ :: _ => none
theorem txtsD_map : ∀ (l : List Str), txtsD (l.map SD.str) = some l
  | [] => rfl
  | x :: r => by rw [List.map_cons, txtsD, txtsD_map r]
theorem txtsD_of : ∀ {ds : List SD} {l : List Str}, txtsD ds = some l → ds = l.map SD.str
  | [], l, h => by cases h; rfl
  | .str x :: r, l, h => by
    rw [txtsD] at h
    cases e : txtsD r with
    | none => rw [e] at h; cases h
    | some k => rw [e] at h; cases h; rw [txtsD_of e]; rfl
  | .non :: _, _, h => by cases h
  | .bl _ :: _, _, h => by cases h
  | .int _ :: _, _, h => by cases h
  | .ref _ :: _, _, h => by cases h
  | .ty _ :: _, _, h => by cases h
  | .tup _ :: _, _, h => by cases h
  | .lst _ :: _, _, h => by cases h
  | .dic _ :: _, _, h => by cases h
  | .rol _ :: _, _, h => by cases h
  | .exc _ _ :: _, _, h => by cases h
  | .ptp _ :: _, _, h => by cases h
def drSorted : DRc := fun ds μ Q => match ds with
  | [d] => isTup d = false ∧ (match seqD μ d with
    | some xs => (match txtsD xs with
      | some l => Q (.lst ((srt l).map SD.str)) μ
      | none => False)
    | none => False)
  | _ => False
theorem lc_sortedL {K : PySem.W.Frag} : LRc K drSorted (rSortedL K) := fun F H μ xs ds Q' Q R r t k => by
  unfold drSorted at t
  split at t
  · rename_i d
    obtain ⟨nt, t⟩ := t
    cases e : seqD μ d with
    | none => rw [e] at t; exact t.elim
    | some zs =>
      rw [e] at t
      simp only at t
      cases e2 : txtsD zs with
      | none => rw [e2] at t; exact t.elim
      | some l =>
        rw [e2] at t
        have el := txtsD_of e2
        subst el
        match xs, r with
        | [v], .cons r1 .nil =>
          obtain ⟨a, vs, rfl, rl, hL | hT⟩ := R.seq r1 e
          · obtain rfl := rl.strs
            exact ⟨a, l, rfl, hL.2, fun p hp => k _ μ t _ _ _ (Stp.newS R hp) (R.newS hp) (.lst upd_same (RepL.ofStrs _))⟩
          · rw [nt] at hT; cases hT.1
  · exact t.elim
/-! sum -/
def intsD : List SD → Option (List Int)
  | [] => some []
  | .int x :: r => (match intsD r with
    | some l => some (x :: l)
    | none => none)
  | _ :: _ => none
theorem intsD_map : ∀ (l : List Int), intsD (l.map SD.int) = some l
  | [] => rfl
  | x :: r => by rw [List.map_cons, intsD, intsD_map r]
theorem intsD_of : ∀ {ds : List SD} {l : List Int}, intsD ds = some l → ds = l.map SD.int
  | [], l, h => by cases h; rfl
  | .int x :: r, l, h => by
    rw [intsD] at h
    cases e : intsD r with
    | none => rw [e] at h; cases h
    | some k => rw [e] at h; cases h; rw [intsD_of e]; rfl
  | .non :: _, _, h => by cases h
  | .bl _ :: _, _, h => by cases h
  | .str _ :: _, _, h => by cases h
  | .ref _ :: _, _, h => by cases h
  | .ty _ :: _, _, h => by cases h
  | .tup _ :: _, _, h => by cases h
  | .lst _ :: _, _, h => by cases h
  | .dic _ :: _, _, h => by cases h
  | .rol _ :: _, _, h => by cases h
  | .exc _ _ :: _, _, h => by cases h
  | .ptp _ :: _, _, h => by cases h
def drSum : DRc := fun ds μ Q => match ds with
  | [d] => isTup d = false ∧ (match seqD μ d with
    | some xs => (match intsD xs with
      | some l => Q (.int l.sum) μ
      | none => False)
    | none => False)
  | _ => False
theorem lc_sum {K : PySem.W.Frag} : LRc K drSum (rSum K) := fun F H μ xs ds Q' Q R r t k => by
  unfold drSum at t
  split at t
  · rename_i d
    obtain ⟨nt, t⟩ := t
    cases e : seqD μ d with
    | none => rw [e] at t; exact t.elim
    | some zs =>
      rw [e] at t
      simp only at t
      cases e2 : intsD zs with
      | none => rw [e2] at t; exact t.elim
      | some l =>
        rw [e2] at t
        have el := intsD_of e2
        subst el
        match xs, r with
        | [v], .cons r1 .nil =>
          obtain ⟨a, vs, rfl, rl, hL | hT⟩ := R.seq r1 e
          · obtain rfl := rl.ints
            exact ⟨a, l, rfl, hL.2, k _ μ t _ _ _ (Stp.refl _ _ _) R (.int _)⟩
          · rw [nt] at hT; cases hT.1
  · exact t.elim
end DS
/-! DS22: sorted(set(texts)). -/
namespace DS
open PySem PySem.Spec PyProof.Rows L2
theorem strsAre_perm {vs us : List Value} (p : vs.Perm us) : ∀ {ns : List Str}, StrsAre us ns → ∃ ms, StrsAre vs ms ∧ ms.Perm ns := by
  induction p with
  | nil => intro ns h; exact ⟨ns, h, .refl _⟩
  | cons x _ ih =>
    intro ns h
    cases h with
    | cons k t r =>
      obtain ⟨ms, a, b⟩ := ih r
      exact ⟨k :: ms, .cons k t a, b.cons k⟩
  | swap x y l =>
    intro ns h
    cases h with
    | cons k t r => cases r with
      | cons k' t' r => exact ⟨_, .cons k' t' (.cons k t r), .swap _ _ _⟩
  | trans _ _ i1 i2 =>
    intro ns h
    obtain ⟨ms, a, b⟩ := i2 h
    obtain ⟨ks, c, d⟩ := i1 a
    exact ⟨ks, c, d.trans b⟩
theorem elems_txt {P : Program} {w : World} : ∀ {l : List (Int × Value)}, ElemsOf (PySem.strKind P w) l → ∃ N : List Str, StrsAre (l.map (·.2)) N ∧ ∀ k, k ∈ N ↔ ∃ e ∈ l, (PySem.strKind P w).is k e.2 = true
  | [], _ => ⟨[], .nil, fun k => by simp⟩
  | e :: l, h => by
    obtain ⟨N, a, b⟩ := elems_txt (l := l) fun x hx => h x (List.mem_cons_of_mem _ hx)
    obtain ⟨⟨k, hk, _⟩, _⟩ := h e (List.mem_cons_self ..)
    obtain ⟨t, et⟩ := Value.isStrOf_shape hk
    refine ⟨k :: N, by rw [List.map_cons, et]; exact .cons k t a, fun j => ?_⟩
    rw [List.mem_cons, b j]
    constructor
    · rintro (rfl | ⟨x, hx, q⟩)
      · exact ⟨e, List.mem_cons_self .., hk⟩
      · exact ⟨x, List.mem_cons_of_mem _ hx, q⟩
    · rintro ⟨x, hx, q⟩
      rcases List.mem_cons.mp hx with rfl | hx
      · exact .inl ((PySem.strKind P w).inj _ _ _ q hk)
      · exact .inr ⟨x, hx, q⟩
theorem perm_of_sub {α : Type} [DecidableEq α] : ∀ {u L : List α}, u.Nodup → (∀ k ∈ u, k ∈ L) → L.length = u.length → L.Perm u
  | [], L, _, _, h => by rw [List.eq_nil_of_length_eq_zero h]
  | a :: u, L, nd, s, h => by
    have ha : a ∈ L := s a (List.mem_cons_self ..)
    have p := List.perm_cons_erase ha
    have nd' := List.nodup_cons.mp nd
    refine p.trans (List.Perm.cons a (perm_of_sub nd'.2 (fun k hk => ?_) ?_))
    · have : k ≠ a := fun e => nd'.1 (e ▸ hk)
      exact (List.mem_erase_of_ne this).mpr (s k (List.mem_cons_of_mem _ hk))
    · rw [List.length_erase_of_mem ha, h]
      rfl
section
variable {P : Program} {w : World} {A : Around} {E : Value → Shared → Prop} {s : Shared}
theorem sorted_txSet {a : Addr} {ns u : List Str} {Q : Value → Shared → Prop} (R : TxSet P w s.heap a ns u) (hd : Dist ns u) (hh : A.handled = none) (hb : u.length ≤ 4000)
    (hQ : ∀ s' p out c, (∀ b o, s.heap.get? b = some o → s'.heap.get? b = some o) → s'.gens = s.gens → s'.os = s.os → s.heap.objs.size ≤ p → s'.heap.get? p = some (seqObj "list" out c) → StrsAre out.toList (srt u) → Q (.ref p) s') :
    wpAny (model P w) A (call (.builtin "sorted") [.ref a]) Q E s := by
  obtain ⟨o, es, ep, t, ho, hex, hda, el, me, hsz, hf, hn, hr, hl⟩ := R
  obtain ⟨N, nv, nm⟩ := elems_txt el
  have pN : N.Perm u := perm_of_sub hd.nd (fun k hk => (nm k).mpr ((me k).mp (decide_eq_true ((hd.mem k).mp hk)))) (by
    have := strsAre_len nv
    rw [List.length_map, Array.length_toList, hn] at this
    exact this.symm)
  refine Calls.call_function_entry kind_sorted plain_sorted entry_sorted (args_sorted1 _) ?_
  unfold Builtin.«sorted»
  refine wpAny_bind (m := checkCount "sorted" 1 1 _) (wpAny_pure ?_)
  refine wpAny_bind (collect_set (A := A.in1) hh ⟨o, ho, hex.1, hda⟩ hf hsz hr hl fun s1 vs k1 big g1 o1 pm => ?_)
  obtain ⟨ms, mv, mp⟩ := strsAre_perm pm nv
  have few : vs.length ≤ sizeLine := by
    rw [strsAre_len mv, mp.length_eq, pN.length_eq, sizeLine_eq]
    omega
  refine wpAny_bind (wpAny_newList ?_ few)
  have at_ : (s1.heap.push (seqObj "list" vs.toArray 0)).get? s1.heap.objs.size = some (seqObj "list" vs.toArray 0) := Heap.get?_push_size _ rfl
  refine wpAny_bind (wpAny_holding (wpAny_call_entry (s := { s1 with heap := s1.heap.push (seqObj "list" vs.toArray 0) }) slot_list_sort ⟨_, at_, rfl⟩ entry_list_sort
    (list_sort_treeKAny strKind_oneLt at_ mv.keysOf (fun v₁ v₂ rest e => keyKind_strs (by rw [← e]; exact mv)) few fun st hp hs => ⟨_, rfl, ?_⟩) (args_list_sort _)))
  obtain ⟨ss, h1, h2, h3⟩ := sorted_out_str mv hp hs
  obtain rfl : ss = srt u := (srt_of h2 h3).trans (srt_congr (mp.trans pN))
  obtain ⟨c, hc⟩ := sortedHeap_at (vs := vs) (out := (arrOf st).map (·.2)) at_
  refine wpAny_pure ⟨_, rfl, hQ _ s1.heap.objs.size _ c (fun b x e => ?_) g1 o1 big hc h1⟩
  have q := k1 b x e
  have lt := Heap.lt_size q
  show (sortedHeap (s1.heap.push (seqObj "list" vs.toArray 0)) s1.heap.objs.size vs ((arrOf st).map (·.2))).get? b = some x
  rw [sortedHeap_old (Nat.ne_of_lt lt) (by rw [size_push']; exact Nat.lt_succ_of_lt lt)]
  exact Heap.get?_push_of_some _ q
end
def tSortSet (K : PySem.W.Frag) (ta : TE) : TE := fun σ H Q => ta σ H fun x H1 => ∃ (l : Addr) (ns : List Str), x = .ref l ∧ SqL K H1 l (ns.map V.str) ∧ ns.length ≤ 4000 ∧ ∀ u p, Dist ns u → H1 p = none → Q (.ref p) (upd H1 p (.lst ((srt u).map V.str)))
theorem dist_len {ns u : List Str} (h : Dist ns u) : u.length ≤ ns.length := by
  have key : ∀ {u L : List Str}, u.Nodup → (∀ k ∈ u, k ∈ L) → u.length ≤ L.length := by
    intro u
    induction u with
    | nil => intro L _ _; exact Nat.zero_le _
    | cons a u ih =>
      intro L nd s
      have nd' := List.nodup_cons.mp nd
      have ha := s a (List.mem_cons_self ..)
      have := ih (L := L.erase a) nd'.2 fun k hk => (List.mem_erase_of_ne (fun (e : k = a) => nd'.1 (by rw [← e]; exact hk))).mpr (s k (List.mem_cons_of_mem _ hk))
      rw [List.length_erase_of_mem ha] at this
      have := List.length_pos_of_mem ha
      rw [List.length_cons]
      omega
  exact key h.nd fun k hk => (h.mem k).mp hk
theorem pe_sortSet {X : Cx} {a : Expr} {ta : TE} {p p2 q pos : Pos} (hg : Gl X "sorted") (hm : X.mg "sorted" = none) (hg2 : Gl X "set") (hm2 : X.mg "set" = none) (ha : PE X a ta) (hc : X.calm = true := by rfl)
    (na : starEach [a] X.env = (false, eval a X.env) :: starEach [] X.env := by rfl) : PE X (.Call (.Name "sorted" p) [.Call (.Name "set" p2) [a] [] q] [] pos) (tSortSet X.K ta) := by
  refine ⟨fun pins s σ H Q I h => Call_ (ld_blt I hg hm bt_sorted ?_)⟩
  refine PyProof.Rows.callWith_builtin1 (PyProof.Rows.args_cons ?_ rfl) rfl rfl
  refine Call_ (ld_blt I hg2 hm2 boot_set (PyProof.Rows.callWith_type1 (PyProof.Rows.args_cons ?_ na) na rfl))
  refine thn (ha.run pins s σ H _ I h) fun v s1 ⟨x, H1, I1, r1, q1⟩ => PyProof.Rows.args_nil ?_
  obtain ⟨l, ns, rfl, hq, hl, q1⟩ := q1
  cases r1
  obtain ⟨its, r, pl, hz⟩ := I1.list hq
  refine set_of_list ns (I1.ok.hd hc) pl.isList (by simpa using strsAre_of r) (by unfold scanBound; omega) fun h' tk u hd hS hk => ?_
  refine PyProof.Rows.args_nil ?_
  have I2 : Inv X pins σ H1 { s1 with heap := h', toks := tk } := I1.kept fun b o e => hk b o e
  have du := dist_len hd
  refine sorted_txSet (s := { s1 with heap := h', toks := tk }) hS hd (I1.ok.hd hc) (by omega) fun s' p out c k g o big hp hout => ?_
  have free : H1 p = none := I2.hok.fresh big
  have len : ((srt u).map V.str).length ≤ sizeLine := by
    rw [List.length_map, (srt_perm u).length_eq, sizeLine_eq]
    omega
  have J := I2.call (ch := []) (h' := s'.heap) (g' := s'.gens) (t' := s'.toks) (d' := s'.drawn) (H' := upd H1 p (.lst ((srt u).map V.str))) (Un.laid k big free) (I2.hok.laid k big ⟨len, out.toList, c, vals_of_strs hout, hp⟩) (by rw [g]; exact I2.bare) (fun _ z => nomatch z)
  obtain ⟨a1, a2, a3, a4, a5⟩ := s'
  have e5 : a5 = s1.os := o
  subst e5
  exact ⟨V.ref p, _, J, rfl, q1 u p hd free⟩
/-- sorted(set(e)), e a list of texts -/
def drSortSet (Q : SD → Mu → Prop) (x : SD) (μ : Mu) : Prop := match lstD μ x with
  | some xs => match strsOf xs with
    | some ns => ns.length ≤ 4000 ∧ ∀ u, Dist ns u → Q (.lst ((srt u).map SD.str)) μ
    | none => False
  | none => False
abbrev dSortSet (te : DTE) : DTE := fun ρ μ Q => te ρ μ (drSortSet Q)
theorem de_sortSet {X : Cx} {a : Expr} {ta : DTE} {p p2 q pos : Pos} (hg : Gl X "sorted") (hm : X.mg "sorted" = none) (hg2 : Gl X "set") (hm2 : X.mg "set" = none) (ha : DE X a ta) (hc : X.calm = true := by rfl)
    (na : starEach [a] X.env = (false, eval a X.env) :: starEach [] X.env := by rfl) : DE X (.Call (.Name "sorted" p) [.Call (.Name "set" p2) [a] [] q] [] pos) (dSortSet ta) := weakE (pe_sortSet hg hm hg2 hm2 ha hc na) fun σ H Q h => by
  obtain ⟨F, ρ, μ, Q', R, S, t, k⟩ := h
  refine ⟨F, ρ, μ, _, R, S, t, fun d μ1 t1 F1 H1 v s1 R1 r1 => ?_⟩
  unfold drSortSet at t1
  cases e : lstD μ1 d with
  | none => rw [e] at t1; exact t1.elim
  | some xs =>
    rw [e] at t1
    simp only at t1
    cases e2 : strsOf xs with
    | none => rw [e2] at t1; exact t1.elim
    | some ns =>
      rw [e2] at t1
      simp only at t1
      obtain ⟨a, vs, h1, h3, h2⟩ := R1.lst r1 e
      obtain rfl := strsOf_rep h2 e2
      exact ⟨a, ns, h1, SqL.of h3, t1.1, fun u p hd hp => k _ _ (t1.2 u hd) _ _ _ (s1.trans (Stp.newS R1 hp)) (R1.newS hp) (.lst upd_same (RepL.ofStrs _))⟩
end DS
/-! DS23: instances of own classes: made, their attributes read and written, their methods called. -/
namespace DS
open PySem PySem.Spec PyProof.Rows L2
/-- what is known of an own class -/
structure OCls (K : PySem.W.Frag) (mg : Str → Option Value) (x : Str) where
  C : Addr
  m : mg x = some (.ref C)
  k : OcK K x C
/-- a method -/
structure MDef {K : PySem.W.Frag} {mg : Str → Option Value} {x : Str} (D : OCls K mg x) (m qual : Str) (st : Stmt) (ps : List Str) where
  f : Addr
  fd : FuncData
  F : Fun K m qual st f fd
  me : Meth K D.C m f
  b : Binds K fd ps []
/-- the own __init__ -/
structure IDef {K : PySem.W.Frag} {mg : Str → Option Value} {x : Str} (D : OCls K mg x) (qual : Str) (st : Stmt) (ps : List Str) where
  f : Addr
  fd : FuncData
  F : Fun K "__init__" qual st f fd
  maker : Mk K D.C f
  b : Binds K fd ps []
abbrev FnM (P : Program) (w : World) (base : Heap) {K : PySem.W.Frag} {mg : Str → Option Value} {x m qual : Str} {D : OCls K mg x} {st : Stmt} {ps : List Str} (M : MDef D m qual st ps) (k : Nat) (sp : DSp) : Prop := FnG P w K mg base CX0 k M.f M.fd ps (LSp K sp)
abbrev FnI (P : Program) (w : World) (base : Heap) {K : PySem.W.Frag} {mg : Str → Option Value} {x qual : Str} {D : OCls K mg x} {st : Stmt} {ps : List Str} (M : IDef D qual st ps) (k : Nat) (sp : DSp) : Prop := FnG P w K mg base CX0 k M.f M.fd ps (LSp K sp)
section
variable {K : PySem.W.Frag} {F H : Hp} {μ : Mu} {p a : Addr} {x f : Str}
/-- an object that is nobody's business -/
theorem HReal.newU (R : HReal K F H μ) {o : HO} (h : H p = none) : HReal K F (upd H p o) μ := by
  have hF := R.freeF h
  refine ⟨fun b u e => by rw [upd_ne (ne_of_none e hF)]; exact R.sub b u e, fun b m e => ?_⟩
  obtain ⟨z, u, q, r⟩ := R.mus b m e
  exact ⟨z, u, by rw [upd_ne (ne_of_none q h)]; exact q, r⟩
theorem Stp.newU {o : HO} (h : H p = none) : Stp F H μ F (upd H p o) μ :=
  ⟨Ext.refl F, fun b h1 h2 h3 => ⟨upd_ne fun z => by subst z; exact h1 h, h2, h3⟩⟩
def putS (f : Str) (v : SD) : List (Str × SD) → List (Str × SD)
  | [] => [(f, v)]
  | (g, x) :: r => if g = f then (g, v) :: r else (g, x) :: putS f v r
theorem put_rep {d : SD} {y : V} (r : RepS K F d y) : ∀ {ds : List (Str × SD)} {vs : List (Str × V)}, vs.map (·.1) = ds.map (·.1) → RepL K F (ds.map (·.2)) (vs.map (·.2)) →
    (putF f y vs).map (·.1) = (putS f d ds).map (·.1) ∧ RepL K F ((putS f d ds).map (·.2)) ((putF f y vs).map (·.2))
  | [], [], _, _ => ⟨rfl, .one r⟩
  | [], _ :: _, h, _ => by cases h
  | _ :: _, [], h, _ => by cases h
  | (g, e) :: ds, (g', w) :: vs, h, .cons ra rb => by
    simp only [List.map_cons, List.cons.injEq] at h
    obtain ⟨rfl, h⟩ := h
    by_cases q : g' = f
    · rw [putF, putS, if_pos q, if_pos q]
      exact ⟨by simp [h], .cons r rb⟩
    · rw [putF, putS, if_neg q, if_neg q]
      obtain ⟨i1, i2⟩ := put_rep r h rb
      exact ⟨by simp [i1], .cons ra i2⟩
theorem OcK.one {C D : Addr} (a : OcK K x C) (b : OcK K x D) : C = D := by
  have z := a.at_.symm.trans b.at_
  cases z; rfl
theorem look_none {ds : List (Str × SD)} {vs : List (Str × V)} (h : vs.map (·.1) = ds.map (·.1)) (e : ds.lookup f = none) : vs.lookup f = none := by
  have key : ∀ {α : Type} {l : List (Str × α)}, l.lookup f = none ↔ f ∉ l.map (·.1) := fun {α l} => by
    induction l with
    | nil => simp
    | cons q l ih =>
      obtain ⟨g, z⟩ := q
      rw [List.lookup_cons]
      split
      · rename_i hg
        have := beq_iff_eq.mp hg
        simp [this]
      · rename_i hg
        have : f ≠ g := fun z => by rw [z] at hg; simp at hg
        simp [this, ih]
  rw [key] at e ⊢
  rw [h]
  exact e
end
/-! ### o.f -/
def aQ (x f : Str) (Q : SD → Mu → Prop) : SD → Mu → Prop := fun d μ => match d with
  | .ref a => (match μ a with
    | some (.obj y fs) => y = x ∧ (match fs.lookup f with
      | some v => Q v μ
      | none => False)
    | _ => False)
  | _ => False
abbrev dAttr (x f : Str) (te : DTE) : DTE := fun ρ μ Q => te ρ μ (aQ x f Q)
/-- o.f = e -/
def sQ (x f : Str) (y : SD) (R : Mu → Prop) : SD → Mu → Prop := fun d μ => match d with
  | .ref a => (match μ a with
    | some (.obj z fs) => z = x ∧ fs.length < 900 ∧ R (up μ a (.obj x (putS f y fs)))
    | _ => False)
  | _ => False
abbrev dPutA (x f : Str) (to tv : DTE) : DTS := fun D ρ μ => tv ρ μ fun y μ1 => to ρ μ1 (sQ x f y fun μ2 => D.nx ρ μ2)
/-- o.m(e, ..) -/
def mQ (x m : Str) (R : SD → Mu → Prop) : SD → Mu → Prop := fun d μ => match d with
  | .ref a => (match μ a with
    | some (.obj z fs) => z = x ∧ fs.lookup m = none ∧ R d μ
    | _ => False)
  | _ => False
abbrev dMeth (x m : Str) (sp : DSp) (to : DTE) (t : DTA) : DTE := fun ρ μ Q => to ρ μ (mQ x m fun d μ1 => t ρ μ1 fun ds μ2 => sp (d :: ds) μ2 Q fun _ _ _ => False)
/-- C(e, ..) -/
abbrev dMkC (x : Str) (sp : DSp) (t : DTA) : DTE := fun ρ μ Q => t ρ μ fun ds μ1 => ∀ a, μ1 a = none → sp (.ref a :: ds) (up μ1 a (.obj x [])) (fun d μ2 => d = .non ∧ Q (.ref a) μ2) fun _ _ _ => False
section
variable {X : Cx} {x m f qual : Str} {st : Stmt} {ps : List Str} {k n : Nat} {e o : Expr} {es : List Expr} {te to tv : DTE} {t : DTA} {p pos apos pos' : Pos} {sp : DSp}
theorem HReal.obj {K : PySem.W.Frag} {mg : Str → Option Value} {F H : Hp} {μ : Mu} {a : Addr} {fs : List (Str × SD)} (R : HReal K F H μ) (D : OCls K mg x) (h : μ a = some (.obj x fs)) : ∃ dx vs, H a = some (.ins D.C dx vs) ∧ vs.map (·.1) = fs.map (·.1) ∧ RepL K F (fs.map (·.2)) (vs.map (·.2)) := by
  obtain ⟨_, o, ho, r⟩ := R.mus a _ h
  cases r with
  | obj c q r =>
    obtain rfl := c.one D.k
    exact ⟨_, _, ho, q, r⟩
theorem de_attr (D : OCls X.K X.mg x) (nf : NoAttr X.K D.C f) (he : DE X e te) (hb : attributeBase e f X.env (eval e X.env) = eval e X.env := by rfl) : DE X (.Attribute e f pos) (dAttr x f te) := weakE (pe_fld he hb) fun σ H Q h => by
  obtain ⟨F, ρ, μ, Q', R, S, t, k⟩ := h
  refine ⟨F, ρ, μ, _, R, S, t, fun d μ1 t1 F1 H1 v s1 R1 r1 => ?_⟩
  unfold aQ at t1
  cases r1 with
  | ref a =>
    simp only at t1
    split at t1
    · rename_i y fs e1
      obtain ⟨rfl, t1⟩ := t1
      split at t1
      · rename_i w e2
        obtain ⟨dx, vs, h1, h2, h3⟩ := R1.obj D e1
        obtain ⟨u, l, r, _⟩ := fld_at h2 h3 e2
        exact ⟨a, D.C, dx, vs, u, rfl, h1, D.k.c, nf, l, k _ μ1 t1 F1 H1 u s1 R1 r⟩
      · exact t1.elim
    · exact t1.elim
  | _ => exact t1.elim
theorem ds_putA (D : OCls X.K X.mg x) (nf : NoAttr X.K D.C f) (ho : DE X o to) (hv : DE X e tv) (hs : swapsWith e (some (.Attribute o f pos')) pos.line X.env = pure false := by rfl) : DS_ X (.Assign [.Attribute o f pos'] e pos) (dPutA x f to tv) := weakS (ps_fld ho hv hs) fun D' σ H h => by
  obtain ⟨F, ρ, μ, E, R, S, t, k1, _⟩ := h
  refine ⟨F, ρ, μ, _, R, S, t, fun y μ1 t1 F1 H1 yv s1 R1 r1 => ?_⟩
  refine ⟨F1, ρ, μ1, _, R1, S.mono s1.ext, t1, fun d μ2 t2 F2 H2 v s2 R2 r2 => ?_⟩
  unfold sQ at t2
  cases r2 with
  | ref a =>
    simp only at t2
    split at t2
    · rename_i z fs e1
      obtain ⟨rfl, hl, t2⟩ := t2
      obtain ⟨dx, vs, h1, h2, h3⟩ := R2.obj D e1
      have len : vs.length = fs.length := by simpa using congrArg List.length h2
      obtain ⟨q1, q2⟩ := put_rep (f := f) (r1.mono s2.ext) h2 h3
      refine ⟨a, D.C, dx, vs, rfl, h1, D.k.c, nf, by omega, ?_⟩
      have s3 := Stp.put (F := F2) (H := H2) (o := .ins D.C dx (putF f yv vs)) (m := .obj z (putS f y fs)) e1
      exact k1 ρ _ t2 F2 _ _ ((s1.trans s2).trans s3) (R2.put e1 (.obj D.k q1 q2)) ((S.mono s1.ext).mono s2.ext)
    · exact t2.elim
  | _ => exact t2.elim
theorem de_meth {D : OCls X.K X.mg x} {M : MDef D m qual st ps} (G : FnM X.prog X.w X.base M k sp) (hq : Quiet X.A) (hr : Room n X.A) (he : DE X o to) (ha : DA X (e :: es) t) (hk : k ≤ n := by omega)
    (hst : starEach (e :: es) X.env = (false, eval e X.env) :: starEach es X.env := by rfl) (hpl : (backTo pos (starEach es X.env)).any (·.1) = false := by rfl) {pl : Sem Bool}
    (ht : eval (.Call (.Attribute o m apos) (e :: es) [] pos) X.env = (do
      let ov ← eval o X.env
      standAt apos.atName
      let (f, first) ← holding [ov] (getMethod ov m pl)
      callWith pos f first (backTo pos (starEach (e :: es) X.env)) (backToKw pos (keywordEach [] X.env))) := by rfl) : DE X (.Call (.Attribute o m apos) (e :: es) [] pos) (dMeth x m sp to t) := by
  refine ⟨fun pins s σ H Q I h => ?_⟩
  obtain ⟨F, ρ, μ, Q', R, S, t0, kk⟩ := h
  refine PySem.W.methodCall_KW (pl := pl) (thn (he.run pins s σ H (fun v H1 => ∃ a d F1 μ1, v = .ref a ∧ RepS X.K F1 d v ∧ Stp F H μ F1 H1 μ1 ∧ HReal X.K F1 H1 μ1 ∧ (∃ dx vs, H1 a = some (.ins D.C dx vs) ∧ vs.lookup m = none) ∧ t ρ μ1 fun ds μ2 => sp (d :: ds) μ2 Q' fun _ _ _ => False) I ⟨F, ρ, μ, _, R, S, t0, fun d μ1 t1 F1 H1 v s1 R1 r1 => ?_⟩) fun u s1 z => ?_) ht
  · unfold mQ at t1
    cases r1 with
    | ref a =>
      simp only at t1
      split at t1
      · rename_i z fs e1
        obtain ⟨rfl, hl, t1⟩ := t1
        obtain ⟨dx, vs, h1, h2, h3⟩ := R1.obj D e1
        exact ⟨a, _, F1, μ1, rfl, .ref a, s1, R1, ⟨dx, vs, h1, look_none h2 hl⟩, t1⟩
      · exact t1.elim
    | _ => exact t1.elim
  · obtain ⟨v, H1, I1, rx, a, d, F1, μ1, rfl, rd, sa, R1, ⟨dx, vs, h1, h2⟩, t1⟩ := z
    obtain rfl : u = Value.ref a := rx
    refine getmeth_ok I1 h1 D.k.c M.me h2 ?_
    refine PySem.W.callWith_K (first := [.ref a]) (h₀ := X.base) I.ok.mod.kin M.me.kp (thn (ha.run pos pins s1 σ H1 (fun vs H2 => ∃ F2 μ2 ds, Stp F1 H1 μ1 F2 H2 μ2 ∧ HReal X.K F2 H2 μ2 ∧ RepL X.K F2 ds vs ∧ sp (d :: ds) μ2 Q' fun _ _ _ => False) I1
      ⟨F1, ρ, μ1, _, R1, S.mono sa.ext, t1, fun ds μ2 t2 F2 H2 vs s2 R2 r2 => ⟨F2, μ2, ds, s2, R2, r2, t2⟩⟩) fun us s2 z => ?_) hst hpl
    obtain ⟨ws, H2, I2, r, F2, μ2, ds, s2, R2, r2, t2⟩ := z
    refine ⟨I2.kIn, ?_⟩
    refine call_g (us := .ref a :: us) (vs := .ref a :: ws) (dvs := []) (ds := []) (E := E0) G hq (hr.mono hk) M.b .nil pass0 I2 (.cons rfl r) ?_
    rw [List.append_nil]
    exact ⟨F2, μ2, d :: ds, Q', _, R2, .cons (rd.mono s2.ext) r2, t2, fun d' μ' q F' H' v s' R' r' => kk d' μ' q F' H' v ((sa.trans s2).trans s') R' r', fun _ _ _ q => q.elim⟩
theorem de_mkC {D : OCls X.K X.mg x} {M : IDef D qual st ps} (G : FnI X.prog X.w X.base M k sp) (hq : Quiet X.A) (hr : Room n X.A) (ha : DA X (e :: es) t) (hk : k + 1 ≤ n := by omega) (hg : Gl X x := by rfl) (hdb : (x == ("__debug__" : Str)) = false := by decide)
    (he : starEach (e :: es) X.env = (false, eval e X.env) :: starEach es X.env := by rfl) (hpl : (backTo pos (starEach es X.env)).any (·.1) = false := by rfl) : DE X (.Call (.Name x p) (e :: es) [] pos) (dMkC x sp t) := by
  refine ⟨fun pins s σ H Q I h => ?_⟩
  obtain ⟨F, ρ, μ, Q', R, S, t0, kk⟩ := h
  refine wpAny_Call_Name_kw (ld_glob I hg D.m ?_ hdb)
  refine PySem.W.callWith_K (h₀ := X.base) I.ok.mod.kin M.maker.kp (thn (ha.run pos pins s σ H (fun vs H1 => ∃ F1 μ1 ds, Stp F H μ F1 H1 μ1 ∧ HReal X.K F1 H1 μ1 ∧ RepL X.K F1 ds vs ∧ ∀ a, μ1 a = none → sp (.ref a :: ds) (up μ1 a (.obj x [])) (fun d μ2 => d = .non ∧ Q' (.ref a) μ2) fun _ _ _ => False) I
    ⟨F, ρ, μ, _, R, S, t0, fun ds μ1 t1 F1 H1 vs s1 R1 r1 => ⟨F1, μ1, ds, s1, R1, r1, t1⟩⟩) fun us s1 z => ?_) he hpl
  obtain ⟨vs, H1, I1, r, F1, μ1, ds, sa, R1, rl, t1⟩ := z
  refine ⟨I1.kIn, ?_⟩
  show wpAny _ _ (call (.ref D.C) us) _ _ _
  have nx : H1 (s1.heap.objs.size + 1) = none := I1.hok.fresh (Nat.le_succ _)
  have nd : H1 s1.heap.objs.size = none := I1.hok.fresh (Nat.le_refl _)
  have ne : s1.heap.objs.size ≠ s1.heap.objs.size + 1 := Nat.ne_of_lt (Nat.lt_succ_self _)
  have I2 := Inv.made (C := D.C) I1
  have n2 : upd H1 s1.heap.objs.size (.own (s1.heap.objs.size + 1)) (s1.heap.objs.size + 1) = none := by rw [upd_ne (Ne.symm ne)]; exact nx
  have RA := R1.newU (o := .own (s1.heap.objs.size + 1)) nd
  have RB := RA.newM (o := .ins D.C s1.heap.objs.size []) (m := .obj x []) n2 (.obj D.k rfl .nil)
  have SB := (Stp.newU (F := F1) (μ := μ1) (o := .own (s1.heap.objs.size + 1)) nd).trans (Stp.newM RA (o := .ins D.C s1.heap.objs.size []) (m := .obj x []) n2)
  have want : LSp X.K sp (V.ref (s1.heap.objs.size + 1) :: vs) (upd (upd H1 s1.heap.objs.size (.own (s1.heap.objs.size + 1))) (s1.heap.objs.size + 1) (.ins D.C s1.heap.objs.size [])) (fun v H3 => v = .non ∧ Q (.ref (s1.heap.objs.size + 1)) H3) E0 :=
    ⟨F1, _, _, _, _, RB, .cons (.ref _) rl, t1 _ (R1.freeM nx), fun d μ' q F' H' v s' R' r' => by
      obtain ⟨rfl, q⟩ := q
      cases r'
      exact ⟨rfl, kk _ μ' q F' H' _ ((sa.trans SB).trans s') R' (.ref _)⟩, fun _ _ _ q => q.elim⟩
  have rv : Vals (V.ref (s1.heap.objs.size + 1) :: vs) (Value.ref (s1.heap.objs.size + 1) :: us) := .cons rfl r
  have cnt : (Value.ref (s1.heap.objs.size + 1) :: us).length = ps.length := rv.length.symm.trans (G.len _ _ _ _ want)
  have bnd := M.b _ (Value.ref (s1.heap.objs.size + 1) :: us) I2.kIn (by simpa using cnt)
  rw [List.append_nil] at bnd
  refine wpAny_call (make_map (f := M.f) I1.kIn M.maker.makes M.maker.init (beq_iff_eq.mp M.maker.fn) (codeAny_mono (G.go _ X.stack _ _ ⟨Value.ref (s1.heap.objs.size + 1) :: us, []⟩ _ _ _ E0 (quiet_make hq D.C us []) ((hr.mono hk).make D.C us []) (I2.env0.make D.C us []) bnd rv want) fun r s' z => ?_))
  match r, z with
  | .error _, z => exact False.elim z
  | .ok .next, z => exact False.elim z
  | .ok .brk, z => exact False.elim z
  | .ok .cont, z => exact False.elim z
  | .ok (.ret u), z =>
    obtain ⟨v, H', I3, rv', ev, q3⟩ := I2.after z
    subst ev
    exact ⟨rv', V.ref (s1.heap.objs.size + 1), H', I3, rfl, q3⟩
end
end DS
/-! DS24: list.remove, list.index of texts, list.pop(i), zip, tuple * int. -/
namespace DS
open PySem PySem.Spec PyProof.Rows L2
/-! list.remove, texts -/
theorem first_str : ∀ {ns : List Str} {z : Str}, z ∈ ns → ∃ j, j < ns.length ∧ ns[j]? = some z ∧ (∀ i, i < j → ns[i]? ≠ some z) ∧ ns.eraseIdx j = ns.erase z
  | [], _, h => by cases h
  | x :: ns, z, h => by
    by_cases e : x = z
    · subst e
      exact ⟨0, by simp, rfl, fun i hi => absurd hi (Nat.not_lt_zero _), by simp⟩
    · have hz : z ∈ ns := (List.mem_cons.mp h).resolve_left (Ne.symm e)
      obtain ⟨j, h1, h2, h3, h4⟩ := first_str hz
      refine ⟨j + 1, by simpa using h1, by simpa using h2, fun i hi => ?_, ?_⟩
      · cases i with
        | zero => simpa using e
        | succ i => simpa using h3 i (by omega)
      · rw [List.eraseIdx_cons_succ, h4, List.erase_cons_tail (by simpa using e)]
theorem isStr_at (z : Str) : ∀ {vs : List Value} {ns : List Str}, StrsAre vs ns → ∀ (i : Nat) (h : i < vs.length), isStrOf z vs[i] = true ↔ ns[i]? = some z := fun {vs ns} hs i h => by
  obtain ⟨k, t, h1, h2⟩ := strsAre_at hs i vs[i] (List.getElem?_eq_getElem h)
  rw [h2, h1]
  show (k == z) = true ↔ _
  simp
theorem erase_map : ∀ (ns : List Str) (j : Nat), (ns.map V.str).eraseIdx j = (ns.eraseIdx j).map V.str
  | [], _ => rfl
  | _ :: _, 0 => rfl
  | x :: ns, j + 1 => by
    rw [List.map_cons, List.eraseIdx_cons_succ, List.eraseIdx_cons_succ, List.map_cons, erase_map ns j]
def rRemS : V → List V → Hp → VK → Prop := fun x xs H Q => ∃ (l : Addr) (ns : List Str) (z : Str), x = .ref l ∧ xs = [.str z] ∧ H l = some (.lst (ns.map V.str)) ∧ z ∈ ns ∧ Q .non (upd H l (.lst ((ns.erase z).map V.str)))
theorem mt_remS {X : Cx} : MtR X "list.remove" rRemS := by
  intro pins s σ H x xs v us Q I rx rs h
  obtain ⟨l, ns, z, rfl, rfl, hH, hz, q⟩ := h
  cases rx
  match us, rs with
  | [u], .cons ru .nil =>
    obtain ⟨t, rfl⟩ := (show ∃ t, u = Value.str z t from ru)
    obtain ⟨big, its, n, r, hl, at_⟩ := I.lstM hH
    have hi := r.strs
    have many : ns.length = its.length := by rw [← hl, List.length_map]
    have size : its.toArray.size ≤ sizeLine := by rw [List.size_toArray, ← hl]; exact big
    obtain ⟨j, j1, j2, j3, j4⟩ := first_str hz
    have hj : j < its.length := by omega
    refine call_meets PySem.F.slot_list_remove ⟨_, at_, rfl⟩ PySem.F.entry_list_remove (PySem.F.args_list_remove_2 _ _)
      (MeetsSeq.list_remove l its.toArray n (.str z t) (isStrOf z) (fun y hy => eq_isStrOf z t hi y (by simpa using hy)) j (by rw [List.size_toArray]; exact hj) ?hit (fun i hi2 lt => ?hno) size) ⟨at_, ?_⟩
    case hit =>
      show isStrOf z its[j] = true
      exact (isStr_at z hi j hj).mpr j2
    case hno =>
      have hi3 : i < its.length := by simpa using hi2
      show isStrOf z its[i] = false
      rw [Bool.eq_false_iff]
      exact fun w => j3 i lt ((isStr_at z hi i hi3).mp w)
    have r2 : Vals ((ns.erase z).map V.str) (its.eraseIdx j) := by
      have w := r.eraseIdx j
      have e : (ns.map V.str).eraseIdx j = (ns.erase z).map V.str := by rw [← j4]; exact erase_map _ _
      rw [e] at w
      exact w
    refine ⟨.non, _, I.lset (its' := its.eraseIdx j) hH at_ ?_ r2 ?_, rfl, q⟩
    · show its.toArray.eraseIdxIfInBounds j = (its.eraseIdx j).toArray
      rw [List.eraseIdxIfInBounds_toArray]
    · rw [List.length_map]
      have := List.length_erase_le (a := z) (l := ns)
      rw [List.length_map] at big
      omega
def dmRemove : DRm := fun d ds μ Q => match ds with
  | [.str z] => (match mlst μ d with
    | some (a, xs) => (match txtsD xs with
      | some ns => z ∈ ns ∧ Q .non (up μ a (.lst ((ns.erase z).map SD.str)))
      | none => False)
    | none => False)
  | _ => False
theorem lm_remove {K : PySem.W.Frag} : LRm K dmRemove rRemS := fun F H μ x xs d ds Q' Q R r rs t k => by
  unfold dmRemove at t
  split at t
  · rename_i z
    cases rs with
    | cons r1 r2 =>
      cases r1
      cases r2
      cases e : mlst μ d with
      | none => simp only [e] at t
      | some p =>
        obtain ⟨a, ys⟩ := p
        simp only [e] at t
        cases e2 : txtsD ys with
        | none => simp only [e2] at t
        | some ns =>
          simp only [e2] at t
          obtain ⟨hz, t⟩ := t
          obtain rfl := txtsD_of e2
          obtain ⟨rfl, hm, vs, ha, rl⟩ := R.mlst r e
          obtain rfl := rl.strs
          exact ⟨a, ns, z, rfl, rfl, ha, hz, k _ _ t F _ _ (Stp.put hm) (R.put hm (.lst (RepL.ofStrs _))) .non⟩
  · exact t.elim
/-! list.index, texts -/
def dmIndex : DRm := fun d ds μ Q => match ds with
  | [.str z] => (match lstD μ d with
    | some xs => (match txtsD xs with
      | some ns => z ∈ ns ∧ Q (.int (ns.idxOf z : Nat)) μ
      | none => False)
    | none => False)
  | _ => False
theorem lm_index {K : PySem.W.Frag} : LRm K dmIndex (rIndex K) := fun F H μ x xs d ds Q' Q R r rs t k => by
  unfold dmIndex at t
  split at t
  · rename_i z
    cases rs with
    | cons r1 r2 =>
      cases r1
      cases r2
      cases e : lstD μ d with
      | none => simp only [e] at t
      | some ys =>
        simp only [e] at t
        cases e2 : txtsD ys with
        | none => simp only [e2] at t
        | some ns =>
          simp only [e2] at t
          obtain ⟨hz, t⟩ := t
          obtain rfl := txtsD_of e2
          obtain ⟨a, vs, rfl, ha, rl⟩ := R.lst r e
          obtain rfl := rl.strs
          have hi : ns.idxOf z < ns.length := List.idxOf_lt_length_of_mem hz
          refine ⟨a, ns.map V.str, .str z, ns.idxOf z, .str z, rfl, rfl, SqL.of ha, rfl, ?_, ?_, ?_, ?_, k _ _ t F _ _ (Stp.refl _ _ _) R (.int _)⟩
          · rw [List.all_map]
            exact List.all_eq_true.mpr fun y _ => rfl
          · rw [List.getElem?_map, List.getElem?_eq_getElem hi, List.getElem_idxOf hi]
            rfl
          · show (z == z) = true
            simp
          · intro m z' hm hz'
            rw [List.getElem?_map, List.getElem?_eq_getElem (by omega)] at hz'
            cases hz'
            show (ns[m] == z) = false
            exact List.not_of_lt_findIdx (xs := ns) (p := fun x => x == z) hm
  · exact t.elim
/-! list.pop(i) -/
def dmPopAt : DRm := fun d ds μ Q => match ds with
  | [.int i] => (match mlst μ d with
    | some (a, xs) => 0 ≤ i ∧ i < 2 ^ 62 ∧ (match xs[i.toNat]? with
      | some y => Q y (up μ a (.lst (xs.eraseIdx i.toNat)))
      | none => False)
    | none => False)
  | _ => False
theorem lm_popAt {K : PySem.W.Frag} : LRm K dmPopAt rPopAt := fun F H μ x xs d ds Q' Q R r rs t k => by
  unfold dmPopAt at t
  split at t
  · rename_i i
    cases rs with
    | cons r1 r2 =>
      cases r1
      cases r2
      cases e : mlst μ d with
      | none => simp only [e] at t
      | some p =>
        obtain ⟨a, ys⟩ := p
        simp only [e] at t
        obtain ⟨i0, i1, t⟩ := t
        cases e2 : ys[i.toNat]? with
        | none => simp only [e2] at t
        | some y =>
          simp only [e2] at t
          obtain ⟨rfl, hm, vs, ha, rl⟩ := R.mlst r e
          obtain ⟨w, h1, h2⟩ := rl.get e2
          have lt := (List.getElem?_eq_some_iff.mp e2).1
          have len := rl.length
          refine ⟨a, vs, i, i.toNat, w, rfl, rfl, ha, by omega, by omega, ?_, h1, k y _ t F _ w (Stp.put hm) (R.put hm (.lst (rl.eraseIdx _))) h2⟩
          have neg : ¬ i < 0 := by omega
          have inn : (decide (0 ≤ i) && decide (i < (vs.length : Int))) = true := by
            rw [Bool.and_eq_true, decide_eq_true_eq, decide_eq_true_eq]
            omega
          unfold seqIndex?
          simp only [if_neg neg]
          rw [if_pos inn]
  · exact t.elim
/-! zip of two lists or two tuples -/
theorem zips_at {xs ys : List SD} {i : Nat} {d : SD} (h : (zips xs ys)[i]? = some d) : ∃ x y, xs[i]? = some x ∧ ys[i]? = some y ∧ d = .tup [x, y] := by
  unfold zips at h
  rw [List.getElem?_zipWith] at h
  cases e1 : xs[i]? with
  | none => rw [e1] at h; simp at h
  | some x =>
    cases e2 : ys[i]? with
    | none => rw [e1, e2] at h; simp at h
    | some y => rw [e1, e2] at h; cases h; exact ⟨x, y, rfl, rfl, rfl⟩
theorem zips_len {xs ys : List SD} : (zips xs ys).length = min xs.length ys.length := by
  unfold zips
  exact List.length_zipWith
section
variable {K : PySem.W.Frag} {F0 H0 : Hp} {μ0 : Mu} {a b : Addr} {xs ys : List SD} {ok : Mu → Prop}
theorem pair_new {F H : Hp} {μ : Mu} {T : Addr} {x y : V} {dx dy : SD} (R : HReal K F H μ) (hT : H T = none) (rx : RepS K F dx x) (ry : RepS K F dy y) :
    ∃ F', Stp F H μ F' (upd H T (.tup [x, y])) μ ∧ HReal K F' (upd H T (.tup [x, y])) μ ∧ RepS K F' (.tup [dx, dy]) (.ref T) := by
  have ex : Ext F (upd F T (.tup [x, y])) := Ext.new (R.freeF hT)
  exact ⟨_, Stp.newS R hT, R.newS hT, .tup (.inl (.inl upd_same)) (.cons (rx.mono ex) (.one (ry.mono ex)))⟩
theorem src_zipL (h : ∀ (F H : Hp) (μ : Mu), Stp F0 H0 μ0 F H μ → HReal K F H μ → ok μ → ∃ vs us, SqL K H a vs ∧ RepL K F xs vs ∧ SqL K H b us ∧ RepL K F ys us) : Src K F0 H0 μ0 (Itz K a b) (zips xs ys) ok where
  go := fun i F H μ e R k hi => by
    obtain ⟨vs, us, h1, h2, h3, h4⟩ := h F H μ e R k
    rw [zips_len] at hi
    have l1 := h2.length
    have l2 := h4.length
    exact ⟨vs, us, vs[i]'(by omega), us[i]'(by omega), h1, h3, List.getElem?_eq_getElem _, List.getElem?_eq_getElem _⟩
  stop := fun F H μ e R k => by
    obtain ⟨vs, us, h1, h2, h3, h4⟩ := h F H μ e R k
    have l1 := h2.length
    have l2 := h4.length
    refine ⟨vs, us, h1, h3, ?_⟩
    rw [zips_len]
    omega
  yld := fun i F H μ x H' e R k y d hd => by
    obtain ⟨vs, us, h1, h2, h3, h4⟩ := h F H μ e R k
    obtain ⟨T, x1, y1, rfl, hT, rfl, ya, yb⟩ := y
    obtain ⟨dx, dy, e1, e2, rfl⟩ := zips_at hd
    obtain ⟨v1, g1, r1⟩ := h2.get e1
    obtain ⟨v2, g2, r2⟩ := h4.get e2
    have z1 := (ya vs h1).symm.trans g1
    have z2 := (yb us h3).symm.trans g2
    cases z1; cases z2
    exact pair_new R hT r1 r2
theorem src_zipT (h : ∀ (F H : Hp) (μ : Mu), Stp F0 H0 μ0 F H μ → HReal K F H μ → ok μ → ∃ vs us, SqT K H a vs ∧ RepL K F xs vs ∧ SqT K H b us ∧ RepL K F ys us) : Src K F0 H0 μ0 (RZ.ItzT K a b) (zips xs ys) ok where
  go := fun i F H μ e R k hi => by
    obtain ⟨vs, us, h1, h2, h3, h4⟩ := h F H μ e R k
    rw [zips_len] at hi
    have l1 := h2.length
    have l2 := h4.length
    exact ⟨vs, us, vs[i]'(by omega), us[i]'(by omega), h1, h3, List.getElem?_eq_getElem _, List.getElem?_eq_getElem _⟩
  stop := fun F H μ e R k => by
    obtain ⟨vs, us, h1, h2, h3, h4⟩ := h F H μ e R k
    have l1 := h2.length
    have l2 := h4.length
    refine ⟨vs, us, h1, h3, ?_⟩
    rw [zips_len]
    omega
  yld := fun i F H μ x H' e R k y d hd => by
    obtain ⟨vs, us, h1, h2, h3, h4⟩ := h F H μ e R k
    obtain ⟨T, x1, y1, rfl, hT, rfl, ya, yb⟩ := y
    obtain ⟨dx, dy, e1, e2, rfl⟩ := zips_at hd
    obtain ⟨v1, g1, r1⟩ := h2.get e1
    obtain ⟨v2, g2, r2⟩ := h4.get e2
    have z1 := (ya vs h1).symm.trans g1
    have z2 := (yb us h3).symm.trans g2
    cases z1; cases z2
    exact pair_new R hT r1 r2
end
section
variable {X : Cx} {e e2 : Expr} {ta : DTA} {p pos tpos : Pos} {elts : List Expr} {kk : Nat}
theorem di_zip (hg : Gl X "zip") (hm : X.mg "zip" = none) (ha : DA X [e, e2] ta) (hs : starEach [e, e2] X.env = (false, eval e X.env) :: starEach [e2] X.env := by rfl) (hpl : (backTo pos (starEach [e2] X.env)).any (·.1) = false := by rfl) :
    DI X (.Tuple elts kk tpos) (.Call (.Name "zip" p) [e, e2] [] pos) (jZip ta) := weakI (RZ.pi_zipA hg hm ha hs hpl) fun σ H R h => by
  obtain ⟨F, ρ, μ, Q', R0, S, t, k⟩ := h
  refine ⟨F, ρ, μ, _, R0, S, t, fun ds μ1 t1 F1 H1 vs s1 R1 r1 => ?_⟩
  match ds, r1, t1 with
  | [], _, t1 => exact t1.elim
  | [_], _, t1 => exact t1.elim
  | _ :: _ :: _ :: _, _, t1 => exact t1.elim
  | [d, f], .cons ra (.cons rb .nil), t1 =>
    obtain ⟨same, t1⟩ := (show isTup d = isTup f ∧ _ from t1)
    cases e1 : seqD μ1 d with
    | none => rw [e1] at t1; exact t1.elim
    | some xs =>
      cases e3 : seqD μ1 f with
      | none => rw [e1, e3] at t1; exact t1.elim
      | some ys =>
        rw [e1, e3] at t1
        obtain ⟨a, va, rfl, rl, c1⟩ := R1.seq ra e1
        obtain ⟨b, vb, rfl, rm, c2⟩ := R1.seq rb e3
        refine ⟨a, b, va, vb, rfl, ?_⟩
        rcases c1 with ⟨n1, q1⟩ | ⟨n1, q1⟩
        · rcases c2 with ⟨n2, q2⟩ | ⟨n2, q2⟩
          · refine .inl ⟨q1, q2, k _ _ _ t1 F1 H1 _ s1 R1 (src_zipL fun F2 H2 μ2 s2 R2 ok => ?_)⟩
            obtain ⟨a', v1, z1, r1, g1⟩ := R2.seq (ra.mono s2.ext) ok.1
            obtain ⟨b', v2, z2, r2, g2⟩ := R2.seq (rb.mono s2.ext) ok.2
            cases z1; cases z2
            rcases g1 with g1 | g1
            · rcases g2 with g2 | g2
              · exact ⟨v1, v2, g1.2, r1, g2.2, r2⟩
              · rw [n2] at g2; cases g2.1
            · rw [n1] at g1; cases g1.1
          · rw [n1, n2] at same; cases same
        · rcases c2 with ⟨n2, q2⟩ | ⟨n2, q2⟩
          · rw [n1, n2] at same; cases same
          · refine .inr ⟨q1, q2, k _ _ _ t1 F1 H1 _ s1 R1 (src_zipT fun F2 H2 μ2 s2 R2 ok => ?_)⟩
            obtain ⟨a', v1, z1, r1, g1⟩ := R2.seq (ra.mono s2.ext) ok.1
            obtain ⟨b', v2, z2, r2, g2⟩ := R2.seq (rb.mono s2.ext) ok.2
            cases z1; cases z2
            rcases g1 with g1 | g1
            · rw [n1] at g1; cases g1.1
            · rcases g2 with g2 | g2
              · rw [n2] at g2; cases g2.1
              · exact ⟨v1, v2, g1.2, r1, g2.2, r2⟩
end
/-! short forms -/
section
variable {X : Cx} {o e : Expr} {to te : DTE} {apos cpos : Pos}
theorem de_remove (ho : DE X o to) (ha : DE X e te) (hs : starEach [e] X.env = (false, eval e X.env) :: starEach [] X.env := by rfl) (hbase : attributeBase o "remove" X.env (eval o X.env) = eval o X.env := by rfl)
    (hfew : ((backTo cpos (starEach [e] X.env)).all (fun x => !x.1) && (backToKw cpos (keywordEach [] X.env)).all (fun x => x.1.isSome) && decide (([e] : List Expr).length + ([] : List Keyword).length + (if ([] : List Keyword).isEmpty then 0 else 1) < 30)) = true := by rfl)
    (hline : (apos.endLine == cpos.line) = true := by rfl) (hplain : (backTo cpos (starEach [] X.env)).any (·.1) = false := by rfl) :
    DE X (.Call (.Attribute o "remove" apos) [e] [] cpos) (dLM dmRemove to (dCons te dNil)) := de_lm F.plainAttrs_list F.slot_list_remove F.type_list_remove mt_remS lm_remove ho (da_cons ha da_nil hs) hbase hfew hline hs hplain
theorem de_index (ho : DE X o to) (ha : DE X e te) (hs : starEach [e] X.env = (false, eval e X.env) :: starEach [] X.env := by rfl) (hbase : attributeBase o "index" X.env (eval o X.env) = eval o X.env := by rfl)
    (hfew : ((backTo cpos (starEach [e] X.env)).all (fun x => !x.1) && (backToKw cpos (keywordEach [] X.env)).all (fun x => x.1.isSome) && decide (([e] : List Expr).length + ([] : List Keyword).length + (if ([] : List Keyword).isEmpty then 0 else 1) < 30)) = true := by rfl)
    (hline : (apos.endLine == cpos.line) = true := by rfl) (hplain : (backTo cpos (starEach [] X.env)).any (·.1) = false := by rfl) :
    DE X (.Call (.Attribute o "index" apos) [e] [] cpos) (dLM dmIndex to (dCons te dNil)) := de_lm F.plainAttrs_list F.slot_list_index F.type_list_index mt_index lm_index ho (da_cons ha da_nil hs) hbase hfew hline hs hplain
theorem de_popAt (ho : DE X o to) (ha : DE X e te) (hs : starEach [e] X.env = (false, eval e X.env) :: starEach [] X.env := by rfl) (hbase : attributeBase o "pop" X.env (eval o X.env) = eval o X.env := by rfl)
    (hfew : ((backTo cpos (starEach [e] X.env)).all (fun x => !x.1) && (backToKw cpos (keywordEach [] X.env)).all (fun x => x.1.isSome) && decide (([e] : List Expr).length + ([] : List Keyword).length + (if ([] : List Keyword).isEmpty then 0 else 1) < 30)) = true := by rfl)
    (hline : (apos.endLine == cpos.line) = true := by rfl) (hplain : (backTo cpos (starEach [] X.env)).any (·.1) = false := by rfl) :
    DE X (.Call (.Attribute o "pop" apos) [e] [] cpos) (dLM dmPopAt to (dCons te dNil)) := de_lm F.plainAttrs_list F.slot_list_pop F.type_list_pop mt_popAt lm_popAt ho (da_cons ha da_nil hs) hbase hfew hline hs hplain
end
end DS
/-! DS25: dict(pairs), list(dict), list(d.items()), d.pop(k). -/
namespace DS
open PySem PySem.Spec PyProof.Rows L2
def kD : Key → SD
  | .inl i => .int i
  | .inr x => .str x
theorem kD_rep {K : PySem.W.Frag} {F : Hp} (k : Key) : RepS K F (kD k) (kV k) := by
  cases k
  · exact .int _
  · exact .str _
theorem kD_key (k : Key) : keyD (kD k) = some k := by cases k <;> rfl
/-! dict(pairs) -/
def pairsD : List SD → Option (List (Key × SD))
  | [] => some []
  | d :: r => match d with
    | .tup [k, v] => (match keyD k, pairsD r with
      | some q, some l => some ((q, v) :: l)
      | _, _ => none)
    | _ => none
theorem pairsD_map : ∀ (l : List (Key × SD)), pairsD (l.map fun p => .tup [kD p.1, p.2]) = some l
  | [] => rfl
  | (k, v) :: l => by
    rw [List.map_cons, pairsD]
    simp only [kD_key, pairsD_map l]
theorem pairsD_cons {d : SD} {r : List SD} {kvs : List (Key × SD)} (h : pairsD (d :: r) = some kvs) : ∃ k v q l, d = .tup [k, v] ∧ keyD k = some q ∧ pairsD r = some l ∧ kvs = (q, v) :: l := by
  cases d with
  | tup xs =>
    match xs, h with
    | [k, v], h =>
      have h : (match keyD k, pairsD r with
        | some q, some l => some ((q, v) :: l)
        | _, _ => none) = some kvs := h
      cases e1 : keyD k with
      | none => rw [e1] at h; cases h
      | some q =>
        cases e2 : pairsD r with
        | none => rw [e1, e2] at h; cases h
        | some l => rw [e1, e2] at h; cases h; exact ⟨k, v, q, l, rfl, e1, rfl, rfl⟩
    | [], h => cases h
    | [_], h => cases h
    | _ :: _ :: _ :: _, h => cases h
  | _ => cases h
theorem pairs_rep {K : PySem.W.Frag} {F H : Hp} (ex : Ext F H) : ∀ {xs : List SD} {vs : List V} {kvs : List (Key × SD)}, RepL K F xs vs → pairsD xs = some kvs →
    ∃ (ps : List Addr) (ws : List (Key × V)), vs = ps.map V.ref ∧ Paired (fun p kv => SqT K H p [kV kv.1, kv.2]) ps ws ∧ ws.map (·.1) = kvs.map (·.1) ∧ RepL K F (kvs.map (·.2)) (ws.map (·.2))
  | [], _, kvs, .nil, h => by cases h; exact ⟨[], [], rfl, .nil, rfl, .nil⟩
  | d :: xs, _, kvs, .cons r rs, h => by
    obtain ⟨k, v, q, l, rfl, e1, e2, rfl⟩ := pairsD_cons h
    obtain ⟨ps, ws, i1, i2, i3, i4⟩ := pairs_rep ex rs e2
    cases r with
    | tup hT rl =>
      cases rl with
      | cons ra rb => cases rb with
        | cons rb rc =>
          cases rc
          have ek := keyD_rep ra e1
          subst ek
          exact ⟨_ :: ps, (q, _) :: ws, by rw [i1]; rfl, .cons (ex.sqT hT) i2, by simp [i3], .cons rb i4⟩
def rDictP (K : PySem.W.Frag) : List V → Hp → VK → Prop := fun xs H Q => ∃ (a : Addr) (ps : List Addr) (kvs : List (Key × V)), xs = [.ref a] ∧ SqL K H a (ps.map V.ref) ∧ Paired (fun p kv => SqT K H p [kV kv.1, kv.2]) ps kvs ∧
  ∀ p, H p = none → Q (.ref p) (upd H p (.dK (mergeK [] kvs)))
def drDictP : DRc := fun ds μ Q => match ds with
  | [d] => isTup d = false ∧ (match seqD μ d with
    | some xs => (match pairsD xs with
      | some kvs => ∀ p, μ p = none → Q (.ref p) (up μ p (.dic (mergeD [] kvs)))
      | none => False)
    | none => False)
  | _ => False
theorem lc_dictP {K : PySem.W.Frag} : LRc K drDictP (rDictP K) := fun F H μ xs ds Q' Q R r t k => by
  unfold drDictP at t
  split at t
  · rename_i d
    obtain ⟨nt, t⟩ := t
    cases e : seqD μ d with
    | none => rw [e] at t; exact t.elim
    | some zs =>
      rw [e] at t
      simp only at t
      cases e2 : pairsD zs with
      | none => rw [e2] at t; exact t.elim
      | some kvs =>
        rw [e2] at t
        match xs, r with
        | [v], .cons r1 .nil =>
          obtain ⟨a, vs, rfl, rl, hL | hT⟩ := R.seq r1 e
          · obtain ⟨ps, ws, rfl, i2, i3, i4⟩ := pairs_rep R.ext rl e2
            refine ⟨a, ps, ws, rfl, hL.2, i2, fun p hp => ?_⟩
            have m := RepK.merge (kvs := []) (vs := []) ⟨rfl, .nil⟩ (⟨i3, i4⟩ : RepK K F kvs ws)
            exact k _ _ (t p (R.freeM hp)) _ _ _ (Stp.newM R hp) (R.newM hp (.dic m.keys m.vals)) (.ref _)
          · rw [nt] at hT; cases hT.1
  · exact t.elim
/-! list(d) -/
def rListK : List V → Hp → VK → Prop := fun xs H Q => ∃ (a : Addr) (kvs : List (Key × V)), xs = [.ref a] ∧ Rd H a (.dK kvs) ∧ ∀ p, H p = none → Q (.ref p) (upd H p (.lst (kvs.map fun kv => kV kv.1)))
def drListK : DRc := fun ds μ Q => match ds with
  | [d] => (match dicD μ d with
    | some kvs => Q (.lst (kvs.map fun kv => kD kv.1)) μ
    | none => False)
  | _ => False
theorem keys_rep {K : PySem.W.Frag} {F : Hp} : ∀ {kvs : List (Key × SD)} {ws : List (Key × V)}, ws.map (·.1) = kvs.map (·.1) → RepL K F (kvs.map fun kv => kD kv.1) (ws.map fun kv => kV kv.1)
  | [], [], _ => .nil
  | [], _ :: _, h => by cases h
  | _ :: _, [], h => by cases h
  | (k, d) :: kvs, (k', w) :: ws, h => by
    simp only [List.map_cons, List.cons.injEq] at h
    obtain ⟨rfl, h⟩ := h
    exact .cons (kD_rep k') (keys_rep h)
theorem lc_listK {K : PySem.W.Frag} : LRc K drListK rListK := fun F H μ xs ds Q' Q R r t k => by
  unfold drListK at t
  split at t
  · rename_i d
    cases e : dicD μ d with
    | none => rw [e] at t; exact t.elim
    | some kvs =>
      rw [e] at t
      match xs, r with
      | [v], .cons r1 .nil =>
        obtain ⟨a, ws, rfl, h1, rk⟩ := R.dic r1 e
        exact ⟨a, ws, rfl, h1, fun p hp => k _ μ t _ _ _ (Stp.newS R hp) (R.newS hp) (.lst upd_same (keys_rep rk.keys))⟩
  · exact t.elim
/-! list(d.items()) -/
def itQ (Q : SD → Mu → Prop) : SD → Mu → Prop := fun d μ => match mdic μ d with
  | some (_, kvs) => Q (.lst (kvs.map fun kv => .tup [kD kv.1, kv.2])) μ
  | none => False
abbrev dListIt (te : DTE) : DTE := fun ρ μ Q => te ρ μ (itQ Q)
theorem tups_rep {K : PySem.W.Frag} {F F' : Hp} (ex : Ext F F') : ∀ {ts : List Addr} {ws : List (Key × V)} {kvs : List (Key × SD)}, Paired (fun (t : Addr) (q : Key × V) => F' t = some (.tup [kV q.1, q.2])) ts ws → ws.map (·.1) = kvs.map (·.1) → RepL K F (kvs.map (·.2)) (ws.map (·.2)) →
    RepL K F' (kvs.map fun kv => SD.tup [kD kv.1, kv.2]) (ts.map V.ref)
  | _, _, [], .nil, _, _ => .nil
  | _, _, _ :: _, .nil, h, _ => by cases h
  | _, _, [], .cons _ _, h, _ => by cases h
  | _, _, (k, d) :: kvs, .cons p ps, h, .cons r rs => by
    simp only [List.map_cons, List.cons.injEq] at h
    obtain ⟨rfl, h⟩ := h
    exact .cons (.tup (.inl (.inl p)) (.cons (kD_rep _) (.one (r.mono ex)))) (tups_rep ex ps h rs)
section
variable {X : Cx} {e o i : Expr} {te td ty : DTE} {p apos cpos pos : Pos}
theorem de_listIt (he : DE X e te) (hg : Gl X "list") (hm : X.mg "list" = none) (hc : X.calm = true := by rfl) (hbase : attributeBase e "items" X.env (eval e X.env) = eval e X.env := by rfl) (hline : (apos.endLine == cpos.line) = true := by rfl)
    (hs : starEach [.Call (.Attribute e "items" apos) [] [] cpos] X.env = (false, eval (.Call (.Attribute e "items" apos) [] [] cpos) X.env) :: starEach [] X.env := by rfl) :
    DE X (.Call (.Name "list" p) [.Call (.Attribute e "items" apos) [] [] cpos] [] pos) (dListIt te) := weakE (LiI.pe_listItems hc he hg hm bt_list hbase hline hs) fun σ H Q h => by
  obtain ⟨F, ρ, μ, Q', R, S, t, k⟩ := h
  refine ⟨F, ρ, μ, _, R, S, t, fun d μ1 t1 F1 H1 v s1 R1 r1 => ?_⟩
  unfold itQ at t1
  cases e1 : mdic μ1 d with
  | none => rw [e1] at t1; exact t1.elim
  | some pr =>
    obtain ⟨a, kvs⟩ := pr
    rw [e1] at t1
    simp only at t1
    obtain ⟨rfl, hm1, ws, ha, rk⟩ := R1.mdic r1 e1
    refine ⟨a, ws, rfl, ha, fun H2 q ts old free fresh nq at_ pr => ?_⟩
    have nin : ∀ b, H1 b ≠ none → b ∉ q :: ts := fun b hb hm => by
      rcases List.mem_cons.mp hm with rfl | hm
      · exact hb free
      · exact hb (fresh b hm)
    let F2 : Hp := fun b => if b ∈ q :: ts then H2 b else F1 b
    have F2n : ∀ b, b ∉ q :: ts → F2 b = F1 b := fun b hb => if_neg hb
    have F2y : ∀ b, b ∈ q :: ts → F2 b = H2 b := fun b hb => if_pos hb
    have keepF : ∀ b x, F1 b = some x → F2 b = some x := fun b x e => by
      rw [F2n b (nin b (by rw [R1.sub b x e]; exact fun z => by cases z))]
      exact e
    have ex : Ext F1 F2 := Ext.of_sub keepF
    have R2 : HReal X.K F2 H2 μ1 := ⟨fun b x e => by
      by_cases hb : b ∈ q :: ts
      · rw [F2y b hb] at e; exact e
      · rw [F2n b hb] at e; exact old b x (R1.sub b x e), fun b m e => by
      obtain ⟨z, x, h1, h2⟩ := R1.mus b m e
      have hb := nin b (by rw [h1]; exact fun z => by cases z)
      exact ⟨by rw [F2n b hb]; exact z, x, old b x h1, h2.mono ex⟩⟩
    have S2 : Stp F1 H1 μ1 F2 H2 μ1 := ⟨ex, fun b h1 h2 h3 => by
      obtain ⟨x, hx⟩ := Option.ne_none_iff_exists'.mp h1
      exact ⟨by rw [old b x hx, hx], by rw [F2n b (nin b h1)]; exact h2, h3⟩⟩
    have pr2 : Paired (fun (t : Addr) (q : Key × V) => F2 t = some (.tup [kV q.1, q.2])) ts ws := by
      have key : ∀ {us : List Addr} {ks : List (Key × V)}, (∀ u ∈ us, u ∈ ts) → Paired (fun (t : Addr) (q : Key × V) => H2 t = some (.tup [kV q.1, q.2])) us ks → Paired (fun (t : Addr) (q : Key × V) => F2 t = some (.tup [kV q.1, q.2])) us ks := by
        intro us ks hu h
        induction h with
        | nil => exact .nil
        | cons h1 _ ih => exact .cons (by rw [F2y _ (List.mem_cons_of_mem _ (hu _ (List.mem_cons_self ..)))]; exact h1) (ih fun u hm => hu u (List.mem_cons_of_mem _ hm))
      exact key (fun u h => h) pr
    exact k _ μ1 t1 F2 H2 _ (s1.trans S2) R2 (.lst (by rw [F2y q (List.mem_cons_self ..)]; exact at_) (tups_rep ex pr2 rk.keys rk.vals))
/-! d.pop(k) -/
def dropD (kvs : List (Key × SD)) (k : Key) : List (Key × SD) := kvs.filter fun kv => decide (kv.1 ≠ k)
theorem drop_rep {K : PySem.W.Frag} {F : Hp} (k : Key) : ∀ {kvs : List (Key × SD)} {ws : List (Key × V)}, RepK K F kvs ws → RepK K F (dropD kvs k) (dropK ws k)
  | [], [], _ => ⟨rfl, .nil⟩
  | [], _ :: _, ⟨h, _⟩ => by cases h
  | _ :: _, [], ⟨h, _⟩ => by cases h
  | (q, d) :: kvs, (q', w) :: ws, ⟨h, .cons r rs⟩ => by
    simp only [List.map_cons, List.cons.injEq] at h
    obtain ⟨rfl, h⟩ := h
    obtain ⟨i1, i2⟩ := drop_rep k (⟨h, rs⟩ : RepK K F kvs ws)
    unfold dropD dropK at *
    by_cases e : q' = k
    · rw [List.filter_cons_of_neg (by simpa using e), List.filter_cons_of_neg (by simpa using e)]
      exact ⟨i1, i2⟩
    · rw [List.filter_cons_of_pos (by simpa using e), List.filter_cons_of_pos (by simpa using e)]
      exact ⟨by rw [List.map_cons, List.map_cons, i1], .cons r i2⟩
def drPop1 (x y : SD) (μ : Mu) (Q : SD → Mu → Prop) : Prop := match mdic μ x, keyD y with
  | some (a, kvs), some k => (match valD kvs k with
    | some v => Q v (up μ a (.dic (dropD kvs k)))
    | none => False)
  | _, _ => False
abbrev dDPop1 (td ty : DTE) : DTE := fun ρ μ Q => td ρ μ fun x μ1 => (dicD μ1 x).isSome = true ∧ ty ρ μ1 fun y μ2 => drPop1 x y μ2 Q
theorem de_dpop1 (ho : DE X o td) (he : DE X i ty) (m : M1 X o "pop" apos i cpos) : DE X (.Call (.Attribute o "pop" apos) [i] [] cpos) (dDPop1 td ty) := weakE (pe_dpop1 ho he m) fun σ H Q h => by
  obtain ⟨F, ρ, μ, Q', R, S, t, k⟩ := h
  refine ⟨F, ρ, μ, _, R, S, t, fun d μ1 t1 F1 H1 v s1 R1 r1 => ?_⟩
  obtain ⟨is, t1⟩ := t1
  obtain ⟨kvs, hk⟩ := Option.isSome_iff_exists.mp is
  obtain ⟨a, ws, rfl, h1, _⟩ := R1.dic r1 hk
  refine ⟨a, rfl, .inl ⟨ws, h1⟩, F1, ρ, μ1, _, R1, S.mono s1.ext, t1, fun y μ2 t2 F2 H2 u s2 R2 r2 => ?_⟩
  unfold drPop1 at t2
  cases e1 : mdic μ2 d with
  | none => rw [e1] at t2; exact t2.elim
  | some pr =>
    obtain ⟨b, kvs⟩ := pr
    cases e2 : keyD y with
    | none => rw [e1, e2] at t2; exact t2.elim
    | some q =>
      rw [e1, e2] at t2
      simp only at t2
      obtain ⟨eb, hm, ws, hb, rk⟩ := R2.mdic (r1.mono s2.ext) e1
      cases eb
      rcases rk.val q with ⟨d', v', g1, g2, g3⟩ | ⟨g1, g2⟩
      · rw [g1] at t2
        have rd := drop_rep q rk
        have s3 := Stp.put (F := F2) (H := H2) (o := .dK (dropK ws q)) (m := .dic (dropD kvs q)) hm
        exact ⟨ws, q, v', hb, keyD_rep r2 e2, g2, k _ _ t2 F2 _ _ ((s1.trans s2).trans s3) (R2.put hm (.dic rd.keys rd.vals)) g3⟩
      · rw [g1] at t2; exact t2.elim
end
/-! x += e, ints -/
def dAugI (g : Int → Int → Int) (i : Nat) (te : DTE) : DTS := fun D ρ μ => ∃ a, ρ[i]? = some (some (.int a)) ∧ te ρ μ fun y μ1 => match y with
  | .int b => D.nx (ρ.set i (some (.int (g a b)))) μ1
  | _ => False
section
variable {X : Cx} {x : Str} {e : Expr} {te : DTE} {i : Nat} {op : Operator} {g : Int → Int → Int} {pos pos' : Pos}
theorem ds_augI (hp : PIp X op (ipI g)) (hN : X.N.Nodup) (hi : X.N[i]? = some x) (hx : Loc X.env.scope x) (he : DE X e te) (hf : X.fn x = true ∨ X.env.scope.names.lookup x = some .local := by first | exact .inl rfl | exact .inr rfl | assumption) :
    DS_ X (.AugAssign (.Name x pos') op e pos) (dAugI g i te) := weakS (ps_aug hN hi hx he hp hf) fun D σ H h => by
  obtain ⟨F, ρ, μ, D', R, S, ⟨a, ea, t⟩, k, _⟩ := h
  obtain ⟨v, e1, r1⟩ := S.at_ _ _ ea
  cases r1
  refine ⟨.int a, e1, F, ρ, μ, _, R, S, t, fun d μ1 t1 F1 H1 w s1 R1 r1 => ?_⟩
  cases r1 with
  | int b => exact ⟨a, b, rfl, rfl, k _ μ1 t1 F1 H1 _ s1 R1 ((S.mono s1.ext).set i (.int _))⟩
  | _ => exact t1.elim
end
end DS
/-! DS26: a dict of the module's top, texts to ints, never changed. -/
namespace DS
open PySem PySem.Spec PyProof.Rows L2
def EsAre : List DictEntry → List (Str × Int) → Prop
  | [], [] => True
  | e :: r, (k, i) :: s => (∃ t, e.key = .str k t) ∧ (∃ t, e.val = .int i t) ∧ EsAre r s
  | _, _ => False
structure GDic (K : PySem.W.Frag) (wp : Params) (mg : Str → Option Value) (x : Str) (kvs : List (Str × Int)) where
  a : Addr
  m : mg x = some (.ref a)
  low : (a == sysModules) = false
  ex : ∃ es n, K.lookup a = some ⟨.type "dict", none, .dict es n, #[]⟩ ∧ PySem.W.KeysLit wp es.toList ∧ EsAre es.toList kvs
theorem es_find {z : Str} : ∀ {l : List DictEntry} {kvs : List (Str × Int)}, EsAre l kvs → (∀ i, kvs.lookup z = some i → ∃ e t, l.find? (·.key.isStr z) = some e ∧ e.val = .int i t) ∧ (kvs.lookup z = none → l.find? (·.key.isStr z) = none) ∧ l.any (·.refKey) = false
  | [], [], _ => ⟨(fun i h => by cases h), (fun _ => rfl), rfl⟩
  | [], _ :: _, h => h.elim
  | _ :: _, [], h => h.elim
  | e :: r, (k, i) :: s, h => by
    obtain ⟨⟨t, hk⟩, ⟨u, hv⟩, hr⟩ := h
    obtain ⟨i1, i2, i3⟩ := es_find (z := z) hr
    have key : e.key.isStr z = (z == k) := by
      rw [hk]
      show (k == z) = (z == k)
      exact Bool.eq_iff_iff.mpr ⟨fun q => beq_iff_eq.mpr (beq_iff_eq.mp q).symm, fun q => beq_iff_eq.mpr (beq_iff_eq.mp q).symm⟩
    have nr : e.refKey = false := by
      unfold DictEntry.refKey
      rw [hk]
    refine ⟨fun j hj => ?_, fun hn => ?_, by rw [List.any_cons, nr, i3]; rfl⟩
    · rw [List.lookup_cons] at hj
      rw [List.find?_cons, key]
      cases q : (z == k) with
      | true =>
        rw [q] at hj
        cases hj
        exact ⟨e, u, rfl, hv⟩
      | false =>
        rw [q] at hj
        exact i1 j hj
    · rw [List.lookup_cons] at hn
      rw [List.find?_cons, key]
      cases q : (z == k) with
      | true => rw [q] at hn; cases hn
      | false =>
        rw [q] at hn
        exact i2 hn
section
variable {K : PySem.W.Frag} {wp : Params} {mg : Str → Option Value} {x : Str} {kvs : List (Str × Int)}
theorem GDic.at_ (D : GDic K wp mg x kvs) (z : Str) : (∀ i, kvs.lookup z = some i → ∃ t, PySem.W.nsIn K D.a z = some (some (.int i t))) ∧ (kvs.lookup z = none → PySem.W.nsIn K D.a z = some none) := by
  obtain ⟨es, n, lk, _, ok⟩ := D.ex
  obtain ⟨i1, i2, i3⟩ := es_find (z := z) ok
  refine ⟨fun i h => ?_, fun h => ?_⟩
  · obtain ⟨e, t, e1, e2⟩ := i1 i h
    refine ⟨t, ?_⟩
    unfold PySem.W.nsIn
    rw [lk]
    simp only
    rw [e1]
    simp only
    rw [e2]
  · unfold PySem.W.nsIn
    rw [lk]
    simp only
    rw [i2 h]
    simp only
    rw [i3]
    rfl
end
/-- e in D -/
def gQ (neg : Bool) (kvs : List (Str × Int)) (Q : SD → Mu → Prop) : SD → Mu → Prop := fun d μ => match d with
  | .str z => Q (.bl (neg != (kvs.lookup z).isSome)) μ
  | _ => False
abbrev dGIn (neg : Bool) (kvs : List (Str × Int)) (te : DTE) : DTE := fun ρ μ Q => te ρ μ (gQ neg kvs Q)
/-- D[e] -/
def gIxQ (kvs : List (Str × Int)) (Q : SD → Mu → Prop) : SD → Mu → Prop := fun d μ => match d with
  | .str z => (match kvs.lookup z with
    | some i => Q (.int i) μ
    | none => False)
  | _ => False
abbrev dGIx (kvs : List (Str × Int)) (te : DTE) : DTE := fun ρ μ Q => te ρ μ (gIxQ kvs Q)
def tGIn (neg : Bool) (kvs : List (Str × Int)) (te : TE) : TE := fun σ H Q => te σ H fun x H1 => ∃ z, x = .str z ∧ Q (.bl (neg != (kvs.lookup z).isSome)) H1
section
variable {X : Cx} {x : Str} {kvs : List (Str × Int)} {e : Expr} {te : TE} {td : DTE} {p pos : Pos}
theorem GDic.hit (D : GDic X.K X.w.params X.mg x kvs) (z : Str) : ∃ r : Option Value, PySem.W.nsIn X.K D.a z = some r ∧ r.isSome = (kvs.lookup z).isSome := by
  obtain ⟨h1, h2⟩ := D.at_ z
  cases e : kvs.lookup z with
  | none => exact ⟨none, h2 e, rfl⟩
  | some i =>
    obtain ⟨t, q⟩ := h1 i e
    exact ⟨_, q, rfl⟩
theorem pc_gIn (D : GDic X.K X.w.params X.mg x kvs) (hg : Gl X x) (he : PE X e te) (hdb : (x == ("__debug__" : Str)) = false := by decide) : PC X .In e (.Name x p) (tGIn false kvs te) := by
  refine ⟨fun pins s σ H Q I h => thn (he.run pins s σ H _ I h) fun iv s1 ⟨y, H1, I1, ry, z, ez, q1⟩ => ld_glob I1 hg D.m ?_ hdb⟩
  subst ez
  obtain ⟨t, rfl⟩ := (show ∃ t, iv = Value.str z t from ry)
  obtain ⟨es, n, lk, lit, _⟩ := D.ex
  obtain ⟨r, hr, hs⟩ := D.hit z
  refine wpAny_in_of (PySem.strKind_is X.prog X.w z t) D.low (PySem.W.mapOf_K (prog := X.prog) (w := X.w) I1.kIn lk lit) ?_
  rw [PySem.W.find_K lk hr, hs]
  refine ⟨.bl (kvs.lookup z).isSome, H1, I1.tok _, rfl, ?_⟩
  rw [Bool.false_bne] at q1
  exact q1
theorem pc_gNotIn (D : GDic X.K X.w.params X.mg x kvs) (hg : Gl X x) (he : PE X e te) (hdb : (x == ("__debug__" : Str)) = false := by decide) : PC X .NotIn e (.Name x p) (tGIn true kvs te) := by
  refine ⟨fun pins s σ H Q I h => thn (he.run pins s σ H _ I h) fun iv s1 ⟨y, H1, I1, ry, z, ez, q1⟩ => ld_glob I1 hg D.m ?_ hdb⟩
  subst ez
  obtain ⟨t, rfl⟩ := (show ∃ t, iv = Value.str z t from ry)
  obtain ⟨es, n, lk, lit, _⟩ := D.ex
  obtain ⟨r, hr, hs⟩ := D.hit z
  refine wpAny_notIn_of (PySem.strKind_is X.prog X.w z t) D.low (PySem.W.mapOf_K (prog := X.prog) (w := X.w) I1.kIn lk lit) ?_
  rw [PySem.W.find_K lk hr, hs]
  refine ⟨.bl (!(kvs.lookup z).isSome), H1, I1.tok _, rfl, ?_⟩
  rw [Bool.true_bne] at q1
  exact q1
theorem gin_lift {neg : Bool} (σ : L2.St) (H : Hp) (R : Bool → Hp → Prop) (h : LT X.K (dTest (dGIn neg kvs td)) σ H R) : tGIn neg kvs (LE X.K td) σ H (fun x H' => ∃ b, x = V.bl b ∧ R b H') := by
  obtain ⟨F, ρ, μ, Q', R0, S, t, k⟩ := h
  refine ⟨F, ρ, μ, _, R0, S, t, fun d μ1 t1 F1 H1 v s1 R1 r1 => ?_⟩
  unfold gQ at t1
  cases r1 with
  | str z => exact ⟨z, rfl, _, rfl, k _ μ1 t1 F1 H1 s1 R1⟩
  | _ => exact t1.elim
theorem dt_gIn (D : GDic X.K X.w.params X.mg x kvs) (he : DE X e td) (hg : Gl X x := by rfl) (hm : behindInMarks .In (.Name x p) = false := by with_unfolding_all rfl) (hdb : (x == ("__debug__" : Str)) = false := by decide) : DT X (.Compare e [.In] [.Name x p] pos) (dTest (dGIn false kvs td)) :=
  weakT (pt_cmp (pc_gIn D hg he hdb) hm) gin_lift
theorem dt_gNotIn (D : GDic X.K X.w.params X.mg x kvs) (he : DE X e td) (hg : Gl X x := by rfl) (hm : behindInMarks .NotIn (.Name x p) = false := by with_unfolding_all rfl) (hdb : (x == ("__debug__" : Str)) = false := by decide) : DT X (.Compare e [.NotIn] [.Name x p] pos) (dTest (dGIn true kvs td)) :=
  weakT (pt_cmp (pc_gNotIn D hg he hdb) hm) gin_lift
/-- D[e] -/
theorem de_gIx (D : GDic X.K X.w.params X.mg x kvs) (he : DE X e td) (hs : PlainIx e) (hg : Gl X x := by rfl) (hdb : (x == ("__debug__" : Str)) = false := by decide) : DE X (.Subscript (.Name x p) e pos) (dGIx kvs td) :=
  weakE (pe_ix ix_kdict (pe_glob hg D.m (show RelV (.ref D.a) (.ref D.a) from rfl) hdb) he hs) fun σ H Q h => by
    obtain ⟨F, ρ, μ, Q', R0, S, t, k⟩ := h
    refine ⟨F, ρ, μ, _, R0, S, t, fun d μ1 t1 F1 H1 v s1 R1 r1 => ?_⟩
    unfold gIxQ at t1
    cases r1 with
    | str z =>
      simp only at t1
      cases e1 : kvs.lookup z with
      | none => rw [e1] at t1; exact t1.elim
      | some i =>
        rw [e1] at t1
        obtain ⟨es, n, lk, lit, _⟩ := D.ex
        obtain ⟨u, q⟩ := (D.at_ z).1 i e1
        exact ⟨D.a, z, .int i, rfl, rfl, ⟨es, n, _, lk, lit, q, ⟨u, rfl⟩⟩, k _ μ1 t1 F1 H1 _ s1 R1 (.int i)⟩
    | _ => exact t1.elim
end
end DS
/-! DS27: list comprehensions over a dict (its keys, its items). -/
namespace DS
open PySem PySem.Spec PyProof.Rows L2
abbrev LcB (ds : List SD) (ok : Mu → Prop) (g : DTG) (tt : DTT) (te : DTE) (vs : List Nat) (ρ : Rho) (μ1 : Mu) (Q : List SD → Mu → Prop) : Prop := ds.length ≤ sizeLine ∧ ∃ W : Nat → List SD → Mu → Prop, W 0 [] μ1 ∧
  (∀ i acc μ, i ≤ ds.length → W i acc μ → ok μ) ∧ (∀ i d acc μ, ds[i]? = some d → W i acc μ → g d (wipeR ρ vs) μ fun ρ2 μ2 => tt ρ2 μ2 fun b μ3 => if b = true then te ρ2 μ3 fun y μ4 => W (i + 1) (acc ++ [y]) μ4 else W (i + 1) acc μ3) ∧
  ∀ acc μ, W ds.length acc μ → Q acc μ
theorem lc_in {K : PySem.W.Frag} {g : TG} {dg : DTG} {tt : DTT} {te : DTE} {vs : List Nat} (og : OwnG K g dg vs) {σ : L2.St} {H1 F1 : Hp} {ρ : Rho} {μ1 : Mu} {Q : VK} {Q' : List SD → Mu → Prop} {J : It} {ds : List SD} {ok : Mu → Prop} (R1 : HReal K F1 H1 μ1) (S : Slots K F1 σ ρ) (src : Src K F1 H1 μ1 J ds ok)
    (t1 : LcB ds ok dg tt te vs ρ μ1 Q')
    (k : ∀ acc μ', Q' acc μ' → ∀ F' H' p ws, Stp F1 H1 μ1 F' H' μ' → HReal K F' H' μ' → F' p = none → μ' p = none → H' p = some (.lst ws) → RepL K F' acc ws → H1 p = none → Q (.ref p) H') (D : Addr) (hD : H1 D = none) : ∃ W : Nat → Nat → Hp → Prop, (∃ m, W 0 m (upd H1 D (.lst []))) ∧ ∀ i m H, W i m H →
  (J.stop i H ∧ Q (.ref D) H) ∨ (J.go i H ∧ ∃ Nx : Hp → Prop, (∀ H', Nx H' → ∃ m', m' < m ∧ W (i + 1) m' H') ∧ ∀ x H', J.yld i H x H' → g x (wipe σ vs) H' fun σ2 H2 => wipe σ2 vs = wipe σ vs ∧ LT K tt σ2 H2 fun b H3 =>
    if b = true then LE K te σ2 H3 fun y H4 => ∃ acc, H4 D = some (.lst acc) ∧ acc.length < sizeLine ∧ Nx (upd H4 D (.lst (acc ++ [y]))) else Nx H3) := by
  obtain ⟨hlen, W, w0, hok, turn, fin⟩ := t1
  have hDF := R1.freeF hD
  have hDM := R1.freeM hD
  refine ⟨fun i m H' => i + m = ds.length ∧ ∃ F μ acc ws, Stp F1 H1 μ1 F H' μ ∧ HReal K F H' μ ∧ F D = none ∧ μ D = none ∧ H' D = some (.lst ws) ∧ RepL K F acc ws ∧ acc.length ≤ i ∧ W i acc μ, ⟨ds.length, by omega, F1, μ1, [], [], ?_, R1.aside hDF hDM, hDF, hDM, upd_same, .nil, Nat.le_refl _, w0⟩, ?_⟩
  · exact ⟨Ext.refl _, fun a h1 h2 h3 => ⟨upd_ne (fun z => by subst z; exact h1 hD), h2, h3⟩⟩
  rintro i m H' ⟨him, F2, μ2, acc, ws, s2, R2, f2, m2, hH2, r2, hacc, w2⟩
  have hle : i ≤ ds.length := by omega
  by_cases hi : i < ds.length
  · refine .inr ⟨src.go i F2 H' μ2 s2 R2 (hok i acc μ2 hle w2) hi, fun H3 => ∃ F μ acc ws, Stp F1 H1 μ1 F H3 μ ∧ HReal K F H3 μ ∧ F D = none ∧ μ D = none ∧ H3 D = some (.lst ws) ∧ RepL K F acc ws ∧ acc.length ≤ i + 1 ∧ W (i + 1) acc μ, ?_, ?_⟩
    · rintro H3 ⟨F3, μ3, acc3, ws3, z⟩
      exact ⟨ds.length - (i + 1), by omega, by omega, F3, μ3, acc3, ws3, z⟩
    · intro x H3 y
      obtain ⟨F3, s3, R3, r3⟩ := src.yld i F2 H' μ2 x H3 s2 R2 (hok i acc μ2 hle w2) y _ (List.getElem?_eq_getElem hi)
      obtain ⟨e3, f3, m3⟩ := s3.fr D (by rw [hH2]; exact fun z => nomatch z) f2 m2
      have S3 : Slots K F3 (wipe σ vs) (wipeR ρ vs) := ((S.mono s2.ext).mono s3.ext).wipe vs
      refine og.lift x _ H3 _ F3 _ μ2 _ _ R3 S3 r3 (turn i _ acc μ2 (List.getElem?_eq_getElem hi) w2) fun ρ4 μ4 t4 F4 H4 σ4 s4 R4 S4 e4 => ⟨e4.trans ?_, ?_⟩
      · have idem : ∀ (τ : L2.St) (us : List Nat), (∀ i ∈ us, τ[i]? = none ∨ τ[i]? = some none) → wipe τ us = τ := by
          intro τ us
          induction us with
          | nil => intro _; rfl
          | cons a r ih =>
            intro hz
            show (wipe τ r).set a none = τ
            rw [ih fun i hi => hz i (List.mem_cons_of_mem _ hi)]
            rcases hz a List.mem_cons_self with q | q
            · exact List.set_eq_of_length_le (List.getElem?_eq_none_iff.mp q)
            · apply List.ext_getElem?
              intro j
              by_cases hj : j = a
              · subst hj
                obtain ⟨hl, _⟩ := List.getElem?_eq_some_iff.mp q
                rw [List.getElem?_set_self hl, q]
              · rw [List.getElem?_set_ne (Ne.symm hj)]
        refine idem _ _ fun i hi => ?_
        have done : ∀ (us : List Nat), i ∈ us → (wipe σ us)[i]? = none ∨ (wipe σ us)[i]? = some none := by
          intro us
          induction us with
          | nil => intro h; cases h
          | cons a r ih =>
            intro h
            show ((wipe σ r).set a none)[i]? = none ∨ ((wipe σ r).set a none)[i]? = some none
            by_cases e : a = i
            · subst e
              by_cases hl : a < (wipe σ r).length
              · exact .inr (List.getElem?_set_self hl)
              · exact .inl (List.getElem?_eq_none (by simpa using Nat.le_of_not_lt hl))
            · rw [List.getElem?_set_ne e]
              exact ih ((List.mem_cons.mp h).resolve_left (fun z => e z.symm))
        exact done vs hi
      · obtain ⟨e5, f5, m5⟩ := s4.fr D (by rw [e3, hH2]; exact fun z => nomatch z) f3 m3
        refine ⟨F4, ρ4, μ4, _, R4, S4, t4, fun b μ6 t6 F6 H6 s6 R6 => ?_⟩
        obtain ⟨e7, f7, m7⟩ := s6.fr D (by rw [e5, e3, hH2]; exact fun z => nomatch z) f5 m5
        have at6 : H6 D = some (.lst ws) := by rw [e7, e5, e3, hH2]
        have st6 := ((s2.trans s3).trans s4).trans s6
        have ext6 : Ext F2 F6 := (s3.ext.trans s4.ext).trans s6.ext
        cases b with
        | false => exact ⟨F6, μ6, acc, ws, st6, R6, f7, m7, at6, r2.mono ext6, Nat.le_succ_of_le hacc, t6⟩
        | true =>
          refine ⟨F6, ρ4, μ6, _, R6, S4.mono s6.ext, t6, fun d μ8 t8 F8 H8 v s8 R8 r8 => ?_⟩
          obtain ⟨e9, f9, m9⟩ := s8.fr D (by rw [at6]; exact fun z => nomatch z) f7 m7
          have at8 : H8 D = some (.lst ws) := e9.trans at6
          have ra : RepL K F8 acc ws := r2.mono (ext6.trans s8.ext)
          refine ⟨ws, at8, by rw [← ra.length]; exact Nat.lt_of_le_of_lt hacc (Nat.lt_of_lt_of_le hi hlen), F8, μ8, acc ++ [d], ws ++ [v], ?_, R8.aside f9 m9, f9, m9, upd_same, ra.append (.one r8), ?_, t8⟩
          · refine ⟨(st6.trans s8).ext, fun a h1 h2 h3 => ?_⟩
            have ha : a ≠ D := fun z => by subst z; exact h1 hD
            obtain ⟨q1, q2, q3⟩ := (st6.trans s8).fr a h1 h2 h3
            exact ⟨(upd_ne ha).trans q1, q2, q3⟩
          · rw [List.length_append]; exact Nat.succ_le_succ hacc
  · have e : i = ds.length := by omega
    subst e
    refine .inl ⟨src.stop F2 H' μ2 s2 R2 (hok _ acc μ2 hle w2), ?_⟩
    exact k acc μ2 (fin acc μ2 w2) F2 H' D ws s2 R2 f2 m2 hH2 r2 hD
def tUnlE (H0 : Hp) (t : TE) : TE := fun σ H Q => t σ H fun v => Unl H0 (Q v)
theorem pe_unlE {X : Cx} {e : Expr} {t : TE} (h : PE X e t) : PE X e (tUnlE X.H_0 t) := ⟨fun pins s σ H Q I q => thn (h.run pins s σ H _ I q) fun u s1 ⟨v, H1, I1, r, q1⟩ => by
  rcases q1 with q1 | ⟨d, od, w, h1, h2, q1⟩
  · exact ⟨v, H1, I1, r, q1⟩
  · exact ⟨v, _, I1.unlock h1 h2, r, q1⟩⟩
/-- a comprehension over a dict: the list stays as it is -/
def dLcD (items : List (Key × SD) → List SD) (te : DTE) (g : DTG) (tt : DTT) (el : DTE) (vs : List Nat) : DTE := fun ρ μ Q => te ρ μ fun d μ1 => match d with
  | .dic kvs => LcB (items kvs) (fun _ => True) g tt el vs ρ μ1 fun acc μ' => Q (.lst acc) μ'
  | .ref a => (match μ1 a with
    | some (.dic kvs) => ∀ o, LcB (items kvs) (fun μ => μ a = some (.fdic kvs o)) g tt el vs ρ (up μ1 a (.fdic kvs o)) fun acc μ' => Q (.lst acc) (up μ' a (.dic kvs))
    | _ => False)
  | _ => False
section
variable {K : PySem.W.Frag} {items : List (Key × SD) → List SD} {mk : Addr → Obj → List (Key × V) → It} {g : TG} {dg : DTG} {tt : DTT} {td te : DTE} {vs : List Nat} {H_0 : Hp} {P : V → Hp → (It → Hp → Prop) → Prop}
/-- the new list is ours -/
theorem own_list {F1 H1 F' H' : Hp} {μ1 μ' : Mu} {p : Addr} {ws : List V} {acc : List SD} (s : Stp F1 H1 μ1 F' H' μ') (R : HReal K F' H' μ') (f : F' p = none) (m : μ' p = none) (hp : H' p = some (.lst ws)) (r : RepL K F' acc ws) (n : H1 p = none) :
    Stp F1 H1 μ1 (upd F' p (.lst ws)) H' μ' ∧ HReal K (upd F' p (.lst ws)) H' μ' ∧ RepS K (upd F' p (.lst ws)) (.lst acc) (.ref p) := by
  have ex : Ext F' (upd F' p (.lst ws)) := Ext.new f
  refine ⟨⟨s.ext.trans ex, fun a h1 h2 h3 => ?_⟩, R.adopt f m hp, .lst upd_same (r.mono ex)⟩
  obtain ⟨q1, q2, q3⟩ := s.fr a h1 h2 h3
  exact ⟨q1, by rw [upd_ne (fun z => by subst z; exact h1 n)]; exact q2, q3⟩
theorem lift_lcD (og : OwnG K g dg vs) (hP : ∀ d o kvs H R, H d = some (.frz o (.dK kvs)) → R (mk d o kvs) H → P (.ref d) H R)
    (srcM : ∀ {F0 H0 : Hp} {μ0 : Mu} {a : Addr} {od : Obj} {kvs : List (Key × SD)} {vs : List (Key × V)}, RepK K F0 kvs vs → Src K F0 H0 μ0 (mk a od vs) (items kvs) fun μ => μ a = some (.fdic kvs (.frz od (.dK vs))))
    (srcF : ∀ {F0 H0 : Hp} {μ0 : Mu} {a : Addr} {od : Obj} {kvs : List (Key × SD)} {vs : List (Key × V)}, RepK K F0 kvs vs → F0 a = some (.frz od (.dK vs)) → Src K F0 H0 μ0 (mk a od vs) (items kvs) fun _ => True) :
    ∀ σ H Q, LE K (dLcD items td dg tt te vs) σ H Q → tUnlE H_0 (tLc (fun σ H R => tLockA H_0 (LE K td) σ H fun x H1 => P x H1 R) g (LT K tt) (LE K te) vs) σ H Q := fun σ H Q h => by
  obtain ⟨F0, ρ0, μ0, Q', R0, S0, t, k⟩ := h
  refine ⟨F0, ρ0, μ0, _, R0, S0, t, fun d μ1 t1 F1 H1 v s1 R1 r1 => ?_⟩
  cases r1 with
  | dic hd hk hv =>
    rename_i a ds ws
    have rk : RepK K F1 ds ws := ⟨hk, hv⟩
    refine ⟨a, ws, rfl, ?_⟩
    rcases hd with hd | ⟨od, hd⟩
    · refine .inl ⟨R1.sub _ _ hd, fun od h0 => ?_⟩
      obtain ⟨R2, s2⟩ := R1.lockD (od := od) hd
      refine hP a od ws _ _ upd_same ?_
      refine fun D hD => lc_in (Q := fun v => Unl H_0 (Q v)) og R2 ((S0.mono s1.ext).mono s2.ext) (srcF (od := od) ⟨rk.keys, rk.vals.mono s2.ext⟩ upd_same) t1 (fun acc μ' q F' H' p us s R f m hp r n => ?_) D hD
      · obtain ⟨s3, R3, r3⟩ := own_list s R f m hp r n
        have hF : (upd F' p (.lst us)) a = some (.frz od (.dK ws)) := s3.ext.fz a _ _ upd_same
        exact .inr ⟨a, od, _, R3.sub _ _ hF, h0, k _ μ' q _ _ _ (s1.trans (Stp.unlockD hd s3)) (R3.unlockD hF) (r3.mono0 (ext_unlock hF))⟩
    · refine .inr ⟨od, R1.sub _ _ hd, ?_⟩
      refine hP a od ws _ _ (R1.sub _ _ hd) ?_
      refine fun D hD => lc_in (Q := fun v => Unl H_0 (Q v)) og R1 (S0.mono s1.ext) (srcF (od := od) rk hd) t1 (fun acc μ' q F' H' p us s R f m hp r n => ?_) D hD
      · obtain ⟨s3, R3, r3⟩ := own_list s R f m hp r n
        exact .inl (k _ μ' q _ _ _ (s1.trans s3) R3 r3)
  | ref a =>
    simp only at t1
    split at t1
    · rename_i kvs hm
      obtain ⟨hF, o, hH, ro⟩ := R1.mus a _ hm
      cases ro with
      | dic q r =>
        rename_i ws
        refine ⟨a, ws, rfl, .inl ⟨hH, fun od h0 => ?_⟩⟩
        have rk : RepK K F1 kvs ws := ⟨q, r⟩
        have R2 : HReal K F1 (upd H1 a (.frz od (.dK ws))) (up μ1 a (.fdic kvs (.frz od (.dK ws)))) := R1.put hm (.fdic q r)
        have s2 : Stp F1 H1 μ1 F1 (upd H1 a (.frz od (.dK ws))) (up μ1 a (.fdic kvs (.frz od (.dK ws)))) := Stp.put hm
        refine hP a od ws _ _ upd_same ?_
        obtain ⟨hl, W, w0, hok, turn, fin⟩ := t1 (.frz od (.dK ws))
        refine fun D hD => lc_in (Q := fun v => Unl H_0 (Q v)) (Q' := fun acc μ => μ a = some (.fdic kvs (.frz od (.dK ws))) ∧ Q' (.lst acc) (up μ a (.dic kvs))) og R2 ((S0.mono s1.ext).mono s2.ext) (srcM (od := od) rk) ⟨hl, W, w0, hok, turn, fun acc μ w => ⟨hok _ acc μ (Nat.le_refl _) w, fin acc μ w⟩⟩ (fun acc μ' qq F' H' p us s R f m hp r n => ?_) D hD
        obtain ⟨e, qq⟩ := qq
        obtain ⟨s3, R3, r3⟩ := own_list s R f m hp r n
        obtain ⟨h1, ob, vs', e2, rk'⟩ := fdic_at R3 e
        cases e2
        exact .inr ⟨a, od, _, h1, h0, k _ _ qq _ _ _ (((s1.trans s2).trans s3).trans (Stp.put e)) (R3.put e (.dic rk'.keys rk'.vals)) r3⟩
    · exact t1.elim
  | _ => exact t1.elim
end
theorem src_keys2 {K : PySem.W.Frag} {F0 H0 : Hp} {μ0 : Mu} {d : Addr} {od : Obj} {kvs : List (Key × SD)} {vs : List (Key × V)} (rk : RepK K F0 kvs vs) (h : F0 d = some (.frz od (.dK vs))) : Src K F0 H0 μ0 (Itk d od vs) (keysS kvs) fun _ => True where
  go := fun i F H μ s R _ hi => ⟨R.sub _ _ (s.ext.fz d _ _ h), by rw [← rk.len]; simpa [keysS] using hi⟩
  stop := fun F H μ s R _ => ⟨R.sub _ _ (s.ext.fz d _ _ h), by rw [← rk.len]; simp [keysS]⟩
  yld := fun i F H μ x H' s R _ y e hd => by
    obtain ⟨rfl, k, v, h1, rfl⟩ := y
    obtain ⟨dd, h2, h3⟩ := rk.get h1
    have : (keysS kvs)[i]? = some (keyS k) := by simp [keysS, h2]
    rw [this] at hd; cases hd
    exact ⟨F, Stp.refl _ _ _, R, keyS_rep k⟩
section
variable {X : Cx} {pos tpos apos cpos : Pos} {e tg elt : Expr} {elts ifs : List Expr} {kk : Nat} {scope : Scope} {own : List (Str × Nat)} {g : TG} {dg : DTG} {tt : DTT} {td te : DTE}
theorem de_lcKeys (hc : X.calm = true) (hN : X.N.Nodup) (ok : BlkOk X.N X.env.scope scope own) (og : OwnG X.K g dg (own.map (·.2))) (hd : DE X e td)
    (hg : ∀ (s : Shared) (H : Hp) (C : Addr) (cl : List (Str × Addr)) (fp : List Addr), PG (X.blk s H scope (compEnvC scope cl C X.env) fp) tg g)
    (ht : ∀ (s : Shared) (H : Hp) (C : Addr) (cl : List (Str × Addr)) (fp : List Addr), DTs (X.blk s H scope (compEnvC scope cl C X.env) fp) ifs tt)
    (he : ∀ (s : Shared) (H : Hp) (C : Addr) (cl : List (Str × Addr)) (fp : List Addr), DE (X.blk s H scope (compEnvC scope cl C X.env) fp) elt te)
    (hs : ∀ x, foldedSetIterable e X.env x = pure x := by intro _; rfl) : DE X (.ListComp elt [⟨tg, e, ifs, 0⟩] scope pos) (dLcD keysS td dg tt te (own.map (·.2))) :=
  weakE (pe_unlE (pe_lc hc hN (pi_keys (pe_lockA hd)) ok hg ht he hs)) (lift_lcD (mk := Itk) og (fun d o kvs H R h r => ⟨d, o, rfl, .inl ⟨kvs, h, r⟩⟩) (fun rk => src_keysM rk) fun rk h => src_keys2 rk h)
theorem de_lcItems (hc : X.calm = true) (hN : X.N.Nodup) (ok : BlkOk X.N X.env.scope scope own) (og : OwnG X.K g dg (own.map (·.2))) (hd : DE X e td)
    (hg : ∀ (s : Shared) (H : Hp) (C : Addr) (cl : List (Str × Addr)) (fp : List Addr), PG (X.blk s H scope (compEnvC scope cl C X.env) fp) (.Tuple elts kk tpos) g)
    (ht : ∀ (s : Shared) (H : Hp) (C : Addr) (cl : List (Str × Addr)) (fp : List Addr), DTs (X.blk s H scope (compEnvC scope cl C X.env) fp) ifs tt)
    (he : ∀ (s : Shared) (H : Hp) (C : Addr) (cl : List (Str × Addr)) (fp : List Addr), DE (X.blk s H scope (compEnvC scope cl C X.env) fp) elt te)
    (hbase : attributeBase e "items" X.env (eval e X.env) = eval e X.env := by rfl) (hline : (apos.endLine == cpos.line) = true := by rfl)
    (hs : ∀ x, foldedSetIterable (.Call (.Attribute e "items" apos) [] [] cpos) X.env x = pure x := by intro _; rfl) :
    DE X (.ListComp elt [⟨.Tuple elts kk tpos, .Call (.Attribute e "items" apos) [] [] cpos, ifs, 0⟩] scope pos) (dLcD itemsS td dg tt te (own.map (·.2))) :=
  weakE (pe_unlE (pe_lc hc hN (pi_items (pe_lockA hd) hbase hline) ok hg ht he hs)) (lift_lcD (mk := Iti) og (fun d o kvs H R h r => ⟨d, o, kvs, rfl, h, r⟩) (fun rk => src_itemsM rk) fun rk h => src_items2 rk h)
theorem ds_setLcKeys {i : Nat} {y : Str} {py spos : Pos} (hc : X.calm = true) (hN : X.N.Nodup) (ok : BlkOk X.N X.env.scope scope own) (og : OwnG X.K g dg (own.map (·.2))) (hd : DE X e td)
    (hg : ∀ (s : Shared) (H : Hp) (C : Addr) (cl : List (Str × Addr)) (fp : List Addr), PG (X.blk s H scope (compEnvC scope cl C X.env) fp) tg g)
    (ht : ∀ (s : Shared) (H : Hp) (C : Addr) (cl : List (Str × Addr)) (fp : List Addr), DTs (X.blk s H scope (compEnvC scope cl C X.env) fp) ifs tt)
    (he : ∀ (s : Shared) (H : Hp) (C : Addr) (cl : List (Str × Addr)) (fp : List Addr), DE (X.blk s H scope (compEnvC scope cl C X.env) fp) elt te)
    (hy : X.N[i]? = some y) (hyl : X.env.scope.names.lookup y = some .local) (hsw : swapsWith (.ListComp elt [⟨tg, e, ifs, 0⟩] scope pos) (some (.Name y py)) spos.line X.env = pure true)
    (hs : ∀ x, foldedSetIterable e X.env x = pure x := by intro _; rfl) : DS_ X (.Assign [.Name y py] (.ListComp elt [⟨tg, e, ifs, 0⟩] scope pos) spos) (dSet (dLcD keysS td dg tt te (own.map (·.2))) i) :=
  weakS (ps_unl (ps_setLc hc hN hy hyl hsw (pi_keys (pe_lockA hd)) ok hg ht he hs)) fun D σ H h => by
    obtain ⟨F, ρ, μ, D', R, S, t, k, _⟩ := h
    exact lift_lcD (H_0 := X.H_0) (mk := Itk) og (fun d o kvs H R h r => ⟨d, o, rfl, .inl ⟨kvs, h, r⟩⟩) (fun rk => src_keysM rk) (fun rk h => src_keys2 rk h) σ H (fun v H' => D.nx (σ.set i (some v)) H') ⟨F, ρ, μ, _, R, S, t, fun d μ1 t1 F1 H1 v s1 R1 r1 => k _ μ1 t1 F1 H1 _ s1 R1 ((S.mono s1.ext).set i r1)⟩
end
end DS
/-! DS28: dict comprehensions over a dict; len of a dict; methods without arguments. -/
namespace DS
open PySem PySem.Spec PyProof.Rows L2
abbrev DcB (ds : List SD) (ok : Mu → Prop) (g : DTG) (tt : DTT) (tk tv : DTE) (vs : List Nat) (ρ : Rho) (μ1 : Mu) (Q : List (Key × SD) → Mu → Prop) : Prop := ds.length ≤ sizeLine ∧ ∃ W : Nat → List (Key × SD) → Mu → Prop, W 0 [] μ1 ∧
  (∀ i acc μ, i ≤ ds.length → W i acc μ → ok μ) ∧ (∀ i d acc μ, ds[i]? = some d → W i acc μ → g d (wipeR ρ vs) μ fun ρ2 μ2 => tt ρ2 μ2 fun b μ3 => if b = true then tk ρ2 μ3 fun y μ4 => tv ρ2 μ4 fun z μ5 => ∃ k, keyD y = some k ∧ W (i + 1) (putD acc k z) μ5 else W (i + 1) acc μ3) ∧
  ∀ acc μ, W ds.length acc μ → Q acc μ
theorem put_len {acc : List (Key × SD)} {k : Key} {z : SD} : (putD acc k z).length ≤ acc.length + 1 := by
  unfold putD
  split
  · rw [List.length_map]
    exact Nat.le_succ _
  · rw [List.length_append]
    exact Nat.le_refl _
theorem dc_in {K : PySem.W.Frag} {g : TG} {dg : DTG} {tt : DTT} {tk tv : DTE} {vs : List Nat} (og : OwnG K g dg vs) {σ : L2.St} {H1 F1 : Hp} {ρ : Rho} {μ1 : Mu} {Q : VK} {Q' : List (Key × SD) → Mu → Prop} {J : It} {ds : List SD} {ok : Mu → Prop} (R1 : HReal K F1 H1 μ1) (S : Slots K F1 σ ρ) (src : Src K F1 H1 μ1 J ds ok)
    (t1 : DcB ds ok dg tt tk tv vs ρ μ1 Q')
    (k : ∀ acc μ', Q' acc μ' → ∀ F' H' p ws, Stp F1 H1 μ1 F' H' μ' → HReal K F' H' μ' → F' p = none → μ' p = none → H' p = some (.dK ws) → RepK K F' acc ws → H1 p = none → Q (.ref p) H') (D : Addr) (hD : H1 D = none) : ∃ W : Nat → Nat → Hp → Prop, (∃ m, W 0 m (upd H1 D (.dK []))) ∧ ∀ i m H, W i m H →
  (J.stop i H ∧ Q (.ref D) H) ∨ (J.go i H ∧ ∃ Nx : Hp → Prop, (∀ H', Nx H' → ∃ m', m' < m ∧ W (i + 1) m' H') ∧ ∀ x H', J.yld i H x H' → g x (wipe σ vs) H' fun σ2 H2 => wipe σ2 vs = wipe σ vs ∧ LT K tt σ2 H2 fun b H3 =>
    if b = true then LE K tk σ2 H3 fun y H4 => LE K tv σ2 H4 fun z H5 => ∃ kvs k, y = kV k ∧ H5 D = some (.dK kvs) ∧ kvs.length < sizeLine ∧ Nx (upd H5 D (.dK (putK kvs k z))) else Nx H3) := by
  obtain ⟨hlen, W, w0, hok, turn, fin⟩ := t1
  have hDF := R1.freeF hD
  have hDM := R1.freeM hD
  refine ⟨fun i m H' => i + m = ds.length ∧ ∃ F μ acc ws, Stp F1 H1 μ1 F H' μ ∧ HReal K F H' μ ∧ F D = none ∧ μ D = none ∧ H' D = some (.dK ws) ∧ RepK K F acc ws ∧ acc.length ≤ i ∧ W i acc μ, ⟨ds.length, by omega, F1, μ1, [], [], ?_, R1.aside hDF hDM, hDF, hDM, upd_same, ⟨rfl, .nil⟩, Nat.le_refl _, w0⟩, ?_⟩
  · exact ⟨Ext.refl _, fun a h1 h2 h3 => ⟨upd_ne (fun z => by subst z; exact h1 hD), h2, h3⟩⟩
  rintro i m H' ⟨him, F2, μ2, acc, ws, s2, R2, f2, m2, hH2, r2, hacc, w2⟩
  have hle : i ≤ ds.length := by omega
  by_cases hi : i < ds.length
  · refine .inr ⟨src.go i F2 H' μ2 s2 R2 (hok i acc μ2 hle w2) hi, fun H3 => ∃ F μ acc ws, Stp F1 H1 μ1 F H3 μ ∧ HReal K F H3 μ ∧ F D = none ∧ μ D = none ∧ H3 D = some (.dK ws) ∧ RepK K F acc ws ∧ acc.length ≤ i + 1 ∧ W (i + 1) acc μ, ?_, ?_⟩
    · rintro H3 ⟨F3, μ3, acc3, ws3, z⟩
      exact ⟨ds.length - (i + 1), by omega, by omega, F3, μ3, acc3, ws3, z⟩
    · intro x H3 y
      obtain ⟨F3, s3, R3, r3⟩ := src.yld i F2 H' μ2 x H3 s2 R2 (hok i acc μ2 hle w2) y _ (List.getElem?_eq_getElem hi)
      obtain ⟨e3, f3, m3⟩ := s3.fr D (by rw [hH2]; exact fun z => nomatch z) f2 m2
      have S3 : Slots K F3 (wipe σ vs) (wipeR ρ vs) := ((S.mono s2.ext).mono s3.ext).wipe vs
      refine og.lift x _ H3 _ F3 _ μ2 _ _ R3 S3 r3 (turn i _ acc μ2 (List.getElem?_eq_getElem hi) w2) fun ρ4 μ4 t4 F4 H4 σ4 s4 R4 S4 e4 => ⟨e4.trans ?_, ?_⟩
      · have idem : ∀ (τ : L2.St) (us : List Nat), (∀ i ∈ us, τ[i]? = none ∨ τ[i]? = some none) → wipe τ us = τ := by
          intro τ us
          induction us with
          | nil => intro _; rfl
          | cons a r ih =>
            intro hz
            show (wipe τ r).set a none = τ
            rw [ih fun i hi => hz i (List.mem_cons_of_mem _ hi)]
            rcases hz a List.mem_cons_self with q | q
            · exact List.set_eq_of_length_le (List.getElem?_eq_none_iff.mp q)
            · apply List.ext_getElem?
              intro j
              by_cases hj : j = a
              · subst hj
                obtain ⟨hl, _⟩ := List.getElem?_eq_some_iff.mp q
                rw [List.getElem?_set_self hl, q]
              · rw [List.getElem?_set_ne (Ne.symm hj)]
        refine idem _ _ fun i hi => ?_
        have done : ∀ (us : List Nat), i ∈ us → (wipe σ us)[i]? = none ∨ (wipe σ us)[i]? = some none := by
          intro us
          induction us with
          | nil => intro h; cases h
          | cons a r ih =>
            intro h
            show ((wipe σ r).set a none)[i]? = none ∨ ((wipe σ r).set a none)[i]? = some none
            by_cases e : a = i
            · subst e
              by_cases hl : a < (wipe σ r).length
              · exact .inr (List.getElem?_set_self hl)
              · exact .inl (List.getElem?_eq_none (by simpa using Nat.le_of_not_lt hl))
            · rw [List.getElem?_set_ne e]
              exact ih ((List.mem_cons.mp h).resolve_left (fun z => e z.symm))
        exact done vs hi
      · obtain ⟨e5, f5, m5⟩ := s4.fr D (by rw [e3, hH2]; exact fun z => nomatch z) f3 m3
        refine ⟨F4, ρ4, μ4, _, R4, S4, t4, fun b μ6 t6 F6 H6 s6 R6 => ?_⟩
        obtain ⟨e7, f7, m7⟩ := s6.fr D (by rw [e5, e3, hH2]; exact fun z => nomatch z) f5 m5
        have at6 : H6 D = some (.dK ws) := by rw [e7, e5, e3, hH2]
        have st6 := ((s2.trans s3).trans s4).trans s6
        have ext6 : Ext F2 F6 := (s3.ext.trans s4.ext).trans s6.ext
        cases b with
        | false => exact ⟨F6, μ6, acc, ws, st6, R6, f7, m7, at6, ⟨r2.keys, r2.vals.mono ext6⟩, Nat.le_succ_of_le hacc, t6⟩
        | true =>
          refine ⟨F6, ρ4, μ6, _, R6, S4.mono s6.ext, t6, fun y μ8 t8 F8 H8 v s8 R8 r8 => ?_⟩
          obtain ⟨e9, f9, m9⟩ := s8.fr D (by rw [at6]; exact fun z => nomatch z) f7 m7
          refine ⟨F8, ρ4, μ8, _, R8, (S4.mono s6.ext).mono s8.ext, t8, fun z μ10 t10 FA HA w sA RA rA => ?_⟩
          obtain ⟨kk, ek, t10⟩ := t10
          obtain ⟨eB, fB, mB⟩ := sA.fr D (by rw [e9, at6]; exact fun z => nomatch z) f9 m9
          have at8 : HA D = some (.dK ws) := eB.trans (e9.trans at6)
          have ra : RepK K FA acc ws := ⟨r2.keys, r2.vals.mono ((ext6.trans s8.ext).trans sA.ext)⟩
          have st8 := (st6.trans s8).trans sA
          have len := ra.len
          refine ⟨ws, kk, keyD_rep r8 ek, at8, by omega, FA, μ10, putD acc kk z, putK ws kk w, ?_, RA.aside fB mB, fB, mB, upd_same, ra.put kk rA, ?_, t10⟩
          · refine ⟨st8.ext, fun a h1 h2 h3 => ?_⟩
            have ha : a ≠ D := fun z => by subst z; exact h1 hD
            obtain ⟨q1, q2, q3⟩ := st8.fr a h1 h2 h3
            exact ⟨(upd_ne ha).trans q1, q2, q3⟩
          · have := put_len (acc := acc) (k := kk) (z := z)
            omega
  · have e : i = ds.length := by omega
    subst e
    refine .inl ⟨src.stop F2 H' μ2 s2 R2 (hok _ acc μ2 hle w2), ?_⟩
    exact k acc μ2 (fin acc μ2 w2) F2 H' D ws s2 R2 f2 m2 hH2 r2 hD
/-- a dict comprehension over a dict: a new dict, which may change -/
def dDcD (items : List (Key × SD) → List SD) (te : DTE) (g : DTG) (tt : DTT) (tk tv : DTE) (vs : List Nat) : DTE := fun ρ μ Q => te ρ μ fun d μ1 => match d with
  | .dic kvs => DcB (items kvs) (fun _ => True) g tt tk tv vs ρ μ1 fun acc μ' => ∀ p, μ' p = none → Q (.ref p) (up μ' p (.dic acc))
  | .ref a => (match μ1 a with
    | some (.dic kvs) => ∀ o, DcB (items kvs) (fun μ => μ a = some (.fdic kvs o)) g tt tk tv vs ρ (up μ1 a (.fdic kvs o)) fun acc μ' => ∀ p, μ' p = none → Q (.ref p) (up (up μ' p (.dic acc)) a (.dic kvs))
    | _ => False)
  | _ => False
section
variable {K : PySem.W.Frag} {items : List (Key × SD) → List SD} {mk : Addr → Obj → List (Key × V) → It} {g : TG} {dg : DTG} {tt : DTT} {td tk tv : DTE} {vs : List Nat} {H_0 : Hp} {P : V → Hp → (It → Hp → Prop) → Prop}
theorem own_dict {F1 H1 F' H' : Hp} {μ1 μ' : Mu} {p : Addr} {ws : List (Key × V)} {acc : List (Key × SD)} (s : Stp F1 H1 μ1 F' H' μ') (R : HReal K F' H' μ') (f : F' p = none) (hp : H' p = some (.dK ws)) (r : RepK K F' acc ws) (n : H1 p = none) :
    Stp F1 H1 μ1 F' H' (up μ' p (.dic acc)) ∧ HReal K F' H' (up μ' p (.dic acc)) := by
  refine ⟨⟨s.ext, fun a h1 h2 h3 => ?_⟩, R.adoptM f hp (.dic r.keys r.vals)⟩
  obtain ⟨q1, q2, q3⟩ := s.fr a h1 h2 h3
  exact ⟨q1, q2, by rw [up_ne (fun z => by subst z; exact h1 n)]; exact q3⟩
theorem lift_dcD (og : OwnG K g dg vs) (hP : ∀ d o kvs H R, H d = some (.frz o (.dK kvs)) → R (mk d o kvs) H → P (.ref d) H R)
    (srcM : ∀ {F0 H0 : Hp} {μ0 : Mu} {a : Addr} {od : Obj} {kvs : List (Key × SD)} {vs : List (Key × V)}, RepK K F0 kvs vs → Src K F0 H0 μ0 (mk a od vs) (items kvs) fun μ => μ a = some (.fdic kvs (.frz od (.dK vs))))
    (srcF : ∀ {F0 H0 : Hp} {μ0 : Mu} {a : Addr} {od : Obj} {kvs : List (Key × SD)} {vs : List (Key × V)}, RepK K F0 kvs vs → F0 a = some (.frz od (.dK vs)) → Src K F0 H0 μ0 (mk a od vs) (items kvs) fun _ => True) :
    ∀ σ H Q, LE K (dDcD items td dg tt tk tv vs) σ H Q → tUnlE H_0 (tDc (fun σ H R => tLockA H_0 (LE K td) σ H fun x H1 => P x H1 R) g (LT K tt) (LE K tk) (LE K tv) vs) σ H Q := fun σ H Q h => by
  obtain ⟨F0, ρ0, μ0, Q', R0, S0, t, k⟩ := h
  refine ⟨F0, ρ0, μ0, _, R0, S0, t, fun d μ1 t1 F1 H1 v s1 R1 r1 => ?_⟩
  cases r1 with
  | dic hd hk hv =>
    rename_i a ds ws
    have rk : RepK K F1 ds ws := ⟨hk, hv⟩
    refine ⟨a, ws, rfl, ?_⟩
    rcases hd with hd | ⟨od, hd⟩
    · refine .inl ⟨R1.sub _ _ hd, fun od h0 => ?_⟩
      obtain ⟨R2, s2⟩ := R1.lockD (od := od) hd
      refine hP a od ws _ _ upd_same ?_
      refine fun D hD => dc_in (Q := fun v => Unl H_0 (Q v)) og R2 ((S0.mono s1.ext).mono s2.ext) (srcF (od := od) ⟨rk.keys, rk.vals.mono s2.ext⟩ upd_same) t1 (fun acc μ' q F' H' p us s R f m hp r n => ?_) D hD
      obtain ⟨s3, R3⟩ := own_dict s R f hp r n
      have hF : F' a = some (.frz od (.dK ws)) := s3.ext.fz a _ _ upd_same
      exact .inr ⟨a, od, _, R3.sub _ _ hF, h0, k _ _ (q p m) _ _ _ (s1.trans (Stp.unlockD hd s3)) (R3.unlockD hF) (.ref _)⟩
    · refine .inr ⟨od, R1.sub _ _ hd, ?_⟩
      refine hP a od ws _ _ (R1.sub _ _ hd) ?_
      refine fun D hD => dc_in (Q := fun v => Unl H_0 (Q v)) og R1 (S0.mono s1.ext) (srcF (od := od) rk hd) t1 (fun acc μ' q F' H' p us s R f m hp r n => ?_) D hD
      obtain ⟨s3, R3⟩ := own_dict s R f hp r n
      exact .inl (k _ _ (q p m) _ _ _ (s1.trans s3) R3 (.ref _))
  | ref a =>
    simp only at t1
    split at t1
    · rename_i kvs hm
      obtain ⟨hF, o, hH, ro⟩ := R1.mus a _ hm
      cases ro with
      | dic q r =>
        rename_i ws
        refine ⟨a, ws, rfl, .inl ⟨hH, fun od h0 => ?_⟩⟩
        have rk : RepK K F1 kvs ws := ⟨q, r⟩
        have R2 : HReal K F1 (upd H1 a (.frz od (.dK ws))) (up μ1 a (.fdic kvs (.frz od (.dK ws)))) := R1.put hm (.fdic q r)
        have s2 : Stp F1 H1 μ1 F1 (upd H1 a (.frz od (.dK ws))) (up μ1 a (.fdic kvs (.frz od (.dK ws)))) := Stp.put hm
        refine hP a od ws _ _ upd_same ?_
        obtain ⟨hl, W, w0, hok, turn, fin⟩ := t1 (.frz od (.dK ws))
        refine fun D hD => dc_in (Q := fun v => Unl H_0 (Q v)) (Q' := fun acc μ => μ a = some (.fdic kvs (.frz od (.dK ws))) ∧ ∀ p, μ p = none → Q' (.ref p) (up (up μ p (.dic acc)) a (.dic kvs))) og R2 ((S0.mono s1.ext).mono s2.ext) (srcM (od := od) rk)
          ⟨hl, W, w0, hok, turn, fun acc μ w => ⟨hok _ acc μ (Nat.le_refl _) w, fin acc μ w⟩⟩ (fun acc μ' qq F' H' p us s R f m hp r n => ?_) D hD
        obtain ⟨e, qq⟩ := qq
        obtain ⟨s3, R3⟩ := own_dict s R f hp r n
        have ne : a ≠ p := mu_ne e m
        have e3 : up μ' p (.dic acc) a = some (.fdic kvs (.frz od (.dK ws))) := by rw [up_ne ne]; exact e
        obtain ⟨h1, ob, vs', e2, rk'⟩ := fdic_at R3 e3
        cases e2
        exact .inr ⟨a, od, _, h1, h0, k _ _ (qq p m) _ _ _ (((s1.trans s2).trans s3).trans (Stp.put e3)) (R3.put e3 (.dic rk'.keys rk'.vals)) (.ref _)⟩
    · exact t1.elim
  | _ => exact t1.elim
end
section
variable {X : Cx} {pos tpos apos cpos : Pos} {e o kx vx : Expr} {elts ifs : List Expr} {kk : Nat} {scope : Scope} {own : List (Str × Nat)} {g : TG} {dg : DTG} {tt : DTT} {td tk tv to : DTE}
theorem de_dcItems (hc : X.calm = true) (hN : X.N.Nodup) (ok : BlkOk X.N X.env.scope scope own) (og : OwnG X.K g dg (own.map (·.2))) (hd : DE X e td)
    (hg : ∀ (s : Shared) (H : Hp) (C : Addr) (cl : List (Str × Addr)) (fp : List Addr), PG (X.blk s H scope (compEnvC scope cl C X.env) fp) (.Tuple elts kk tpos) g)
    (ht : ∀ (s : Shared) (H : Hp) (C : Addr) (cl : List (Str × Addr)) (fp : List Addr), DTs (X.blk s H scope (compEnvC scope cl C X.env) fp) ifs tt)
    (hk : ∀ (s : Shared) (H : Hp) (C : Addr) (cl : List (Str × Addr)) (fp : List Addr), DE (X.blk s H scope (compEnvC scope cl C X.env) fp) kx tk)
    (he : ∀ (s : Shared) (H : Hp) (C : Addr) (cl : List (Str × Addr)) (fp : List Addr), DE (X.blk s H scope (compEnvC scope cl C X.env) fp) vx tv)
    (hbase : attributeBase e "items" X.env (eval e X.env) = eval e X.env := by rfl) (hline : (apos.endLine == cpos.line) = true := by rfl)
    (hs : ∀ x, foldedSetIterable (.Call (.Attribute e "items" apos) [] [] cpos) X.env x = pure x := by intro _; rfl) :
    DE X (.DictComp kx vx [⟨.Tuple elts kk tpos, .Call (.Attribute e "items" apos) [] [] cpos, ifs, 0⟩] scope pos) (dDcD itemsS td dg tt tk tv (own.map (·.2))) :=
  weakE (pe_unlE (pe_dc hc hN (pi_items (pe_lockA hd) hbase hline) ok hg ht hk he hs)) (lift_dcD (mk := Iti) og (fun d o kvs H R h r => ⟨d, o, kvs, rfl, h, r⟩) (fun rk => src_itemsM rk) fun rk h => src_items2 rk h)
/-! o.m() -/
abbrev dMeth0 (x m : Str) (sp : DSp) (to : DTE) : DTE := fun ρ μ Q => to ρ μ (mQ x m fun d μ1 => sp [d] μ1 Q fun _ _ _ => False)
variable {x m qual : Str} {st : Stmt} {ps : List Str} {k n : Nat} {sp : DSp}
theorem de_meth0 {D : OCls X.K X.mg x} {M : MDef D m qual st ps} (G : FnM X.prog X.w X.base M k sp) (hq : Quiet X.A) (hr : Room n X.A) (he : DE X o to) (hk : k ≤ n := by omega) {pl : Sem Bool}
    (ht : eval (.Call (.Attribute o m apos) [] [] pos) X.env = (do
      let ov ← eval o X.env
      standAt apos.atName
      let (f, first) ← holding [ov] (getMethod ov m pl)
      callWith pos f first (backTo pos (starEach [] X.env)) (backToKw pos (keywordEach [] X.env))) := by rfl) : DE X (.Call (.Attribute o m apos) [] [] pos) (dMeth0 x m sp to) := by
  refine ⟨fun pins s σ H Q I h => ?_⟩
  obtain ⟨F, ρ, μ, Q', R, S, t0, kk⟩ := h
  refine PySem.W.methodCall_KW (pl := pl) (thn (he.run pins s σ H (fun v H1 => ∃ a d F1 μ1, v = .ref a ∧ RepS X.K F1 d v ∧ Stp F H μ F1 H1 μ1 ∧ HReal X.K F1 H1 μ1 ∧ (∃ dx vs, H1 a = some (.ins D.C dx vs) ∧ vs.lookup m = none) ∧ sp [d] μ1 Q' fun _ _ _ => False) I ⟨F, ρ, μ, _, R, S, t0, fun d μ1 t1 F1 H1 v s1 R1 r1 => ?_⟩) fun u s1 z => ?_) ht
  · unfold mQ at t1
    cases r1 with
    | ref a =>
      simp only at t1
      split at t1
      · rename_i z fs e1
        obtain ⟨rfl, hl, t1⟩ := t1
        obtain ⟨dx, vs, h1, h2, h3⟩ := R1.obj D e1
        exact ⟨a, _, F1, μ1, rfl, .ref a, s1, R1, ⟨dx, vs, h1, look_none h2 hl⟩, t1⟩
      · exact t1.elim
    | _ => exact t1.elim
  · obtain ⟨v, H1, I1, rx, a, d, F1, μ1, rfl, rd, sa, R1, ⟨dx, vs, h1, h2⟩, t1⟩ := z
    obtain rfl : u = Value.ref a := rx
    refine getmeth_ok I1 h1 D.k.c M.me h2 ?_
    refine PySem.W.callWith_K0 (first := [.ref a]) I1.kIn M.me.kp ?_
    refine call_g (us := [.ref a]) (vs := [.ref a]) (dvs := []) (ds := []) (E := E0) G hq (hr.mono hk) M.b .nil pass0 I1 (.cons rfl .nil) ?_
    rw [List.append_nil]
    exact ⟨F1, μ1, [d], Q', _, R1, .cons rd .nil, t1, fun d' μ' q F' H' v s' R' r' => kk d' μ' q F' H' v (sa.trans s') R' r', fun _ _ _ q => q.elim⟩
end
/-! d.get(k) -/
abbrev dDGet1 (td ty : DTE) : DTE := fun ρ μ Q => td ρ μ fun x μ1 => (dicD μ1 x).isSome = true ∧ ty ρ μ1 fun y μ2 => drGet2 x y .non μ2 Q
section
variable {X : Cx} {o i : Expr} {td ty : DTE} {apos cpos : Pos}
theorem de_dget1 (hu : X.A.units + 1 < cLine) (ho : DE X o td) (he : DE X i ty) (m : M1 X o "get" apos i cpos) : DE X (.Call (.Attribute o "get" apos) [i] [] cpos) (dDGet1 td ty) := weakE (pe_dget1 hu ho he m) fun σ H Q h => by
  obtain ⟨F, ρ, μ, Q', R, S, t, k⟩ := h
  refine ⟨F, ρ, μ, _, R, S, t, fun x μ1 t1 F1 H1 v1 s1 R1 r1 => ?_⟩
  obtain ⟨h1, t1⟩ := t1
  obtain ⟨kvs0, hk0⟩ := Option.isSome_iff_exists.mp h1
  obtain ⟨a, vs0, rfl, hd0, _⟩ := R1.dic r1 hk0
  refine ⟨a, rfl, .inl ⟨vs0, hd0⟩, F1, ρ, μ1, _, R1, S.mono s1.ext, t1, fun y μ2 t2 F2 H2 v2 s2 R2 r2 => ?_⟩
  unfold drGet2 at t2
  cases e1 : dicD μ2 x with
  | none => rw [e1] at t2; exact False.elim t2
  | some kvs => cases e2 : keyD y with
    | none => rw [e1, e2] at t2; exact False.elim t2
    | some key =>
      rw [e1, e2] at t2
      simp only at t2
      obtain ⟨a', vs, e3, hd, rk⟩ := R2.dic (r1.mono s2.ext) e1
      cases e3
      rcases rk.val key with ⟨d, v, q1, q2, q3⟩ | ⟨q1, q2⟩
      · rw [q1] at t2
        exact ⟨some v, .inl ⟨vs, key, hd, keyD_rep r2 e2, q2.symm⟩, k d μ2 t2 F2 H2 v (s1.trans s2) R2 q3⟩
      · rw [q1] at t2
        exact ⟨none, .inl ⟨vs, key, hd, keyD_rep r2 e2, q2.symm⟩, k .non μ2 t2 F2 H2 _ (s1.trans s2) R2 .non⟩
end
end DS
/-! DS29: dict comprehensions over any source; len of a dict. -/
namespace DS
open PySem PySem.Spec PyProof.Rows L2
/-- a new dict, which may change -/
def dDcM (wi : DTI) (g : DTG) (tt : DTT) (tk tv : DTE) (vs : List Nat) : DTE := fun ρ μ Q => wi ρ μ fun ds ok μ1 => DcB ds ok g tt tk tv vs ρ μ1 fun acc μ' => ∀ p, μ' p = none → Q (.ref p) (up μ' p (.dic acc))
/-- a new dict, which stays -/
def dDcS (wi : DTI) (g : DTG) (tt : DTT) (tk tv : DTE) (vs : List Nat) : DTE := fun ρ μ Q => wi ρ μ fun ds ok μ1 => DcB ds ok g tt tk tv vs ρ μ1 fun acc μ' => Q (.dic acc) μ'
section
variable {K : PySem.W.Frag} {wi : DTI} {g : TG} {dg : DTG} {tt : DTT} {tk tv : DTE} {vs : List Nat}
theorem lift_dcM (og : OwnG K g dg vs) : ∀ σ H Q, LE K (dDcM wi dg tt tk tv vs) σ H Q → tDc (LI K wi) g (LT K tt) (LE K tk) (LE K tv) vs σ H Q := fun σ H Q h => by
  obtain ⟨F, ρ, μ, Q', R, S, t, k⟩ := h
  refine ⟨F, ρ, μ, _, R, S, t, fun ds ok μ1 t1 F1 H1 J s1 R1 src D hD => ?_⟩
  refine dc_in (Q := Q) og R1 (S.mono s1.ext) src t1 (fun acc μ' q F' H' p us s R' f m hp r n => ?_) D hD
  obtain ⟨s3, R3⟩ := own_dict s R' f hp r n
  exact k _ _ (q p m) _ _ _ (s1.trans s3) R3 (.ref _)
theorem lift_dcS (og : OwnG K g dg vs) : ∀ σ H Q, LE K (dDcS wi dg tt tk tv vs) σ H Q → tDc (LI K wi) g (LT K tt) (LE K tk) (LE K tv) vs σ H Q := fun σ H Q h => by
  obtain ⟨F, ρ, μ, Q', R, S, t, k⟩ := h
  refine ⟨F, ρ, μ, _, R, S, t, fun ds ok μ1 t1 F1 H1 J s1 R1 src D hD => ?_⟩
  refine dc_in (Q := Q) og R1 (S.mono s1.ext) src t1 (fun acc μ' q F' H' p us s R' f m hp r n => ?_) D hD
  have ex : Ext F' (upd F' p (.dK us)) := Ext.new f
  refine k (.dic acc) μ' q (upd F' p (.dK us)) H' (.ref p) (s1.trans ⟨s.ext.trans ex, fun a h1 h2 h3 => ?_⟩) (R'.adopt f m hp) (.dic (.inl upd_same) r.keys (r.vals.mono ex))
  obtain ⟨q1, q2, q3⟩ := s.fr a h1 h2 h3
  exact ⟨q1, by rw [upd_ne (fun z => by subst z; exact h1 n)]; exact q2, q3⟩
end
section
variable {X : Cx} {pos : Pos} {kx vx tg iter : Expr} {ifs : List Expr} {scope : Scope} {own : List (Str × Nat)} {wi : DTI} {g : TG} {dg : DTG} {tt : DTT} {tk tv : DTE}
theorem de_dcM (hc : X.calm = true) (hN : X.N.Nodup) (ok : BlkOk X.N X.env.scope scope own) (og : OwnG X.K g dg (own.map (·.2))) (hi : DI X tg iter wi)
    (hg : ∀ (s : Shared) (H : Hp) (C : Addr) (cl : List (Str × Addr)) (fp : List Addr), PG (X.blk s H scope (compEnvC scope cl C X.env) fp) tg g)
    (ht : ∀ (s : Shared) (H : Hp) (C : Addr) (cl : List (Str × Addr)) (fp : List Addr), DTs (X.blk s H scope (compEnvC scope cl C X.env) fp) ifs tt)
    (hk : ∀ (s : Shared) (H : Hp) (C : Addr) (cl : List (Str × Addr)) (fp : List Addr), DE (X.blk s H scope (compEnvC scope cl C X.env) fp) kx tk)
    (he : ∀ (s : Shared) (H : Hp) (C : Addr) (cl : List (Str × Addr)) (fp : List Addr), DE (X.blk s H scope (compEnvC scope cl C X.env) fp) vx tv)
    (hs : ∀ x, foldedSetIterable iter X.env x = pure x := by intro _; rfl) : DE X (.DictComp kx vx [⟨tg, iter, ifs, 0⟩] scope pos) (dDcM wi dg tt tk tv (own.map (·.2))) := weakE (pe_dc hc hN hi ok hg ht hk he hs) (lift_dcM og)
theorem de_dcS (hc : X.calm = true) (hN : X.N.Nodup) (ok : BlkOk X.N X.env.scope scope own) (og : OwnG X.K g dg (own.map (·.2))) (hi : DI X tg iter wi)
    (hg : ∀ (s : Shared) (H : Hp) (C : Addr) (cl : List (Str × Addr)) (fp : List Addr), PG (X.blk s H scope (compEnvC scope cl C X.env) fp) tg g)
    (ht : ∀ (s : Shared) (H : Hp) (C : Addr) (cl : List (Str × Addr)) (fp : List Addr), DTs (X.blk s H scope (compEnvC scope cl C X.env) fp) ifs tt)
    (hk : ∀ (s : Shared) (H : Hp) (C : Addr) (cl : List (Str × Addr)) (fp : List Addr), DE (X.blk s H scope (compEnvC scope cl C X.env) fp) kx tk)
    (he : ∀ (s : Shared) (H : Hp) (C : Addr) (cl : List (Str × Addr)) (fp : List Addr), DE (X.blk s H scope (compEnvC scope cl C X.env) fp) vx tv)
    (hs : ∀ x, foldedSetIterable iter X.env x = pure x := by intro _; rfl) : DE X (.DictComp kx vx [⟨tg, iter, ifs, 0⟩] scope pos) (dDcS wi dg tt tk tv (own.map (·.2))) := weakE (pe_dc hc hN hi ok hg ht hk he hs) (lift_dcS og)
end
end DS
/-! DS30: for x in d.values(). -/
namespace DS
open PySem PySem.Spec PyProof.Rows L2
def valsS (kvs : List (Key × SD)) : List SD := kvs.map (·.2)
/-- a walk over a dict that is data -/
def dForF (items : List (Key × SD) → List SD) (te : DTE) (g : DTG) (tb : DTS) : DTS := fun D ρ μ => te ρ μ fun d μ1 => match d with
  | .dic kvs => ∃ W : Nat → Rho → Mu → Prop, W 0 ρ μ1 ∧ (∀ i d ρ μ, (items kvs)[i]? = some d → W i ρ μ → g d ρ μ fun ρ2 μ2 => tb { D with nx := W (i + 1), ct := W (i + 1), bk := D.nx } ρ2 μ2) ∧ ∀ ρ μ, W (items kvs).length ρ μ → D.nx ρ μ
  | _ => False
theorem src_vals2 {K : PySem.W.Frag} {F0 H0 : Hp} {μ0 : Mu} {d : Addr} {od : Obj} {kvs : List (Key × SD)} {vs : List (Key × V)} (rk : RepK K F0 kvs vs) (h : F0 d = some (.frz od (.dK vs))) : Src K F0 H0 μ0 (Itd d od vs) (valsS kvs) fun _ => True where
  go := fun i F H μ s R _ hi => ⟨R.sub _ _ (s.ext.fz d _ _ h), by rw [← rk.len]; simpa [valsS] using hi⟩
  stop := fun F H μ s R _ => ⟨R.sub _ _ (s.ext.fz d _ _ h), by rw [← rk.len]; simp [valsS]⟩
  yld := fun i F H μ x H' s R _ y e hd => by
    obtain ⟨rfl, k, h1⟩ := y
    obtain ⟨dd, h2, h3⟩ := rk.get h1
    have : (valsS kvs)[i]? = some dd := by simp [valsS, h2]
    rw [this] at hd; cases hd
    exact ⟨F, Stp.refl _ _ _, R, h3.mono s.ext⟩
section
variable {X : Cx} {e tg : Expr} {pos apos cpos : Pos} {body : List Stmt}
theorem ds_forVals {te : DTE} {g : DTG} {tb : DTS} (hp : PassesOwn (model X.prog X.w) X.A X.env X.xe) (hc : X.calm = true) (he : DE X e te) (hg : DG X tg g) (hb : DSs X body tb)
    (hbase : attributeBase e "values" X.env (eval e X.env) = eval e X.env := by rfl) (hline : (apos.endLine == cpos.line) = true := by rfl)
    (hs : ∀ x, foldedSetIterable (.Call (.Attribute e "values" apos) [] [] cpos) X.env x = pure x := by intro _; rfl) :
    DS_ X (.For tg (.Call (.Attribute e "values" apos) [] [] cpos) body [] pos) (dForF valsS te g tb) := weakS (ps_unl (ps_for hp hc (pi_values (pe_lockA he) hbase hline) hg hb hs)) fun D σ H h => by
  obtain ⟨F0, ρ0, μ0, D', R0, S0, t, k, k2, k3, k4⟩ := h
  refine ⟨F0, ρ0, μ0, _, R0, S0, t, fun d μ1 t1 F1 H1 v s1 R1 r1 => ?_⟩
  cases r1 with
  | dic hd hk hv =>
    rename_i a ds vs
    obtain ⟨W, w0, turn, fin⟩ := t1
    have rk : RepK X.K F1 ds vs := ⟨hk, hv⟩
    refine ⟨a, vs, rfl, ?_⟩
    rcases hd with hd | ⟨od, hd⟩
    · refine .inl ⟨R1.sub _ _ hd, fun od h0 => ?_⟩
      obtain ⟨R2, s2⟩ := R1.lockD (od := od) hd
      refine ⟨a, od, vs, rfl, upd_same, ?_⟩
      refine for_core R2 ((S0.mono s1.ext).mono s2.ext) (src_vals2 (od := od) ⟨rk.keys, rk.vals.mono s2.ext⟩ upd_same) ⟨W, w0, fun _ _ _ _ _ => trivial, turn, fin⟩ ?_ ?_
      · intro ρ' μ' q F' H' σ' s R S
        have hF : F' a = some (.frz od (.dK vs)) := s.ext.fz a _ _ upd_same
        exact .inr ⟨a, od, _, R.sub _ _ hF, h0, k ρ' μ' q _ _ σ' (s1.trans (Stp.unlockD hd s)) (R.unlockD hF) (S.mono0 (ext_unlock hF))⟩
      · intro d μ' q F' H' v s R r
        have hF : F' a = some (.frz od (.dK vs)) := s.ext.fz a _ _ upd_same
        exact .inr ⟨a, od, _, R.sub _ _ hF, h0, k2 d μ' q _ _ v (s1.trans (Stp.unlockD hd s)) (R.unlockD hF) (r.mono0 (ext_unlock hF))⟩
    · refine .inr ⟨od, R1.sub _ _ hd, ?_⟩
      refine ⟨a, od, vs, rfl, R1.sub _ _ hd, ?_⟩
      refine for_core R1 (S0.mono s1.ext) (src_vals2 (od := od) rk hd) ⟨W, w0, fun _ _ _ _ _ => trivial, turn, fin⟩ ?_ ?_
      · exact fun ρ' μ' q F' H' σ' s R S => .inl (k ρ' μ' q F' H' σ' (s1.trans s) R S)
      · exact fun d μ' q F' H' v s R r => .inl (k2 d μ' q F' H' v (s1.trans s) R r)
  | _ => exact t1.elim
end
end DS
/-! DS31: max(ints, default=k); len of a dict. -/
namespace DS
open PySem PySem.Spec PyProof.Rows L2
theorem reads_ints {h : Heap} : ∀ {vs : List Value} {ns : List Int}, IntsAre vs ns → ReadsAll h vs (ns.map PyData.int) []
  | _, _, .nil => .nil
  | _, _, .cons n t r => .cons (as := []) (.int n t) (reads_ints r)
theorem depth_ints : ∀ (ns : List Int), PyData.depthAll (ns.map PyData.int) = 0
  | [] => by simp [PyData.depthAll]
  | n :: ns => by
    rw [List.map_cons, PyData.depthAll, depth_ints ns]
    simp [PyData.depth]
def mostOf (k : Int) : List Int → Int
  | [] => k
  | n :: r => r.foldl max n
def rMaxK (K : PySem.W.Frag) : List V → List V → Hp → VK → Prop := fun vs zs H Q => ∃ (a : Addr) (ns : List Int) (k : Int), vs = [.ref a] ∧ SqL K H a (ns.map V.int) ∧ zs = [.int k] ∧ Q (.int (mostOf k ns)) H
theorem cr_maxK {X : Cx} (hc : X.calm = true) (hu : X.A.units + 1 < cLine) : CallRK X (.builtin "max") [Str.ofString "default"] (rMaxK X.K) := by
  intro pins s σ H vs zs us ws Q I r rz h
  obtain ⟨a, ns, k, rfl, hs, rfl, q⟩ := h
  obtain rfl := Vals.ref1 r
  match ws, rz with
  | [w1], .cons rw .nil =>
    obtain ⟨t, rfl⟩ := (show ∃ t, w1 = Value.int k t from rw)
    obtain ⟨its, rv, hl, hz⟩ := I.list hs
    have hi := rv.ints
    refine PySem.W.max_list_default (I.ok.hd hc) hl.isList (by simpa using reads_ints hi) ?_ (by rw [depth_ints]; exact hu) (fun e h' tk kk => ?_) fun y ys i v h' tk bs e hv hr kk => ?_
    · exact ⟨fun x hx y hy => by
        obtain ⟨n, _, rfl⟩ := List.mem_map.mp hx
        obtain ⟨m, _, rfl⟩ := List.mem_map.mp hy
        rfl, fun x hx => by
        obtain ⟨n, _, rfl⟩ := List.mem_map.mp hx
        exact fun z => by cases z⟩
    · have : ns = [] := by simpa using e
      subst this
      exact ⟨.int k, H, I.kept kk, ⟨t, rfl⟩, q⟩
    · cases ns with
      | nil => cases e
      | cons n ns =>
        rw [List.map_cons] at e
        cases e
        rw [PySem.W.maxD_ints] at hr
        cases hr with
        | int i t => exact ⟨.int _, H, I.kept kk, ⟨t, rfl⟩, q⟩
/-- max(e, default=f) -/
def mxQ (k : SD) (Q : SD → Mu → Prop) : SD → Mu → Prop := fun d μ => match k with
  | .int k => isTup d = false ∧ (match seqD μ d with
    | some xs => (match intsD xs with
      | some ns => Q (.int (mostOf k ns)) μ
      | none => False)
    | none => False)
  | _ => False
abbrev dMaxK (te tf : DTE) : DTE := fun ρ μ Q => te ρ μ fun d μ1 => tf ρ μ1 fun k μ2 => mxQ k Q d μ2
section
variable {X : Cx} {e f : Expr} {te tf : DTE} {p pos kpos : Pos}
theorem de_maxK (hu : X.A.units + 1 < cLine) (he : DE X e te) (hf : DE X f tf) (hg : Gl X "max") (hm : X.mg "max" = none) (hc : X.calm = true := by rfl)
    (h1 : backTo pos (starEach [e] X.env) = (false, eval e X.env) :: backTo pos (starEach [] X.env) := by rfl) (h2 : (backTo pos (starEach [e] X.env)).any (·.1) = false := by rfl)
    (h3 : (backToKw pos (keywordEach [⟨some "default", f, kpos⟩] X.env)).all (·.1.isSome) = true := by rfl) (h4 : (backToKw pos (keywordEach [⟨some "default", f, kpos⟩] X.env)).any (·.1.isNone) = false := by rfl)
    (h5 : (backToKw pos (keywordEach [⟨some "default", f, kpos⟩] X.env)).filterMap (·.1) = [Str.ofString "default"] := by rfl) (hs : starEach [e] X.env = (false, eval e X.env) :: starEach [] X.env := by rfl) :
    DE X (.Call (.Name "max" p) [e] [⟨some "default", f, kpos⟩] pos) (dMaxK te tf) :=
  weakE (pe_callBK (cr_maxK hc hu) hg hm bt_max (da_cons he da_nil hs) (dk_cons hf dk_nil) (by decide) (by decide) h1 h2 h3 h4 h5) fun σ H Q h => by
    obtain ⟨F, ρ, μ, Q', R, S, t, k⟩ := h
    refine ⟨F, ρ, μ, fun ds μ1 => match ds with
      | [d] => tf ρ μ1 fun z μ2 => mxQ z Q' d μ2
      | _ => False, R, S, t, fun ds μ1 t1 F1 H1 vs s1 R1 r1 => ?_⟩
    match ds, vs, r1, t1 with
    | [d], [v], .cons ra .nil, t1 =>
      refine ⟨F1, ρ, μ1, fun es μ2 => match es with
        | [z] => mxQ z Q' d μ2
        | _ => False, R1, S.mono s1.ext, t1, fun es μ2 t2 F2 H2 zs s2 R2 r2 => ?_⟩
      match es, zs, r2, t2 with
      | [z], [w], .cons rb .nil, t2 =>
        have t2 : mxQ z Q' d μ2 := t2
        unfold mxQ at t2
        cases rb with
        | int kk =>
          obtain ⟨nt, t2⟩ := t2
          cases e1 : seqD μ2 d with
          | none => rw [e1] at t2; exact t2.elim
          | some xs =>
            rw [e1] at t2
            simp only at t2
            cases e2 : intsD xs with
            | none => rw [e2] at t2; exact t2.elim
            | some ns =>
              rw [e2] at t2
              have el := intsD_of e2
              subst el
              obtain ⟨a, us, rfl, rl, hL | hT⟩ := R2.seq (ra.mono s2.ext) e1
              · obtain rfl := rl.ints
                exact ⟨a, ns, kk, rfl, hL.2, rfl, k _ μ2 t2 F2 H2 _ (s1.trans s2) R2 (.int _)⟩
              · rw [nt] at hT; cases hT.1
        | _ => exact t2.elim
      | [], _, _, t2 => exact t2.elim
      | _ :: _ :: _, _, _, t2 => exact t2.elim
    | [], _, _, t1 => exact t1.elim
    | _ :: _ :: _, _, _, t1 => exact t1.elim
end
/-! len(d), d a dict that may change -/
def rLenK : List V → Hp → VK → Prop := fun xs H Q => ∃ (a : Addr) (kvs : List (Key × V)), xs = [V.ref a] ∧ H a = some (.dK kvs) ∧ Q (.int kvs.length) H
def drLenD : DRc := fun ds μ Q => match ds with
  | [d] => (match mdic μ d with
    | some (_, kvs) => Q (.int kvs.length) μ
    | none => False)
  | _ => False
theorem lc_lenD {K : PySem.W.Frag} : LRc K drLenD rLenK := fun F H μ xs ds Q' Q R r t k => by
  unfold drLenD at t
  split at t
  · rename_i d
    cases e : mdic μ d with
    | none => rw [e] at t; exact t.elim
    | some pr =>
      obtain ⟨b, kvs⟩ := pr
      rw [e] at t
      simp only at t
      match xs, r with
      | [v], .cons r1 .nil =>
        obtain ⟨rfl, hm, ws, hb, rk⟩ := R.mdic r1 e
        exact ⟨b, ws, rfl, hb, by rw [← rk.len]; exact k _ μ t _ _ _ (Stp.refl _ _ _) R (.int _)⟩
  · exact t.elim
end DS
/-! DS32: enumerate of a tuple. -/
namespace DS
open PySem PySem.Spec PyProof.Rows L2
/-- the cell that iterates (the second of two new ones) -/
def enCell (b : Addr) : Obj := { cls := .type "enumerate", data := .fields #[.none, .bool false, .ref b, rawInt 0, .none, .none] }
theorem meets_enum1 {v : Value} {ob : Obj} {H : Heap → Prop} (B : Begins v ob H) :
    Meets (Builtin.«enumerate.__new__» ⟨[.type "enumerate", v], []⟩) (fun _ R s => H s.heap ∧ R (.ok (.ret (.ref (s.heap.push ob).objs.size))) { s with heap := (s.heap.push ob).push (enCell s.heap.objs.size) }) :=
  .of_wp fun prog w A R s hs => by
    obtain ⟨hp, gs, dr, tk, os⟩ := s
    obtain ⟨st, go⟩ := hs
    have isE := sub_enumerate
    have begin1 : ∀ {A' : Around} {E : Value → Shared → Prop} {Q : Value → Shared → Prop}, Q (.ref hp.objs.size) ⟨hp.push ob, gs, dr, tk, os⟩ → wpAny (model prog w) A' (pyIter v) Q E ⟨hp, gs, dr, tk, os⟩ :=
      fun q => B.iter prog w _ _ ⟨hp, gs, dr, tk, os⟩ _ st q
    wp_walk using begin1
    refine wpAny_stack_any fun _ => wpAny_pure ?_
    split
    · rename_i cl _ _ _ _ _
      cases (cl == Value.type "enumerate") <;> (wp_walk using begin1; exact ⟨_, rfl, go⟩)
    · wp_walk using begin1
      exact ⟨_, rfl, go⟩
section
variable {prog : Program} {w : World} {A : Around} {E : Value → Shared → Prop} {s : Shared}
theorem call_enum1 {v : Value} {ob : Obj} {H : Heap → Prop} {Q : Value → Shared → Prop} (B : Begins v ob H) (h1 : H s.heap)
    (k : ∀ h', IsEnum h' (s.heap.objs.size + 1) s.heap.objs.size 0 .none → h'.get? s.heap.objs.size = some ob → h'.objs.size = s.heap.objs.size + 2 → (∀ b o, s.heap.get? b = some o → h'.get? b = some o) → Q (.ref (s.heap.objs.size + 1)) { s with heap := h' }) :
    wpAny (model prog w) A (call (.type "enumerate") [v]) Q E s := by
  refine callType_new F.called_enumerate (by decide) (F.typeCall_enumerate_1 _) (F.newCall_enumerate_1 _) (fun obj => F.args_object_init_2 obj _) F.entry_enumerate_new (meets_enum1 B) ⟨h1, ?_⟩
  have size1 : (s.heap.push ob).objs.size = s.heap.objs.size + 1 := Heap.size_push ..
  show _ ∧ _
  rw [size1]
  have cell : IsEnum ((s.heap.push ob).push (enCell s.heap.objs.size)) (s.heap.objs.size + 1) s.heap.objs.size 0 .none := by
    have q := Heap.get?_push_size (s.heap.push ob) (o := enCell s.heap.objs.size) rfl
    rw [size1] at q; exact q
  exact ⟨⟨_, cell, rfl⟩, k _ cell (Heap.get?_push_of_some _ (Heap.get?_push_size _ B.free)) (by rw [Heap.size_push, size1]) fun b o x => Heap.get?_push_of_some _ (Heap.get?_push_of_some _ x)⟩
end
/-- the tuple at a, each item in a new pair -/
def IteT (K : PySem.W.Frag) (a : Addr) : It :=
  ⟨fun i H => ∃ (xs : List V) (x : V), SqT K H a xs ∧ xs[i]? = some x, fun i H v H' => ∃ T x, v = .ref T ∧ H T = none ∧ H' = upd H T (.tup [.int (i : Nat), x]) ∧ ∀ xs, SqT K H a xs → xs[i]? = some x, fun i H => ∃ xs : List V, SqT K H a xs ∧ xs.length = i⟩
theorem turn_enumT {P : Program} {w : World} {K : PySem.W.Frag} {elts : List Expr} {kk : Nat} {tpos : Pos} (a e it : Addr) :
    Turn P w K (.Tuple elts kk tpos) (IteT K a) [e, it] e (fun i h => (∃ old, IsEnum h e it ((i : Nat) : Int) old) ∧ h.IsTupleIter it a i ∧ e ≠ it ∧ a ≠ it ∧ a ≠ e) where
  mem := by simp
  obj := fun i h st b hb => by
    obtain ⟨⟨old, he⟩, ⟨o, ho, hc, hd⟩, _⟩ := st
    have e' : b = e ∨ b = it := by simpa using hb
    rcases e' with rfl | rfl
    · exact ⟨_, he, fun v q => nomatch q⟩
    · exact ⟨o, ho, fun v q => (by rw [hd] at q; cases q)⟩
  keep := fun i h h' st k => by
    obtain ⟨⟨old, he⟩, hi, ds⟩ := st
    have hi2 : h'.IsTupleIter it a i := hi.at fun o q => k it (by simp) o q
    exact ⟨⟨old, k e (by simp) _ he⟩, hi2, ds⟩
  item := by
    intro X hP hw hK hc i pins s σ H E I hf st hg
    subst hP hw hK
    obtain ⟨⟨old, he⟩, hit, hne, d2, d3⟩ := st
    obtain ⟨xs, x, hq, hx⟩ := hg
    obtain ⟨its, rv, p, _⟩ := I.tuple hq
    obtain ⟨u, hu, ru⟩ := rv.get hx
    have hel : e < s.heap.objs.size := Heap.lt_size he
    have hil : it < s.heap.objs.size := by obtain ⟨_, q, _⟩ := hit; exact Heap.lt_size q
    have hD : Draws X.prog X.w X.A.in1 it [it, a] its.toArray.size (fun i v => its.toArray[i]? = some v) (fun i h => h.IsTupleIter it a i ∧ h.IsTuple a its.toArray) := Draws.tuple (show X.A.in1.handled = none from I.ok.hd hc) it a d2 its.toArray
    have hi1 : i < its.toArray.size := by
      have := (List.getElem?_eq_some_iff.mp hu).1
      rw [List.size_toArray]; exact this
    refine wpAny_pyNext_enum_itemC hD he ⟨hit, show s.heap.IsTuple a its.toArray from p⟩ hi1 hne (by simp [hne, Ne.symm d3]) fun y h' tk hy ho hit' hT hsz hk => ?_
    have ey : y = u := by
      have : its.toArray[i]? = some u := by simpa using hu
      rw [this] at hy; exact (Option.some.inj hy).symm
    subst ey
    refine ⟨_, rfl, wpAny_letOwnedTupleGo_enum (s := { s with heap := h', toks := tk + 1 }) ho fun h'' he' sb => ?_⟩
    have hT2 : h''.get? s.heap.objs.size = some { cls := .type "tuple", data := .seq #[.int i tk, y] } := (sb.2 _ (Nat.ne_of_gt hel)).trans hT
    have new : ObjOk X.prog X.w (upd H s.heap.objs.size (.tup [.int (i : Nat), x])) h'' s.heap.objs.size (.tup [.int (i : Nat), x]) :=
      ⟨by show 2 ≤ sizeLine; decide, [.int i tk, y], .cons ⟨_, rfl⟩ (.cons ru .nil), ⟨_, hT2, rfl, _, rfl⟩⟩
    have I1 : Inv X pins σ (upd H s.heap.objs.size (.tup [.int (i : Nat), x])) { s with heap := h'', toks := tk + 1 } :=
      I.turnedNew (ch := [e, it]) (fun b ob hb q => (sb.2 b (fun z => hb (by simp [z]))).trans (hk b ob (fun z => hb (by simp [z])) (fun z => hb (by simp [z])) q)) hf (Nat.le_refl _) new
    refine ⟨.ref s.heap.objs.size, _, I1, rfl, ⟨_, x, rfl, I.hok.fresh (Nat.le_refl _), rfl, fun ys hy => by rw [I.tuple_inj hy hq]; exact hx⟩, ⟨⟨y, ?_⟩, hit'.1.at fun o q => (sb.2 it (Ne.symm hne)).trans q, hne, d2, d3⟩, fun b hb => ?_⟩
    · rw [show ((i + 1 : Nat) : Int) = (i : Int) + 1 by omega]; exact he'
    · have hb' : b < s.heap.objs.size := by
        have e' : b = e ∨ b = it := by simpa using hb
        rcases e' with rfl | rfl
        · exact hel
        · exact hil
      rw [upd_ne (Nat.ne_of_lt hb')]
      exact (hf b hb).1
  done := by
    intro X hP hw hK hc i pins s σ H E I hf st hg
    subst hP hw hK
    obtain ⟨⟨old, he⟩, hit, hne, d2, d3⟩ := st
    obtain ⟨xs, hq, hx⟩ := hg
    obtain ⟨its, rv, p, _⟩ := I.tuple hq
    obtain ⟨f0, f1, f2, f3, f4, f5⟩ := hf it (by simp)
    have hD : Draws X.prog X.w X.A.in1 it [it, a] its.toArray.size (fun i v => its.toArray[i]? = some v) (fun i h => h.IsTupleIter it a i ∧ h.IsTuple a its.toArray) := Draws.tuple (show X.A.in1.handled = none from I.ok.hd hc) it a d2 its.toArray
    have hl : its.toArray.size = i := by rw [List.size_toArray, ← rv.length]; exact hx
    exact wpAny_pyNext_enum_endD hD he ⟨by rw [hl]; exact hit, show s.heap.IsTuple a its.toArray from p⟩ fun h' eb => ⟨rfl, I.turned (t' := s.toks) (fun b o hb q => eb b o hb q) f0 f1 f3 f4 f5⟩
  self := fun A i s Q E st h => let ⟨⟨_, he⟩, _⟩ := st; wpAny_pyIter_enum he h
def iEnumT (K : PySem.W.Frag) (ta : TA) : TI := fun σ H R => ta σ H fun vs H1 => ∃ a xs, vs = [.ref a] ∧ SqT K H1 a xs ∧ R (IteT K a) H1
theorem pi_enumT {X : Cx} {e : Expr} {ta : TA} {p pos tpos : Pos} {elts : List Expr} {kk : Nat} (hg : Gl X "enumerate") (hm : X.mg "enumerate" = none) (ha : PA X [e] ta) (hs : starEach [e] X.env = [(false, eval e X.env)] := by rfl) :
    PI X (.Tuple elts kk tpos) (.Call (.Name "enumerate" p) [e] [] pos) (iEnumT X.K ta) := by
  refine ⟨fun pins s σ H R I h => ?_⟩
  refine Call_ (ld_blt I hg hm boot_enumerate (PyProof.Rows.callWith_type1 (thn (ha.run pos pins s σ H _ I h) fun us s1 ⟨vs, H1, I1, r1, a, xs, ex, hq, q⟩ => ?_) hs rfl))
  subst ex
  cases r1 with
  | cons r rr =>
    cases rr
    cases r
    obtain ⟨its, rv, p', _⟩ := I1.tuple hq
    have al : a < s1.heap.objs.size := by obtain ⟨o, ho, _⟩ := p'; exact Heap.lt_size ho
    refine call_enum1 (begins_tuple a its.toArray) (show s1.heap.IsTuple a its.toArray from p') fun h' he hit hsz hk => wpAny_pyIter_enum he ?_
    have I2 : Inv X pins σ H1 { s1 with heap := h' } := I1.kept (t' := s1.toks) hk
    refine ⟨s1.heap.objs.size + 1, [s1.heap.objs.size + 1, s1.heap.objs.size], _, _, H1, rfl, I2, turn_enumT a (s1.heap.objs.size + 1) s1.heap.objs.size, ⟨⟨.none, he⟩, ⟨_, hit, rfl, rfl⟩, Nat.succ_ne_self _, Nat.ne_of_lt al, Nat.ne_of_lt (Nat.lt_succ_of_lt al)⟩, fun b hb => ?_, q⟩
    have hle : s1.heap.objs.size ≤ b := by
      have e' : b = s1.heap.objs.size + 1 ∨ b = s1.heap.objs.size := by simpa using hb
      rcases e' with rfl | rfl
      · exact Nat.le_add_right _ _
      · exact Nat.le_refl _
    exact I1.fpOk hle (I1.hok.fresh hle)
/-- enumerate of a tuple -/
abbrev jEnumT (ta : DTA) : DTI := fun ρ μ Q => ta ρ μ fun vs μ1 => match vs with
  | [.tup xs] => Q (enums xs) (fun _ => True) μ1
  | _ => False
theorem src_enumT {K : PySem.W.Frag} {F0 H0 : Hp} {μ0 : Mu} {a : Addr} {ds : List SD} {ok : Mu → Prop} (h : ∀ (F H : Hp) (μ : Mu), Stp F0 H0 μ0 F H μ → HReal K F H μ → ok μ → ∃ vs, SqT K H a vs ∧ RepL K F ds vs) : Src K F0 H0 μ0 (IteT K a) (enums ds) ok where
  go := fun i F H μ e R k hi => by
    obtain ⟨vs, h1, h2⟩ := h F H μ e R k
    have : i < vs.length := by rw [← h2.length]; simpa [enums] using hi
    exact ⟨vs, vs[i], h1, List.getElem?_eq_getElem _⟩
  stop := fun F H μ e R k => by
    obtain ⟨vs, h1, h2⟩ := h F H μ e R k
    exact ⟨vs, h1, by rw [← h2.length]; simp [enums]⟩
  yld := fun i F H μ x H' e R k y d hd => by
    obtain ⟨vs, h1, h2⟩ := h F H μ e R k
    obtain ⟨T, z, rfl, hT, rfl, y⟩ := y
    obtain ⟨d', h3, h4⟩ := h2.getV (y vs h1)
    have : (enums ds)[i]? = some (.tup [.int (i : Nat), d']) := by simp [enums, h3]
    rw [this] at hd; cases hd
    have ex : Ext F (upd F T (.tup [.int (i : Nat), z])) := Ext.new (R.freeF hT)
    exact ⟨_, Stp.newS R hT, R.newS hT, .tup (.inl (.inl upd_same)) (.cons (.int _) (.one (h4.mono ex)))⟩
theorem di_enumT {X : Cx} {e : Expr} {p pos : Pos} {ta : DTA} {elts : List Expr} {kk : Nat} {tpos : Pos} (hg : Gl X "enumerate") (hm : X.mg "enumerate" = none) (ha : DA X [e] ta) (hs : starEach [e] X.env = [(false, eval e X.env)] := by rfl) : DI X (.Tuple elts kk tpos) (.Call (.Name "enumerate" p) [e] [] pos) (jEnumT ta) := weakI (pi_enumT hg hm ha hs) fun σ H R h => by
  obtain ⟨F, ρ, μ, Q', R0, S, t, k⟩ := h
  refine ⟨F, ρ, μ, _, R0, S, t, fun ds μ1 t1 F1 H1 vs s1 R1 r1 => ?_⟩
  match ds, r1, t1 with
  | [], _, t1 => exact t1.elim
  | _ :: _ :: _, r1, t1 => cases r1 with | cons ra rb => cases ra <;> exact t1.elim
  | [_], .cons r .nil, t1 =>
    cases r with
    | tup hT rl =>
      refine ⟨_, _, rfl, R1.ext.sqT hT, k _ _ _ t1 F1 H1 _ s1 R1 (src_enumT fun F' H' μ' ex R' _ => ?_)⟩
      exact ⟨_, R'.ext.sqT (ex.ext.sqT hT), rl.mono ex.ext⟩
    | _ => exact t1.elim
end DS
/-! DS33: a loop over (the items of) a dict, whether it may change or not. -/
namespace DS
open PySem PySem.Spec PyProof.Rows L2
def dForB (items : List (Key × SD) → List SD) (te : DTE) (g : DTG) (tb : DTS) : DTS := fun D ρ μ => te ρ μ fun d μ1 => match d with
  | .dic kvs => ∃ W : Nat → Rho → Mu → Prop, W 0 ρ μ1 ∧ (∀ i d ρ μ, (items kvs)[i]? = some d → W i ρ μ → g d ρ μ fun ρ2 μ2 => tb { D with nx := W (i + 1), ct := W (i + 1), bk := D.nx } ρ2 μ2) ∧ ∀ ρ μ, W (items kvs).length ρ μ → D.nx ρ μ
  | .ref a => match μ1 a with
    | some (.dic kvs) => ∀ o, ∃ W : Nat → Rho → Mu → Prop, W 0 ρ (up μ1 a (.fdic kvs o)) ∧ (∀ i ρ μ, i ≤ (items kvs).length → W i ρ μ → μ a = some (.fdic kvs o)) ∧
      (∀ i d ρ μ, (items kvs)[i]? = some d → W i ρ μ → g d ρ μ fun ρ2 μ2 => tb { nx := W (i + 1), ct := W (i + 1), bk := fun ρ μ => μ a = some (.fdic kvs o) ∧ D.nx ρ (up μ a (.dic kvs)), rt := fun d μ => μ a = some (.fdic kvs o) ∧ D.rt d (up μ a (.dic kvs)) } ρ2 μ2) ∧
      ∀ ρ μ, W (items kvs).length ρ μ → D.nx ρ (up μ a (.dic kvs))
    | _ => False
  | _ => False
section
variable {X : Cx} {e tg : Expr} {pos : Pos}
theorem lift_forB {items : List (Key × SD) → List SD} {mk : Addr → Obj → List (Key × V) → It} {g : DTG} {tb : DTS} {te : DTE} {K : PySem.W.Frag} {H_0 : Hp} {P : V → Hp → (It → Hp → Prop) → Prop} (hP : ∀ d o kvs H R, H d = some (.frz o (.dK kvs)) → R (mk d o kvs) H → P (.ref d) H R)
    (srcM : ∀ {F0 H0 : Hp} {μ0 : Mu} {a : Addr} {od : Obj} {kvs : List (Key × SD)} {vs : List (Key × V)}, RepK K F0 kvs vs → Src K F0 H0 μ0 (mk a od vs) (items kvs) fun μ => μ a = some (.fdic kvs (.frz od (.dK vs))))
    (srcF : ∀ {F0 H0 : Hp} {μ0 : Mu} {a : Addr} {od : Obj} {kvs : List (Key × SD)} {vs : List (Key × V)}, RepK K F0 kvs vs → F0 a = some (.frz od (.dK vs)) → Src K F0 H0 μ0 (mk a od vs) (items kvs) fun _ => True) :
    ∀ D σ H, LS K (dForB items te g tb) D σ H → tUnl H_0 (tFor (fun σ H R => tLockA H_0 (LE K te) σ H fun x H1 => P x H1 R) (LG K g) (LS K tb)) D σ H := fun D σ H h => by
  obtain ⟨F0, ρ0, μ0, D', R0, S0, t, k, k2, k3, k4⟩ := h
  refine ⟨F0, ρ0, μ0, _, R0, S0, t, fun d μ1 t1 F1 H1 v s1 R1 r1 => ?_⟩
  cases r1 with
  | dic hd hk hv =>
    rename_i a ds vs
    obtain ⟨W, w0, turn, fin⟩ := t1
    have rk : RepK K F1 ds vs := ⟨hk, hv⟩
    refine ⟨a, vs, rfl, ?_⟩
    rcases hd with hd | ⟨od, hd⟩
    · refine .inl ⟨R1.sub _ _ hd, fun od h0 => ?_⟩
      obtain ⟨R2, s2⟩ := R1.lockD (od := od) hd
      refine hP a od vs _ _ upd_same ?_
      refine for_core R2 ((S0.mono s1.ext).mono s2.ext) (srcF (od := od) ⟨rk.keys, rk.vals.mono s2.ext⟩ upd_same) ⟨W, w0, fun _ _ _ _ _ => trivial, turn, fin⟩ ?_ ?_
      · intro ρ' μ' q F' H' σ' s R S
        have hF : F' a = some (.frz od (.dK vs)) := s.ext.fz a _ _ upd_same
        exact .inr ⟨a, od, _, R.sub _ _ hF, h0, k ρ' μ' q _ _ σ' (s1.trans (Stp.unlockD hd s)) (R.unlockD hF) (S.mono0 (ext_unlock hF))⟩
      · intro d μ' q F' H' v s R r
        have hF : F' a = some (.frz od (.dK vs)) := s.ext.fz a _ _ upd_same
        exact .inr ⟨a, od, _, R.sub _ _ hF, h0, k2 d μ' q _ _ v (s1.trans (Stp.unlockD hd s)) (R.unlockD hF) (r.mono0 (ext_unlock hF))⟩
    · refine .inr ⟨od, R1.sub _ _ hd, ?_⟩
      refine hP a od vs _ _ (R1.sub _ _ hd) ?_
      refine for_core R1 (S0.mono s1.ext) (srcF (od := od) rk hd) ⟨W, w0, fun _ _ _ _ _ => trivial, turn, fin⟩ ?_ ?_
      · exact fun ρ' μ' q F' H' σ' s R S => .inl (k ρ' μ' q F' H' σ' (s1.trans s) R S)
      · exact fun d μ' q F' H' v s R r => .inl (k2 d μ' q F' H' v (s1.trans s) R r)
  | ref a =>
    simp only at t1
    split at t1
    · rename_i kvs hm
      have t1 : (∀ o, ∃ W : Nat → Rho → Mu → Prop, W 0 ρ0 (up μ1 a (.fdic kvs o)) ∧ (∀ i ρ μ, i ≤ (items kvs).length → W i ρ μ → μ a = some (.fdic kvs o)) ∧
        (∀ i d ρ μ, (items kvs)[i]? = some d → W i ρ μ → g d ρ μ fun ρ2 μ2 => tb { nx := W (i + 1), ct := W (i + 1), bk := fun ρ μ => μ a = some (.fdic kvs o) ∧ D'.nx ρ (up μ a (.dic kvs)), rt := fun d μ => μ a = some (.fdic kvs o) ∧ D'.rt d (up μ a (.dic kvs)) } ρ2 μ2) ∧
        ∀ ρ μ, W (items kvs).length ρ μ → D'.nx ρ (up μ a (.dic kvs))) := t1
      obtain ⟨hF, o, hH, ro⟩ := R1.mus a _ hm
      cases ro with
      | dic q r =>
        rename_i vs
        refine ⟨a, vs, rfl, .inl ⟨hH, fun od h0 => ?_⟩⟩
        obtain ⟨W, w0, hok, turn, fin⟩ := t1 (.frz od (.dK vs))
        have rk : RepK K F1 kvs vs := ⟨q, r⟩
        have R2 : HReal K F1 (upd H1 a (.frz od (.dK vs))) (up μ1 a (.fdic kvs (.frz od (.dK vs)))) := R1.put hm (.fdic q r)
        have s2 : Stp F1 H1 μ1 F1 (upd H1 a (.frz od (.dK vs))) (up μ1 a (.fdic kvs (.frz od (.dK vs)))) := Stp.put hm
        refine hP a od vs _ _ upd_same ?_
        have back : ∀ {F' H' : Hp} {μ' : Mu}, HReal K F' H' μ' → μ' a = some (.fdic kvs (.frz od (.dK vs))) → H' a = some (.frz od (.dK vs)) ∧ HReal K F' (upd H' a (.dK vs)) (up μ' a (.dic kvs)) ∧ Stp F' H' μ' F' (upd H' a (.dK vs)) (up μ' a (.dic kvs)) := fun R' e => by
          obtain ⟨h1, ob, vs', e2, rk'⟩ := fdic_at R' e
          cases e2
          exact ⟨h1, R'.put e (.dic rk'.keys rk'.vals), Stp.put e⟩
        refine for_core (D' := { nx := fun ρ μ => μ a = some (.fdic kvs (.frz od (.dK vs))) ∧ D'.nx ρ (up μ a (.dic kvs)), rt := fun d μ => μ a = some (.fdic kvs (.frz od (.dK vs))) ∧ D'.rt d (up μ a (.dic kvs)) }) R2 ((S0.mono s1.ext).mono s2.ext) (srcM rk) ⟨W, w0, hok, turn, fun ρ μ w => ⟨hok _ ρ μ (Nat.le_refl _) w, fin ρ μ w⟩⟩ ?_ ?_
        · rintro ρ' μ' ⟨e, qn⟩ F' H' σ' s R S
          obtain ⟨h1, R3, s3⟩ := back R e
          exact .inr ⟨a, od, _, h1, h0, k ρ' _ qn F' _ σ' (((s1.trans s2).trans s).trans s3) R3 S⟩
        · rintro d μ' ⟨e, qn⟩ F' H' v s R r
          obtain ⟨h1, R3, s3⟩ := back R e
          exact .inr ⟨a, od, _, h1, h0, k2 d _ qn F' _ v (((s1.trans s2).trans s).trans s3) R3 r⟩
    · exact t1.elim
  | _ => exact t1.elim
theorem ds_forKeysB {body : List Stmt} {te : DTE} {g : DTG} {tb : DTS} (hp : PassesOwn (model X.prog X.w) X.A X.env X.xe) (hc : X.calm = true) (he : DE X e te) (hg : DG X tg g) (hb : DSs X body tb) (hs : ∀ x, foldedSetIterable e X.env x = pure x := by intro _; rfl) :
    DS_ X (.For tg e body [] pos) (dForB keysS te g tb) := weakS (ps_unl (ps_for hp hc (pi_keys (pe_lockA he)) hg hb hs)) (lift_forB (mk := Itk) (fun d o kvs H R h r => ⟨d, o, rfl, .inl ⟨kvs, h, r⟩⟩) (fun rk => src_keysM rk) fun rk h => src_keys2 rk h)
theorem ds_forItemsB {body : List Stmt} {elts : List Expr} {kk : Nat} {tpos apos cpos : Pos} {te : DTE} {g : DTG} {tb : DTS} (hp : PassesOwn (model X.prog X.w) X.A X.env X.xe) (hc : X.calm = true) (he : DE X e te) (hg : DG X (.Tuple elts kk tpos) g) (hb : DSs X body tb)
    (hbase : attributeBase e "items" X.env (eval e X.env) = eval e X.env := by rfl) (hline : (apos.endLine == cpos.line) = true := by rfl)
    (hs : ∀ x, foldedSetIterable (.Call (.Attribute e "items" apos) [] [] cpos) X.env x = pure x := by intro _; rfl) :
    DS_ X (.For (.Tuple elts kk tpos) (.Call (.Attribute e "items" apos) [] [] cpos) body [] pos) (dForB itemsS te g tb) := weakS (ps_unl (ps_for hp hc (pi_items (pe_lockA he) hbase hline) hg hb hs)) (lift_forB (mk := Iti) (fun d o kvs H R h r => ⟨d, o, kvs, rfl, h, r⟩) (fun rk => src_itemsM rk) fun rk h => src_items2 rk h)
end
end DS
/-! DS34: == and != of two dicts that stay as they are. -/
namespace DS
open PySem PySem.Spec PyProof.Rows L2
section
variable {X : Cx} {K : PySem.W.Frag} {F H : Hp} {μ : Mu}
/-- each row of the one looked up in the other -/
inductive HitsV (K : PySem.W.Frag) (H : Hp) (ls : List (Key × V)) : List (Key × V) → Bool → Prop
  | nil : HitsV K H ls [] true
  | miss {k : Key} {v : V} {r : List (Key × V)} : valV ls k = none → HitsV K H ls ((k, v) :: r) false
  | hit {k : Key} {v u : V} {p q : PyData} {r : List (Key × V)} {b : Bool} : valV ls k = some u → Dp K H v p → Dp K H u q → SeqAt.shaped p = true → SeqAt.shaped q = true → HitsV K H ls r b → HitsV K H ls ((k, v) :: r) (PyData.eqv p q && b)
theorem HitsV.run {pins : List (Addr × Obj)} {σ : L2.St} {s : Shared} {A : Around} (I : Inv X pins σ H s) (hu : A.in1.units + 64 < cLine) {ls : List (Key × V)} {vb : List (Key × Value)} (rb : KV ls vb) {ks : List (Key × V)} {b : Bool} (h : HitsV X.K H ls ks b) :
    ∀ {va : List (Key × Value)}, KV ks va → PySem.W.KeqHits A.in1 s vb va b := by
  induction h with
  | nil => intro va ra; cases ra; exact .nil
  | @miss k v r hn =>
    intro va ra
    cases ra with
    | @cons _ y _ _ a b =>
      obtain ⟨h1, h2⟩ := a
      obtain ⟨key, v2⟩ := y
      have h1' : k = key := h1
      subst h1'
      have rr : RelO none (valueAt vb k) := by rw [← hn]; exact rb.val k
      refine .miss ?_
      cases e : valueAt vb k with
      | none => rfl
      | some z => rw [e] at rr; exact rr.elim
  | @hit k v u p q r b hy hp hq sp sq _ ih =>
    intro va ra
    cases ra with
    | @cons _ y _ _ a b =>
      obtain ⟨h1, h2⟩ := a
      obtain ⟨key, v2⟩ := y
      have h1' : k = key := h1
      subst h1'
      have rr : RelO (some u) (valueAt vb k) := by rw [← hy]; exact rb.val k
      obtain ⟨y, e, ry⟩ := rr.some_of
      obtain ⟨as, r1⟩ := Dp.reads I p _ _ hp h2
      obtain ⟨bs, r2⟩ := Dp.reads I q _ _ hq ry
      exact .hit e (PySem.W.keq_at r1 r2 sp sq hu) (ih b)
def rDD (K : PySem.W.Frag) (neg : Bool) : R2 := fun x y H Q => ∃ a b ks ls r, x = .ref a ∧ y = .ref b ∧ Rd H a (.dK ks) ∧ Rd H b (.dK ls) ∧ HitsV K H ls ks r ∧ Q (.bl (neg != (ks.length == ls.length && r))) H
theorem opr_eqDD (hu : X.A.units + 66 < cLine) : OpR X (compareOp .Eq) (rDD X.K false) := by
  intro pins s σ H x y v u Q I rx ry h
  obtain ⟨a, b, ks, ls, r, rfl, rfl, ea, eb, hh, q⟩ := h
  obtain rfl : v = Value.ref a := rx
  obtain rfl : u = Value.ref b := ry
  obtain ⟨_, ya, va, ra, da⟩ := dk_rd I.hok ea
  obtain ⟨_, yb, vb, rb, db⟩ := dk_rd I.hok eb
  refine PySem.W.keq_eq (knd := mixKind X.prog X.w) (r := r) ya yb da db (by omega) (fun _ => hh.run I (by show X.A.units + 1 + 64 < cLine; omega) rb ra) ⟨.bl _, H, I, rfl, ?_⟩
  rw [← ra.length, ← rb.length]
  simpa using q
theorem opr_neDD (hu : X.A.units + 66 < cLine) : OpR X (compareOp .NotEq) (rDD X.K true) := by
  intro pins s σ H x y v u Q I rx ry h
  obtain ⟨a, b, ks, ls, r, rfl, rfl, ea, eb, hh, q⟩ := h
  obtain rfl : v = Value.ref a := rx
  obtain rfl : u = Value.ref b := ry
  obtain ⟨_, ya, va, ra, da⟩ := dk_rd I.hok ea
  obtain ⟨_, yb, vb, rb, db⟩ := dk_rd I.hok eb
  refine PySem.W.keq_ne (knd := mixKind X.prog X.w) (r := r) ya yb da db (by omega) (fun _ => hh.run I (by show X.A.units + 1 + 64 < cLine; omega) rb ra) ⟨.bl _, H, I, rfl, ?_⟩
  rw [← ra.length, ← rb.length]
  simpa using q
def hitsD (kb : List (Key × SD)) : List (Key × SD) → Option Bool
  | [] => some true
  | (k, d) :: r => match valD kb k with
    | none => some false
    | some e => match pdS d, pdS e, hitsD kb r with
      | some p, some q, some b => if SeqAt.shaped p = true ∧ SeqAt.shaped q = true then some (PyData.eqv p q && b) else none
      | _, _, _ => none
theorem hits_rep (ex : Ext F H) (sub : ∀ a o, F a = some o → H a = some o) {kb : List (Key × SD)} {ls : List (Key × V)} (rb : RepK K F kb ls) : ∀ {ka : List (Key × SD)} {ks : List (Key × V)} {b : Bool}, RepK K F ka ks → hitsD kb ka = some b → HitsV K H ls ks b
  | [], ks, b, r, h => by
    obtain ⟨h1, h2⟩ := r
    cases ks with
    | nil => cases h; exact .nil
    | cons _ _ => simp at h1
  | (k, d) :: ka, ks, b, r, h => by
    obtain ⟨h1, h2⟩ := r
    cases ks with
    | nil => simp at h1
    | cons y ks =>
      obtain ⟨k2, v⟩ := y
      simp only [List.map_cons, List.cons.injEq] at h1 h2
      obtain ⟨rfl, h1⟩ := h1
      cases h2 with
      | cons h2 h3 =>
        unfold hitsD at h
        rcases rb.val k2 with ⟨e, u, e1, e2, re⟩ | ⟨e1, e2⟩
        · rw [e1] at h
          dsimp only at h
          cases q1 : pdS d with
          | none => rw [q1] at h; cases h
          | some p => cases q2 : pdS e with
            | none => rw [q1, q2] at h; cases h
            | some q => cases q3 : hitsD kb ka with
              | none => rw [q1, q2, q3] at h; cases h
              | some b2 =>
                rw [q1, q2, q3] at h
                dsimp only at h
                split at h
                · rename_i sh
                  cases h
                  exact .hit e2 (RepS.dp ex sub h2 q1) (RepS.dp ex sub re q2) sh.1 sh.2 (hits_rep ex sub rb ⟨h1, h3⟩ q3)
                · cases h
        · rw [e1] at h
          cases h
          exact .miss e2
/-- x == y, both dicts that stay -/
def dEqDD (neg : Bool) : DR2 := fun x y μ Q => match x, y with
  | .dic a, .dic b => match hitsD b a with
    | some r => Q (.bl (neg != (a.length == b.length && r))) μ
    | none => False
  | _, _ => False
theorem lr_DD {neg : Bool} : LR2 K (dEqDD neg) (rDD K neg) := fun F H μ x y dx dy Q' Q R rx ry t k => by
  unfold dEqDD at t
  split at t
  · rename_i ds es
    cases rx with
    | dic hx kx vx =>
      cases ry with
      | dic hy ky vy =>
        rename_i a vs b ws
        cases e : hitsD es ds with
        | none => rw [e] at t; exact False.elim t
        | some r =>
          rw [e] at t
          refine ⟨a, b, vs, ws, r, rfl, rfl, R.ext.rd _ _ hx, R.ext.rd _ _ hy, hits_rep R.ext R.sub ⟨ky, vy⟩ ⟨kx, vx⟩ e, ?_⟩
          have l1 : vs.length = ds.length := by have := congrArg List.length kx; simpa using this
          have l2 : ws.length = es.length := by have := congrArg List.length ky; simpa using this
          rw [l1, l2]
          exact k _ μ t F H _ (Stp.refl _ _ _) R (.bl _)
  · exact False.elim t
/-! == of data nested deeper, if one of the two is not -/
def rEqM (K : PySem.W.Frag) (neg : Bool) : R2 := fun x y H Q => ∃ d e, Dp K H x d ∧ Dp K H y e ∧ d.canLay0 = true ∧ e.canLay0 = true ∧ min d.depth e.depth ≤ 64 ∧ Q (.bl (neg != PyData.eqv d e)) H
theorem opr_eqM (hu : X.A.units + 64 < cLine) : OpR X (compareOp .Eq) (rEqM X.K false) := by
  intro pins s σ H x y v u Q I rx ry h
  obtain ⟨d, e, hd, he, sd, se, hm, q⟩ := h
  obtain ⟨as, r1⟩ := Dp.reads I d x v hd rx
  obtain ⟨bs, r2⟩ := Dp.reads I e y u he ry
  exact SeqAt.compareEq_reads r1 r2 sd se (by omega) ⟨.bl _, H, I, rfl, by simpa using q⟩
theorem opr_neM (hu : X.A.units + 64 < cLine) : OpR X (compareOp .NotEq) (rEqM X.K true) := by
  intro pins s σ H x y v u Q I rx ry h
  obtain ⟨d, e, hd, he, sd, se, hm, q⟩ := h
  obtain ⟨as, r1⟩ := Dp.reads I d x v hd rx
  obtain ⟨bs, r2⟩ := Dp.reads I e y u he ry
  exact SeqAt.compareNe_reads r1 r2 sd se (by omega) ⟨.bl _, H, I, rfl, by simpa using q⟩
def dEqM (neg : Bool) : DR2 := fun x y μ Q => match pd μ x, pd μ y with
  | some p, some q => p.canLay0 = true ∧ q.canLay0 = true ∧ min p.depth q.depth ≤ 64 ∧ Q (.bl (neg != PyData.eqv p q)) μ
  | _, _ => False
theorem lr_eqM {neg : Bool} : LR2 K (dEqM neg) (rEqM K neg) := fun F H μ x y dx dy Q' Q R rx ry t k => by
  unfold dEqM at t
  cases e1 : pd μ dx with
  | none => rw [e1] at t; exact False.elim t
  | some p => cases e2 : pd μ dy with
    | none => rw [e1, e2] at t; exact False.elim t
    | some q =>
      rw [e1, e2] at t
      obtain ⟨c1, c2, hm, t⟩ := t
      exact ⟨p, q, R.dp rx e1, R.dp ry e2, c1, c2, hm, k _ μ t F H _ (Stp.refl _ _ _) R (.bl _)⟩
end
/-! len(d), d a dict, whether it changes or not -/
def rLenB : List V → Hp → VK → Prop := fun xs H Q => ∃ (a : Addr) (kvs : List (Key × V)), xs = [V.ref a] ∧ Rd H a (.dK kvs) ∧ Q (.int kvs.length) H
theorem call_lenB {X : Cx} : CallR X (.builtin "len") rLenB := by
  intro pins s σ H xs us Q I r h
  obtain ⟨a, kvs, rfl, ha, q⟩ := h
  obtain ⟨u, rfl, ru⟩ := vals1 r
  cases ru
  exact d_len I ha fun t s' I' => ⟨.int kvs.length, H, I', ⟨t, rfl⟩, q⟩
def drLenB : DRc := fun ds μ Q => match ds with
  | [d] => (match dicD μ d with
    | some kvs => Q (.int kvs.length) μ
    | none => False)
  | _ => False
theorem lc_lenB {K : PySem.W.Frag} : LRc K drLenB rLenB := fun F H μ xs ds Q' Q R r t k => by
  unfold drLenB at t
  split at t
  · rename_i d
    cases e : dicD μ d with
    | none => rw [e] at t; exact t.elim
    | some kvs =>
      rw [e] at t
      match xs, r with
      | [v], .cons r1 .nil =>
        obtain ⟨b, vs, rfl, hb, rk⟩ := R.dic r1 e
        exact ⟨b, vs, rfl, hb, by rw [← rk.len]; exact k _ μ t _ _ _ (Stp.refl _ _ _) R (.int _)⟩
  · exact t.elim
end DS
/-! DS35: tuple * int. -/
namespace DS
open PySem PySem.Spec PyProof.Rows L2
section
variable {X : Cx} {K : PySem.W.Frag}
def dMulT : DR2 := fun x y μ Q => match x, y with
  | .tup xs, .int j => xs ≠ [] ∧ 2 ≤ j ∧ j ≤ 1000 ∧ xs.length ≤ 1000 ∧ Q (.tup (List.replicate j.toNat xs).flatten) μ
  | _, _ => False
theorem lr_mulT : LR2 K dMulT (rRepT K) := fun F H μ x y dx dy Q' Q R rx ry t k => by
  unfold dMulT at t
  split at t
  · rename_i xs j
    cases rx with
    | tup hx r =>
      cases ry
      obtain ⟨h0, h1, h2, h3, t⟩ := t
      rename_i a vs
      refine ⟨a, j, vs, rfl, rfl, R.ext.sqT hx, fun z => h0 ?_, h1, h2, by rw [← r.length]; exact h3, fun q hq => k _ μ t _ _ _ (Stp.newS R hq) (R.newS hq) (.tup (.inl (.inl upd_same)) ((r.rep _).mono (Ext.new (R.freeF hq))))⟩
      subst z
      cases r
      rfl
  · exact False.elim t
end
end DS
/-! DS36: d.update(e), e another dict. -/
namespace DS
open PySem PySem.Spec PyProof.Rows L2
section
variable {X : Cx}
section
variable {pins : List (Addr × Obj)} {σ : L2.St} {H : Hp} {s : Shared} {a b : Addr} {A : Around} {E : Value → Shared → Prop}
theorem d_update {kvs more : List (Key × V)} {Q : Value → Shared → Prop} (I : Inv X pins σ H s) (e : H a = some (.dK kvs)) (e2 : Rd H b (.dK more)) (ne : a ≠ b) (hl : kvs.length + more.length ≤ sizeLine)
    (h : ∀ s', Inv X pins σ (upd H a (.dK (mergeK kvs more))) s' → Q .none s') : wpAny (model X.prog X.w) A (call (.builtin "dict.update") [.ref a, .ref b]) Q E s := by
  obtain ⟨z, hd, vs, rel, dd⟩ := dk_of I.hok e
  obtain ⟨z2, hd2, ws, rel2, dd2⟩ := dk_rd I.hok e2
  refine call_meetsIn PySem.F.slot_dict_update dd.typeIs PySem.F.entry_dict_update (PySem.F.args_dict_update_2 _ _) (meets_dict_update (mixKind X.prog X.w) a b ne hd2) ⟨vs, ws, dd, dd2, by rw [← rel.length, ← rel2.length]; exact hl, fun h' dd' _ hs => h _ ?_⟩
  have he : ∃ q, h'.get? a = some q := let ⟨q, _, _, hq, _⟩ := dd'; ⟨q, hq⟩
  exact d_write (t' := s.toks) I (by rw [e]; exact True.intro) hs he (dk_new (Nat.le_trans (length_mergeK more kvs) hl) hd (KV.merge rel2 rel) dd')
end
variable {o i : Expr} {apos cpos : Pos} {to ty : TE}
/-- o.update(e) -/
def tUpd (td ty : TE) : TE := fun σ H Q => td σ H fun x H1 => ∃ a, x = .ref a ∧ (∃ kvs, Rd H1 a (.dK kvs)) ∧ ty σ H1 fun y H2 => ∃ b kvs more, H2 a = some (.dK kvs) ∧ y = .ref b ∧ Rd H2 b (.dK more) ∧ a ≠ b ∧ kvs.length + more.length ≤ sizeLine ∧ Q .non (upd H2 a (.dK (mergeK kvs more)))
theorem pe_upd (ho : PE X o to) (he : PE X i ty) (m : M1 X o "update" apos i cpos) : PE X (.Call (.Attribute o "update" apos) [i] [] cpos) (tUpd to ty) := by
  refine ⟨fun pins s σ H Q I h => ?_⟩
  refine wpAny_Call_method m.base m.few m.line PySem.F.plainAttrs_dict PySem.F.slot_dict_update PySem.F.type_dict_update (thn (ho.run pins s σ H _ I h) fun u s1 ⟨x, H1, I1, rx, a, ex, ⟨kvs0, d⟩, q1⟩ => ?_)
  subst ex
  obtain rfl : u = Value.ref a := rx
  obtain ⟨t1, t2, _⟩ := isD_at I1 (.inl ⟨kvs0, d⟩)
  refine ⟨t1, t2, ?_⟩
  rw [m.trees]
  refine Calls.callWith_builtin rfl (Calls.evalArgs_plain (Calls.spliced_cons (thn (he.run pins s1 σ H1 _ I1 q1) fun iv s2 ⟨y, H2, I2, ry, b, kvs, more, ea, ey, eb, ne, hl, q2⟩ => Calls.spliced_nil ?_)))
  subst ey
  obtain rfl : iv = Value.ref b := ry
  exact d_update I2 ea eb ne hl fun s3 I3 => ⟨.non, _, I3, rfl, q2⟩
/-- o.update(e): o a dict in memory, e any other dict -/
def drUpd (x y : SD) (μ : Mu) (Q : SD → Mu → Prop) : Prop := match mdic μ x, y with
  | some (a, kvs), .ref b => a ≠ b ∧ (match dicD μ (.ref b) with
    | some more => kvs.length + more.length ≤ sizeLine ∧ Q .non (up μ a (.dic (mergeD kvs more)))
    | none => False)
  | _, _ => False
abbrev dUpd (td ty : DTE) : DTE := fun ρ μ Q => td ρ μ fun x μ1 => (dicD μ1 x).isSome = true ∧ ty ρ μ1 fun y μ2 => drUpd x y μ2 Q
theorem de_upd {td ty : DTE} (ho : DE X o td) (he : DE X i ty) (m : M1 X o "update" apos i cpos) : DE X (.Call (.Attribute o "update" apos) [i] [] cpos) (dUpd td ty) := weakE (pe_upd ho he m) fun σ H Q h => by
  obtain ⟨F, ρ, μ, Q', R, S, t, k⟩ := h
  refine ⟨F, ρ, μ, _, R, S, t, fun d μ1 t1 F1 H1 v s1 R1 r1 => ?_⟩
  obtain ⟨is, t1⟩ := t1
  obtain ⟨kvs, hk⟩ := Option.isSome_iff_exists.mp is
  obtain ⟨a, ws, rfl, h1, _⟩ := R1.dic r1 hk
  refine ⟨a, rfl, ⟨ws, h1⟩, F1, ρ, μ1, _, R1, S.mono s1.ext, t1, fun y μ2 t2 F2 H2 u s2 R2 r2 => ?_⟩
  unfold drUpd at t2
  cases e1 : mdic μ2 d with
  | none => rw [e1] at t2; exact t2.elim
  | some pr =>
    obtain ⟨b, kvs⟩ := pr
    rw [e1] at t2
    cases y with
    | ref c =>
      obtain ⟨ne, t2⟩ := t2
      cases e2 : dicD μ2 (.ref c) with
      | none => rw [e2] at t2; exact t2.elim
      | some more =>
        rw [e2] at t2
        obtain ⟨hl, t2⟩ := t2
        obtain ⟨eb, hm, ws, hb, rk⟩ := R2.mdic (r1.mono s2.ext) e1
        cases eb
        obtain ⟨c', vs, ec, hc, rk2⟩ := R2.dic r2 e2
        subst ec
        cases r2
        have rm := RepK.merge rk rk2
        have s3 := Stp.put (F := F2) (H := H2) (o := .dK (mergeK ws vs)) (m := .dic (mergeD kvs more)) hm
        exact ⟨c, ws, vs, hb, rfl, hc, ne, by rw [← rk.len, ← rk2.len]; exact hl, k _ _ t2 F2 _ _ ((s1.trans s2).trans s3) (R2.put hm (.dic rm.keys rm.vals)) .non⟩
    | _ => exact t2.elim
end
end DS
/-! DS37: sorted(d), d a dict with texts as keys; d[k] = v among several targets. -/
namespace DS
open PySem PySem.Spec PyProof.Rows L2
section
variable {prog : Program} {w : World} {A : Around} {E : Value → Shared → Prop} {s : Shared} {T : String} {r d : Addr} {n : Nat} {P : Nat → Value → Prop} {OK : Heap → Prop}
theorem collect_src {Q : List Value → Shared → Prop} (K : PySem.W.KdlSrc prog w T r d n P OK) (hh : A.handled = none) (hok : OK s.heap) (hn : n ≤ sizeLine)
    (hQ : ∀ h' tk acc, (∀ b o, s.heap.get? b = some o → h'.get? b = some o) → s.heap.objs.size < h'.objs.size → ItemsOf P acc n → Q acc.toList { s with heap := h', toks := tk }) :
    wpAny (model prog w) A (collect (.ref r)) Q E s := by
  unfold collect
  refine wpAny_bind (wpAny_runValue (codeAny_builtin F.entry_proto_collect ?_))
  rw [Around.under_plainId F.plain_proto_collect _]
  show wpAny _ A.in1 (newList [] >>= fun l => again (.builtin "list.__iadd__" ⟨[l, .ref r], []⟩)) _ _ s
  refine wpAny_bind (wpAny_newObj_type ?_)
  refine wpAny_pure ⟨plainId_quiet F.plain_list_iadd _, codeAny_builtin F.entry_list_iadd ?_⟩
  rw [Around.under_plainId F.plain_list_iadd _]
  show wpAny _ A.in1 (Builtin.List.listExtendWith (.ref s.heap.objs.size) (.ref r) (.ref s.heap.objs.size)) _ _ { s with heap := s.heap.push (seqObj "list" #[] 0) }
  have hlt := K.there _ hok
  refine PySem.W.kdl_extend (R := fun r s' => match r with
    | .ok (.ret v) => wpAny (model prog w) A (match v with
      | .ref a => (do
        let o ← load a
        match o.data with
        | .seq xs _ => pure xs.toList
        | _ => unsupported "internal:collect")
      | _ => unsupported "internal:collect") Q E s'
    | .ok _ => False
    | .error e => E e s') (s := { s with heap := s.heap.push (seqObj "list" #[] 0) }) K hh (K.keep _ _ hok fun b _ o e => Heap.get?_push_of_some _ e) s.heap.objs.size (Nat.ne_of_gt hlt.1) (Nat.ne_of_gt hlt.2) _ 0 (Heap.get?_push_size _ rfl) (fun h' tk acc c' hk hS hacc => ?_) hn
  show wpAny (model prog w) A (do
      let o ← load s.heap.objs.size
      match o.data with
      | .seq xs _ => pure xs.toList
      | _ => unsupported "internal:collect") Q E { s with heap := h', toks := tk }
  refine wpAny_bind (wpAny_load hS ?_)
  exact wpAny_pure (hQ h' tk acc (fun b o e => hk b o (Nat.ne_of_lt (Heap.lt_size e)) (Heap.get?_push_of_some _ e)) (Heap.lt_size hS) hacc)
end
def rSortedD : List V → Hp → VK → Prop := fun vs H Q => ∃ (a : Addr) (kvs : List (Key × V)) (xs : List Str), vs = [V.ref a] ∧ Rd H a (.dK kvs) ∧ kvs.map (·.1) = xs.map Sum.inr ∧ ∀ p, H p = none → Q (.ref p) (upd H p (.lst ((srt xs).map V.str)))
theorem vals_keys : ∀ {xs : List Str} {us : List Value} {vs : List (Key × Value)}, vs.map (·.1) = xs.map Sum.inr → Vals (vs.map fun p => kV p.1) us → Vals (xs.map V.str) us
  | [], us, vs, h, r => by
    cases vs with
    | nil => exact r
    | cons _ _ => simp at h
  | x :: xs, us, vs, h, r => by
    cases vs with
    | nil => simp at h
    | cons p vs =>
      obtain ⟨k, v⟩ := p
      simp only [List.map_cons, List.cons.injEq] at h
      obtain ⟨rfl, h⟩ := h
      cases r with
      | cons h1 h2 => exact .cons h1 (vals_keys h h2)
theorem cr_sortedD {X : Cx} (hc : X.calm = true) : CallR X (.builtin "sorted") rSortedD := by
  intro pins s σ H vs us Q I r h
  obtain ⟨a, kvs, xs, rfl, hd, ek, q⟩ := h
  obtain ⟨u, rfl, ru⟩ := vals1 r
  cases ru
  obtain ⟨z, lo, ws, rel, dd⟩ := dk_rd I.hok hd
  obtain ⟨ep, hat⟩ := dd.dictAt
  have ek2 : ws.map (·.1) = xs.map Sum.inr := rel.keys.symm.trans ek
  have lw : ws.length = xs.length := by simpa using congrArg List.length ek2
  have hz : ws.length ≤ sizeLine := by rw [← rel.length]; exact z
  refine Calls.call_function_entry kind_sorted plain_sorted entry_sorted (args_sorted1 _) ?_
  unfold Builtin.«sorted»
  refine wpAny_bind (m := checkCount "sorted" 1 1 _) (wpAny_pure ?_)
  refine wpAny_bind (collect_src (PySem.W.kdl_dict (knd := mixKind X.prog X.w) (kvs := ws) (ep := ep) lo) (I.ok.hd hc) hat hz fun h' tk acc hk hsz hacc => ?_)
  have hv : Vals (xs.map V.str) acc.toList := vals_keys ek2 (keys_at (by rw [Array.length_toList]; exact hacc.1) fun j v e => hacc.2 j v (by rw [← Array.getElem?_toList]; exact e))
  have mv : StrsAre acc.toList xs := strsAre_of hv
  have few : acc.toList.length ≤ sizeLine := by rw [Array.length_toList, hacc.1]; exact hz
  refine wpAny_bind (wpAny_newList ?_ few)
  have at_ : (h'.push (seqObj "list" acc.toList.toArray 0)).get? h'.objs.size = some (seqObj "list" acc.toList.toArray 0) := Heap.get?_push_size _ rfl
  refine wpAny_bind (wpAny_holding (wpAny_call_entry (s := { s with heap := h'.push (seqObj "list" acc.toList.toArray 0), toks := tk }) slot_list_sort ⟨_, at_, rfl⟩ entry_list_sort
    (list_sort_treeKAny strKind_oneLt at_ mv.keysOf (fun v₁ v₂ rest e => keyKind_strs (by rw [← e]; exact mv)) few fun st hp hs => ⟨_, rfl, ?_⟩) (args_list_sort _)))
  obtain ⟨ss, h1, h2, h3⟩ := sorted_out_str mv hp hs
  obtain rfl : ss = srt xs := srt_of h2 h3
  obtain ⟨c, hc'⟩ := sortedHeap_at (vs := acc.toList) (out := (arrOf st).map (·.2)) at_
  have big : s.heap.objs.size ≤ h'.objs.size := Nat.le_of_lt hsz
  refine wpAny_pure ⟨_, rfl, .ref h'.objs.size, upd H h'.objs.size (.lst ((srt xs).map V.str)), I.laid (t' := tk) (fun b x e => ?_) big ⟨?_, (((arrOf st).map (·.2)) : Array Value).toList, c, vals_of_strs h1, hc'⟩, rfl, q _ (I.hok.fresh big)⟩
  · have q := hk b x e
    have lt := Heap.lt_size q
    show (sortedHeap (h'.push (seqObj "list" acc.toList.toArray 0)) h'.objs.size acc.toList ((arrOf st).map (·.2))).get? b = some x
    rw [sortedHeap_old (Nat.ne_of_lt lt) (by rw [size_push']; exact Nat.lt_succ_of_lt lt)]
    exact Heap.get?_push_of_some _ q
  · rw [List.length_map, (srt_perm xs).length_eq, ← lw]; exact hz
/-- the texts among keys -/
def keyTs : List (Key × SD) → Option (List Str)
  | [] => some []
  | (k, _) :: r => match k, keyTs r with
    | .inr x, some l => some (x :: l)
    | _, _ => none
theorem keyTs_of : ∀ {kvs : List (Key × SD)} {l : List Str}, keyTs kvs = some l → kvs.map (·.1) = l.map Sum.inr
  | [], l, h => by cases h; rfl
  | (.inl i, d) :: r, l, h => by
    unfold keyTs at h
    cases e : keyTs r with
    | none => rw [e] at h; cases h
    | some k => rw [e] at h; cases h
  | (.inr x, d) :: r, l, h => by
    unfold keyTs at h
    cases e : keyTs r with
    | none => rw [e] at h; cases h
    | some k => rw [e] at h; cases h; rw [List.map_cons, List.map_cons, keyTs_of e]
def drSortedD : DRc := fun ds μ Q => match ds with
  | [d] => (match dicD μ d with
    | some kvs => (match keyTs kvs with
      | some l => Q (.lst ((srt l).map SD.str)) μ
      | none => False)
    | none => False)
  | _ => False
theorem lc_sortedD {K : PySem.W.Frag} : LRc K drSortedD rSortedD := fun F H μ xs ds Q' Q R r t k => by
  unfold drSortedD at t
  split at t
  · rename_i d
    cases e : dicD μ d with
    | none => rw [e] at t; exact t.elim
    | some kvs =>
      rw [e] at t
      simp only at t
      cases e2 : keyTs kvs with
      | none => rw [e2] at t; exact t.elim
      | some l =>
        rw [e2] at t
        match xs, r with
        | [v], .cons r1 .nil =>
          obtain ⟨a, ws, rfl, h1, rk⟩ := R.dic r1 e
          exact ⟨a, ws, l, rfl, h1, rk.keys.trans (keyTs_of e2), fun p hp => k _ μ t _ _ _ (Stp.newS R hp) (R.newS hp) (.lst upd_same (RepL.ofStrs _))⟩
  · exact t.elim
/-! d[k] = v as one of several targets -/
def rSetD : TSet := fun o i v H Q => ∃ (a : Addr) (H' : Hp), o = .ref a ∧ DPut H a i v H' ∧ Q H'
theorem set_dict {X : Cx} (hu : X.A.units + 1 < cLine) : PSet X rSetD := by
  intro pins s σ H o i v ov iv u Q I ro ri rv h
  obtain ⟨a, H', rfl, g, q⟩ := h
  cases ro
  exact d_setItem hu I g ri rv fun s' I' => ⟨H', I', q⟩
def dsetD : SD → SD → SD → Mu → (Mu → Prop) → Prop := fun o i v μ Q => drPut o i v μ Q
theorem ls_dict {K : PySem.W.Frag} : LSet K dsetD rSetD := fun F H μ o i v do_ di dv Q' Q R ro ri rv t k => by
  unfold dsetD drPut at t
  cases e1 : mdic μ do_ with
  | none => rw [e1] at t; exact False.elim t
  | some pr => cases e2 : keyD di with
    | none => rw [e1, e2] at t; exact False.elim t
    | some key =>
      obtain ⟨a, kvs⟩ := pr
      rw [e1, e2] at t
      simp only at t
      obtain ⟨rfl, hm, vs, hH, rk⟩ := R.mdic ro e1
      have rk2 := rk.put key rv
      exact ⟨a, _, rfl, .inl ⟨vs, key, hH, keyD_rep ri e2, by rw [← rk.len]; exact t.1, rfl⟩, k _ t.2 F _ (Stp.put hm) (R.put hm (.dic rk2.keys rk2.vals))⟩
end DS
/-! DS38: sorted(set(t)), t a tuple of texts (as DS14 and DS22 have it of a list). -/
namespace DS
open PySem PySem.Spec PyProof.Rows L2
section
variable {P : Program} {w : World} {A : Around} {E : Value → Shared → Prop} {s : Shared}
set_option maxHeartbeats 8000000 in
theorem set_of_tuple {l : Addr} {items : Array Value} (ns : List Str) {Q : Value → Shared → Prop} (hh : A.handled = none) (hl : s.heap.IsTuple l items) (hit : StrsAre items.toList ns) (hb : ns.length + 1 < scanBound)
    (h : ∀ (h' : Heap) (tk : Nat) (u : List Str), Dist ns u → TxSet P w h' s.heap.objs.size ns u → (∀ b o, s.heap.get? b = some o → h'.get? b = some o) → Q (.ref s.heap.objs.size) { s with heap := h', toks := tk }) :
    wpAny (model P w) A (call (.type "set") [.ref l]) Q E s := by
  have hisz : items.size = ns.length := by
    have q := strsAre_len hit
    rw [Array.length_toList] at q
    exact q
  obtain ⟨cc, tl, hmro⟩ := F.called_set.mro
  have hmadeBy := F.called_set.made
  have hsubOf := F.called_set.sub
  refine wpAny_call (codeAny_of_tree ?tree)
  case tree =>
   show wpAny (model P w) A.in1 (callAny (.type "set") ⟨[.ref l], []⟩) _ _ s
   refine wpAny_pure ⟨Code.quiet_builtin ⟨[Value.type "set", .ref l], []⟩ (by decide +kernel), codeAny_builtin F.entry_type_call ?under⟩
   case under =>
    rw [Around.under_plain (weight_type_call_type "set" [Value.ref l] ([] : List (Str × Value))) rfl]
    have notType := F.called_set.notType
    have canMake := F.called_set.canCreate
    have checked := F.typeCall_set_1 (Value.ref l)
    repeat (any_goals (first | assumption | wp_step))
    refine codeAny_mono (code_set_led1 (Value.ref l) (E := E) (Q₁ := fun obj t => obj = .ref s.heap.objs.size ∧ t = { s with heap := s.heap.push (eset w) }) ⟨rfl, rfl⟩) fun r t hr => ?_
    cases r with
    | error e => exact hr
    | ok fl =>
     cases fl with
     | ret obj =>
      obtain ⟨rfl, rfl⟩ := hr
      have hS : (s.heap.push (eset w)).get? s.heap.objs.size = some (eset w) := Heap.get?_push_size _ rfl
      have hT : Shared.TypeIs { s with heap := s.heap.push (eset w) } (.ref s.heap.objs.size) "set" := ⟨eset w, hS, rfl⟩
      have initLook := F.called_set.init.lookup
      have initBind := F.called_set.init.bind (Value.ref s.heap.objs.size)
      repeat (any_goals (first | assumption | wp_step))
      refine codeAny_mono (codeAny_call_builtin (R := wants (fun r t2 => r = .none ∧ ∃ h' tk u, t2 = { s with heap := h', toks := tk } ∧ Dist ns u ∧ TxSet P w h' s.heap.objs.size ns u ∧
          (∀ b o, s.heap.get? b = some o → h'.get? b = some o)) E) F.called_set.init.plain F.entry_set_init (check_set_init_1 hT ?_)) fun r2 t2 hr2 => ?_
      · obtain ⟨ol, hol, hcl, nl, hdl⟩ := hl
        obtain ⟨ocls, odict, odata, oslots⟩ := ol
        simp only at hcl hdl
        subst hcl; subst hdl
        have hol2 : (s.heap.push (eset w)).get? l = some { cls := .type "tuple", dict := odict, data := .seq items nl, slots := oslots } := Heap.get?_push_of_some (eset w) hol
        have noSet := F.sub_tuple_set
        have noFrozen := F.sub_tuple_frozenset
        have noDict : (Value.type "tuple" == Value.type "dict") = false := by decide
        have hl1 : (s.heap.push (eset w)).IsTuple l items := ⟨_, hol2, rfl, nl, rfl⟩
        unfold Builtin.«set.__init__» noKeywords Builtin.Frozenset.updateFrom
        generalize hPI : pyIter = walked
        wp_walk
        subst hPI
        refine wpAny_pyIter_tuple hl1 (wpAny_bind (wpAny_runValue ?_))
        have hlS : l < s.heap.objs.size := Heap.lt_size hol
        have calm3 : A.in1.in1.in1.handled = none := by simp [hh]
        have hz1 : (s.heap.push (eset w)).objs.size = s.heap.objs.size + 1 := Heap.size_push ..
        have apartI : l ≠ (s.heap.push (eset w)).objs.size := by rw [hz1]; exact Nat.ne_of_lt (Nat.lt_succ_of_lt hlS)
        have apartS : s.heap.objs.size ∉ [(s.heap.push (eset w)).objs.size, l] := by
          rw [hz1]; intro z
          rcases List.mem_cons.mp z with z | z
          · exact absurd z (Nat.ne_of_lt (Nat.lt_succ_self _))
          · exact absurd (List.mem_singleton.mp z) (Nat.ne_of_gt hlS)
        have vals : ∀ (i : Nat) (v : Value), items[i]? = some v → ∃ k t, ns[i]? = some k ∧ v = .str k t := fun i v hv => strsAre_at hit i v (by rw [Array.getElem?_toList]; exact hv)
        refine set_update_strs ((Walks.tuple calm3 _ l apartI items).toS) s.heap.objs.size
          apartS ns hisz hb vals (items.size - 0) 0 _ (by omega) (Nat.zero_le _)
          ⟨⟨_, Heap.get?_push_size _ rfl, rfl, rfl⟩, (hl1.push _)⟩ ⟨[], Dist.nil, Nat.le_refl _, txSet_new (Heap.get?_push_of_some _ hS)⟩ ?done
        case done =>
          intro s' u hm hd hS'
          obtain ⟨h', g2, d', tk', os'⟩ := s'
          have eg : g2 = s.gens := hm.gens
          have ed : d' = s.drawn := hm.drawn
          have eo : os' = s.os := hm.os
          subst eg; subst ed; subst eo
          show wpAny _ _ _ _ _ _
          refine wpAny_pure ?_
          show wpAny _ _ (ret Value.none) _ _ _
          refine wpAny_pure ⟨rfl, h', tk', u, rfl, hd, hS', fun b o e => ?_⟩
          have b0 : b < s.heap.objs.size := Heap.lt_size e
          refine hm.heap b o (fun z => ?_) (Heap.get?_push_of_some _ (Heap.get?_push_of_some _ e))
          rcases List.mem_cons.mp z with z | z
          · exact absurd z (Nat.ne_of_lt b0)
          · have z := List.mem_singleton.mp z
            rw [hz1] at z
            exact absurd z (Nat.ne_of_lt (Nat.lt_succ_of_lt b0))
      · cases r2 with
        | error e => exact hr2
        | ok fl2 =>
          cases fl2 with
          | ret r =>
            obtain ⟨rfl, h', tk, u, rfl, hd, hS', hk'⟩ := hr2
            repeat (any_goals (first | assumption | wp_step))
            exact h h' tk u hd hS' hk'
          | next => exact hr2.elim
          | brk => exact hr2.elim
          | cont => exact hr2.elim
     | next => exact hr.elim
     | brk => exact hr.elim
     | cont => exact hr.elim
end
def tSortSetT (K : PySem.W.Frag) (ta : TE) : TE := fun σ H Q => ta σ H fun x H1 => ∃ (l : Addr) (ns : List Str), x = .ref l ∧ SqT K H1 l (ns.map V.str) ∧ ns.length ≤ 4000 ∧ ∀ u p, Dist ns u → H1 p = none → Q (.ref p) (upd H1 p (.lst ((srt u).map V.str)))
theorem pe_sortSetT {X : Cx} {a : Expr} {ta : TE} {p p2 q pos : Pos} (hg : Gl X "sorted") (hm : X.mg "sorted" = none) (hg2 : Gl X "set") (hm2 : X.mg "set" = none) (ha : PE X a ta) (hc : X.calm = true := by rfl)
    (na : starEach [a] X.env = (false, eval a X.env) :: starEach [] X.env := by rfl) : PE X (.Call (.Name "sorted" p) [.Call (.Name "set" p2) [a] [] q] [] pos) (tSortSetT X.K ta) := by
  refine ⟨fun pins s σ H Q I h => Call_ (ld_blt I hg hm bt_sorted ?_)⟩
  refine PyProof.Rows.callWith_builtin1 (PyProof.Rows.args_cons ?_ rfl) rfl rfl
  refine Call_ (ld_blt I hg2 hm2 boot_set (PyProof.Rows.callWith_type1 (PyProof.Rows.args_cons ?_ na) na rfl))
  refine thn (ha.run pins s σ H _ I h) fun v s1 ⟨x, H1, I1, r1, q1⟩ => PyProof.Rows.args_nil ?_
  obtain ⟨l, ns, rfl, hq, hl, q1⟩ := q1
  cases r1
  obtain ⟨its, r, pl, hz⟩ := I1.tuple hq
  refine set_of_tuple ns (I1.ok.hd hc) (show s1.heap.IsTuple l its.toArray from pl) (by simpa using strsAre_of r) (by unfold scanBound; omega) fun h' tk u hd hS hk => ?_
  refine PyProof.Rows.args_nil ?_
  have I2 : Inv X pins σ H1 { s1 with heap := h', toks := tk } := I1.kept fun b o e => hk b o e
  have du := dist_len hd
  refine sorted_txSet (s := { s1 with heap := h', toks := tk }) hS hd (I1.ok.hd hc) (by omega) fun s' p out c k g o big hp hout => ?_
  have free : H1 p = none := I2.hok.fresh big
  have len : ((srt u).map V.str).length ≤ sizeLine := by
    rw [List.length_map, (srt_perm u).length_eq, sizeLine_eq]
    omega
  have J := I2.call (ch := []) (h' := s'.heap) (g' := s'.gens) (t' := s'.toks) (d' := s'.drawn) (H' := upd H1 p (.lst ((srt u).map V.str))) (Un.laid k big free) (I2.hok.laid k big ⟨len, out.toList, c, vals_of_strs hout, hp⟩) (by rw [g]; exact I2.bare) (fun _ z => nomatch z)
  obtain ⟨a1, a2, a3, a4, a5⟩ := s'
  have e5 : a5 = s1.os := o
  subst e5
  exact ⟨V.ref p, _, J, rfl, q1 u p hd free⟩
/-- sorted(set(e)), e a tuple of texts -/
def drSortSetT (Q : SD → Mu → Prop) (x : SD) (μ : Mu) : Prop := match x with
  | .tup xs => match strsOf xs with
    | some ns => ns.length ≤ 4000 ∧ ∀ u, Dist ns u → Q (.lst ((srt u).map SD.str)) μ
    | none => False
  | _ => False
abbrev dSortSetT (te : DTE) : DTE := fun ρ μ Q => te ρ μ (drSortSetT Q)
theorem de_sortSetT {X : Cx} {a : Expr} {ta : DTE} {p p2 q pos : Pos} (hg : Gl X "sorted") (hm : X.mg "sorted" = none) (hg2 : Gl X "set") (hm2 : X.mg "set" = none) (ha : DE X a ta) (hc : X.calm = true := by rfl)
    (na : starEach [a] X.env = (false, eval a X.env) :: starEach [] X.env := by rfl) : DE X (.Call (.Name "sorted" p) [.Call (.Name "set" p2) [a] [] q] [] pos) (dSortSetT ta) := weakE (pe_sortSetT hg hm hg2 hm2 ha hc na) fun σ H Q h => by
  obtain ⟨F, ρ, μ, Q', R, S, t, k⟩ := h
  refine ⟨F, ρ, μ, _, R, S, t, fun d μ1 t1 F1 H1 v s1 R1 r1 => ?_⟩
  unfold drSortSetT at t1
  split at t1
  · rename_i xs
    cases e2 : strsOf xs with
    | none => rw [e2] at t1; exact t1.elim
    | some ns =>
      rw [e2] at t1
      simp only at t1
      cases r1 with
      | tup hT rl =>
        obtain rfl := strsOf_rep rl e2
        exact ⟨_, ns, rfl, R1.ext.sqT hT, t1.1, fun u p hd hp => k _ _ (t1.2 u hd) _ _ _ (s1.trans (Stp.newS R1 hp)) (R1.newS hp) (.lst upd_same (RepL.ofStrs _))⟩
  · exact t1.elim
end DS
/-! DS39: a loop over the values of a dict, whether it may change or not. -/
namespace DS
open PySem PySem.Spec PyProof.Rows L2
theorem src_valsM {K : PySem.W.Frag} {F0 H0 : Hp} {μ0 : Mu} {a : Addr} {od : Obj} {kvs : List (Key × SD)} {vs : List (Key × V)} (rk : RepK K F0 kvs vs) : Src K F0 H0 μ0 (Itd a od vs) (valsS kvs) fun μ => μ a = some (.fdic kvs (.frz od (.dK vs))) where
  go := fun i F H μ s R h hi => ⟨(fdic_at R h).1, by rw [← rk.len]; simpa [valsS] using hi⟩
  stop := fun F H μ s R h => ⟨(fdic_at R h).1, by rw [← rk.len]; simp [valsS]⟩
  yld := fun i F H μ x H' s R _ y e hd => by
    obtain ⟨rfl, k, h1⟩ := y
    obtain ⟨dd, h2, h3⟩ := rk.get h1
    have : (valsS kvs)[i]? = some dd := by simp [valsS, h2]
    rw [this] at hd; cases hd
    exact ⟨F, Stp.refl _ _ _, R, h3.mono s.ext⟩
section
variable {X : Cx} {e tg : Expr} {pos apos cpos : Pos} {body : List Stmt}
theorem ds_forValsB {te : DTE} {g : DTG} {tb : DTS} (hp : PassesOwn (model X.prog X.w) X.A X.env X.xe) (hc : X.calm = true) (he : DE X e te) (hg : DG X tg g) (hb : DSs X body tb)
    (hbase : attributeBase e "values" X.env (eval e X.env) = eval e X.env := by rfl) (hline : (apos.endLine == cpos.line) = true := by rfl)
    (hs : ∀ x, foldedSetIterable (.Call (.Attribute e "values" apos) [] [] cpos) X.env x = pure x := by intro _; rfl) :
    DS_ X (.For tg (.Call (.Attribute e "values" apos) [] [] cpos) body [] pos) (dForB valsS te g tb) := weakS (ps_unl (ps_for hp hc (pi_values (pe_lockA he) hbase hline) hg hb hs)) (lift_forB (mk := Itd) (fun d o kvs H R h r => ⟨d, o, kvs, rfl, h, r⟩) (fun rk => src_valsM rk) fun rk h => src_vals2 rk h)
end
end DS
/-! DS40: min of a list of texts: one of them. -/
namespace DS
open PySem PySem.Spec PyProof.Rows L2
theorem reads_strs {h : Heap} {vs : List Value} {ns : List Str} (r : StrsAre vs ns) : ReadsAll h vs (ns.map PyData.str) [] := by
  induction r with
  | nil => exact .nil
  | cons k t r ih => exact .cons (as := []) (bs := []) (.str k t) ih
theorem depth_strs0 : ∀ l : List Str, PyData.depthAll (l.map PyData.str) = 0
  | [] => by simp [PyData.depthAll]
  | a :: l => by rw [List.map_cons, PyData.depthAll, depth_strs0 l]; simp [PyData.depth]
def rMinS (K : PySem.W.Frag) : List V → Hp → VK → Prop := fun vs H Q => ∃ (a : Addr) (ns : List Str), vs = [V.ref a] ∧ SqL K H a (ns.map V.str) ∧ 0 < ns.length ∧ ∀ m, m ∈ ns → Q (.str m) H
section
variable {X : Cx}
theorem cr_minS (hc : X.calm = true) (hu : X.A.units + 64 < cLine) : CallR X (.builtin "min") (rMinS X.K) := by
  intro pins s σ H vs us Q I r h
  obtain ⟨a, ns, rfl, hs, hn, q⟩ := h
  obtain ⟨its, rv, hl, hz⟩ := I.list hs
  rw [Vals.ref1 r]
  have sa : StrsAre its ns := rv.strs
  cases ns with
  | nil => simp at hn
  | cons x xs =>
    refine PySem.W.min_list_data (x := .str x) (xs := xs.map PyData.str) (I.ok.hd hc) hl.isList (reads_strs sa) ⟨fun y hy z hz => ?_, fun y hy => ?_⟩ ?_ fun i v h' tk bs hv _ hk => ?_
    · have hy : y ∈ (x :: xs).map PyData.str := hy
      have hz : z ∈ (x :: xs).map PyData.str := hz
      obtain ⟨_, _, rfl⟩ := List.mem_map.mp hy
      obtain ⟨_, _, rfl⟩ := List.mem_map.mp hz
      rfl
    · have hy : y ∈ (x :: xs).map PyData.str := hy
      obtain ⟨_, _, rfl⟩ := List.mem_map.mp hy
      intro z; cases z
    · have : PyData.depthAll (PyData.str x :: xs.map PyData.str) = 0 := depth_strs0 (x :: xs)
      rw [this]; omega
    · obtain ⟨k, t, hk1, rfl⟩ := strsAre_at sa i v (by simpa using hv)
      exact ⟨V.str k, H, I.kept fun b o e => hk b o e, ⟨t, rfl⟩, q k (List.mem_of_getElem? hk1)⟩
end
def drMinS : DRc := fun ds μ Q => match ds with
  | [d] => match lstD μ d with
    | some xs => match strsOf xs with
      | some ns => 0 < ns.length ∧ ∀ m, m ∈ ns → Q (.str m) μ
      | none => False
    | none => False
  | _ => False
theorem lc_minS {K : PySem.W.Frag} : LRc K drMinS (rMinS K) := fun F H μ xs ds Q' Q R r t k => by
  cases r with
  | nil => exact False.elim t
  | cons r1 r2 => cases r2 with
    | cons _ _ => exact False.elim t
    | nil =>
      rename_i d v
      unfold drMinS at t
      simp only at t
      cases e : lstD μ d with
      | none => rw [e] at t; exact False.elim t
      | some xs =>
        rw [e] at t
        simp only at t
        cases e2 : strsOf xs with
        | none => rw [e2] at t; exact False.elim t
        | some ns =>
          rw [e2] at t
          obtain ⟨a, vs, rfl, ha, r⟩ := R.lst r1 e
          obtain rfl := strsOf_rep r e2
          exact ⟨a, ns, rfl, SqL.of ha, t.1, fun m h1 => k _ μ (t.2 m h1) F H _ (Stp.refl _ _ _) R (.str _)⟩
end DS
/-! DS41: tuples that have no dict of their own: tuple(list), displays; dict(t), t.index(x). -/
namespace DS
open PySem PySem.Spec PyProof.Rows L2
/-- no more is told of it than that it is a tuple -/
def fgT : SD → SD
  | .ptp xs => .tup xs
  | d => d
theorem fgT_rep {K : PySem.W.Frag} {F : Hp} {d : SD} {v : V} (r : RepS K F d v) : RepS K F (fgT d) v := by
  cases r with
  | ptp h q r => exact .tup (.inl (.inr ⟨_, h⟩)) r
  | non => exact .non
  | bl => exact .bl _
  | int => exact .int _
  | str => exact .str _
  | ref => exact .ref _
  | ty => exact .ty _
  | tup a b => exact .tup a b
  | lst a b => exact .lst a b
  | rol a b => exact .rol a b
  | dic a b c => exact .dic a b c
  | exc0 a b => exact .exc0 a b
  | exc a b c z r => exact .exc a b c z r
abbrev dFg (te : DTE) : DTE := fun ρ μ Q => te ρ μ fun d μ1 => Q (fgT d) μ1
theorem de_fg {X : Cx} {e : Expr} {te : DTE} (h : DE X e te) : DE X e (dFg te) := weakE h fun σ H Q h => by
  obtain ⟨F, ρ, μ, Q', R, S, t, k⟩ := h
  exact ⟨F, ρ, μ, _, R, S, t, fun d μ1 t1 F1 H1 v s1 R1 r1 => k _ μ1 t1 F1 H1 v s1 R1 (fgT_rep r1)⟩
/-! made -/
def rTupleP (K : PySem.W.Frag) : List V → Hp → VK → Prop := fun xs H Q => ∃ p ys, xs = [.ref p] ∧ SqL K H p ys ∧ ∀ (l : Addr) (o : Obj), H l = none → o.dict = none → Q (.ref l) (upd H l (.frz o (.tup ys)))
theorem call_tupleP {X : Cx} : CallR X (.type "tuple") (rTupleP X.K) := by
  rintro pins s σ H _ us Q I r ⟨p, ys, rfl, hq, q⟩
  obtain ⟨u, rfl, rx⟩ := vals1 r
  cases rx
  obtain ⟨its, r', pl, hz⟩ := I.list hq
  have hlen := r'.length
  refine call_tuple_list pl.isList (fun h1 kp => ?_) (by simp only [List.size_toArray] <;> omega)
  have I1 : Inv X pins σ H { s with heap := h1 } := I.kept (t' := s.toks) kp
  have new : ObjOk X.prog X.w (upd H h1.objs.size (.frz { cls := .type "tuple", data := .seq its.toArray } (.tup ys))) (h1.push { cls := .type "tuple", data := .seq its.toArray }) h1.objs.size (.frz { cls := .type "tuple", data := .seq its.toArray } (.tup ys)) :=
    ⟨Heap.get?_push_size _ rfl, hz, its, r', IsTup.new _ _⟩
  exact ⟨.ref h1.objs.size, _, I1.laid (t' := s.toks) (fun b o e => Heap.get?_push_of_some _ e) (Nat.le_refl _) new, rfl, q _ _ (I1.hok.fresh (Nat.le_refl _)) rfl⟩
def drTupleP : DRc := fun ds μ Q => match ds with
  | [d] => isTup d = false ∧ (match seqD μ d with
    | some xs => Q (.ptp xs) μ
    | none => False)
  | _ => False
theorem lc_tupleP {K : PySem.W.Frag} : LRc K drTupleP (rTupleP K) := fun F H μ xs ds Q' Q R r t k => by
  unfold drTupleP at t
  split at t
  · rename_i d
    obtain ⟨nt, t⟩ := t
    cases e : seqD μ d with
    | none => rw [e] at t; exact t.elim
    | some zs =>
      rw [e] at t
      simp only at t
      match xs, r with
      | [v], .cons r1 .nil =>
        obtain ⟨a, vs, rfl, rl, hL | hT⟩ := R.seq r1 e
        · exact ⟨a, vs, rfl, hL.2, fun l o hl ho => k _ _ t _ _ _ (Stp.newS R hl) (R.newS hl) (.ptp upd_same ho (rl.mono (Ext.new (R.freeF hl))))⟩
        · rw [nt] at hT; cases hT.1
  · exact t.elim
def tTupP (ta : TA) : TE := fun σ H Q => ta σ H fun xs H1 => xs.length ≤ sizeLine ∧ ∀ (p : Addr) (o : Obj), H1 p = none → o.dict = none → Q (.ref p) (upd H1 p (.frz o (.tup xs)))
section
variable {X : Cx} {es : List Expr} {pos : Pos}
theorem pe_tupP {ta : TA} {x1} (h : PA X es ta) : PE X (.Tuple es x1 pos) (tTupP ta) := by
  refine ⟨fun pins s σ H Q I hq => wpAny_Tuple_spliced (thn (h.run pos pins s σ H _ I hq) fun us s1 ⟨xs, H1, I1, r, z, q⟩ => ⟨by rw [← r.length]; exact z, ?_⟩)⟩
  have new : ObjOk X.prog X.w (upd H1 s1.heap.objs.size (.frz { cls := .type "tuple", data := .seq us.toArray } (.tup xs))) (s1.heap.push { cls := .type "tuple", data := .seq us.toArray }) s1.heap.objs.size (.frz { cls := .type "tuple", data := .seq us.toArray } (.tup xs)) :=
    ⟨Heap.get?_push_size _ rfl, z, us, r, ⟨_, Heap.get?_push_size _ rfl, rfl, _, rfl⟩⟩
  exact ⟨.ref s1.heap.objs.size, _, I1.laid (t' := s1.toks) (fun b u e => Heap.get?_push_of_some _ e) (Nat.le_refl _) new, rfl, q _ _ (I1.hok.fresh (Nat.le_refl _)) rfl⟩
abbrev dTupP (t : DTA) : DTE := fun ρ μ Q => t ρ μ fun xs μ1 => xs.length ≤ sizeLine ∧ Q (.ptp xs) μ1
theorem de_tupP {t : DTA} {x1} (h : DA X es t) : DE X (.Tuple es x1 pos) (dTupP t) := weakE (pe_tupP h) fun σ H Q h => by
  obtain ⟨F, ρ, μ, Q', R, S, t, k⟩ := h
  refine ⟨F, ρ, μ, _, R, S, t, fun ds μ1 t1 F1 H1 vs s1 R1 r1 => ⟨by rw [← r1.length]; exact t1.1, fun p o hp ho => ?_⟩⟩
  exact k _ μ1 t1.2 _ _ _ (s1.trans (Stp.newS R1 hp)) (R1.newS hp) (.ptp upd_same ho (r1.mono (Ext.new (R1.freeF hp))))
end
/-! dict(t) -/
theorem pick_all {α β : Type} {P : Nat → α → β → Prop} : ∀ {l : List α} {n : Nat}, (∀ j a, l[j]? = some a → ∃ b, P (n + j) a b) → ∃ m : List β, m.length = l.length ∧ ∀ j b, m[j]? = some b → ∃ a, l[j]? = some a ∧ P (n + j) a b
  | [], _, _ => ⟨[], rfl, fun j b e => by simp at e⟩
  | a :: l, n, h => by
    obtain ⟨b, hb⟩ := h 0 a rfl
    obtain ⟨m, hm, hp⟩ := pick_all (l := l) (n := n + 1) (P := P) fun j a e => by
      obtain ⟨b, hb⟩ := h (j + 1) a (by simpa using e)
      exact ⟨b, by rw [show n + 1 + j = n + (j + 1) by omega]; exact hb⟩
    refine ⟨b :: m, by rw [List.length_cons, List.length_cons, hm], fun j b' e => ?_⟩
    cases j with
    | zero => cases (show some b = some b' from e); exact ⟨a, rfl, hb⟩
    | succ j =>
      obtain ⟨a', h1, h2⟩ := hp j b' (by simpa using e)
      exact ⟨a', by simpa using h1, by rw [show n + (j + 1) = n + 1 + j by omega]; exact h2⟩
def rDictT (K : PySem.W.Frag) : List V → Hp → VK → Prop := fun xs H Q => ∃ (a : Addr) (o : Obj) (ps : List Addr) (kvs : List (Key × V)), xs = [.ref a] ∧ H a = some (.frz o (.tup (ps.map V.ref))) ∧ o.dict = none ∧ Paired (fun p kv => SqT K H p [kV kv.1, kv.2]) ps kvs ∧
  ∀ p, H p = none → Q (.ref p) (upd H p (.dK (mergeK [] kvs)))
theorem call_dictT {X : Cx} (hcalm : X.calm = true) : CallR X (.type "dict") (rDictT X.K) := by
  rintro pins s σ H _ us Q I r ⟨a, o, ps, kvs, rfl, ha, hd, hp, q⟩
  obtain ⟨u, rfl, rx⟩ := vals1 r
  cases rx
  obtain ⟨ho, z, its, rv, o', ho', hc, n, hdat⟩ := I.hok a _ ha
  rw [ho] at ho'
  cases ho'
  cases refs_at rv
  rw [List.length_map] at z
  obtain ⟨prs, rel, hl, hpr⟩ := pairs_of I hp
  obtain ⟨m, hm, mp⟩ := pick_all (l := prs) (n := 0) (β := Value × Value) (P := fun j q b => b.2 = q.2 ∧ ∃ T, ps[j]? = some T ∧ IsTup s.heap T #[b.1, b.2] ∧ keyIs q.1 b.1 = true) fun j q e => by
    obtain ⟨b, u, e1, e2, e3⟩ := hpr j q e
    exact ⟨(u, q.2), rfl, b, by rw [Nat.zero_add]; exact e1, e2, e3⟩
  have ml : m.length = ps.length := hm.trans hl
  have ar : PairItems s.heap (ps.map Value.ref).toArray (fun j => (ps[j]?).getD 0) m := by
    refine ⟨by simp [ml], fun j k v e => ?_⟩
    obtain ⟨q, _, _, T, h1, h2, _⟩ := mp j _ e
    rw [Nat.zero_add] at h1
    refine ⟨by simp [h1], .inl ?_⟩
    show s.heap.IsTuple ((ps[j]?).getD 0) #[k, v]
    rw [h1]
    exact h2
  refine PySem.call_dict_pairs (knd := mixKind X.prog X.w) (kvs := prs) (PairArg.tuple a (ps.map Value.ref).toArray (fun j => (ps[j]?).getD 0) m) (I.ok.hd hcalm) ⟨⟨o, n, ho, hc, hd, hdat⟩, ar⟩ ⟨hm.symm, fun i key v e => ?_⟩ (by rw [ml]; exact z) fun h1 tk hd' k => ?_
  · obtain ⟨q, e1, e2, T, _, _, e3⟩ := mp i _ e
    exact ⟨q.1, by rw [e1]; dsimp only at e2; rw [e2], e3⟩
  · have hm : (s.heap.objs.size == sysModules) = false := beq_eq_false_iff_ne.mpr (Nat.ne_of_gt I.big)
    have hlen : (mergeK [] kvs).length ≤ sizeLine := by
      refine Nat.le_trans (length_mergeK kvs []) ?_
      rw [List.length_nil, Nat.zero_add, rel.length, hl]
      exact z
    have new : ObjOk X.prog X.w (upd H s.heap.objs.size (.dK (mergeK [] kvs))) h1 s.heap.objs.size (.dK (mergeK [] kvs)) := ⟨hlen, hm, merged [] prs, KV.merge rel .nil, hd'⟩
    exact ⟨.ref s.heap.objs.size, _, I.laid (t' := tk) (fun b o e => k b o (fun z => nomatch z) e) (Nat.le_refl _) new, rfl, q _ (I.hok.fresh (Nat.le_refl _))⟩
def drDictT : DRc := fun ds μ Q => match ds with
  | [.ptp xs] => (match pairsD xs with
    | some kvs => ∀ p, μ p = none → Q (.ref p) (up μ p (.dic (mergeD [] kvs)))
    | none => False)
  | _ => False
theorem lc_dictT {K : PySem.W.Frag} : LRc K drDictT (rDictT K) := fun F H μ xs ds Q' Q R r t k => by
  unfold drDictT at t
  split at t
  · rename_i zs
    cases e2 : pairsD zs with
    | none => rw [e2] at t; exact t.elim
    | some kvs =>
      rw [e2] at t
      match xs, r with
      | [_], .cons (.ptp (a := a) (o := o) (vs := vs) h hd rl) .nil =>
        obtain ⟨ps, ws, rfl, i2, i3, i4⟩ := pairs_rep R.ext rl e2
        refine ⟨a, o, ps, ws, rfl, R.sub _ _ h, hd, i2, fun p hp => ?_⟩
        have m := RepK.merge (kvs := []) (vs := []) ⟨rfl, .nil⟩ (⟨i3, i4⟩ : RepK K F kvs ws)
        exact k _ _ (t p (R.freeM hp)) _ _ _ (Stp.newM R hp) (R.newM hp (.dic m.keys m.vals)) (.ref _)
  · exact t.elim
/-! t.index(x), texts -/
def tBMT (r : V → List V → Hp → VK → Prop) (to : TE) (t : TA) : TE := fun σ H Q => to σ H fun x H1 => (∃ (p : Addr) (o : Obj) (ys : List V), x = .ref p ∧ H1 p = some (.frz o (.tup ys)) ∧ o.dict = none) ∧ t σ H1 fun xs H2 => r x xs H2 Q
section
variable {X : Cx} {o e : Expr} {es : List Expr} {name : Str} {id : String} {apos cpos : Pos}
theorem pe_bmT {to : TE} {t : TA} {r : V → List V → Hp → VK → Prop} (slot : Slot "tuple" name id) (hty : typeOf (.builtin id) = pure (.type "method_descriptor")) (hm : MtR X id r) (ho : PE X o to) (ha : PA X (e :: es) t)
    (hbase : attributeBase o name X.env (eval o X.env) = eval o X.env := by rfl)
    (hfew : ((backTo cpos (starEach (e :: es) X.env)).all (fun x => !x.1) && (backToKw cpos (keywordEach [] X.env)).all (fun x => x.1.isSome)
      && decide ((e :: es).length + ([] : List Keyword).length + (if ([] : List Keyword).isEmpty then 0 else 1) < 30)) = true := by rfl)
    (hline : (apos.endLine == cpos.line) = true := by rfl) (hs : starEach (e :: es) X.env = (false, eval e X.env) :: starEach es X.env := by rfl) (hplain : (backTo cpos (starEach es X.env)).any (·.1) = false := by rfl) :
    PE X (.Call (.Attribute o name apos) (e :: es) [] cpos) (tBMT r to t) := ⟨fun pins s σ H Q I h => by
  refine wpAny_Call_method_late hbase hfew hline rfl (thn (ho.run pins s σ H _ I h) ?_)
  rintro v s1 ⟨x, H1, I1, r1, ⟨p, ob, ys, rfl, hp, hd⟩, q1⟩
  cases r1
  obtain ⟨hget, _, _, _, ob', hget', hc, _⟩ := I1.hok p _ hp
  rw [hget] at hget'
  cases hget'
  refine ⟨"tuple", id, PySem.F.plainAttrs_tuple, slot, hty, ⟨ob, hget, hc⟩, fun a z => ?_, ?_⟩
  · cases z; exact ⟨ob, hget, hd⟩
  · have hA := ha.run cpos pins s1 σ H1 _ I1 q1
    rw [hs] at hA ⊢
    refine Calls.callWith_builtin (by show (false || (backTo cpos (starEach es X.env)).any (·.1)) = false; rw [hplain] <;> rfl) (Calls.evalArgs_plain ?_)
    exact thn hA fun us s2 ⟨vs, H2, I2, r2, q2⟩ => hm pins s2 σ H2 (.ref p) vs (.ref p) us Q I2 (show RelV (V.ref p) (Value.ref p) from rfl) r2 q2⟩
def isPtp : SD → Bool
  | .ptp _ => true
  | _ => false
abbrev dTM (dr : DRm) (to : DTE) (t : DTA) : DTE := fun ρ μ Q => to ρ μ fun x μ1 => isPtp x = true ∧ t ρ μ1 fun xs μ2 => dr x xs μ2 Q
def dmTIndex : DRm := fun d ds μ Q => match d, ds with
  | .ptp xs, [.str z] => (match txtsD xs with
    | some ns => z ∈ ns ∧ Q (.int (ns.idxOf z : Nat)) μ
    | none => False)
  | _, _ => False
def rTIndex (K : PySem.W.Frag) : V → List V → Hp → VK → Prop := fun x xs H Q => ∃ p, ∃ ys : List Str, ∃ z j, x = .ref p ∧ xs = [.str z] ∧ SqT K H p (ys.map V.str) ∧ ys[j]? = some z ∧ (∀ m, m < j → ys[m]? ≠ some z) ∧ Q (.int (j : Nat)) H
theorem lm_tindex {K : PySem.W.Frag} : LRm K dmTIndex (rTIndex K) := fun F H μ x xs d ds Q' Q R r rs t k => by
  unfold dmTIndex at t
  split at t
  · rename_i ys z
    cases e : txtsD ys with
    | none => simp only [e] at t
    | some ns =>
      simp only [e] at t
      obtain ⟨hz, t⟩ := t
      obtain rfl := txtsD_of e
      cases r with
      | ptp h hd rl =>
        cases rs with
        | cons r1 r2 =>
          cases r1
          cases r2
          obtain rfl := rl.strs
          have hj : ns.idxOf z < ns.length := List.idxOf_lt_length_iff.mpr hz
          refine ⟨_, ns, z, ns.idxOf z, rfl, rfl, .inl (.inr ⟨_, R.sub _ _ h⟩), by rw [List.getElem?_eq_getElem hj, List.getElem_idxOf hj], fun m hm z2 => ?_, k _ μ t F H _ (Stp.refl _ _ _) R (.int _)⟩
          obtain ⟨hml, z3⟩ := List.getElem?_eq_some_iff.mp z2
          exact PySem.SeqAt.lt_idxOf_ne hm hml z3
  · exact t.elim
theorem de_tm {dr : DRm} {rm : V → List V → Hp → VK → Prop} {to : DTE} {t : DTA} (slot : Slot "tuple" name id) (hty : typeOf (.builtin id) = pure (.type "method_descriptor")) (hm : MtR X id rm) (hl : LRm X.K dr rm) (ho : DE X o to) (ha : DA X (e :: es) t)
    (hbase : attributeBase o name X.env (eval o X.env) = eval o X.env := by rfl)
    (hfew : ((backTo cpos (starEach (e :: es) X.env)).all (fun x => !x.1) && (backToKw cpos (keywordEach [] X.env)).all (fun x => x.1.isSome)
      && decide ((e :: es).length + ([] : List Keyword).length + (if ([] : List Keyword).isEmpty then 0 else 1) < 30)) = true := by rfl)
    (hline : (apos.endLine == cpos.line) = true := by rfl) (hs : starEach (e :: es) X.env = (false, eval e X.env) :: starEach es X.env := by rfl) (hplain : (backTo cpos (starEach es X.env)).any (·.1) = false := by rfl) :
    DE X (.Call (.Attribute o name apos) (e :: es) [] cpos) (dTM dr to t) := weakE (pe_bmT slot hty hm ho ha hbase hfew hline hs hplain) fun σ H Q h => by
  obtain ⟨F, ρ, μ, Q', R, S, t, k⟩ := h
  refine ⟨F, ρ, μ, _, R, S, t, fun d μ1 t1 F1 H1 v s1 R1 r1 => ?_⟩
  obtain ⟨h1, t1⟩ := t1
  cases r1 with
  | ptp h hd rl =>
    refine ⟨⟨_, _, _, rfl, R1.sub _ _ h, hd⟩, F1, ρ, μ1, _, R1, S.mono s1.ext, t1, fun ds μ2 t2 F2 H2 ws s2 R2 r2 => ?_⟩
    exact hl F2 H2 μ2 _ ws _ ds Q' Q R2 ((RepS.ptp h hd rl).mono s2.ext) r2 t2 fun d μ' q F' H' v s R' r' => k d μ' q F' H' v ((s1.trans s2).trans s) R' r'
  | _ => cases h1
theorem de_tindex {to te : DTE} (ho : DE X o to) (ha : DE X e te) (hs : starEach [e] X.env = (false, eval e X.env) :: starEach [] X.env := by rfl) (hbase : attributeBase o "index" X.env (eval o X.env) = eval o X.env := by rfl)
    (hfew : ((backTo cpos (starEach [e] X.env)).all (fun x => !x.1) && (backToKw cpos (keywordEach [] X.env)).all (fun x => x.1.isSome)
      && decide (([e] : List Expr).length + ([] : List Keyword).length + (if ([] : List Keyword).isEmpty then 0 else 1) < 30)) = true := by rfl)
    (hline : (apos.endLine == cpos.line) = true := by rfl) (hplain : (backTo cpos (starEach [] X.env)).any (·.1) = false := by rfl) :
    DE X (.Call (.Attribute o "index" apos) [e] [] cpos) (dTM dmTIndex to (dCons te dNil)) := de_tm PySem.F.slot_tuple_index PySem.F.type_tuple_index mt_tup_index lm_tindex ho (da_cons ha da_nil hs) hbase hfew hline hs hplain
end
end DS
/-! DS42: sorted(list of pairs of a text and an int). -/
namespace DS
open PySem PySem.Spec PyProof.Rows L2
/-- pairs in order: by the text, then by the int -/
def leP (p q : Str × Int) : Bool := if p.1 = q.1 then decide (p.2 ≤ q.2) else leS p.1 q.1
theorem leP_total (p q : Str × Int) : leP p q = true ∨ leP q p = true := by
  unfold leP
  by_cases e : p.1 = q.1
  · rw [if_pos e, if_pos e.symm, decide_eq_true_eq, decide_eq_true_eq]; omega
  · rw [if_neg e, if_neg (Ne.symm e)]; exact leS_total _ _
theorem leP_anti {p q : Str × Int} (h : leP p q = true) (k : leP q p = true) : p = q := by
  unfold leP at h k
  by_cases e : p.1 = q.1
  · rw [if_pos e, decide_eq_true_eq] at h
    rw [if_pos e.symm, decide_eq_true_eq] at k
    exact Prod.ext e (by omega)
  · rw [if_neg e] at h
    rw [if_neg (Ne.symm e)] at k
    exact (e (leS_anti h k)).elim
theorem leP_trans {p q r : Str × Int} (h : leP p q = true) (k : leP q r = true) : leP p r = true := by
  unfold leP at *
  by_cases e : p.1 = q.1 <;> by_cases e2 : q.1 = r.1
  · rw [if_pos e, decide_eq_true_eq] at h
    rw [if_pos e2, decide_eq_true_eq] at k
    rw [if_pos (e.trans e2), decide_eq_true_eq]; omega
  · rw [if_neg e2] at k
    rw [if_neg (fun z => e2 (e.symm.trans z)), e]; exact k
  · rw [if_neg e] at h
    rw [if_neg (fun z => e (z.trans e2.symm)), ← e2]; exact h
  · rw [if_neg e] at h
    rw [if_neg e2] at k
    by_cases e3 : p.1 = r.1
    · rw [e3] at h; exact (e2 (leS_anti k h)).elim
    · rw [if_neg e3]; exact leS_trans h k
/-- the pairs in order -/
def srtP (l : List (Str × Int)) : List (Str × Int) := l.mergeSort leP
theorem srtP_perm (l : List (Str × Int)) : (srtP l).Perm l := List.mergeSort_perm l leP
theorem srtP_pw (l : List (Str × Int)) : (srtP l).Pairwise fun a b => leP a b = true :=
  List.pairwise_mergeSort (le := leP) (fun a b c => leP_trans) (fun a b => by rcases leP_total a b with h | h <;> simp [h]) l
theorem pwP_uniq : ∀ {ys zs : List (Str × Int)}, ys.Perm zs → (ys.Pairwise fun a b => leP a b = true) → (zs.Pairwise fun a b => leP a b = true) → ys = zs
  | [], zs, p, _, _ => (List.nil_perm.mp p).symm
  | y :: ys, [], p, _, _ => (List.perm_nil.mp p)
  | y :: ys, z :: zs, p, h, k => by
    have hy := List.pairwise_cons.mp h
    have hz := List.pairwise_cons.mp k
    have e : y = z := by
      have a : z ∈ y :: ys := p.mem_iff.mpr (List.mem_cons_self ..)
      have b : y ∈ z :: zs := p.mem_iff.mp (List.mem_cons_self ..)
      rcases List.mem_cons.mp a with a | a
      · exact a.symm
      · rcases List.mem_cons.mp b with b | b
        · exact b
        · exact leP_anti (hy.1 z a) (hz.1 y b)
    subst e
    rw [pwP_uniq (List.perm_cons y |>.mp p) hy.2 hz.2]
/-! values that are such pairs -/
def IsSI (h : Heap) (v : Value) (p : Str × Int) : Prop := ∃ a o t u n, v = .ref a ∧ h.get? a = some o ∧ o.cls = .type "tuple" ∧ o.data = .seq #[.str p.1 t, .int p.2 u] n
theorem IsSI.keep {h h' : Heap} {v : Value} {p : Str × Int} (x : IsSI h v p) (k : ∀ b o, h.get? b = some o → o.cls = .type "tuple" → h'.get? b = some o) : IsSI h' v p := by
  obtain ⟨a, o, t, u, n, e, ho, hc, hd⟩ := x
  exact ⟨a, o, t, u, n, e, k _ _ ho hc, hc, hd⟩
theorem IsSI.uniq {h : Heap} {v : Value} {p q : Str × Int} (x : IsSI h v p) (y : IsSI h v q) : p = q := by
  obtain ⟨a, o, t, u, n, e, ho, hc, hd⟩ := x
  obtain ⟨a', o', t', u', n', e', ho', hc', hd'⟩ := y
  rw [e] at e'
  cases e'
  rw [ho] at ho'
  cases ho'
  rw [hd] at hd'
  injection hd' with h1 _
  have h2 := congrArg Array.toList h1
  injection h2 with h3 h4
  injection h3 with h3 _
  injection h4 with h4 _
  injection h4 with h4 _
  exact Prod.ext h3 h4
open Classical in
noncomputable def keySI (h : Heap) (v : Value) : Str × Int := if e : ∃ p, IsSI h v p then choose e else ("", 0)
theorem keySI_eq {h : Heap} {v : Value} {p : Str × Int} (x : IsSI h v p) : keySI h v = p := by
  unfold keySI
  rw [dif_pos ⟨p, x⟩]
  exact (Classical.choose_spec (⟨p, x⟩ : ∃ p, IsSI h v p)).uniq x
def ltP (p q : Str × Int) : Bool := !leP q p
theorem ltP_at {p q : Str × Int} : ltP p q = if p.1 = q.1 then decide (p.2 < q.2) else decide (p.1.cps.toList < q.1.cps.toList) := by
  unfold ltP leP
  by_cases e : p.1 = q.1
  · rw [if_pos e, if_pos e.symm]
    by_cases l : p.2 < q.2
    · rw [decide_eq_true l, decide_eq_false (by omega)]; rfl
    · rw [decide_eq_false l, decide_eq_true (by omega)]; rfl
  · rw [if_neg e, if_neg (Ne.symm e)]
    unfold leS
    rw [ltCps_eq, Bool.not_not]
theorem swoP (k : Value → Str × Int) : SrtO.Swo fun v u => ltP (k v) (k u) := by
  refine ⟨fun x y h => ?_, fun x y z h1 h2 => ?_⟩
  · unfold ltP at *
    have : leP (k y) (k x) = false := by simpa using h
    rcases leP_total (k y) (k x) with a | a
    · rw [a] at this; cases this
    · rw [a]; rfl
  · unfold ltP at *
    have a : leP (k x) (k y) = true := by simpa using h1
    have b : leP (k y) (k z) = true := by simpa using h2
    rw [leP_trans a b]; rfl
section
variable {prog : Program} {w : World} {A : Around} {s : Shared}
open SrtO in
theorem cmp_SI {vs : List Value} {k : Value → Str × Int} (hp : ∀ v ∈ vs, IsSI s.heap v (k v)) : Cmp prog w A s (tuples' true) (fun p => p.1 ∈ vs) (lt2 fun v u => ltP (k v) (k u)) := by
  intro p q hm hm'
  have h1 := hp _ hm
  have h2 := hp _ hm'
  show wpAny (model prog w) A (keyLt' (tuples' true) p.1 q.1) (fun r s' => s' = s ∧ r = ltP (k p.1) (k q.1)) (fun _ _ => False) s
  rw [ltP_at]
  generalize k p.1 = x at h1 ⊢
  generalize k q.1 = y at h2 ⊢
  obtain ⟨x1, x2⟩ := x
  obtain ⟨y1, y2⟩ := y
  obtain ⟨a, o, t, u, n, e, ho, hc, hd⟩ := h1
  obtain ⟨b, o', t', u', n', e', ho', hc', hd'⟩ := h2
  rw [e, e']
  dsimp only
  refine PySem.W.kat_lt ho hd ho' hd' ?_
  show PySem.W.KatLex prog w A true (decide (2 < 2)) _ [(.str x1 t, .str y1 t'), (.int x2 u, .int y2 u')] 0 s
  refine PySem.W.kat_cons (SeqAt.EqAt.str_str x1 t y1 t' prog w _ _ ?_)
  refine PySem.W.kat_go (fun e1 => PySem.W.kat_yes (PySem.W.kat_cons (SeqAt.EqAt.int_int x2 u y2 u' prog w _ _ ?_))) fun e1 => ?_
  · have ex : x1 = y1 := by simpa using e1
    rw [if_pos ex]
    refine PySem.W.kat_go (fun e2 => ?_) fun e2 => ?_
    · have ey : x2 = y2 := by simpa using e2
      exact PySem.W.kat_yes (PySem.W.kat_nil ⟨rfl, by rw [ey]; exact (decide_eq_false (Int.lt_irrefl _)).symm⟩)
    · exact PySem.W.kat_no (PySem.W.kat_one _ _ (PyProof.Rows.lt_int (show s = s ∧ decide (x2 < y2) = decide (x2 < y2) from ⟨rfl, rfl⟩)))
  · have ex : ¬ x1 = y1 := by simpa using e1
    rw [if_neg ex]
    exact PySem.W.kat_no (oneLt_str ⟨rfl, rfl⟩)
theorem heads_SI {h : Heap} : ∀ {vs : List Value}, (∀ v ∈ vs, ∃ p, IsSI h v p) → ∃ fs : List Value, PySem.W.KatTups h vs fs ∧ fs.length = vs.length ∧ ∀ f ∈ fs, ∃ x t, f = Value.str x t
  | [], _ => ⟨[], PySem.W.KatTups.nil, rfl, fun _ hm => by simp at hm⟩
  | v :: vs, hp => by
    obtain ⟨fs, h1, h2, h3⟩ := heads_SI (vs := vs) fun v' hm => hp v' (List.mem_cons_of_mem _ hm)
    obtain ⟨⟨x, y⟩, a, o, t, u, n, e, ho, hc, hd⟩ := hp v (List.mem_cons_self ..)
    subst e
    refine ⟨.str x t :: fs, PySem.W.KatTups.cons ho hc hd rfl h1, congrArg (· + 1) h2, fun f hm => ?_⟩
    rcases List.mem_cons.mp hm with rfl | hm
    · exact ⟨x, t, rfl⟩
    · exact h3 f hm
theorem sortable_SI {a : Addr} {vs : List Value} {k : Value → Str × Int} (h0 : 0 < vs.length) (hp : ∀ v ∈ vs, IsSI s.heap v (k v)) (ha : ∀ o, s.heap.get? a = some o → o.cls ≠ .type "tuple") : SrtO.SortableO prog w A s a vs fun v u => ltP (k v) (k u) := by
  intro h' keep
  have hp' : ∀ v ∈ vs, IsSI h' v (k v) := fun v hm => (hp v hm).keep fun b o e c => keep b o (fun z => ha o (z ▸ e) c) e
  obtain ⟨fs, h1, h2, h3⟩ := heads_SI fun v hm => ⟨_, hp' v hm⟩
  refine ⟨tuples' true, fun Q E hq => PySem.W.kat_kind (T := .type "str") h1 (by omega) (fun f hm => ?_) (by rfl) ?_, cmp_SI hp'⟩
  · obtain ⟨x, t, rfl⟩ := h3 f hm
    exact PySem.W.Looks.now
  · rw [show (Value.type "str" != Value.type "tuple") = true by first | decide +kernel | rfl | decide]
    exact hq
end
/-! the rule -/
def siV (p : Str × Int) : List V := [.str p.1, .int p.2]
def rSortedSI (K : PySem.W.Frag) : List V → Hp → VK → Prop := fun vs H Q => ∃ (a : Addr) (ps : List Addr) (l : List (Str × Int)), vs = [V.ref a] ∧ SqL K H a (ps.map V.ref) ∧ Paired (fun b p => SqT K H b (siV p)) ps l ∧
  ∀ (p : Addr) (m : List (Addr × (Str × Int))), H p = none → (∀ x ∈ m, ∃ i : Nat, ps[i]? = some x.1 ∧ l[i]? = some x.2) → m.map (·.2) = srtP l → Q (.ref p) (upd H p (.lst (m.map fun x => V.ref x.1)))
section
variable {X : Cx}
theorem SI_of {pins : List (Addr × Obj)} {σ : L2.St} {H : Hp} {s : Shared} {b : Addr} {p : Str × Int} (I : Inv X pins σ H s) (h : SqT X.K H b (siV p)) : IsSI s.heap (.ref b) p := by
  obtain ⟨its, rv, ⟨o, ho, hc, n, hd⟩, _⟩ := I.tuple h
  obtain ⟨u, y, ei, ru, ry⟩ := vals2 rv
  subst ei
  obtain ⟨t, rfl⟩ := ru
  obtain ⟨t', rfl⟩ := ry
  exact ⟨b, o, t, t', n, rfl, ho, hc, hd⟩
theorem paired_at {α β : Type} {P : α → β → Prop} : ∀ {xs : List α} {ys : List β}, Paired P xs ys → ∀ {i : Nat} {x : α} {y : β}, xs[i]? = some x → ys[i]? = some y → P x y
  | _, _, .nil, _, _, _, h, _ => by simp at h
  | _, _, .cons p r, 0, _, _, h, k => by
    cases (show some _ = some _ from h)
    cases (show some _ = some _ from k)
    exact p
  | _, _, .cons p r, i + 1, _, _, h, k => paired_at r (i := i) (by simpa using h) (by simpa using k)
theorem paired_map {α β : Type} {P : α → β → Prop} {f : α → β} (h : ∀ x y, P x y → f x = y) : ∀ {xs : List α} {ys : List β}, Paired P xs ys → xs.map f = ys
  | _, _, .nil => rfl
  | _, _, .cons p r => by rw [List.map_cons, h _ _ p, paired_map h r]
theorem cr_sortedSI : CallR X (.builtin "sorted") (rSortedSI X.K) := by
  rintro pins s σ H _ us Q I r ⟨a, ps, l, rfl, hs, hf, q⟩
  obtain ⟨its, rv, hl, hz⟩ := I.list hs
  rw [Vals.ref1 r]
  cases refs_at rv
  have many : (ps.map Value.ref).length ≤ sizeLine := by rw [← rv.length]; exact hz
  let f : Addr → Str × Int := fun b => keySI s.heap (.ref b)
  have fl : ps.map f = l := paired_map (fun b p h => keySI_eq (SI_of I h)) hf
  have ix : ∀ b ∈ ps, ∃ i : Nat, ps[i]? = some b ∧ l[i]? = some (f b) := fun b hb => by
    obtain ⟨i, hi⟩ := List.getElem?_of_mem hb
    exact ⟨i, hi, by rw [← fl, List.getElem?_map, hi]; rfl⟩
  have sq : ∀ b ∈ ps, SqT X.K H b (siV (f b)) := fun b hb => by
    obtain ⟨i, h1, h2⟩ := ix b hb
    exact paired_at hf h1 h2
  have hk : ∀ v ∈ ps.map Value.ref, IsSI s.heap v (keySI s.heap v) := fun v hv => by
    obtain ⟨b, hb, rfl⟩ := List.mem_map.mp hv
    exact SI_of I (sq b hb)
  refine SrtO.sorted_ord (swoP (keySI s.heap)) hl.isList many (fun h2 h1 b hb kk => ?_) fun out h1 h2 => ?_
  · refine sortable_SI (s := { s with heap := h1 }) (by omega) (fun v hm => (hk v hm).keep fun c o e _ => (kk c o e).2) fun o e c => ?_
    have e' : some o = some (seqObj "list" (ps.map Value.ref).toArray 0) := e.symm.trans hb
    cases e'
    exact absurd (Value.type.inj c) (by decide)
  · have pm := h2.perm
    obtain ⟨qs, rfl⟩ : ∃ qs : List Addr, out = qs.map Value.ref := by
      have : ∀ v ∈ out, ∃ b, v = Value.ref b := fun v hv => by
        obtain ⟨b, _, e⟩ := List.mem_map.mp (pm.mem_iff.mp hv)
        exact ⟨b, e.symm⟩
      clear h1 h2 pm
      induction out with
      | nil => exact ⟨[], rfl⟩
      | cons v r ih =>
        obtain ⟨b, rfl⟩ := this v (List.mem_cons_self ..)
        obtain ⟨qs, rfl⟩ := ih fun v hv => this v (List.mem_cons_of_mem _ hv)
        exact ⟨b :: qs, rfl⟩
    have pq : qs.Perm ps := by
      have := pm.map (fun v : Value => match v with | .ref b => b | _ => 0)
      rw [List.map_map, List.map_map] at this
      have e : ((fun v : Value => match v with | .ref b => b | _ => 0) ∘ Value.ref) = id := by funext b; rfl
      rw [e, List.map_id, List.map_id] at this
      exact this
    have ef : qs.map f = srtP l := by
      refine pwP_uniq ((fl ▸ pq.map f).trans (srtP_perm _).symm) ?_ (srtP_pw _)
      rw [List.pairwise_map]
      refine (List.pairwise_map.mp h1).imp fun {x y} z => ?_
      unfold ltP at z
      simpa using z
    obtain ⟨ep, at_⟩ := sortedAll_at s.heap (ps.map Value.ref) (qs.map Value.ref).toArray
    have free : H (s.heap.objs.size + 1) = none := I.hok.fresh (Nat.le_succ _)
    have vr : ∀ zs : List Addr, Vals (zs.map V.ref) (zs.map Value.ref) := fun zs => by
      induction zs with
      | nil => exact .nil
      | cons b r ih => exact .cons rfl ih
    have new : ObjOk X.prog X.w (upd H (s.heap.objs.size + 1) (.lst (qs.map V.ref))) (sortedAll s.heap (ps.map Value.ref) (qs.map Value.ref).toArray) (s.heap.objs.size + 1) (.lst (qs.map V.ref)) := by
      refine ⟨by rw [List.length_map, pq.length_eq]; rw [List.length_map] at hz; exact hz, qs.map Value.ref, ep, vr _, at_⟩
    have res := q (s.heap.objs.size + 1) (qs.map fun b => (b, f b)) free (fun x hx => by
      obtain ⟨b, hb, rfl⟩ := List.mem_map.mp hx
      exact ix b (pq.mem_iff.mp hb)) (by rw [List.map_map]; exact ef)
    rw [List.map_map] at res
    exact ⟨V.ref _, _, I.laid (t' := s.toks) (fun _ _ => sortedAll_old) (Nat.le_succ _) new, rfl, res⟩
end
/-- pairs of a text and an int -/
def prsD : List SD → Option (List (Str × Int))
  | [] => some []
  | .tup [.str x, .int i] :: r => (match prsD r with
    | some l => some ((x, i) :: l)
    | none => none)
  | _ :: _ => none
def siD (p : Str × Int) : SD := .tup [.str p.1, .int p.2]
theorem prsD_map : ∀ l : List (Str × Int), prsD (l.map siD) = some l
  | [] => rfl
  | (x, i) :: r => by rw [List.map_cons]; show (match prsD (r.map siD) with | some l => some ((x, i) :: l) | none => none) = _; rw [prsD_map r]
theorem prsD_of : ∀ {ds : List SD} {l : List (Str × Int)}, prsD ds = some l → ds = l.map siD
  | [], l, h => by cases h; rfl
  | d :: r, l, h => by
    unfold prsD at h
    split at h
    · rename_i heq; cases heq
    · rename_i x i r' heq
      cases heq
      cases e : prsD r with
      | none => rw [e] at h; cases h
      | some l' => rw [e] at h; cases h; rw [prsD_of e]; rfl
    · cases h
theorem si_rep {K : PySem.W.Frag} {F : Hp} : ∀ {l : List (Str × Int)} {vs : List V}, RepL K F (l.map siD) vs → ∃ ps : List Addr, vs = ps.map V.ref ∧ Paired (fun b p => SqT K F b (siV p)) ps l
  | [], _, .nil => ⟨[], rfl, .nil⟩
  | p :: l, _, .cons (.tup (a := b) h r1) r => by
    obtain ⟨ps, e, pr⟩ := si_rep r
    cases r1 with
    | cons ra rb => cases rb with
      | cons rb rc =>
        cases rc
        cases ra
        cases rb
        exact ⟨b :: ps, by rw [e]; rfl, .cons h pr⟩
def drSortedSI : DRc := fun ds μ Q => match ds with
  | [d] => isTup d = false ∧ (match seqD μ d with
    | some xs => (match prsD xs with
      | some l => Q (.lst ((srtP l).map siD)) μ
      | none => False)
    | none => False)
  | _ => False
theorem si_all {K : PySem.W.Frag} {F : Hp} : ∀ {m : List (Addr × (Str × Int))}, (∀ x ∈ m, SqT K F x.1 (siV x.2)) → RepL K F ((m.map (·.2)).map siD) (m.map fun x => V.ref x.1)
  | [], _ => .nil
  | x :: m, h => .cons (.tup (h x (List.mem_cons_self ..)) (.cons (.str _) (.one (.int _)))) (si_all fun y hy => h y (List.mem_cons_of_mem _ hy))
theorem lc_sortedSI {K : PySem.W.Frag} : LRc K drSortedSI (rSortedSI K) := fun F H μ xs ds Q' Q R r t k => by
  unfold drSortedSI at t
  split at t
  · rename_i d
    obtain ⟨nt, t⟩ := t
    cases e : seqD μ d with
    | none => rw [e] at t; exact t.elim
    | some zs =>
      rw [e] at t
      simp only at t
      cases e2 : prsD zs with
      | none => rw [e2] at t; exact t.elim
      | some l =>
        rw [e2] at t
        obtain rfl := prsD_of e2
        match xs, r with
        | [v], .cons r1 .nil =>
          obtain ⟨a, vs, rfl, rl, hL | hT⟩ := R.seq r1 e
          · obtain ⟨ps, rfl, pr⟩ := si_rep rl
            refine ⟨a, ps, l, rfl, hL.2, ?_, fun p m hp hm em => ?_⟩
            · have ex := R.ext
              clear rl t k hL r1 e2
              exact L2.Paired.mapP pr fun _ _ h => ex.sqT h
            · have r3 := si_all (F := F) (m := m) fun x hx => by
                obtain ⟨i, h1, h2⟩ := hm x hx
                exact paired_at pr h1 h2
              rw [em] at r3
              exact k _ μ t _ _ _ (Stp.newS R hp) (R.newS hp) (.lst upd_same (r3.mono (Ext.new (R.freeF hp))))
          · rw [nt] at hT; cases hT.1
  · exact t.elim
end DS
/-! DS43: tuple * int, the tuple may be empty. -/
namespace DS
open PySem PySem.Spec PyProof.Rows L2
theorem tuple_mul0 (l : Addr) (n : Nat) (dd : Option Addr) (sl : Array (Option Value)) (x : Int) (u : Tok) (c0 : (decide (x < -(2 ^ 63)) || decide (x ≥ 2 ^ 63)) = false) :
    Meets (Builtin.«tuple.__mul__» ⟨[.ref l, .int x u], []⟩) (fun _ R s => s.heap.get? l = some { cls := .type "tuple", dict := dd, data := .seq #[] n, slots := sl } ∧ R (.ok (.ret (Value.ref l))) s) :=
  .of_wp fun prog w A R s h => by
    obtain ⟨hp, g, d, tk, os⟩ := s
    obtain ⟨hl, h⟩ := h
    have f1 := AutoSeq1.idx_int
    wp_walk using wpAny_loadPart' hl
    repeat (first
      | (refine wpAny_ite_false (decide_eq_false (by rw [c0]; exact Bool.false_ne_true)) ?_; wp_walk using wpAny_loadPart' hl)
      | (refine wpAny_ite_true (decide_eq_true (by first | rfl | simp)) ?_; wp_walk using wpAny_loadPart' hl))
    exact ⟨_, rfl, h⟩
def rRepA (K : PySem.W.Frag) : R2 := fun x y H Q => rRepT K x y H Q ∨ ∃ l k, x = .ref l ∧ y = .int k ∧ SqT K H l [] ∧ 2 ≤ k ∧ k ≤ 1000 ∧ Q (.ref l) H
section
variable {X : Cx} {K : PySem.W.Frag}
theorem op_repA : OpR X (binaryOp .Mult) (rRepA X.K) := by
  intro pins s σ H x y v u Q I rx ry h
  rcases h with h | ⟨l, k, rfl, rfl, hT, h1, h2, q⟩
  · exact op_repT pins s σ H x y v u Q I rx ry h
  cases rx
  obtain ⟨t, rfl⟩ := ry
  obtain ⟨its, r, ⟨⟨cls, dd, data, sl⟩, ho, hc, n, hd⟩, hs⟩ := I.tuple hT
  simp only at hc hd
  subst hc hd
  cases r
  have c0 : (decide (k < -(2 ^ 63)) || decide (k ≥ 2 ^ 63)) = false := by
    rw [decide_eq_false (by omega), decide_eq_false (by omega)] <;> rfl
  refine wpAny_binaryOp_repeat_ref (T := "tuple") (U := "int") (by decide) ⟨_, ho, rfl⟩ (fun s' => typeIs_int s' k t) noFill_tuple_mul F.fills_int_mul F.slot_int_rmul repeat_tuple F.slot_int_index.lookup
    (call_meets F.slot_int_rmul (typeIs_int s k t) F.entry_int_rmul (F.args_int_rmul_2 _ _) (int_rmul_tuple k t l #[] n dd sl)
      ⟨ho, rfl, ⟨_, ho, rfl⟩, call_meets F.slot_tuple_mul ⟨_, ho, rfl⟩ F.entry_tuple_mul (F.args_tuple_mul_2 _ _) (tuple_mul0 l n dd sl k t c0) ⟨ho, ⟨.ref l, H, I, (show RelV (V.ref l) (Value.ref l) from rfl), q⟩⟩⟩)
def dMulTA : DR2 := fun x y μ Q => match x, y with
  | .tup xs, .int j => 2 ≤ j ∧ j ≤ 1000 ∧ xs.length ≤ 1000 ∧ Q (.tup (List.replicate j.toNat xs).flatten) μ
  | _, _ => False
theorem flat_none {α : Type} : ∀ n : Nat, (List.replicate n ([] : List α)).flatten = []
  | 0 => rfl
  | n + 1 => by rw [List.replicate_succ, List.flatten_cons, flat_none n]; rfl
theorem lr_mulTA : LR2 K dMulTA (rRepA K) := fun F H μ x y dx dy Q' Q R rx ry t k => by
  unfold dMulTA at t
  split at t
  · rename_i xs j
    obtain ⟨h1, h2, h3, t⟩ := t
    by_cases e : xs = []
    · subst e
      rw [flat_none] at t
      cases rx with
      | tup hx r =>
        cases ry
        cases r
        exact .inr ⟨_, j, rfl, rfl, R.ext.sqT hx, h1, h2, k _ μ t F H _ (Stp.refl _ _ _) R (.tup hx .nil)⟩
    · exact .inl (lr_mulT F H μ x y _ _ Q' Q R rx ry ⟨e, h1, h2, h3, t⟩ k)
  · exact False.elim t
end
end DS
/-! MD: plain data with bounds (for ==, repr), memory that only grows. -/
namespace MA
open PySem PySem.Spec PyProof.Rows L2 DS
structure Good (d : SD) (p : PyData) (D B : Nat) : Prop where
  e : pdS d = some p
  cl : p.canLay0 = true
  dp : p.depth ≤ D
  sh : p.showable = true
  ls : p.leavesShort 13 = true
  bk : p.bulk ≤ B
structure GoodL (ds : List SD) (ps : List PyData) (D B : Nat) : Prop where
  e : pdL ds = some ps
  cl : PyData.canLayAll0 ps = true
  dp : PyData.depthAll ps ≤ D
  sh : PyData.showableAll ps = true
  ls : PyData.leavesShortAll 13 ps = true
  bk : PyData.bulkAll ps ≤ B
theorem Good.mono {d p D B D' B'} (g : Good d p D B) (h1 : D ≤ D') (h2 : B ≤ B') : Good d p D' B' := ⟨g.e, g.cl, Nat.le_trans g.dp h1, g.sh, g.ls, Nat.le_trans g.bk h2⟩
theorem GoodL.mono {d p D B D' B'} (g : GoodL d p D B) (h1 : D ≤ D') (h2 : B ≤ B') : GoodL d p D' B' := ⟨g.e, g.cl, Nat.le_trans g.dp h1, g.sh, g.ls, Nat.le_trans g.bk h2⟩
theorem Good.non : Good .non .none 0 0 := ⟨rfl, by simp [PyData.canLay0], by simp [PyData.depth], by simp [PyData.showable], by simp [PyData.leavesShort], by simp [PyData.bulk]⟩
theorem Good.bl (b : Bool) : Good (.bl b) (.bool b) 0 0 := ⟨rfl, by simp [PyData.canLay0], by simp [PyData.depth], by simp [PyData.showable], by simp [PyData.leavesShort], by simp [PyData.bulk]⟩
theorem Good.str {x : Str} (h : PyData.strOk x = true) : Good (.str x) (.str x) 0 x.cps.size := by
  refine ⟨rfl, by simp [PyData.canLay0, h], by simp [PyData.depth], by simp [PyData.showable], ?_, by simp [PyData.bulk]⟩
  unfold PyData.leavesShort
  rw [List.all_eq_true]
  intro c hc
  have := (Array.all_eq_true_iff_forall_mem.mp h) c (by simpa using hc)
  simp at this ⊢
  omega
theorem GoodL.nil : GoodL [] [] 0 0 := ⟨rfl, by simp [PyData.canLayAll0], by simp [PyData.depthAll], by simp [PyData.showableAll], by simp [PyData.leavesShortAll], by simp [PyData.bulkAll]⟩
theorem GoodL.cons {d ds p ps D B C} (g : Good d p D B) (h : GoodL ds ps D C) : GoodL (d :: ds) (p :: ps) D (B + 1 + C) := by
  refine ⟨by rw [pdL, g.e, h.e], by simp [PyData.canLayAll0, g.cl, h.cl], ?_, by simp [PyData.showableAll, g.sh, h.sh], by simp [PyData.leavesShortAll, g.ls, h.ls], ?_⟩
  · have := g.dp; have := h.dp; rw [PyData.depthAll]; omega
  · have := g.bk; have := h.bk; rw [PyData.bulkAll]; omega
theorem Good.tup {ds ps D B} (h : GoodL ds ps D B) : Good (.tup ds) (.tuple ps) (D + 1) B :=
  ⟨by rw [pdS, h.e], by simp [PyData.canLay0, h.cl], by rw [PyData.depth]; exact Nat.succ_le_succ h.dp, by simp [PyData.showable, h.sh], by simp [PyData.leavesShort, h.ls], by rw [PyData.bulk]; exact h.bk⟩
theorem Good.lst {ds ps D B} (h : GoodL ds ps D B) : Good (.lst ds) (.list ps) (D + 1) B :=
  ⟨by rw [pdS, h.e], by simp [PyData.canLay0, h.cl], by rw [PyData.depth]; exact Nat.succ_le_succ h.dp, by simp [PyData.showable, h.sh], by simp [PyData.leavesShort, h.ls], by rw [PyData.bulk]; exact h.bk⟩
theorem GoodL.append {D B C} : ∀ {ds ps es qs}, GoodL ds ps D B → GoodL es qs D C → GoodL (ds ++ es) (ps ++ qs) D (B + C)
  | [], _, _, _, g, h => by
    have e := g.e; rw [pdL] at e; cases e
    exact h.mono (Nat.le_refl _) (by omega)
  | d :: ds, ps0, es, qs, g, h => by
    have e := g.e
    rw [pdL] at e
    split at e
    · rename_i p ps e1 e2
      cases e
      have cl := g.cl; have sh := g.sh; have ls := g.ls; have dp := g.dp; have bk := g.bk
      simp only [PyData.canLayAll0, Bool.and_eq_true] at cl
      simp only [PyData.showableAll, Bool.and_eq_true] at sh
      simp only [PyData.leavesShortAll, Bool.and_eq_true] at ls
      rw [PyData.depthAll] at dp
      rw [PyData.bulkAll] at bk
      have g1 : Good d p D p.bulk := ⟨e1, cl.1, by omega, sh.1, ls.1, Nat.le_refl _⟩
      have g2 : GoodL ds ps D (PyData.bulkAll ps) := ⟨e2, cl.2, by omega, sh.2, ls.2, Nat.le_refl _⟩
      exact (GoodL.cons g1 (GoodL.append g2 h)).mono (Nat.le_refl _) (by omega)
    · cases e
/-- each of so many good ones -/
theorem GoodL.of {D B} : ∀ {ds : List SD}, (∀ d ∈ ds, ∃ p, Good d p D B) → ∃ ps, GoodL ds ps D (ds.length * (B + 1))
  | [], _ => ⟨[], GoodL.nil.mono (Nat.zero_le _) (Nat.zero_le _)⟩
  | d :: ds, h => by
    obtain ⟨p, g⟩ := h d (List.mem_cons_self ..)
    obtain ⟨ps, gs⟩ := GoodL.of fun x hx => h x (List.mem_cons_of_mem _ hx)
    exact ⟨p :: ps, (GoodL.cons g gs).mono (Nat.le_refl _) (by rw [List.length_cons, Nat.add_mul]; omega)⟩
theorem Good.shaped {d p D B} (g : Good d p D B) (h : D ≤ 64) : SeqAt.shaped p = true := by
  unfold SeqAt.shaped
  rw [g.cl, Bool.true_and, decide_eq_true_eq]
  exact Nat.le_trans g.dp h
theorem Good.notref {d p D B} (g : Good d p D B) (μ : Mu) : pd μ d = some p := by
  have e := g.e
  cases d <;> first | exact e | (simp [pdS] at e)
theorem Good.repr {d p D B μ} {Q : SD → Mu → Prop} (g : Good d p D B) (h1 : D ≤ 64) (h2 : B ≤ 2 ^ 20) (q : Q (.str p.shown) μ) : drRepr [d] μ Q := by
  unfold drRepr
  simp only [g.notref μ]
  exact ⟨⟨g.sh, PyData.shown_fits_bulk (B := 13) (by decide) (by decide) g.ls (Nat.le_trans g.bk h2), Nat.le_trans g.dp h1⟩, q⟩
theorem eq_nil {μ : Mu} {a : Addr} {xs ps D B} (h : μ a = some (.lst xs)) (g : GoodL xs ps D B) (hD : D < 64) : eqD μ (.ref a) (.lst []) = some (decide (xs = [])) := by
  have e1 : pd μ (.ref a) = some (.list ps) := by simp [pd, h, g.e]
  have e2 : pd μ (.lst []) = some (.list []) := by simp [pd, pdS, pdL]
  have s1 : SeqAt.shaped (.list ps) = true := by
    unfold SeqAt.shaped
    rw [PyData.depth, PyData.canLay0, g.cl, Bool.true_and, decide_eq_true_eq]
    have := g.dp; omega
  have s2 : SeqAt.shaped (.list []) = true := by decide
  show (match pd μ (.ref a), pd μ (.lst []) with
    | some p, some q => if SeqAt.shaped p = true ∧ SeqAt.shaped q = true then some (PyData.eqv p q) else none
    | _, _ => none) = _
  rw [e1, e2]
  show (if SeqAt.shaped (.list ps) = true ∧ SeqAt.shaped (.list []) = true then some (PyData.eqv (.list ps) (.list [])) else none) = _
  rw [if_pos ⟨s1, s2⟩, PyData.eqv]
  have e := g.e
  cases xs with
  | nil => rw [pdL] at e; cases e; rfl
  | cons x xs =>
    rw [pdL] at e
    split at e
    · cases e; rfl
    · cases e
/-! dicts -/
section
variable {α : Type} {k k' : Key} {v : α}
theorem valD_nil : valD ([] : List (Key × α)) k = none := rfl
theorem valD_cons {kv : Key × α} {r : List (Key × α)} : valD (kv :: r) k = if kv.1 = k then some kv.2 else valD r k := by
  unfold valD
  rw [List.find?_cons]
  by_cases h : kv.1 = k
  · simp [h]
  · simp [h]
theorem valD_append {xs ys : List (Key × α)} : valD (xs ++ ys) k = (valD xs k).or (valD ys k) := by
  induction xs with
  | nil => simp [valD_nil]
  | cons x r ih => rw [List.cons_append, valD_cons, valD_cons, ih]; split <;> simp
theorem valD_map {kvs : List (Key × α)} (h : (kvs.any fun kv => decide (kv.1 = k)) = true) : valD (kvs.map fun kv => if kv.1 = k then (kv.1, v) else kv) k' = if k = k' then some v else valD kvs k' := by
  induction kvs with
  | nil => simp at h
  | cons x r ih =>
    rw [List.map_cons, valD_cons, valD_cons]
    by_cases h1 : x.1 = k
    · rw [if_pos h1]
      by_cases h2 : k = k'
      · subst h2; simp [h1]
      · have h3 : x.1 ≠ k' := fun e => h2 (h1.symm.trans e)
        rw [if_neg h3, if_neg h3, if_neg h2]
        by_cases h4 : (r.any fun kv => decide (kv.1 = k)) = true
        · rw [ih h4, if_neg h2]
        · have : (r.map fun kv => if kv.1 = k then (kv.1, v) else kv) = r := by
            refine (List.map_congr_left fun y hy => ?_).trans (List.map_id _)
            rw [if_neg, id]
            intro e; exact h4 (List.any_eq_true.mpr ⟨y, hy, by simpa using e⟩)
          rw [this]
    · rw [if_neg h1]
      have h4 : (r.any fun kv => decide (kv.1 = k)) = true := by simpa [h1] using h
      rw [ih h4]
      by_cases h2 : k = k'
      · subst h2; simp [h1]
      · simp [h2]
theorem valD_put {kvs : List (Key × α)} : valD (putD kvs k v) k' = if k = k' then some v else valD kvs k' := by
  unfold putD
  split
  · rename_i h; exact valD_map h
  · rename_i h
    rw [valD_append, valD_cons, valD_nil]
    by_cases e : k = k'
    · subst e
      have : valD kvs k = none := by
        unfold valD
        rw [List.find?_eq_none.mpr, Option.map_none]
        intro x hx e; exact h (List.any_eq_true.mpr ⟨x, hx, e⟩)
      simp [this]
    · simp [e]
theorem putD_length {kvs : List (Key × α)} : (putD kvs k v).length ≤ kvs.length + 1 := by
  unfold putD
  split
  · simp
  · simp
end
/-! memory that only grows -/
def Le (μ μ' : Mu) : Prop := ∀ a m, μ a = some m → μ' a = some m
theorem Le.refl (μ : Mu) : Le μ μ := fun _ _ h => h
theorem Le.trans {μ μ1 μ2 : Mu} (h : Le μ μ1) (k : Le μ1 μ2) : Le μ μ2 := fun a m e => k a m (h a m e)
theorem Le.up {μ0 μ : Mu} {p : Addr} {m : MO} (h : Le μ0 μ) (hp : μ0 p = none) : Le μ0 (up μ p m) := fun a n e => by
  have : a ≠ p := fun z => by subst z; rw [hp] at e; cases e
  rw [up_ne this]; exact h a n e
theorem Le.rm {μ0 μ : Mu} {p : Addr} (h : Le μ0 μ) (hp : μ0 p = none) : Le μ0 (rm μ p) := fun a n e => by
  have : a ≠ p := fun z => by subst z; rw [hp] at e; cases e
  rw [rm_ne this]; exact h a n e
theorem Le.none {μ0 μ : Mu} {p : Addr} (h : Le μ0 μ) (hp : μ p = none) : μ0 p = none := by
  cases e : μ0 p with
  | none => rfl
  | some m => rw [h p m e] at hp; cases hp
/-- all but what stands at h stays -/
def LeX (h : Addr) (μ μ' : Mu) : Prop := ∀ a m, a ≠ h → μ a = some m → μ' a = some m
theorem LeX.refl (h : Addr) (μ : Mu) : LeX h μ μ := fun _ _ _ e => e
theorem Le.x {μ μ' : Mu} (h : Addr) (l : Le μ μ') : LeX h μ μ' := fun a m _ e => l a m e
theorem LeX.trans {h : Addr} {μ μ1 μ2 : Mu} (a : LeX h μ μ1) (b : LeX h μ1 μ2) : LeX h μ μ2 := fun x m n e => b x m n (a x m n e)
theorem LeX.put {h : Addr} {μ0 μ : Mu} {m : MO} (l : LeX h μ0 μ) : LeX h μ0 (up μ h m) := fun a n z e => by rw [up_ne z]; exact l a n z e
theorem LeX.up {h p : Addr} {μ0 μ : Mu} {m : MO} (l : LeX h μ0 μ) (hp : μ0 p = none) : LeX h μ0 (up μ p m) := fun a n z e => by
  have : a ≠ p := fun z => by subst z; rw [hp] at e; cases e
  rw [up_ne this]; exact l a n z e
theorem LeX.rm {h p : Addr} {μ0 μ : Mu} (l : LeX h μ0 μ) (hp : μ0 p = none) : LeX h μ0 (rm μ p) := fun a n z e => by
  have : a ≠ p := fun z => by subst z; rw [hp] at e; cases e
  rw [rm_ne this]; exact l a n z e
end MA
/-! MT: trees of keyed elements. -/
namespace MA
open PySem PySem.Spec PyProof.Rows L2 DS
inductive T where
  | node (k : Str) (cs : List T)
def T.key : T → Str
  | .node k _ => k
def T.kids : T → List T
  | .node _ cs => cs
mutual
def enc : T → SD
  | .node k cs => .tup [.str k, .tup (encL cs)]
def encL : List T → List SD
  | [] => []
  | t :: r => enc t :: encL r
end
mutual
def pre : T → List Str
  | .node k cs => k :: preL cs
def preL : List T → List Str
  | [] => []
  | t :: r => pre t ++ preL r
end
mutual
def dep : T → Nat
  | .node _ cs => depL cs + 1
def depL : List T → Nat
  | [] => 0
  | t :: r => max (dep t) (depL r)
end
theorem encL_map : ∀ ts : List T, encL ts = ts.map enc
  | [] => by rw [encL]; rfl
  | t :: r => by rw [encL, encL_map r]; rfl
theorem encL_append (a b : List T) : encL (a ++ b) = encL a ++ encL b := by simp [encL_map]
theorem encL_reverse (a : List T) : encL a.reverse = (encL a).reverse := by simp [encL_map]
theorem encL_length (a : List T) : (encL a).length = a.length := by simp [encL_map]
theorem encL_nil_iff {a : List T} : encL a = [] ↔ a = [] := by simp [encL_map]
theorem preL_append : ∀ a b : List T, preL (a ++ b) = preL a ++ preL b
  | [], b => by rw [List.nil_append, preL]; rfl
  | t :: r, b => by rw [List.cons_append, preL, preL, preL_append r b, List.append_assoc]
theorem preL_mem {ts : List T} {k : Str} : k ∈ preL ts ↔ ∃ t ∈ ts, k ∈ pre t := by
  induction ts with
  | nil => simp [preL]
  | cons t r ih => rw [preL, List.mem_append, ih]; simp
theorem preL_reverse_len (a : List T) : (preL a.reverse).length = (preL a).length := by
  induction a with
  | nil => rfl
  | cons t r ih => rw [List.reverse_cons, preL_append, List.length_append, ih, preL, preL, preL, List.length_append]; simp; omega
theorem depL_mem {ts : List T} {t : T} (h : t ∈ ts) : dep t ≤ depL ts := by
  induction ts with
  | nil => cases h
  | cons u r ih =>
    rw [depL]
    rcases List.mem_cons.mp h with rfl | h
    · exact Nat.le_max_left _ _
    · exact Nat.le_trans (ih h) (Nat.le_max_right _ _)
theorem depL_le {ts : List T} {n : Nat} (h : ∀ t ∈ ts, dep t ≤ n) : depL ts ≤ n := by
  induction ts with
  | nil => rw [depL]; exact Nat.zero_le _
  | cons u r ih => rw [depL]; exact Nat.max_le.mpr ⟨h u (List.mem_cons_self ..), ih fun t ht => h t (List.mem_cons_of_mem _ ht)⟩
theorem key_mem (t : T) : t.key ∈ pre t := by cases t; rw [pre]; exact List.mem_cons_self ..
theorem preL_sub {ts : List T} {t : T} (h : t ∈ ts) : ∀ k ∈ pre t, k ∈ preL ts := fun k hk => preL_mem.mpr ⟨t, h, hk⟩
theorem preL_len {ts : List T} {t : T} (h : t ∈ ts) : (pre t).length ≤ (preL ts).length := by
  induction ts with
  | nil => cases h
  | cons u r ih =>
    rw [preL, List.length_append]
    rcases List.mem_cons.mp h with rfl | h
    · omega
    · have := ih h; omega
theorem pre_pos (t : T) : 0 < (pre t).length := by cases t; rw [pre]; simp
theorem len_le_preL : ∀ ts : List T, ts.length ≤ (preL ts).length
  | [] => by simp
  | t :: r => by have := pre_pos t; have := len_le_preL r; rw [preL, List.length_append, List.length_cons]; omega
def KeyOk (k : Str) : Prop := PyData.strOk k = true ∧ k.cps.size ≤ 61
structure TOk (t : T) : Prop where
  len : (pre t).length ≤ 1000
  dep : dep t ≤ 30
  keys : ∀ k ∈ pre t, KeyOk k
/-! trees are good data -/
mutual
theorem enc_good : ∀ t : T, (∀ k ∈ pre t, KeyOk k) → ∃ p, Good (enc t) p (2 * dep t) (64 * (pre t).length - 1)
  | .node k cs, h => by
    rw [pre] at h
    obtain ⟨ps, gs⟩ := encL_good cs fun x hx => h x (List.mem_cons_of_mem _ hx)
    obtain ⟨k1, k2⟩ := h k (List.mem_cons_self ..)
    rw [enc, dep, pre]
    have g1 := Good.tup gs
    have g2 := GoodL.cons (g1.mono (Nat.le_refl _) (Nat.le_refl _)) (GoodL.nil.mono (Nat.zero_le _) (Nat.le_refl _))
    have g3 := GoodL.cons ((Good.str k1).mono (Nat.zero_le _) (Nat.le_refl _)) g2
    refine ⟨_, (Good.tup g3).mono (by omega) ?_⟩
    rw [List.length_cons]; omega
theorem encL_good : ∀ ts : List T, (∀ k ∈ preL ts, KeyOk k) → ∃ ps, GoodL (encL ts) ps (2 * depL ts) (64 * (preL ts).length)
  | [], _ => ⟨[], GoodL.nil.mono (Nat.zero_le _) (Nat.zero_le _)⟩
  | t :: r, h => by
    rw [preL] at h
    obtain ⟨p, g⟩ := enc_good t fun x hx => h x (List.mem_append_left _ hx)
    obtain ⟨ps, gs⟩ := encL_good r fun x hx => h x (List.mem_append_right _ hx)
    have := pre_pos t
    refine ⟨p :: ps, ?_⟩
    rw [encL, depL, preL]
    refine (GoodL.cons (g.mono (by omega) (Nat.le_refl _)) (gs.mono (by omega) (Nat.le_refl _))).mono (Nat.le_refl _) ?_
    rw [List.length_append]; omega
end
theorem TOk.good {t : T} (h : TOk t) : ∃ p, Good (enc t) p 60 64000 := by
  obtain ⟨p, g⟩ := enc_good t h.keys
  have := h.len; have := h.dep
  exact ⟨p, g.mono (by omega) (by omega)⟩
/-! which children, which parent -/
mutual
def Fits (f : Str → List Str) : T → Prop
  | .node k cs => f k = cs.map T.key ∧ FitsL f cs
def FitsL (f : Str → List Str) : List T → Prop
  | [] => True
  | t :: r => Fits f t ∧ FitsL f r
end
theorem FitsL_mem {f : Str → List Str} {ts : List T} : FitsL f ts ↔ ∀ t ∈ ts, Fits f t := by
  induction ts with
  | nil => simp [FitsL]
  | cons u r ih => rw [FitsL, ih]; simp
/-- par is the parent by f, wherever t has a key -/
structure Par (f : Str → List Str) (par : Str → Option Str) (t : T) : Prop where
  fits : Fits f t
  kid : ∀ k ∈ pre t, ∀ c ∈ f k, par c = some k
  root : par t.key = none
def optS : Option Str → SD
  | none => .non
  | some k => .str k
end MA
/-! MR: what the readings of the common expressions ask. -/
namespace MA
open PySem PySem.Spec PyProof.Rows L2 DS
section
variable {ρ : Rho} {μ : Mu} {i : Nat} {a : Addr} {d x y : SD} {xs ys : List SD} {Q : SD → Mu → Prop} {te ti tb : DTE}
theorem r_var (h : ρ[i]? = some (some d)) (q : Q d μ) : dVar i ρ μ Q := by unfold dVar; rw [h]; exact q
theorem isSome_ref (m : μ a = some (.lst xs)) : (lstD μ (.ref a)).isSome = true := by simp [lstD, m]
theorem dm_pop (m : μ a = some (.lst (xs ++ [y]))) (q : Q y (up μ a (.lst xs))) : dmPop (.ref a) [] μ Q := by
  unfold dmPop
  have e : mlst μ (.ref a) = some (a, xs ++ [y]) := by simp [mlst, m]
  have e2 : (xs ++ [y])[(xs ++ [y]).length - 1]? = some y := by simp
  simp only [e, e2, List.dropLast_concat]
  exact ⟨trivial, q⟩
theorem dm_append (m : μ a = some (.lst xs)) (l : xs.length < sizeLine) (q : Q .non (up μ a (.lst (xs ++ [y])))) : dmAppend (.ref a) [y] μ Q := by
  unfold dmAppend
  have e : mlst μ (.ref a) = some (a, xs) := by simp [mlst, m]
  simp only [e]
  exact ⟨l, q⟩
theorem dm_extendT (m : μ a = some (.lst xs)) (l : xs.length + ys.length ≤ sizeLine) (q : Q .non (up μ a (.lst (xs ++ ys)))) : dmExtend (.ref a) [.tup ys] μ Q := by
  unfold dmExtend
  have e : mlst μ (.ref a) = some (a, xs) := by simp [mlst, m]
  simp only [e]
  exact ⟨l, q⟩
theorem dm_extendL (m : μ a = some (.lst xs)) (l : xs.length + ys.length ≤ sizeLine) (q : Q .non (up μ a (.lst (xs ++ ys)))) : dmExtend (.ref a) [.lst ys] μ Q := by
  unfold dmExtend
  have e : mlst μ (.ref a) = some (a, xs) := by simp [mlst, m]
  simp only [e]
  exact ⟨l, q⟩
theorem dm_extendR {b : Addr} (m : μ a = some (.lst xs)) (mb : μ b = some (.lst ys)) (l : xs.length + ys.length ≤ sizeLine) (q : Q .non (up μ a (.lst (xs ++ ys)))) : dmExtend (.ref a) [.ref b] μ Q := by
  unfold dmExtend
  have e : mlst μ (.ref a) = some (a, xs) := by simp [mlst, m]
  simp only [e]
  simp only [lstD, mb]
  exact ⟨l, q⟩
theorem dm_insert {k : Int} (m : μ a = some (.lst xs)) (l : xs.length < sizeLine) (h0 : 0 ≤ k) (h1 : k < 2 ^ 63) (q : Q .non (up μ a (.lst (xs.take k.toNat ++ [y] ++ xs.drop k.toNat)))) : dmInsert (.ref a) [.int k, y] μ Q := by
  unfold dmInsert
  have e : mlst μ (.ref a) = some (a, xs) := by simp [mlst, m]
  simp only [e]
  exact ⟨⟨l, h0, h1⟩, q⟩
theorem eq_nilR {ps D B neg} (m : μ a = some (.lst xs)) (g : GoodL xs ps D B) (hD : D < 64) (k : Q (.bl (neg != decide (xs = []))) μ) : dEq neg (.ref a) (.lst []) μ Q := by
  unfold dEq
  simp only [eq_nil m g hD]
  exact k
theorem rev_T (q : Q (.tup xs.reverse) μ) : drRev (.tup xs) μ Q := q
theorem rev_L (q : Q (.lst xs.reverse) μ) : drRev (.lst xs) μ Q := q
theorem rev_R (m : μ a = some (.lst xs)) (q : Q (.lst xs.reverse) μ) : drRev (.ref a) μ Q := by
  unfold drRev; simp only [seqD, m]; exact q
theorem dr_tupleT (q : Q (.tup xs) μ) : drTuple [.tup xs] μ Q := q
theorem dr_tupleL (q : Q (.tup xs) μ) : drTuple [.lst xs] μ Q := q
theorem dr_tupleR (m : μ a = some (.lst xs)) (q : Q (.tup xs) μ) : drTuple [.ref a] μ Q := by
  unfold drTuple; simp only [seqD, m]; exact q
theorem ix_at {k : Int} (e : seqD μ x = some xs) (hs : ∀ z, x ≠ .str z) (h : atI xs k = some d) (q : Q d μ) : dIx x (.int k) μ Q := by
  unfold dIx
  cases x with
  | str z => exact (hs z rfl).elim
  | _ => simp only [e, h]; exact q
theorem ix_tup {k : Int} (h : atI xs k = some d) (q : Q d μ) : dIx (.tup xs) (.int k) μ Q := ix_at rfl (fun _ z => by cases z) h q
theorem ix_lst {k : Int} (h : atI xs k = some d) (q : Q d μ) : dIx (.lst xs) (.int k) μ Q := ix_at rfl (fun _ z => by cases z) h q
theorem ix_rol {k : Int} (h : atI xs k = some d) (q : Q d μ) : dIx (.rol xs) (.int k) μ Q := ix_at rfl (fun _ z => by cases z) h q
theorem ix_ref {k : Int} (m : μ a = some (.lst xs)) (h : atI xs k = some d) (q : Q d μ) : dIx (.ref a) (.int k) μ Q := ix_at (by simp [seqD, m]) (fun _ z => by cases z) h q
theorem put_ok {kvs : List (Key × SD)} {k : Key} {v : SD} {R : Mu → Prop} (m : μ a = some (.dic kvs)) (hk : keyD y = some k) (l : kvs.length < sizeLine) (q : R (up μ a (.dic (putD kvs k v)))) : drPut (.ref a) y v μ R := by
  unfold drPut
  have e : mdic μ (.ref a) = some (a, kvs) := by simp [mdic, m]
  simp only [e, hk]
  exact ⟨l, q⟩
theorem get_ok {kvs : List (Key × SD)} {k : Key} {v : SD} (m : dicD μ x = some kvs) (hk : keyD y = some k) (h : valD kvs k = some v) (q : Q v μ) : drGet x y μ Q := by
  unfold drGet; simp only [m, hk, h]; exact q
theorem get2_ok {kvs : List (Key × SD)} {k : Key} {z : SD} (m : dicD μ x = some kvs) (hk : keyD y = some k) (q : Q ((valD kvs k).getD z) μ) : drGet2 x y z μ Q := by
  unfold drGet2; simp only [m, hk]; exact q
theorem din_ok {kvs : List (Key × SD)} {k : Key} {neg : Bool} (m : dicD μ x = some kvs) (hk : keyD y = some k) (q : Q (.bl (neg != (valD kvs k).isSome)) μ) : drDIn neg x y μ Q := by
  unfold drDIn; simp only [m, hk]; exact q
theorem dicD_ref {kvs : List (Key × SD)} (m : μ a = some (.dic kvs)) : dicD μ (.ref a) = some kvs := by simp [dicD, m]
/-- for x in t, t a tuple -/
theorem for_T {g : DTG} {tb : DTS} {D : DEnds} (h : ρ[i]? = some (some (.tup xs))) (k : ∃ W : Nat → Rho → Mu → Prop, W 0 ρ μ ∧ (∀ i d ρ μ, xs[i]? = some d → W i ρ μ → g d ρ μ fun ρ2 μ2 => tb { D with nx := W (i + 1), ct := W (i + 1), bk := D.nx } ρ2 μ2) ∧ ∀ ρ μ, W xs.length ρ μ → D.nx ρ μ) : dFor (jSeq (dVar i)) g tb D ρ μ := by
  obtain ⟨W, h0, hs, hf⟩ := k
  unfold dFor
  refine r_var h ?_
  exact ⟨W, h0, fun _ _ _ _ _ => rfl, hs, hf⟩
theorem for_L {g : DTG} {tb : DTS} {D : DEnds} (h : ρ[i]? = some (some (.lst xs))) (k : ∃ W : Nat → Rho → Mu → Prop, W 0 ρ μ ∧ (∀ i d ρ μ, xs[i]? = some d → W i ρ μ → g d ρ μ fun ρ2 μ2 => tb { D with nx := W (i + 1), ct := W (i + 1), bk := D.nx } ρ2 μ2) ∧ ∀ ρ μ, W xs.length ρ μ → D.nx ρ μ) : dFor (jSeq (dVar i)) g tb D ρ μ := by
  obtain ⟨W, h0, hs, hf⟩ := k
  unfold dFor
  refine r_var h ?_
  exact ⟨W, h0, fun _ _ _ _ _ => rfl, hs, hf⟩
theorem ifT {c : Bool} {A B : Prop} (hc : c = true) (h : A) : if c = true then A else B := by rw [if_pos hc]; exact h
theorem ifF {c : Bool} {A B : Prop} (hc : c = false) (h : B) : if c = true then A else B := by rw [if_neg (by rw [hc]; exact Bool.false_ne_true)]; exact h
theorem lt_line {n m : Nat} (h : n ≤ m) (h2 : m ≤ 1000000) : n < sizeLine := by rw [sizeLine_eq]; omega
theorem le_line {n m : Nat} (h : n ≤ m) (h2 : m ≤ 1000000) : n ≤ sizeLine := by rw [sizeLine_eq]; omega
/-- a comprehension that changes nothing -/
theorem lc_pure {ds zs : List SD} {ok : Mu → Prop} {j : Nat} {R : List SD → Mu → Prop} (hok : ok μ) (hl : ds.length ≤ 1000000) (hy : zs.length = ds.length) (el : ∀ (i : Nat) (d y : SD), ds[i]? = some d → zs[i]? = some y → ∀ R : SD → Mu → Prop, R y μ → te ((wipeR ρ [j]).set j (some d)) μ R) (q : R zs μ) :
    ds.length ≤ sizeLine ∧ ∃ W : Nat → List SD → Mu → Prop, W 0 [] μ ∧ (∀ i acc μ', i ≤ ds.length → W i acc μ' → ok μ') ∧ (∀ i d acc μ', ds[i]? = some d → W i acc μ' → hName j d (wipeR ρ [j]) μ' fun ρ2 μ2 => dYes ρ2 μ2 fun b μ3 => if b = true then te ρ2 μ3 fun y μ4 => W (i+1) (acc ++ [y]) μ4 else W (i+1) acc μ3) ∧ ∀ acc μ', W ds.length acc μ' → R acc μ' := by
  refine ⟨le_line hl (Nat.le_refl _), fun i acc μ' => acc = zs.take i ∧ μ' = μ, ⟨rfl, rfl⟩, ?_, ?_, ?_⟩
  · rintro i acc μ' _ ⟨_, rfl⟩; exact hok
  · rintro i d acc μ' hd ⟨rfl, rfl⟩
    have hi := (List.getElem?_eq_some_iff.mp hd).1
    have hz : zs[i]? = some zs[i] := List.getElem?_eq_getElem (by omega)
    refine ifT rfl (el i d _ hd hz _ ⟨?_, rfl⟩)
    rw [List.take_succ, hz]; rfl
  · rintro acc μ' ⟨rfl, rfl⟩
    rw [List.take_of_length_le (by omega)]; exact q
theorem isi_of {n t : String} {b : Bool} (ht : tyD μ d = some t) (hb : kitB t n = some b) (q : Q (.bl b) μ) : drIsi [d, .ty n] μ Q := by
  unfold drIsi
  have : isiB μ d n = some b := by unfold isiB; simp only [ht, hb]
  simp only [this]; exact q
theorem kit_str_str : kitB "str" "str" = some true := by decide +kernel
theorem inS_sts {o : Str} {l : List Str} : inS (.str o) (l.map SD.str) = decide (o ∈ l) := by
  unfold inS
  rw [Bool.eq_iff_iff, List.any_eq_true, decide_eq_true_eq]
  constructor
  · rintro ⟨x, hx, e⟩
    obtain ⟨y, hy, rfl⟩ := List.mem_map.mp hx
    have : y = o := by simpa [eqA, DS.plain, eqV] using e
    subst this; exact hy
  · intro h
    exact ⟨.str o, List.mem_map.mpr ⟨o, h, rfl⟩, by simp [eqA, DS.plain, eqV]⟩
theorem flat_sts {l : List Str} : (l.map SD.str).all flatD = true := by
  rw [List.all_eq_true]
  intro x hx
  obtain ⟨y, hy, rfl⟩ := List.mem_map.mp hx
  rfl
theorem in_sts {neg : Bool} {o : Str} {l : List Str} (e : seqD μ y = some (l.map SD.str)) (hs : ∀ z, y ≠ .str z) (q : Q (.bl (neg != decide (o ∈ l))) μ) : dIn neg (.str o) y μ Q := by
  unfold dIn
  cases y with
  | str z => exact (hs z rfl).elim
  | _ => simp only [e]; exact ⟨⟨rfl, flat_sts⟩, by rw [inS_sts]; exact q⟩
variable {m n : Int}
theorem i_add (q : Q (.int (m + n)) μ) : dAdd (.int m) (.int n) μ Q := q
theorem i_sub (q : Q (.int (m - n)) μ) : dSub (.int m) (.int n) μ Q := q
theorem i_mul (h : IntMulOk m n) (q : Q (.int (m * n)) μ) : dMul (.int m) (.int n) μ Q := ⟨h, q⟩
theorem i_mod (h : 0 < n) (q : Q (.int (m % n)) μ) : dMod (.int m) (.int n) μ Q := ⟨h, q⟩
theorem i_div (h : CDivW m n) (q : Q (.int (m / n)) μ) : dDiv (.int m) (.int n) μ Q := ⟨h, q⟩
theorem i_pow (h : CPowW m n) (q : Q (.int (m ^ n.toNat)) μ) : dPow (.int m) (.int n) μ Q := ⟨h, q⟩
theorem i_lt (q : Q (.bl (decide (m < n))) μ) : dLt (.int m) (.int n) μ Q := q
theorem i_gt (q : Q (.bl (decide (n < m))) μ) : dGt (.int m) (.int n) μ Q := q
theorem i_le (q : Q (.bl (decide (m ≤ n))) μ) : dLe (.int m) (.int n) μ Q := q
theorem i_ge (q : Q (.bl (decide (n ≤ m))) μ) : dGe (.int m) (.int n) μ Q := q
theorem s_add {u v : Str} (h : u.length + v.length ≤ sizeLine) (q : Q (.str (u ++ v)) μ) : dAdd (.str u) (.str v) μ Q := ⟨h, q⟩
theorem s_mul {u : Str} (h : (0 ≤ n ∧ n ≤ 1000000 ∧ u.length * n.toNat ≤ sizeLine)) (q : Q (.str (repS u n.toNat)) μ) : dMul (.str u) (.int n) μ Q := ⟨h, q⟩
theorem l_add (h : xs.length + ys.length ≤ sizeLine) (q : Q (.lst (xs ++ ys)) μ) : dAdd (.lst xs) (.lst ys) μ Q := by
  unfold dAdd; exact ⟨h, q⟩
theorem l_mul (h : (-(2 ^ 63) ≤ n ∧ n < 2 ^ 63 ∧ xs.length * n.toNat ≤ sizeLine)) (q : Q (.lst (List.replicate n.toNat xs).flatten) μ) : dMul (.lst xs) (.int n) μ Q := by
  unfold dMul; exact ⟨h, q⟩
theorem l_len (q : Q (.int xs.length) μ) : drLen [.lst xs] μ Q := q
theorem l_lenR (hm : μ a = some (.lst xs)) (q : Q (.int xs.length) μ) : drLen [.ref a] μ Q := by
  unfold drLen; simp only [seqD, hm]; exact q
theorem l_lenT (q : Q (.int xs.length) μ) : drLen [.tup xs] μ Q := q
theorem l_lenO (q : Q (.int xs.length) μ) : drLen [.rol xs] μ Q := q
theorem l_lenS {u : Str} (h : u.length ≤ sizeLine) (q : Q (.int u.length) μ) : drLen [.str u] μ Q := ⟨h, q⟩
theorem ix_str {u : Str} {k : Int} {c : Nat} (h : u.length ≤ sizeLine) (e : atI u.cps.toList k = some c) (q : Q (.str ⟨#[c]⟩) μ) : dIx (.str u) (.int k) μ Q := by
  unfold dIx; simp only [e]; exact ⟨h, q⟩
/-- for i in range(n) -/
theorem for_R {n : Nat} {g : DTG} {tb : DTS} {D : DEnds} (h : ρ[i]? = some (some (.int n))) (hn : n ≤ 1000000) (k : ∃ W : Nat → Rho → Mu → Prop, W 0 ρ μ ∧ (∀ (j : Nat) ρ μ, j < n → W j ρ μ → g (.int j) ρ μ fun ρ2 μ2 => tb { D with nx := W (j + 1), ct := W (j + 1), bk := D.nx } ρ2 μ2) ∧ ∀ ρ μ, W n ρ μ → D.nx ρ μ) : dFor (jRng1 (dCons (dVar i) dNil)) g tb D ρ μ := by
  obtain ⟨W, h0, hs, hf⟩ := k
  unfold dFor
  refine r_var h ?_
  refine ⟨⟨by omega, by omega⟩, W, h0, fun _ _ _ _ _ => trivial, ?_, ?_⟩
  · intro j d ρ μ hd w
    simp only [Int.toNat_natCast] at hd
    rw [List.getElem?_map] at hd
    cases e : (List.range n)[j]? with
    | none => rw [e] at hd; cases hd
    | some x =>
      rw [e] at hd; cases hd
      obtain ⟨h1, h2⟩ := List.getElem?_eq_some_iff.mp e
      rw [List.getElem_range] at h2; subst h2
      exact hs j ρ μ (by simpa using h1) w
  · intro ρ μ w
    exact hf ρ μ (by simpa using w)
theorem sl_L {l u : Option Int} (q : Q (.lst (cutL xs l u)) μ) : drSl (.lst xs) l u μ Q := q
theorem sl_T {l u : Option Int} (q : Q (.tup (cutL xs l u)) μ) : drSl (.tup xs) l u μ Q := q
theorem mem_cutL {α : Type} {xs : List α} {l u : Option Int} {x : α} (h : x ∈ cutL xs l u) : x ∈ xs := by
  unfold cutL at h; exact List.mem_of_mem_drop (List.mem_of_mem_take h)
theorem cutL_from {α : Type} (xs : List α) (k : Nat) : cutL xs (some k) none = xs.drop k := by
  unfold cutL
  rw [HT.sIx_nat, HT.sIx_none]
  by_cases h : k ≤ xs.length
  · rw [Nat.min_eq_left h, List.take_of_length_le (by simp)]
  · rw [Nat.min_eq_right (by omega), List.drop_of_length_le (Nat.le_refl _), List.drop_of_length_le (by omega)]; simp
theorem cutL_to {α : Type} (xs : List α) (k : Nat) : cutL xs none (some k) = xs.take k := by
  unfold cutL
  rw [HT.sIx_nat, HT.sIx_none]
  simp
theorem valD_mapk {α : Type} {ks : List Str} {g : Str → α} {k : Str} : valD (ks.map fun k => ((Sum.inr k : Key), g k)) (.inr k) = if k ∈ ks then some (g k) else none := by
  induction ks with
  | nil => simp [valD_nil]
  | cons x r ih =>
    rw [List.map_cons, valD_cons, ih]
    by_cases h : x = k
    · subst h; simp
    · have : ¬ ((Sum.inr x : Key) = Sum.inr k) := fun z => h (by cases z; rfl)
      rw [if_neg this]
      by_cases h2 : k ∈ r
      · rw [if_pos h2, if_pos (List.mem_cons_of_mem _ h2)]
      · rw [if_neg h2, if_neg (by simp [Ne.symm h, h2])]
theorem putD_mapk {α : Type} {ks : List Str} {g : Str → α} {x : Str} {v : α} (h : x ∉ ks) : putD (ks.map fun k => ((Sum.inr k : Key), g k)) (.inr x) v = (ks.map fun k => ((Sum.inr k : Key), g k)) ++ [(.inr x, v)] := by
  unfold putD
  rw [if_neg]
  intro z
  rw [List.any_map] at z
  obtain ⟨k, hk, e⟩ := List.any_eq_true.mp z
  simp at e
  exact h (e ▸ hk)
theorem up_none {p : Addr} {o : MO} (h : up μ a o p = none) : p ≠ a ∧ μ p = none := by
  by_cases e : p = a
  · subst e; rw [up_same] at h; cases h
  · rw [up_ne e] at h; exact ⟨e, h⟩
theorem enums_at {k : Nat} {d : SD} (h : (enums xs)[k]? = some d) : ∃ y, xs[k]? = some y ∧ d = .tup [.int k, y] := by
  unfold enums at h
  rw [List.getElem?_mapIdx] at h
  cases e : xs[k]? with
  | none => rw [e] at h; cases h
  | some y => rw [e] at h; cases h; exact ⟨y, rfl, rfl⟩
theorem mul_okS {m n : Int} (h : -1000000 ≤ m ∧ m ≤ 1000000) (h2 : -1000000 ≤ n ∧ n ≤ 1000000) : IntMulOk m n := CMulW.ok (by
  have a : ∀ i : Int, -1000000 ≤ i ∧ i ≤ 1000000 → i.natAbs.log2 < 20 := fun i hi => by
    by_cases e : i.natAbs = 0
    · rw [e]; decide
    · exact (Nat.log2_lt e).mpr (by omega)
  have := a m h; have := a n h2; unfold CMulW; omega)
end
end MA
/-! MK1: keys_of, parents_by_key, children_by_key. -/
namespace LK
open PySem PySem.Spec PyProof.Rows L2 DS MA
def sts (ks : List Str) : List SD := ks.map SD.str
def sp_keys_of : DSp := fun ds μ Q _ => ∃ t, ds = [enc t] ∧ TOk t ∧ ∀ μ', Le μ μ' → Q (.tup (sts (pre t))) μ'
theorem len_keys_of : ∀ ds μ Q E, sp_keys_of ds μ Q E → ds.length = 1 := by rintro ds μ Q E ⟨t, rfl, _⟩; rfl
def t_keys_of : DTS := (dSeq (dPar 1 2 (dCons (dLstM dNil) (dCons (dLstM (dCons (dVar 0) dNil)) dNil)))
    (dSeq (dWhile (dTest (dOp (dEq true) (dVar 2) (dLst dNil))) (dSeq (dAsg (dLM0 dmPop (dVar 2)) (hTup 2 (hCons (hName 3) (hCons (hName 4) hNil))))
    (dSeq (dDrop (dLM dmAppend (dVar 1) (dCons (dVar 3) dNil)))
    (dDrop (dLM dmExtend (dVar 2) (dCons (dRev (dVar 4)) dNil))))))
    (dRet (dCB drTuple (dCons (dVar 1) dNil)))))
theorem read_keys_of : ∀ ds μ Q E, sp_keys_of ds μ Q E → t_keys_of { nx := fun _ μ' => Q .non μ', rt := Q } (begin_ ["tree", "found", "waiting", "key", "children"] ds) μ := by
  rintro ds μ Q E ⟨t, rfl, ok, q⟩
  refine ⟨by decide, fun p hp => ⟨(by show 1 ≤ sizeLine; decide), fun w hw => ?_⟩⟩
  have hpw : p ≠ w := fun e => by subst e; rw [up_same] at hw; cases hw
  rw [up_ne (Ne.symm hpw)] at hw
  refine ⟨fun m ρ μ' => ∃ ts done a b, ρ = [some (enc t), some (.ref p), some (.ref w), a, b] ∧ Le μ μ' ∧ μ' p = some (.lst (sts done)) ∧ μ' w = some (.lst (encL ts)) ∧ m = (preL ts).length ∧ done ++ preL ts.reverse = pre t ∧ (∀ t ∈ ts, dep t ≤ 30), ?_, ?_⟩
  · refine ⟨_, [t], [], none, none, rfl, ((Le.refl μ).up hp).up hw, by rw [up_ne hpw, up_same]; rfl, by rw [up_same]; simp [encL], rfl, by simp [preL], by simpa using ok.dep⟩
  · rintro m ρ μ1 ⟨ts, done, a, b, rfl, le, hp1, hw1, rfl, e, hd⟩
    obtain ⟨gp, g⟩ := encL_good ts (fun k hk => ok.keys k (by rw [← e]; exact List.mem_append_right _ (by rw [preL_mem] at hk ⊢; simpa using hk)))
    have hd' := depL_le hd
    refine r_var rfl ?_
    refine ⟨Nat.zero_le _, ?_⟩
    refine eq_nilR hw1 g (by omega) ?_
    rcases List.eq_nil_or_concat ts with rfl | ⟨ts', t', rfl⟩
    · refine ifF rfl ?_
      refine dr_tupleR hp1 ?_
      have : done = pre t := by simpa [preL] using e
      subst this
      exact q μ1 le
    · obtain ⟨k, cs⟩ := t'
      rw [List.concat_eq_append] at *
      rw [encL_append] at hw1
      refine ifT (by simp [encL_append, encL]) ⟨_, fun _ _ h => h, ?_⟩
      dsimp only
      refine r_var rfl ⟨isSome_ref hw1, ?_⟩
      refine dm_pop hw1 ?_
      refine ⟨rfl, rfl, ?_⟩
      dsimp only
      have e1 : done ++ (k :: (preL cs ++ preL ts'.reverse)) = pre t := by simpa [preL, preL_append, pre] using e
      have hl : done.length + (preL cs).length + 1 ≤ 1000 := by
        have := congrArg List.length e1; have := ok.len; simp at *; omega
      have hl2 : ts'.length + cs.length ≤ 1000 := by
        have h1 := congrArg List.length e1; have := ok.len; have := len_le_preL cs; have := len_le_preL ts'
        have := preL_reverse_len ts'; simp at h1; omega
      refine r_var rfl ⟨isSome_ref (by rw [up_ne hpw]; exact hp1), ?_⟩
      refine r_var rfl ?_
      refine dm_append (by rw [up_ne hpw]; exact hp1) (lt_line (m := 1000) (by simp [sts]; omega) (by omega)) ?_
      dsimp only
      refine r_var rfl ⟨isSome_ref (by rw [up_ne (Ne.symm hpw), up_same]), ?_⟩
      refine r_var rfl ?_
      refine rev_T ?_
      refine dm_extendT (by rw [up_ne (Ne.symm hpw), up_same]) (le_line (m := 1000) (by simp [encL_length]; omega) (by omega)) ?_
      refine ⟨_, ?_, ts' ++ cs.reverse, done ++ [k], _, _, rfl, ?_, ?_, ?_, rfl, ?_, ?_⟩
      · have := preL_reverse_len cs
        simp [preL_append, preL, pre]; omega
      · exact ((le.up hw).up hp).up hw
      · rw [up_ne hpw, up_same]; simp [sts]
      · rw [up_same, encL_append, encL_reverse]
      · rw [← e1]; simp [preL_append]
      · intro t' h'
        rcases List.mem_append.mp h' with h' | h'
        · exact hd t' (List.mem_append_left _ h')
        · have h1 := hd _ (List.mem_append_right _ (List.mem_singleton.mpr rfl))
          have h2 := depL_mem (List.mem_reverse.mp h')
          rw [dep] at h1; omega
end LK
/-! KP: costs: price_of, cost_of, moved. -/
namespace LK
open PySem PySem.Spec PyProof.Rows L2 DS MA
/-! each name once -/
def ddp : List Str → List Str
  | [] => []
  | x :: r => if x ∈ r then ddp r else x :: ddp r
theorem ddp_mem {k : Str} : ∀ {l : List Str}, k ∈ ddp l ↔ k ∈ l
  | [] => Iff.rfl
  | x :: r => by
    unfold ddp
    by_cases h : x ∈ r
    · rw [if_pos h, ddp_mem, List.mem_cons]
      exact ⟨.inr, fun z => z.elim (fun e => e ▸ h) id⟩
    · rw [if_neg h, List.mem_cons, List.mem_cons, ddp_mem]
theorem ddp_nd : ∀ l : List Str, (ddp l).Nodup
  | [] => List.nodup_nil
  | x :: r => by
    unfold ddp
    by_cases h : x ∈ r
    · rw [if_pos h]; exact ddp_nd r
    · rw [if_neg h]; exact List.nodup_cons.mpr ⟨fun z => h (ddp_mem.mp z), ddp_nd r⟩
theorem ddp_len : ∀ l : List Str, (ddp l).length ≤ l.length
  | [] => Nat.le_refl _
  | x :: r => by
    unfold ddp
    have := ddp_len r
    split <;> simp only [List.length_cons] <;> omega
/-- the names, ascending, each once -/
def srtU (l : List Str) : List Str := srt (ddp l)
theorem perm_same {u v : List Str} (hu : u.Nodup) (hv : v.Nodup) (h : ∀ k, k ∈ u ↔ k ∈ v) : u.Perm v := (List.perm_ext_iff_of_nodup hu hv).mpr h
theorem dist_srt {l u : List Str} (d : Dist l u) : srt u = srtU l := srt_congr (perm_same d.nd (ddp_nd l) fun k => by rw [d.mem, ddp_mem])
theorem srtU_mem {l : List Str} {k : Str} : k ∈ srtU l ↔ k ∈ l := by unfold srtU; rw [(srt_perm _).mem_iff, ddp_mem]
theorem srtU_nd (l : List Str) : (srtU l).Nodup := (srt_perm _).nodup_iff.mpr (ddp_nd l)
theorem srtU_len (l : List Str) : (srtU l).length ≤ l.length := by unfold srtU; rw [(srt_perm _).length_eq]; exact ddp_len l
theorem sortSet_ok {μ : Mu} {x : SD} {l : List Str} {Q : SD → Mu → Prop} (h : lstD μ x = some (sts l)) (hl : l.length ≤ 4000) (q : Q (.lst (sts (srtU l))) μ) : drSortSet Q x μ := by
  unfold drSortSet
  rw [h]
  simp only [sts, strsOf_map]
  exact ⟨hl, fun u d => by rw [dist_srt d]; exact q⟩
/-! a comprehension that keeps some and turns them; the memory may grow -/
theorem lc_sel {ρ : Rho} {μ : Mu} {g : DTG} {tt : DTT} {te : DTE} {vs : List Nat} {ds : List SD} {ok : Mu → Prop} {R : List SD → Mu → Prop} (sel : SD → Option SD) (hok : ∀ μ', Le μ μ' → ok μ') (hl : ds.length ≤ 1000000)
    (el : ∀ d ∈ ds, ∀ μ', Le μ μ' → ∀ (A : SD → Mu → Prop) (B : Mu → Prop), (∀ y, sel d = some y → ∀ μ2, Le μ' μ2 → A y μ2) → (sel d = none → ∀ μ2, Le μ' μ2 → B μ2) → g d (wipeR ρ vs) μ' fun ρ2 μ2 => tt ρ2 μ2 fun b μ3 => if b = true then te ρ2 μ3 A else B μ3)
    (q : ∀ μ', Le μ μ' → R (ds.filterMap sel) μ') :
    ds.length ≤ sizeLine ∧ ∃ W : Nat → List SD → Mu → Prop, W 0 [] μ ∧ (∀ i acc μ', i ≤ ds.length → W i acc μ' → ok μ') ∧ (∀ i d acc μ', ds[i]? = some d → W i acc μ' → g d (wipeR ρ vs) μ' fun ρ2 μ2 => tt ρ2 μ2 fun b μ3 => if b = true then te ρ2 μ3 fun y μ4 => W (i+1) (acc ++ [y]) μ4 else W (i+1) acc μ3) ∧ ∀ acc μ', W ds.length acc μ' → R acc μ' := by
  refine ⟨le_line hl (Nat.le_refl _), fun i acc μ' => acc = (ds.take i).filterMap sel ∧ Le μ μ', ⟨rfl, Le.refl _⟩, fun i acc μ' _ h => hok _ h.2, ?_, ?_⟩
  · rintro i d acc μ' hd ⟨rfl, l⟩
    have e : (ds.take (i + 1)).filterMap sel = (ds.take i).filterMap sel ++ (sel d).toList := by
      rw [List.take_succ, hd, List.filterMap_append]
      simp only [Option.toList, List.filterMap_cons, List.filterMap_nil]
      cases sel d <;> rfl
    refine el d (List.mem_of_getElem? hd) μ' l _ _ (fun y hy μ2 l2 => ⟨?_, l.trans l2⟩) fun hn μ2 l2 => ⟨?_, l.trans l2⟩
    · rw [e, hy]; rfl
    · rw [e, hn]; simp
  · rintro acc μ' ⟨rfl, l⟩
    rw [List.take_length]; exact q μ' l
theorem sum_ok {μ : Mu} {l : List Int} {Q : SD → Mu → Prop} (q : Q (.int l.sum) μ) : drSum [.lst (l.map SD.int)] μ Q := by
  unfold drSum
  refine ⟨rfl, ?_⟩
  simp only [seqD, intsD_map]
  exact q
theorem eqw {μ : Mu} {Q : SD → Mu → Prop} {u v : Str} (q : Q (.bl (decide (u = v))) μ) : dEq false (.str u) (.str v) μ Q := by
  unfold dEq
  rw [show eqD μ (.str u) (.str v) = some (decide (u = v)) by unfold eqD; rfl]
  show Q (.bl (false != decide (u = v))) μ
  rw [Bool.false_bne]; exact q
/-! operations: a word, a name, more -/
def opW : SD → Str × Str
  | .tup (.str w :: .str k :: _) => (w, k)
  | _ => ("", "")
def Deed (d : SD) : Prop := ∃ w k rest, d = .tup (.str w :: .str k :: rest)
/-- the name that is moved -/
def mvN (d : SD) : Option Str := if (opW d).1 = "move" then some (opW d).2 else none
def sp_moved : DSp := fun ds μ Q _ => ∃ ops : List SD, ds = [.tup ops] ∧ (∀ d ∈ ops, Deed d) ∧ ops.length ≤ 4000 ∧ ∀ μ', Le μ μ' → Q (.tup (sts (srtU (ops.filterMap mvN)))) μ'
theorem len_moved : ∀ ds μ Q E, sp_moved ds μ Q E → ds.length = 1 := by rintro ds μ Q E ⟨ops, rfl, _⟩; rfl
def t_moved : DTS := (dRet (dCB drTuple (dCons (dSortSet (dLcS (jSeq (dVar 0)) (hName 1) (dTest (dOp (dEq false) (dOp dIx (dVar 1) (dC (.int 0))) (dC (.str "move")))) (dOp dIx (dVar 1) (dC (.int 1))) [1])) dNil)))
theorem sel_sts {f : SD → Option Str} : ∀ {l : List SD}, l.filterMap (fun d => (f d).map SD.str) = sts (l.filterMap f)
  | [] => rfl
  | d :: r => by
    rw [List.filterMap_cons, List.filterMap_cons]
    cases h : f d with
    | none => exact sel_sts
    | some x => simp only [Option.map_some]; rw [sel_sts]; rfl
/-- [operation[1] for operation in x if operation[0] == 'move'] -/
theorem moved_lc {ρ : Rho} {μ : Mu} {ops : List SD} {i v : Nat} {x : SD} {Q : SD → Mu → Prop} (hv : ρ[v]? = some (some x)) (hx : x = .tup ops ∨ ∃ a, x = .ref a ∧ μ a = some (.lst ops)) (hop : ∀ d ∈ ops, Deed d) (hl : ops.length ≤ 100000) (hi : i < ρ.length) (q : ∀ μ', Le μ μ' → Q (.lst (sts (ops.filterMap mvN))) μ') :
    dLcS (jSeq (dVar v)) (hName i) (dTest (dOp (dEq false) (dOp dIx (dVar i) (dC (.int 0))) (dC (.str "move")))) (dOp dIx (dVar i) (dC (.int 1))) [i] ρ μ Q := by
  have el : ∀ d ∈ ops, ∀ μ', Le μ μ' → ∀ (A : SD → Mu → Prop) (B : Mu → Prop), (∀ y, (mvN d).map SD.str = some y → ∀ μ2, Le μ' μ2 → A y μ2) → ((mvN d).map SD.str = none → ∀ μ2, Le μ' μ2 → B μ2) →
      hName i d (wipeR ρ [i]) μ' fun ρ2 μ2 => dTest (dOp (dEq false) (dOp dIx (dVar i) (dC (.int 0))) (dC (.str "move"))) ρ2 μ2 fun b μ3 => if b = true then dOp dIx (dVar i) (dC (.int 1)) ρ2 μ3 A else B μ3 := fun d hd μ' l A B yes no => by
    obtain ⟨w, k, rest, rfl⟩ := hop d hd
    have wl : i < (wipeR ρ [i]).length := by simp [wipeR]; exact hi
    have gi : ((wipeR ρ [i]).set i (some (SD.tup (.str w :: .str k :: rest))))[i]? = some (some (.tup (.str w :: .str k :: rest))) := by rw [List.getElem?_set_self wl]
    refine r_var gi ?_
    refine ix_tup (d := .str w) (atI_nat (j := 0) rfl) ?_
    refine eqw ?_
    by_cases e : w = "move"
    · rw [decide_eq_true e]
      refine ifT rfl ?_
      refine r_var gi ?_
      refine ix_tup (d := .str k) (atI_nat (j := 1) rfl) ?_
      exact yes (.str k) (by unfold mvN opW; dsimp only; rw [if_pos e]; rfl) μ' (Le.refl _)
    · rw [decide_eq_false e]
      refine ifF rfl ?_
      exact no (by unfold mvN opW; dsimp only; rw [if_neg e]; rfl) μ' (Le.refl _)
  unfold dLcS dLc
  refine r_var hv ?_
  rcases hx with rfl | ⟨a, rfl, m⟩
  · exact lc_sel (fun d => (mvN d).map SD.str) (fun _ _ => rfl) (by omega) el fun μ' l => by rw [sel_sts]; exact q μ' l
  · have e : ∀ μ', Le μ μ' → seqD μ' (.ref a) = some ops := fun μ' l => by simp only [seqD, l a _ m]
    dsimp only
    rw [e μ (Le.refl _)]
    exact lc_sel (fun d => (mvN d).map SD.str) e (by omega) el fun μ' l => by rw [sel_sts]; exact q μ' l
theorem read_moved : ∀ ds μ Q E, sp_moved ds μ Q E → t_moved { nx := fun _ μ' => Q .non μ', rt := Q } (begin_ ["operations", "operation"] ds) μ := by
  rintro ds μ Q E ⟨ops, rfl, hop, hl, q⟩
  unfold t_moved
  refine moved_lc rfl (.inl rfl) hop (by omega) (by show 1 < 2; decide) fun μ1 l1 => ?_
  have len : (ops.filterMap mvN).length ≤ 4000 := Nat.le_trans (List.length_filterMap_le ..) hl
  refine sortSet_ok (l := ops.filterMap mvN) rfl len ?_
  exact q μ1 l1
/-! prices -/
def pr (l : List (Str × Int)) (k : Str) : Int := ((l.find? fun p => decide (p.1 = k)).map (·.2)).getD 1
theorem pr_at : ∀ {l : List (Str × Int)} {p : Str × Int}, (l.map (·.1)).Nodup → p ∈ l → pr l p.1 = p.2
  | a :: r, p, nd, h => by
    unfold pr
    rw [List.map_cons, List.nodup_cons] at nd
    by_cases e : a.1 = p.1
    · rw [List.find?_cons_of_pos (by simpa using e)]
      rcases List.mem_cons.mp h with rfl | h
      · rfl
      · exact (nd.1 (e ▸ List.mem_map_of_mem h)).elim
    · rw [List.find?_cons_of_neg (by simpa using e)]
      rcases List.mem_cons.mp h with rfl | h
      · exact (e rfl).elim
      · exact pr_at nd.2 h
theorem pr_out {l : List (Str × Int)} {k : Str} (h : k ∉ l.map (·.1)) : pr l k = 1 := by
  unfold pr
  rw [List.find?_eq_none.mpr fun p hp z => h (by rw [← of_decide_eq_true z]; exact List.mem_map_of_mem hp)]; rfl
theorem pr_perm {l l' : List (Str × Int)} (nd : (l.map (·.1)).Nodup) (p : l'.Perm l) (k : Str) : pr l' k = pr l k := by
  have nd' : (l'.map (·.1)).Nodup := (p.map _).nodup_iff.mpr nd
  by_cases h : k ∈ l.map (·.1)
  · obtain ⟨x, hx, rfl⟩ := List.mem_map.mp h
    rw [pr_at nd hx, pr_at nd' (p.mem_iff.mpr hx)]
  · rw [pr_out h, pr_out fun z => h ((p.map _).mem_iff.mp z)]
theorem kvs_pr {l : List (Str × Int)} (nd : (l.map (·.1)).Nodup) : (l.map fun p => ((.inr p.1 : Key), SD.int p.2)) = (l.map (·.1)).map fun k => ((.inr k : Key), SD.int (pr l k)) := by
  rw [List.map_map]
  exact List.map_congr_left fun p hp => by rw [Function.comp, pr_at nd hp]
theorem pairsD_si : ∀ l : List (Str × Int), pairsD (l.map siD) = some (l.map fun p => ((.inr p.1 : Key), SD.int p.2))
  | [] => rfl
  | p :: l => by
    rw [List.map_cons, siD, pairsD]
    simp only [keyD, pairsD_si l, List.map_cons]
theorem merge_one {g : Str → SD} : ∀ {ks done : List Str}, (done ++ ks).Nodup → mergeD (done.map fun k => ((.inr k : Key), g k)) (ks.map fun k => ((.inr k : Key), g k)) = (done ++ ks).map fun k => ((.inr k : Key), g k)
  | [], done, _ => by simp [mergeD]
  | k :: r, done, nd => by
    have hk : k ∉ done := fun z => (List.nodup_append.mp nd).2.2 k z k (List.mem_cons_self ..) rfl
    have nd2 : ((done ++ [k]) ++ r).Nodup := by simpa using nd
    show mergeD (putD (done.map fun k => ((.inr k : Key), g k)) (.inr k) (g k)) (r.map fun k => ((.inr k : Key), g k)) = _
    rw [putD_mapk (g := g) hk, show (done.map fun k => ((.inr k : Key), g k)) ++ [(.inr k, g k)] = (done ++ [k]).map fun k => ((.inr k : Key), g k) by simp, merge_one nd2]
    simp
/-- dict(costs).get(k, 1) -/
theorem get_pr {μ : Mu} {x : SD} {l : List (Str × Int)} {k : Str} {Q : SD → Mu → Prop} (nd : (l.map (·.1)).Nodup) (m : dicD μ x = some (l.map fun p => ((.inr p.1 : Key), SD.int p.2))) (q : Q (.int (pr l k)) μ) : drGet2 x (.str k) (.int 1) μ Q := by
  unfold drGet2
  rw [m]
  simp only [keyD]
  rw [kvs_pr nd, valD_mapk (g := fun k => SD.int (pr l k))]
  by_cases h : k ∈ l.map (·.1)
  · rw [if_pos h]; exact q
  · rw [if_neg h]; rw [pr_out h] at q; exact q
theorem dictT_ok {μ : Mu} {l : List (Str × Int)} {Q : SD → Mu → Prop} (nd : (l.map (·.1)).Nodup) (q : ∀ p, μ p = none → Q (.ref p) (up μ p (.dic (l.map fun p => ((.inr p.1 : Key), SD.int p.2))))) : drDictT [.ptp (l.map siD)] μ Q := by
  have e : mergeD [] (l.map fun p => ((.inr p.1 : Key), SD.int p.2)) = l.map fun p => ((.inr p.1 : Key), SD.int p.2) := by
    rw [kvs_pr nd]
    exact (merge_one (g := fun k => SD.int (pr l k)) (done := []) (by simpa using nd))
  unfold drDictT
  simp only [pairsD_si, e]
  exact q
def sp_price_of : DSp := fun ds μ Q _ => ∃ (l : List (Str × Int)) (k : Str), ds = [.ptp (l.map siD), .str k] ∧ (l.map (·.1)).Nodup ∧ ∀ μ', Le μ μ' → Q (.int (pr l k)) μ'
theorem len_price_of : ∀ ds μ Q E, sp_price_of ds μ Q E → ds.length = 2 := by rintro ds μ Q E ⟨l, k, rfl, _⟩; rfl
def t_price_of : DTS := (dRet (dDGet2 (dCB drDictT (dCons (dVar 0) dNil)) (dVar 1) (dC (.int 1))))
theorem read_price_of : ∀ ds μ Q E, sp_price_of ds μ Q E → t_price_of { nx := fun _ μ' => Q .non μ', rt := Q } (begin_ ["costs", "key"] ds) μ := by
  rintro ds μ Q E ⟨l, k, rfl, nd, q⟩
  unfold t_price_of
  refine r_var rfl ?_
  refine dictT_ok nd fun p hp => ?_
  have m : dicD (up μ p (.dic (l.map fun p => ((.inr p.1 : Key), SD.int p.2)))) (.ref p) = some (l.map fun p => ((.inr p.1 : Key), SD.int p.2)) := dicD_ref up_same
  refine ⟨by rw [m]; rfl, ?_⟩
  refine r_var rfl ?_
  exact get_pr nd m (q _ ((Le.refl μ).up hp))
def sp_cost_of : DSp := fun ds μ Q _ => ∃ (ops : List SD) (l : List (Str × Int)), ds = [.tup ops, .ptp (l.map siD)] ∧ (∀ d ∈ ops, Deed d) ∧ ops.length ≤ 4000 ∧ (l.map (·.1)).Nodup ∧ ∀ μ', Le μ μ' → Q (.int ((ops.filterMap mvN).map (pr l)).sum) μ'
theorem len_cost_of : ∀ ds μ Q E, sp_cost_of ds μ Q E → ds.length = 2 := by rintro ds μ Q E ⟨ops, l, rfl, _⟩; rfl
def t_cost_of : DTS := (dRet (dCB drSum (dCons (dLcS (jSeq (dVar 0)) (hName 2) (dTest (dOp (dEq false) (dOp dIx (dVar 2) (dC (.int 0))) (dC (.str "move")))) (dCall sp_price_of [] (dCons (dVar 1) (dCons (dOp dIx (dVar 2) (dC (.int 1))) dNil))) [2]) dNil)))
theorem sel_ints {f : SD → Option Str} {g : Str → Int} : ∀ {l : List SD}, l.filterMap (fun d => (f d).map fun k => SD.int (g k)) = ((l.filterMap f).map g).map SD.int
  | [] => rfl
  | d :: r => by
    rw [List.filterMap_cons, List.filterMap_cons]
    cases h : f d with
    | none => exact sel_ints
    | some x => simp only [Option.map_some]; rw [sel_ints]; rfl
theorem read_cost_of : ∀ ds μ Q E, sp_cost_of ds μ Q E → t_cost_of { nx := fun _ μ' => Q .non μ', rt := Q } (begin_ ["operations", "costs", "operation"] ds) μ := by
  rintro ds μ Q E ⟨ops, l, rfl, hop, hl, nd, q⟩
  unfold t_cost_of dLcS dLc
  refine r_var rfl ?_
  refine lc_sel (fun d => (mvN d).map fun k => SD.int (pr l k)) (fun _ _ => rfl) (by omega) (fun d hd μ' le A B yes no => ?_) fun μ' le => by rw [sel_ints]; exact sum_ok (q μ' le)
  obtain ⟨w, k, rest, rfl⟩ := hop d hd
  refine r_var rfl ?_
  refine ix_tup (d := .str w) (atI_nat (j := 0) rfl) ?_
  refine eqw ?_
  by_cases e : w = "move"
  · rw [decide_eq_true e]
    refine ifT rfl ?_
    refine r_var rfl ?_
    refine r_var rfl ?_
    refine ix_tup (d := .str k) (atI_nat (j := 1) rfl) ?_
    refine ⟨l, k, rfl, nd, fun μ2 l2 => ?_⟩
    exact yes _ (by unfold mvN opW; dsimp only; rw [if_pos e]; rfl) μ2 l2
  · rw [decide_eq_false e]
    refine ifF rfl ?_
    exact no (by unfold mvN opW; dsimp only; rw [if_neg e]; rfl) μ' (Le.refl _)
end LK
/-! MU: ways upwards, subtrees. -/
namespace LK
open PySem PySem.Spec PyProof.Rows L2 DS MA
/-- from k upwards -/
inductive Up (par : Str → Option Str) : Str → List Str → Prop where
  | root {k : Str} (h : par k = none) : Up par k [k]
  | step {k p : Str} {l : List Str} (h : par k = some p) (r : Up par p l) : Up par k (k :: l)
theorem Up.head {par : Str → Option Str} {k : Str} {l : List Str} (h : Up par k l) : ∃ r, l = k :: r := by cases h <;> exact ⟨_, rfl⟩
theorem Up.uniq {par : Str → Option Str} {k : Str} {l l' : List Str} (h : Up par k l) : Up par k l' → l = l' := by
  induction h generalizing l' with
  | root h => intro q; cases q with
    | root => rfl
    | step h2 _ => rw [h] at h2; cases h2
  | step h r ih => intro q; cases q with
    | root h2 => rw [h] at h2; cases h2
    | step h2 r2 => rw [h] at h2; cases h2; rw [ih r2]
/-- s is t, or inside it -/
inductive Sub : T → T → Prop where
  | refl (t : T) : Sub t t
  | kid {s c : T} {k : Str} {cs : List T} (h : c ∈ cs) (r : Sub s c) : Sub s (.node k cs)
theorem Sub.pre {s t : T} (h : Sub s t) : ∀ k ∈ pre s, k ∈ MA.pre t := by
  induction h with
  | refl => exact fun _ h => h
  | kid h r ih => intro k hk; rw [MA.pre]; exact List.mem_cons_of_mem _ (preL_sub h _ (ih k hk))
theorem Sub.len {s t : T} (h : Sub s t) : (MA.pre s).length ≤ (MA.pre t).length := by
  induction h with
  | refl => exact Nat.le_refl _
  | kid h r ih => rw [MA.pre, List.length_cons]; have := preL_len h; omega
theorem Sub.dep {s t : T} (h : Sub s t) : MA.dep s ≤ MA.dep t := by
  induction h with
  | refl => exact Nat.le_refl _
  | kid h r ih => rw [MA.dep]; have := depL_mem h; omega
theorem Sub.fits {f : Str → List Str} {s t : T} (h : Sub s t) : Fits f t → Fits f s := by
  induction h with
  | refl => exact fun h => h
  | kid h r ih => intro q; rw [Fits] at q; exact ih (FitsL_mem.mp q.2 _ h)
end LK
/-! ML1: the law's hand. -/
namespace LK
open PySem PySem.Spec PyProof.Rows L2 DS MA
theorem log2_lt {i : Int} {k : Nat} (hk : 0 < k) (h : i.natAbs < 2 ^ k) : i.natAbs.log2 < k := by
  by_cases e : i.natAbs = 0
  · rw [e]; simpa using hk
  · exact (Nat.log2_lt e).mpr h
theorem mul_ok {i j : Int} (hi : i.natAbs < 2 ^ 2000) (hj : j.natAbs < 2 ^ 2000) : IntMulOk i j := CMulW.ok (by
  have := log2_lt (by decide) hi; have := log2_lt (by decide) hj; unfold CMulW; omega)
theorem pow_ok {i : Int} {n : Nat} (hi : i.natAbs < 2 ^ 2000) (hn : n ≤ 60) : CPowW i n := by
  refine ⟨by omega, ?_⟩
  have h1 := log2_lt (by decide) hi
  have h2 : Builtin.Int.intBits i ≤ 2001 := by unfold Builtin.Int.intBits; split <;> omega
  have h3 : (Builtin.Int.intBits i : Int) * (n : Int) ≤ 2001 * 60 := by
    exact_mod_cast Nat.mul_le_mul h2 hn
  omega
theorem div_ok {i j : Int} (h0 : 0 < j) (h : j.natAbs < 2 ^ 2000) : CDivW i j := ⟨h0, by have := log2_lt (by decide) h; omega⟩
theorem abs_lt {i : Int} {a b : Nat} (h0 : 0 ≤ i) (h : i < (2 : Int) ^ a) (hab : a ≤ b) : i.natAbs < 2 ^ b := by
  have h1 : i.natAbs < 2 ^ a := by
    have : ((i.natAbs : Nat) : Int) = i := Int.natAbs_of_nonneg h0
    have h2 : ((2 ^ a : Nat) : Int) = (2 : Int) ^ a := by norm_cast
    omega
  exact Nat.lt_of_lt_of_le h1 (Nat.pow_le_pow_right (by decide) hab)
/-- the hand: a great number, a number to mix, the turn -/
structure HandAt (μ : Mu) (h : Addr) (T : Nat) : Prop where
  ex : ∃ g m t : Int, μ h = some (.lst [.int g, .int m, .int t]) ∧ 0 ≤ g ∧ 0 ≤ m ∧ m < 2305843009213693921 ∧ 0 ≤ t ∧ t ≤ T
theorem HandAt.mono {μ : Mu} {h : Addr} {T T' : Nat} (H : HandAt μ h T) (l : T ≤ T') : HandAt μ h T' := by
  obtain ⟨g, m, t, e, a, b, c, d, f⟩ := H.ex
  exact ⟨g, m, t, e, a, b, c, d, by omega⟩
theorem HandAt.le {μ μ' : Mu} {h : Addr} {T : Nat} (H : HandAt μ h T) (l : Le μ μ') : HandAt μ' h T := by
  obtain ⟨g, m, t, e, r⟩ := H.ex
  exact ⟨g, m, t, l _ _ e, r⟩
theorem HandAt.ne {μ : Mu} {h p : Addr} {T : Nat} (H : HandAt μ h T) (hp : μ p = none) : h ≠ p := by
  obtain ⟨g, m, t, e, r⟩ := H.ex
  intro z; subst z; rw [hp] at e; cases e
theorem HandAt.up {μ : Mu} {h p : Addr} {T : Nat} {m : MO} (H : HandAt μ h T) (hp : h ≠ p) : HandAt (up μ p m) h T := by
  obtain ⟨g, m, t, e, r⟩ := H.ex
  exact ⟨g, m, t, by rw [up_ne hp]; exact e, r⟩
theorem HandAt.rm {μ : Mu} {h p : Addr} {T : Nat} (H : HandAt μ h T) (hp : h ≠ p) : HandAt (rm μ p) h T := by
  obtain ⟨g, m, t, e, r⟩ := H.ex
  exact ⟨g, m, t, by rw [rm_ne hp]; exact e, r⟩
def sp__law_take : DSp := fun ds μ Q _ => ∃ h many T, ds = [.ref h, .int many] ∧ 0 < many ∧ many ≤ 1000000 ∧ T ≤ 1000000000 ∧ HandAt μ h T ∧ ∀ (d : Int) μ', 0 ≤ d → d < many → HandAt μ' h (T + 1) → LeX h μ μ' → Q (.int d) μ'
theorem len__law_take : ∀ ds μ Q E, sp__law_take ds μ Q E → ds.length = 2 := by rintro ds μ Q E ⟨h, many, T, rfl, _⟩; rfl
def t__law_take : DTS := (dSeq (dIfS (dTest (dOp dGt (dOp dIx (dVar 0) (dC (.int 0))) (dC (.int 0)))) (dSeq (dSet (dOp dMod (dOp dIx (dVar 0) (dC (.int 0))) (dVar 1)) 5)
    (dSeq (dAsg (dOp dDiv (dOp dIx (dVar 0) (dC (.int 0))) (dVar 1)) (hSub (dVar 0) (dC (.int 0)) dsetL))
    (dRet (dVar 5)))) dNext)
    (dSeq (dSet (dOp dAdd (dOp dIx (dVar 0) (dC (.int 2))) (dC (.int 1))) 2)
    (dSeq (dAsg (dVar 2) (hSub (dVar 0) (dC (.int 2)) dsetL))
    (dSeq (dSet (dOp dIx (dLst (dCons (dC (.int 2147483647)) (dCons (dC (.int 2147483629)) (dCons (dC (.int 2147483587)) (dCons (dC (.int 2147483579)) (dCons (dC (.int 2147483563)) (dCons (dC (.int 2147483549)) dNil))))))) (dOp dMod (dVar 2) (dC (.int 6)))) 3)
    (dSeq (dSet (dOp dMod (dOp dPow (dOp dAdd (dOp dAdd (dOp dIx (dVar 0) (dC (.int 1))) (dOp dMul (dOp dMul (dC (.int 65537)) (dVar 2)) (dVar 2))) (dOp dMul (dC (.int 31)) (dVar 2))) (dC (.int 3))) (dVar 3)) 4)
    (dRet (dOp dMod (dOp dDiv (dOp dMod (dOp dMul (dVar 4) (dOp dAdd (dOp dMod (dVar 4) (dC (.int 10007))) (dOp dMul (dC (.int 13)) (dVar 2)))) (dC (.int 2305843009213693907))) (dC (.int 97))) (dVar 1))))))))
theorem setL_ok {μ : Mu} {a : Addr} {xs : List SD} {k : Int} {j : Nat} {v : SD} {R : Mu → Prop} (m : μ a = some (.lst xs)) (h : ixN xs.length k = some j) (q : R (up μ a (.lst (xs.set j v)))) : dsetL (.ref a) (.int k) v μ R := by
  unfold dsetL
  have e : mlst μ (.ref a) = some (a, xs) := by simp [mlst, m]
  simp only [e, h]; exact q
theorem read__law_take : ∀ ds μ Q E, sp__law_take ds μ Q E → t__law_take { nx := fun _ μ' => Q .non μ', rt := Q } (begin_ ["_law_hand_here", "_law_many", "_law_turn", "_law_prime", "_law_mixed", "_law_digit"] ds) μ := by
  rintro ds μ Q E ⟨h, many, T, rfl, hm0, hm1, hT, H, q⟩
  unfold t__law_take
  obtain ⟨g, m, t, e, g0, m0, m1, t0, t1⟩ := H.ex
  refine r_var rfl ?_
  refine ix_ref (d := .int g) e rfl ?_
  by_cases hg : 0 < g
  · refine ifT (decide_eq_true hg) ?_
    refine r_var rfl ?_
    refine ix_ref (d := .int g) e rfl ?_
    refine r_var rfl ?_
    refine ⟨hm0, ?_⟩
    dsimp only
    refine r_var rfl ?_
    refine ix_ref (d := .int g) e rfl ?_
    refine r_var rfl ?_
    refine ⟨div_ok hm0 (abs_lt (a := 20) (by omega) (by omega) (by decide)), ?_⟩
    refine r_var rfl ?_
    refine setL_ok (j := 0) e rfl ?_
    dsimp only
    refine r_var rfl ?_
    refine q _ _ (Int.emod_nonneg _ (by omega)) (Int.emod_lt_of_pos _ hm0) ⟨g / many, m, t, by rw [up_same]; rfl, Int.ediv_nonneg g0 (by omega), m0, m1, t0, by omega⟩ ((LeX.refl h μ).put)
  · refine ifF (decide_eq_false hg) ?_
    simp only [dNext]
    refine r_var rfl ?_
    refine ix_ref (d := .int t) e rfl ?_
    refine i_add ?_
    dsimp only
    refine r_var rfl ?_
    refine r_var rfl ?_
    refine setL_ok (j := 2) e rfl ?_
    dsimp only
    refine ⟨(by show 6 ≤ sizeLine; decide), ?_⟩
    refine r_var rfl ?_
    refine i_mod (by decide) ?_
    have hp : ∃ p : Int, atI [SD.int 2147483647, .int 2147483629, .int 2147483587, .int 2147483579, .int 2147483563, .int 2147483549] ((t + 1) % 6) = some (.int p) ∧ 0 < p ∧ p ≤ 2147483647 := by
      have h0 := Int.emod_nonneg (t + 1) (show (6 : Int) ≠ 0 by decide)
      have h1 := Int.emod_lt_of_pos (t + 1) (show (0 : Int) < 6 by decide)
      generalize (t + 1) % 6 = r at h0 h1
      have : r = 0 ∨ r = 1 ∨ r = 2 ∨ r = 3 ∨ r = 4 ∨ r = 5 := by omega
      rcases this with rfl | rfl | rfl | rfl | rfl | rfl <;> exact ⟨_, rfl, by decide, by decide⟩
    obtain ⟨p, hat, p0, p1⟩ := hp
    refine ix_lst hat ?_
    dsimp only
    have e2 : up μ h (.lst (([SD.int g, .int m, .int t] : List SD).set 2 (.int (t + 1)))) h = some (.lst [.int g, .int m, .int (t + 1)]) := by rw [up_same]; rfl
    refine r_var rfl ?_
    refine ix_ref (d := .int m) e2 rfl ?_
    have T1 : (t + 1).natAbs < 2 ^ 2000 := abs_lt (a := 40) (by omega) (by omega) (by decide)
    refine r_var rfl ?_
    refine i_mul (mul_ok (by decide) T1) ?_
    refine r_var rfl ?_
    have T2 : (65537 * (t + 1)).natAbs < 2 ^ 2000 := abs_lt (a := 60) (by omega) (by omega) (by decide)
    refine i_mul (mul_ok T2 T1) ?_
    refine i_add ?_
    refine r_var rfl ?_
    refine i_mul (mul_ok (by decide) T1) ?_
    refine i_add ?_
    have sq : 0 ≤ 65537 * (t + 1) * (t + 1) ∧ 65537 * (t + 1) * (t + 1) ≤ 65537 * 1000000001 * 1000000001 := by
      have a1 : 0 ≤ 65537 * (t + 1) := by omega
      have a2 : 65537 * (t + 1) ≤ 65537 * 1000000001 := by omega
      exact ⟨Int.mul_nonneg a1 (by omega), Int.mul_le_mul a2 (by omega) (by omega) (by decide)⟩
    refine i_pow (n := 3) (pow_ok (n := 3) (abs_lt (a := 100) (by omega) (by omega) (by decide)) (by decide)) ?_
    refine r_var rfl ?_
    refine i_mod p0 ?_
    dsimp only
    refine r_var rfl ?_
    refine r_var rfl ?_
    refine i_mod (by decide) ?_
    refine r_var rfl ?_
    refine i_mul (mul_ok (by decide) T1) ?_
    refine i_add ?_
    generalize hx : (m + 65537 * (t + 1) * (t + 1) + 31 * (t + 1)) ^ (Int.toNat 3) % p = x
    have x0 : 0 ≤ x := by rw [← hx]; exact Int.emod_nonneg _ (by omega)
    have x1 : x < p := by rw [← hx]; exact Int.emod_lt_of_pos _ p0
    have y0 := Int.emod_nonneg x (show (10007 : Int) ≠ 0 by decide)
    have y1 := Int.emod_lt_of_pos x (show (0 : Int) < 10007 by decide)
    refine i_mul (mul_ok (abs_lt (a := 40) x0 (by omega) (by decide)) (abs_lt (a := 60) (by omega) (by omega) (by decide))) ?_
    refine i_mod (by decide) ?_
    refine i_div (div_ok (by decide) (abs_lt (a := 40) (by omega) (by omega) (by decide))) ?_
    refine r_var rfl ?_
    refine i_mod hm0 ?_
    exact q _ _ (Int.emod_nonneg _ (by omega)) (Int.emod_lt_of_pos _ hm0) ⟨g, m, t + 1, e2, g0, m0, m1, by omega, by omega⟩ ((LeX.refl h μ).put)
end LK
/-! ML2: _law_hand, _law_of. -/
namespace LK
open PySem PySem.Spec PyProof.Rows L2 DS MA
def sp__law_hand : DSp := fun ds μ Q _ => ∃ (ns : List Int) (k : Nat), ds = [.rol (ns.map SD.int), .int k] ∧ k ≤ 1000000 ∧ ∀ p μ', μ p = none → Le μ μ' → HandAt μ' p 0 → Q (.ref p) μ'
theorem len__law_hand : ∀ ds μ Q E, sp__law_hand ds μ Q E → ds.length = 2 := by rintro ds μ Q E ⟨ns, k, rfl, _⟩; rfl
def t__law_hand : DTS := (dSeq (dSet (dIf (dTest (dOp dLt (dVar 1) (dCB drLen (dCons (dVar 0) dNil)))) (dOp dIx (dVar 0) (dVar 1)) (dOp dAdd (dOp dMul (dC (.int 11)) (dVar 1)) (dC (.int 5)))) 2)
    (dSeq (dSet (dOp dMul (dOp dMod (dCB (drI1 fun i => if i < 0 then -i else i) (dCons (dVar 2) dNil)) (dOp dPow (dOp dPow (dC (.int 10)) (dC (.int 60))) (dC (.int 5)))) (dCB drInt (dCons (dOp dGe (dCB (drI1 fun i => if i < 0 then -i else i) (dCons (dVar 2) dNil)) (dOp dPow (dC (.int 10)) (dC (.int 18)))) dNil))) 3)
    (dRet (dLstM (dCons (dVar 3) (dCons (dOp dMod (dOp dMul (dOp dAdd (dOp dAdd (dOp dMod (dVar 2) (dC (.int 2305843009213693951))) (dOp dMul (dOp dMul (dC (.int 104729)) (dVar 1)) (dVar 1))) (dC (.int 41))) (dC (.int 48271))) (dC (.int 2305843009213693921))) (dCons (dC (.int 0)) dNil)))))))
theorem i_abs {μ : Mu} {Q : SD → Mu → Prop} {i : Int} (q : ∀ j : Int, 0 ≤ j → Q (.int j) μ) : drI1 (fun i => if i < 0 then -i else i) [.int i] μ Q := by
  refine q _ ?_
  dsimp only
  split <;> omega
theorem i_bool {μ : Mu} {Q : SD → Mu → Prop} {b : Bool} (q : Q (.int (if b then 1 else 0)) μ) : drInt [.bl b] μ Q := q
theorem ten_pow : (0 : Int) < (10 ^ Int.toNat 60) ^ Int.toNat 5 ∧ ((10 : Int) ^ Int.toNat 60) ^ Int.toNat 5 < 2 ^ 1000 := by decide +kernel
theorem ten60 : ((10 : Int) ^ Int.toNat 60).natAbs < 2 ^ 2000 := by decide +kernel
theorem read__law_hand : ∀ ds μ Q E, sp__law_hand ds μ Q E → t__law_hand { nx := fun _ μ' => Q .non μ', rt := Q } (begin_ ["_law_script", "_law_k", "_law_cell", "_law_great"] ds) μ := by
  rintro ds μ Q E ⟨ns, k, rfl, hk, q⟩
  unfold t__law_hand
  have cell : ∀ (D : DEnds), (∀ c : Int, D.nx ((begin_ ["_law_script", "_law_k", "_law_cell", "_law_great"] [.rol (ns.map SD.int), .int k]).set 2 (some (.int c))) μ) → dSet (dIf (dTest (dOp dLt (dVar 1) (dCB drLen (dCons (dVar 0) dNil)))) (dOp dIx (dVar 0) (dVar 1)) (dOp dAdd (dOp dMul (dC (.int 11)) (dVar 1)) (dC (.int 5)))) 2 D (begin_ ["_law_script", "_law_k", "_law_cell", "_law_great"] [.rol (ns.map SD.int), .int k]) μ := fun D h => by
    refine r_var rfl ?_
    refine r_var rfl ?_
    refine l_lenO ?_
    refine i_lt ?_
    by_cases hc : k < ns.length
    · refine ifT (by simpa using hc) ?_
      refine r_var rfl ?_
      refine r_var rfl ?_
      refine ix_rol (d := .int ns[k]) (atI_nat (by simp [hc])) (h _)
    · refine ifF (by simpa using hc) ?_
      refine r_var rfl ?_
      refine i_mul (mul_ok (by decide) (abs_lt (a := 40) (by omega) (by omega) (by decide))) ?_
      exact i_add (h _)
  refine cell _ fun c => ?_
  dsimp only
  refine r_var rfl ?_
  refine i_abs fun A hA => ?_
  refine i_pow (n := 60) (pow_ok (n := 60) (by decide) (by decide)) ?_
  refine i_pow (n := 5) (pow_ok (n := 5) ten60 (by decide)) ?_
  refine i_mod ten_pow.1 ?_
  refine r_var rfl ?_
  refine i_abs fun B hB => ?_
  refine i_pow (n := 18) (pow_ok (n := 18) (by decide) (by decide)) ?_
  refine i_ge ?_
  refine i_bool ?_
  have g0 := Int.emod_nonneg A (show ((10 : Int) ^ Int.toNat 60) ^ Int.toNat 5 ≠ 0 from Int.ne_of_gt ten_pow.1)
  have g1 := Int.lt_trans (Int.emod_lt_of_pos A ten_pow.1) ten_pow.2
  have b0 : ∀ b : Bool, (if b = true then (1 : Int) else 0).natAbs < 2 ^ 2000 ∧ 0 ≤ (if b = true then (1 : Int) else 0) := by decide
  refine i_mul (mul_ok (abs_lt (a := 1000) g0 g1 (by decide)) (b0 _).1) ?_
  dsimp only
  refine r_var rfl ?_
  refine r_var rfl ?_
  refine i_mod (by decide) ?_
  refine r_var rfl ?_
  refine i_mul (mul_ok (by decide) (abs_lt (a := 40) (by omega) (by omega) (by decide))) ?_
  refine r_var rfl ?_
  have k1 : 0 ≤ 104729 * (k : Int) * (k : Int) ∧ 104729 * (k : Int) * (k : Int) ≤ 104729 * 1000000 * 1000000 := ⟨Int.mul_nonneg (by omega) (by omega), Int.mul_le_mul (by omega) (by omega) (by omega) (by decide)⟩
  refine i_mul (mul_ok (abs_lt (a := 60) (by omega) (by omega) (by decide)) (abs_lt (a := 40) (by omega) (by omega) (by decide))) ?_
  refine i_add ?_
  refine i_add ?_
  have c0 := Int.emod_nonneg c (show (2305843009213693951 : Int) ≠ 0 by decide)
  have c1 := Int.emod_lt_of_pos c (show (0 : Int) < 2305843009213693951 by decide)
  refine i_mul (mul_ok (abs_lt (a := 100) (by omega) (by omega) (by decide)) (by decide)) ?_
  refine i_mod (by decide) ?_
  refine ⟨(by show 3 ≤ sizeLine; decide), fun p hp => ?_⟩
  exact q p _ hp ((Le.refl μ).up hp) ⟨_, _, _, up_same, Int.mul_nonneg g0 (b0 _).2, Int.emod_nonneg _ (by decide), Int.emod_lt_of_pos _ (by decide), Int.le_refl 0, Int.le_refl 0⟩
def sp__law_of : DSp := fun ds μ Q _ => ∃ h x xs T, ds = [.ref h, x] ∧ (x = .lst xs ∨ ∃ u : Str, x = .str u ∧ xs = u.cps.toList.map fun c => .str ⟨#[c]⟩) ∧ xs ≠ [] ∧ xs.length ≤ 1000000 ∧ T ≤ 1000000000 ∧ HandAt μ h T ∧ ∀ (i : Nat) d μ', xs[i]? = some d → HandAt μ' h (T + 1) → LeX h μ μ' → Q d μ'
theorem len__law_of : ∀ ds μ Q E, sp__law_of ds μ Q E → ds.length = 2 := by rintro ds μ Q E ⟨h, x, xs, T, rfl, _⟩; rfl
def t__law_of : DTS := (dRet (dOp dIx (dVar 1) (dCall sp__law_take [] (dCons (dVar 0) (dCons (dCB drLen (dCons (dVar 1) dNil)) dNil)))))
theorem read__law_of : ∀ ds μ Q E, sp__law_of ds μ Q E → t__law_of { nx := fun _ μ' => Q .non μ', rt := Q } (begin_ ["_law_hand_here", "_law_items"] ds) μ := by
  rintro ds μ Q E ⟨h, x, xs, T, rfl, hx, hne, hl, hT, H, q⟩
  unfold t__law_of
  refine r_var rfl ?_
  refine r_var rfl ?_
  refine r_var rfl ?_
  have hpos : 0 < xs.length := List.length_pos_iff.mpr hne
  rcases hx with rfl | ⟨u, rfl, rfl⟩
  · refine l_len ?_
    refine ⟨h, xs.length, T, rfl, by omega, by omega, hT, H, fun d μ' d0 d1 H' l => ?_⟩
    obtain ⟨i, rfl⟩ := Int.eq_ofNat_of_zero_le d0
    have hi : i < xs.length := by omega
    have e : xs[i]? = some xs[i] := List.getElem?_eq_getElem hi
    exact ix_lst (atI_nat e) (q i _ μ' e H' l)
  · rw [List.length_map] at hpos hl
    have hu : u.length = u.cps.toList.length := rfl
    refine l_lenS (le_line (by rw [hu]; exact hl) (by omega)) ?_
    refine ⟨h, u.length, T, rfl, by omega, by omega, hT, H, fun d μ' d0 d1 H' l => ?_⟩
    obtain ⟨i, rfl⟩ := Int.eq_ofNat_of_zero_le d0
    have hi : i < u.cps.toList.length := by omega
    have e : u.cps.toList[i]? = some u.cps.toList[i] := List.getElem?_eq_getElem hi
    refine ix_str (le_line (by rw [hu]; exact hl) (by omega)) (atI_nat e) (q i _ μ' ?_ H' l)
    rw [List.getElem?_map, e]; rfl
end LK
/-! ML3A: keys, small rules. -/
namespace LK
open PySem PySem.Spec PyProof.Rows L2 DS MA
theorem lex_none {h p : Addr} {μ μ' : Mu} {T : Nat} (l : LeX h μ μ') (H : HandAt μ' h T) (hp : μ' p = none) : μ p = none ∧ h ≠ p := by
  have hne := H.ne hp
  refine ⟨?_, hne⟩
  cases e : μ p with
  | none => rfl
  | some m => rw [l p m (Ne.symm hne) e] at hp; cases hp
theorem abc : ("abcdefghijklmnopqrstuvwxyz" : Str).cps.toList = (List.range 26).map (97 + ·) := by decide +kernel
theorem abc_at {x : Int} (h0 : 0 ≤ x) (h1 : x < 26) : atI ("abcdefghijklmnopqrstuvwxyz" : Str).cps.toList x = some (97 + x.toNat) := by
  obtain ⟨i, rfl⟩ := Int.eq_ofNat_of_zero_le h0
  rw [abc]
  have hi : i < 26 := by omega
  exact atI_nat (by rw [List.getElem?_map, List.getElem?_range hi]; rfl)
def keyN (f l : Int) (stem : Str) (i : Nat) : Str := stem ++ (⟨#[97 + ((f + l * i) % 26).toNat]⟩ : Str) ++ (if 25 < i then (⟨#[97 + ((i : Int) / 26 - 1).toNat]⟩ : Str) else "")
theorem keyN_cps (f l : Int) (stem : Str) (i : Nat) : (keyN f l stem i).cps.toList = stem.cps.toList ++ ([97 + ((f + l * i) % 26).toNat] ++ (if 25 < i then [97 + ((i : Int) / 26 - 1).toNat] else [])) := by
  have app : ∀ u v : Str, (u ++ v).cps.toList = u.cps.toList ++ v.cps.toList := fun u v => by
    show (u.cps ++ v.cps).toList = _
    simp
  unfold keyN
  rw [app, app]
  by_cases h : 25 < i
  · rw [if_pos h, if_pos h, List.append_assoc]
  · rw [if_neg h, if_neg h, List.append_assoc]; rfl
theorem keyN_inj {f l : Int} {stem : Str} {i j : Nat} (hl : l = 1 ∨ l = 3 ∨ l = 5 ∨ l = 7 ∨ l = 9 ∨ l = 11) (e : keyN f l stem i = keyN f l stem j) : i = j := by
  have e1 : (keyN f l stem i).cps.toList = (keyN f l stem j).cps.toList := by rw [e]
  rw [keyN_cps, keyN_cps] at e1
  have e2 := List.append_cancel_left e1
  rw [List.cons_append, List.cons_append, List.nil_append, List.nil_append, List.cons.injEq] at e2
  obtain ⟨e3, e4⟩ := e2
  have e5 : (i : Int) / 26 = (j : Int) / 26 := by
    by_cases h1 : 25 < i <;> by_cases h2 : 25 < j
    · rw [if_pos h1, if_pos h2] at e4; simp at e4; omega
    · rw [if_pos h1, if_neg h2] at e4; cases e4
    · rw [if_neg h1, if_pos h2] at e4; cases e4
    · omega
  have e6 : (f + l * i) % 26 = (f + l * j) % 26 := by
    have a := Int.emod_nonneg (f + l * i) (show (26 : Int) ≠ 0 by decide)
    have b := Int.emod_nonneg (f + l * j) (show (26 : Int) ≠ 0 by decide)
    omega
  rcases hl with rfl | rfl | rfl | rfl | rfl | rfl <;> omega
theorem q_setC {d : SD} {i : Nat} {rest : DTS} {D : DEnds} {ρ : Rho} {μ : Mu} (h : rest D (ρ.set i (some d)) μ) : dSeq (dSet (dC d) i) rest D ρ μ := h
end LK
/-! ML3L: _law_keys, the keys are small letters. -/
namespace LK
open PySem PySem.Spec PyProof.Rows L2 DS MA
/-- 1 to 8 small letters -/
def LowK (k : Str) : Prop := 1 ≤ k.cps.size ∧ k.cps.size ≤ 8 ∧ ∀ c ∈ k.cps.toList, 97 ≤ c ∧ c < 123
def sp__law_keys : DSp := fun ds μ Q _ => ∃ h many T, ds = [.ref h, .int (many : Nat)] ∧ many ≤ 600 ∧ T ≤ 900000000 ∧ HandAt μ h T ∧ ∀ names μ', names.Nodup → names.length = many → (∀ k ∈ names, KeyOk k ∧ LowK k) → HandAt μ' h (T + 4) → LeX h μ μ' → Q (.lst (sts names)) μ'
theorem len__law_keys : ∀ ds μ Q E, sp__law_keys ds μ Q E → ds.length = 2 := by rintro ds μ Q E ⟨h, many, T, rfl, _⟩; rfl
def t__law_keys : DTS := (dSeq (dSet (dC (.str "abcdefghijklmnopqrstuvwxyz")) 2)
    (dSeq (dPar 3 4 (dCons (dCall sp__law_take [] (dCons (dVar 0) (dCons (dC (.int 26)) dNil))) (dCons (dCall sp__law_of [] (dCons (dVar 0) (dCons (dLst (dCons (dC (.int 1)) (dCons (dC (.int 3)) (dCons (dC (.int 5)) (dCons (dC (.int 7)) (dCons (dC (.int 9)) (dCons (dC (.int 11)) dNil))))))) dNil))) dNil)))
    (dSeq (dSet (dOp dMul (dCall sp__law_of [] (dCons (dVar 0) (dCons (dVar 2) dNil))) (dCall sp__law_of [] (dCons (dVar 0) (dCons (dLst (dCons (dC (.int 0)) (dCons (dC (.int 0)) (dCons (dC (.int 1)) (dCons (dC (.int 3)) (dCons (dC (.int 6)) dNil)))))) dNil)))) 5)
    (dSeq (dSet (dLstM dNil) 6)
    (dSeq (dFor (jRng1 (dCons (dVar 1) dNil)) (hName 7) (dSeq (dSet (dIf (dTest (dOp dGt (dVar 7) (dC (.int 25)))) (dOp dIx (dVar 2) (dOp dSub (dOp dDiv (dVar 7) (dC (.int 26))) (dC (.int 1)))) (dC (.str ""))) 8)
    (dDrop (dLM dmAppend (dVar 6) (dCons (dOp dAdd (dOp dAdd (dVar 5) (dOp dIx (dVar 2) (dOp dMod (dOp dAdd (dVar 3) (dOp dMul (dVar 4) (dVar 7))) (dC (.int 26))))) (dVar 8)) dNil)))))
    (dRetF (dVar 6)))))))
theorem read__law_keys : ∀ ds μ Q E, sp__law_keys ds μ Q E → t__law_keys { nx := fun _ μ' => Q .non μ', rt := Q } (begin_ ["_law_hand_here", "_law_many", "_law_letters", "_law_first", "_law_leap", "_law_stem", "_law_found", "_law_nth", "_law_tail"] ds) μ := by
  rintro ds μ Q E ⟨h, many, T, rfl, hm, hT, H, q⟩
  unfold t__law_keys
  refine q_setC ?_
  refine r_var rfl ?_
  refine ⟨h, 26, T, rfl, by decide, by decide, by omega, H, fun f μ1 f0 f1 H1 l1 => ?_⟩
  refine r_var rfl ?_
  refine ⟨(by show 6 ≤ sizeLine; decide), ?_⟩
  refine ⟨h, _, _, T + 1, rfl, .inl rfl, by simp, by simp, by omega, H1, fun i d μ2 hd H2 l2 => ?_⟩
  have hl : ∃ l : Int, d = .int l ∧ (l = 1 ∨ l = 3 ∨ l = 5 ∨ l = 7 ∨ l = 9 ∨ l = 11) := by
    have := List.mem_of_getElem? hd
    simp at this
    rcases this with rfl | rfl | rfl | rfl | rfl | rfl <;> exact ⟨_, rfl, by decide⟩
  obtain ⟨l, rfl, hl⟩ := hl
  dsimp only
  refine r_var rfl ?_
  refine r_var rfl ?_
  have hal : ("abcdefghijklmnopqrstuvwxyz" : Str).cps.toList.length = 26 := by rw [abc]; simp
  refine ⟨h, _, _, T + 2, rfl, .inr ⟨_, rfl, rfl⟩, by intro z; have := congrArg List.length z; rw [List.length_map, hal] at this; simp at this, by rw [List.length_map, hal]; omega, by omega, H2, fun i d μ3 hd H3 l3 => ?_⟩
  obtain ⟨c, hc, rfl⟩ := List.mem_map.mp (List.mem_of_getElem? hd)
  have hc2 : 97 ≤ c ∧ c < 123 := by
    rw [abc] at hc; obtain ⟨j, hj, rfl⟩ := List.mem_map.mp hc; have := List.mem_range.mp hj; omega
  refine r_var rfl ?_
  refine ⟨(by show 5 ≤ sizeLine; decide), ?_⟩
  refine ⟨h, _, _, T + 3, rfl, .inl rfl, by simp, by simp, by omega, H3, fun i d μ4 hd H4 l4 => ?_⟩
  have hn : ∃ n : Nat, d = .int n ∧ n ≤ 6 := by
    have := List.mem_of_getElem? hd
    simp at this
    rcases this with rfl | rfl | rfl | rfl
    · exact ⟨0, rfl, by decide⟩
    · exact ⟨1, rfl, by decide⟩
    · exact ⟨3, rfl, by decide⟩
    · exact ⟨6, rfl, by decide⟩
  obtain ⟨n, rfl, hn⟩ := hn
  refine s_mul ⟨by omega, by omega, by show 1 * _ ≤ _; rw [sizeLine_eq]; omega⟩ ?_
  rw [Int.toNat_natCast]
  have hs : (repS (⟨#[c]⟩ : Str) n).cps.toList = List.replicate n c := by
    show ((List.replicate n [c]).flatten.toArray).toList = _
    simp
  generalize hst : repS (⟨#[c]⟩ : Str) n = stem at hs
  dsimp only
  refine ⟨by decide, fun p hp => ?_⟩
  dsimp only
  obtain ⟨hp0, hne⟩ := lex_none (((l1.trans l2).trans l3).trans l4) H4 hp
  have kl : ∀ i, (keyN f l stem i).cps.toList.length ≤ 8 := fun i => by
    rw [keyN_cps, hs]; split <;> simp <;> omega
  refine for_R rfl (by omega) ⟨fun i ρ μ' => ∃ a b : Option SD, ρ = [some (.ref h), some (.int many), some (.str "abcdefghijklmnopqrstuvwxyz"), some (.int f), some (.int l), some (.str stem), some (.ref p), a, b] ∧ μ' p = some (.lst (sts ((List.range i).map (keyN f l stem)))) ∧ LeX h μ μ' ∧ HandAt μ' h (T + 4), ?_, ?_, ?_⟩
  · exact ⟨_, _, rfl, by rw [up_same]; rfl, (((l1.trans l2).trans l3).trans l4).up hp0, H4.up hne⟩
  · rintro i ρ μ' hi ⟨a, b, rfl, hp', lx, HH⟩
    have tail : ∀ (D : DEnds) (ρ : Rho), ρ[7]? = some (some (.int i)) → ρ[2]? = some (some (.str "abcdefghijklmnopqrstuvwxyz")) → D.nx (ρ.set 8 (some (.str (if 25 < i then (⟨#[97 + ((i : Int) / 26 - 1).toNat]⟩ : Str) else "")))) μ' → dSet (dIf (dTest (dOp dGt (dVar 7) (dC (.int 25)))) (dOp dIx (dVar 2) (dOp dSub (dOp dDiv (dVar 7) (dC (.int 26))) (dC (.int 1)))) (dC (.str ""))) 8 D ρ μ' := fun D ρ h7 h2 q => by
      refine r_var h7 ?_
      refine i_gt ?_
      by_cases hc : 25 < i
      · refine ifT (by simp only [decide_eq_true_eq]; omega) ?_
        refine r_var h2 ?_
        refine r_var h7 ?_
        refine i_div (div_ok (by decide) (by decide)) ?_
        refine i_sub ?_
        refine ix_str (by show ("abcdefghijklmnopqrstuvwxyz" : Str).cps.toList.length ≤ _; rw [hal]; decide) (abc_at (by omega) (by omega)) ?_
        rw [if_pos hc] at q; exact q
      · refine ifF (by simp only [decide_eq_false_iff_not]; omega) ?_
        rw [if_neg hc] at q; exact q
    refine tail _ _ rfl rfl ?_
    dsimp only
    refine r_var rfl ⟨isSome_ref hp', ?_⟩
    refine r_var rfl ?_
    refine r_var rfl ?_
    refine r_var rfl ?_
    refine r_var rfl ?_
    refine r_var rfl ?_
    refine i_mul (mul_ok (by rcases hl with rfl | rfl | rfl | rfl | rfl | rfl <;> decide) (abs_lt (a := 40) (by omega) (by omega) (by decide))) ?_
    refine i_add ?_
    refine i_mod (by decide) ?_
    have r0 := Int.emod_nonneg (f + l * i) (show (26 : Int) ≠ 0 by decide)
    have r1 := Int.emod_lt_of_pos (f + l * i) (show (0 : Int) < 26 by decide)
    refine ix_str (by show ("abcdefghijklmnopqrstuvwxyz" : Str).cps.toList.length ≤ _; rw [hal]; decide) (abc_at r0 r1) ?_
    have sl : stem.length ≤ 6 := by show stem.cps.toList.length ≤ 6; rw [hs]; simp; omega
    refine s_add (by rw [sizeLine_eq]; show stem.length + 1 ≤ _; omega) ?_
    refine r_var rfl ?_
    refine s_add ?_ ?_
    · have a1 : (stem ++ (⟨#[97 + ((f + l * i) % 26).toNat]⟩ : Str)).length ≤ 7 := by
        show (stem.cps ++ _).size ≤ 7
        rw [Array.size_append]
        have : stem.cps.size ≤ 6 := sl
        simp; omega
      have a2 : (if 25 < i then (⟨#[97 + ((i : Int) / 26 - 1).toNat]⟩ : Str) else "").length ≤ 1 := by split <;> exact Nat.le_of_ble_eq_true rfl
      rw [sizeLine_eq]; omega
    · refine dm_append hp' (lt_line (m := 600) (by simp [sts]; omega) (by omega)) ?_
      refine ⟨_, _, rfl, ?_, lx.up hp0, HH.up hne⟩
      rw [up_same, List.range_succ, List.map_append]
      simp [sts, keyN]
  · rintro ρ μ' ⟨a, b, rfl, hp', lx, HH⟩
    dsimp only
    refine r_var rfl ?_
    unfold frz
    simp only [hp']
    refine q _ _ ?_ (by simp) ?_ (HH.rm hne) (lx.rm hp0)
    · refine List.pairwise_map.mpr (List.Pairwise.imp ?_ List.nodup_range)
      intro a b hab e
      exact hab (keyN_inj hl e)
    · intro k hk
      obtain ⟨i, hi, rfl⟩ := List.mem_map.mp hk
      have hi2 := List.mem_range.mp hi
      have := kl i
      have low : ∀ x ∈ (keyN f l stem i).cps.toList, 97 ≤ x ∧ x < 123 := by
        intro x hx
        rw [keyN_cps, hs] at hx
        have r0 := Int.emod_nonneg (f + l * i) (show (26 : Int) ≠ 0 by decide)
        have r1 := Int.emod_lt_of_pos (f + l * i) (show (0 : Int) < 26 by decide)
        rcases List.mem_append.mp hx with hx | hx
        · have := (List.mem_replicate.mp hx).2; omega
        · rcases List.mem_append.mp hx with hx | hx
          · simp at hx; omega
          · split at hx
            · simp at hx; omega
            · cases hx
      refine ⟨⟨?_, by rw [← Array.length_toList]; omega⟩, ?_, by rw [← Array.length_toList]; omega, low⟩
      · unfold PyData.strOk
        rw [← Array.all_toList, List.all_eq_true]
        intro x hx
        have := low x hx
        simp; omega
      · rw [← Array.length_toList, keyN_cps]; simp; omega
end LK
/-! NV: values of any kind. -/
namespace MA
open PySem PySem.Spec PyProof.Rows L2 DS
mutual
def okV (m : Nat) : SD → Prop
  | .non => True
  | .bl _ => True
  | .int i => i.natAbs ≤ 10 ^ 20 + m
  | .str x => PyData.strOk x = true
  | .ref _ => False
  | .ty _ => False
  | .tup xs => okVL m xs
  | .lst xs => okVL m xs
  | .rol _ => False
  | .exc _ _ => False
  | .ptp _ => False
  | .dic kvs => kvs = []
def okVL (m : Nat) : List SD → Prop
  | [] => True
  | d :: r => okV m d ∧ okVL m r
end
mutual
def dpV : SD → Nat
  | .non => 0
  | .bl _ => 0
  | .int _ => 0
  | .str _ => 0
  | .ref _ => 0
  | .ty _ => 0
  | .tup xs => dpVL xs + 1
  | .lst xs => dpVL xs + 1
  | .rol _ => 0
  | .exc _ _ => 0
  | .ptp _ => 0
  | .dic _ => 1
def dpVL : List SD → Nat
  | [] => 0
  | d :: r => max (dpV d) (dpVL r)
end
mutual
def wtV : SD → Nat
  | .non => 0
  | .bl _ => 0
  | .int _ => 0
  | .str x => x.cps.size
  | .ref _ => 0
  | .ty _ => 0
  | .tup xs => wtVL xs
  | .lst xs => wtVL xs
  | .rol _ => 0
  | .exc _ _ => 0
  | .ptp _ => 0
  | .dic _ => 0
def wtVL : List SD → Nat
  | [] => 0
  | d :: r => wtV d + 1 + wtVL r
end
theorem okVL_mem {m : Nat} {xs : List SD} : okVL m xs ↔ ∀ d ∈ xs, okV m d := by
  induction xs with
  | nil => simp [okVL]
  | cons x r ih => rw [okVL, ih]; simp
theorem dpVL_le {n : Nat} {xs : List SD} : dpVL xs ≤ n ↔ ∀ d ∈ xs, dpV d ≤ n := by
  induction xs with
  | nil => simp [dpVL]
  | cons x r ih => rw [dpVL, Nat.max_le, ih]; simp
theorem wtVL_append (a b : List SD) : wtVL (a ++ b) = wtVL a + wtVL b := by
  induction a with
  | nil => simp [wtVL]
  | cons x r ih => rw [List.cons_append, wtVL, wtVL, ih]; omega
theorem wtVL_reverse (a : List SD) : wtVL a.reverse = wtVL a := by
  induction a with
  | nil => rfl
  | cons x r ih => rw [List.reverse_cons, wtVL_append, ih, wtVL, wtVL, wtVL]; omega
theorem wtVL_cut (a : List SD) (k : Nat) : wtVL (a.take k) + wtVL (a.drop k) = wtVL a := by rw [← wtVL_append, List.take_append_drop]
theorem wtVL_mem {xs : List SD} {d : SD} (h : d ∈ xs) : wtV d + 1 ≤ wtVL xs := by
  obtain ⟨s, t, rfl⟩ := List.append_of_mem h
  rw [wtVL_append, wtVL]; omega
theorem len_wtVL (xs : List SD) : xs.length ≤ wtVL xs := by
  induction xs with
  | nil => simp
  | cons x r ih => rw [wtVL, List.length_cons]; omega
/-- a value: its ints no greater, no deeper, no heavier -/
structure Val (m D B : Nat) (d : SD) : Prop where
  ok : okV m d
  dp : dpV d ≤ D
  wt : wtV d ≤ B
structure ValL (m D B : Nat) (xs : List SD) : Prop where
  ok : okVL m xs
  dp : dpVL xs ≤ D
  wt : wtVL xs ≤ B
mutual
theorem okV_mono {m m' : Nat} (h : m ≤ m') : ∀ {d : SD}, okV m d → okV m' d
  | .non, _ => by rw [okV]; trivial
  | .bl _, _ => by rw [okV]; trivial
  | .int i, q => by rw [okV] at q ⊢; omega
  | .str x, q => by rw [okV] at q ⊢; exact q
  | .ref _, q => by rw [okV] at q; exact q.elim
  | .ty _, q => by rw [okV] at q; exact q.elim
  | .tup xs, q => by rw [okV] at q ⊢; exact okVL_mono h q
  | .lst xs, q => by rw [okV] at q ⊢; exact okVL_mono h q
  | .rol _, q => by rw [okV] at q; exact q.elim
  | .exc _ _, q => by rw [okV] at q; exact q.elim
  | .ptp _, q => by rw [okV] at q; exact q.elim
  | .dic kvs, q => by rw [okV] at q ⊢; exact q
theorem okVL_mono {m m' : Nat} (h : m ≤ m') : ∀ {xs : List SD}, okVL m xs → okVL m' xs
  | [], _ => by rw [okVL]; trivial
  | d :: r, q => by rw [okVL] at q ⊢; exact ⟨okV_mono h q.1, okVL_mono h q.2⟩
end
theorem Val.mono {m D B m' D' B' : Nat} {d : SD} (v : Val m D B d) (h1 : m ≤ m') (h2 : D ≤ D') (h3 : B ≤ B') : Val m' D' B' d := ⟨okV_mono h1 v.ok, Nat.le_trans v.dp h2, Nat.le_trans v.wt h3⟩
theorem ValL.mono {m D B m' D' B' : Nat} {d : List SD} (v : ValL m D B d) (h1 : m ≤ m') (h2 : D ≤ D') (h3 : B ≤ B') : ValL m' D' B' d := ⟨okVL_mono h1 v.ok, Nat.le_trans v.dp h2, Nat.le_trans v.wt h3⟩
theorem Val.non : Val 0 0 0 .non := ⟨by rw [okV]; trivial, by rw [dpV]; exact Nat.le_refl 0, by rw [wtV]; exact Nat.le_refl 0⟩
theorem Val.bl (b : Bool) : Val 0 0 0 (.bl b) := ⟨by rw [okV]; trivial, by rw [dpV]; exact Nat.le_refl 0, by rw [wtV]; exact Nat.le_refl 0⟩
theorem Val.int {m : Nat} {i : Int} (h : i.natAbs ≤ 10 ^ 20 + m) : Val m 0 0 (.int i) := ⟨by rw [okV]; exact h, by rw [dpV]; exact Nat.le_refl 0, by rw [wtV]; exact Nat.le_refl 0⟩
theorem Val.str {x : Str} (h : PyData.strOk x = true) : Val 0 0 x.cps.size (.str x) := ⟨by rw [okV]; exact h, by rw [dpV]; exact Nat.le_refl 0, by rw [wtV]; exact Nat.le_refl _⟩
theorem Val.dic : Val 0 1 0 (.dic []) := ⟨by rw [okV], by rw [dpV]; exact Nat.le_refl 1, by rw [wtV]; exact Nat.le_refl 0⟩
theorem ValL.nil : ValL 0 0 0 [] := ⟨by rw [okVL]; trivial, by rw [dpVL]; exact Nat.le_refl 0, by rw [wtVL]; exact Nat.le_refl 0⟩
theorem ValL.cons {m D B C : Nat} {d : SD} {r : List SD} (v : Val m D B d) (w : ValL m D C r) : ValL m D (B + 1 + C) (d :: r) :=
  ⟨by rw [okVL]; exact ⟨v.ok, w.ok⟩, by rw [dpVL]; exact Nat.max_le.mpr ⟨v.dp, w.dp⟩, by have := v.wt; have := w.wt; rw [wtVL]; omega⟩
theorem ValL.one {m D B : Nat} {d : SD} (v : Val m D B d) : ValL m D (B + 1) [d] := ValL.cons v (ValL.nil.mono (Nat.zero_le _) (Nat.zero_le _) (Nat.le_refl 0))
theorem ValL.append {m D B C : Nat} {a b : List SD} (v : ValL m D B a) (w : ValL m D C b) : ValL m D (B + C) (a ++ b) :=
  ⟨okVL_mem.mpr fun d hd => (List.mem_append.mp hd).elim (okVL_mem.mp v.ok d) (okVL_mem.mp w.ok d), dpVL_le.mpr fun d hd => (List.mem_append.mp hd).elim (dpVL_le.mp v.dp d) (dpVL_le.mp w.dp d), by have := v.wt; have := w.wt; rw [wtVL_append]; omega⟩
theorem ValL.take {m D B : Nat} {a : List SD} (v : ValL m D B a) (k : Nat) : ValL m D B (a.take k) :=
  ⟨okVL_mem.mpr fun d hd => okVL_mem.mp v.ok d (List.mem_of_mem_take hd), dpVL_le.mpr fun d hd => dpVL_le.mp v.dp d (List.mem_of_mem_take hd), by have := v.wt; have := wtVL_cut a k; omega⟩
theorem ValL.drop {m D B : Nat} {a : List SD} (v : ValL m D B a) (k : Nat) : ValL m D B (a.drop k) :=
  ⟨okVL_mem.mpr fun d hd => okVL_mem.mp v.ok d (List.mem_of_mem_drop hd), dpVL_le.mpr fun d hd => dpVL_le.mp v.dp d (List.mem_of_mem_drop hd), by have := v.wt; have := wtVL_cut a k; omega⟩
theorem ValL.reverse {m D B : Nat} {a : List SD} (v : ValL m D B a) : ValL m D B a.reverse :=
  ⟨okVL_mem.mpr fun d hd => okVL_mem.mp v.ok d (List.mem_reverse.mp hd), dpVL_le.mpr fun d hd => dpVL_le.mp v.dp d (List.mem_reverse.mp hd), by have := v.wt; rw [wtVL_reverse]; exact this⟩
theorem ValL.of {m D B n : Nat} {a : List SD} (h : ∀ d ∈ a, Val m D B d) (hn : a.length ≤ n) : ValL m D (n * (B + 1)) a := by
  refine ⟨okVL_mem.mpr fun d hd => (h d hd).ok, dpVL_le.mpr fun d hd => (h d hd).dp, Nat.le_trans ?_ (Nat.mul_le_mul_right _ hn)⟩
  clear hn
  induction a with
  | nil => simp [wtVL]
  | cons x r ih =>
    have := (h x (List.mem_cons_self ..)).wt
    have := ih fun d hd => h d (List.mem_cons_of_mem _ hd)
    rw [wtVL, List.length_cons, Nat.add_mul]; omega
theorem ValL.mem {m D B : Nat} {a : List SD} (v : ValL m D B a) {d : SD} (hd : d ∈ a) : Val m D B d :=
  ⟨okVL_mem.mp v.ok d hd, dpVL_le.mp v.dp d hd, by have := v.wt; have := wtVL_mem hd; omega⟩
theorem Val.tup {m D B : Nat} {a : List SD} (v : ValL m D B a) : Val m (D + 1) B (.tup a) := ⟨by rw [okV]; exact v.ok, by rw [dpV]; exact Nat.succ_le_succ v.dp, by rw [wtV]; exact v.wt⟩
theorem Val.lst {m D B : Nat} {a : List SD} (v : ValL m D B a) : Val m (D + 1) B (.lst a) := ⟨by rw [okV]; exact v.ok, by rw [dpV]; exact Nat.succ_le_succ v.dp, by rw [wtV]; exact v.wt⟩
theorem Val.ofTup {m D B : Nat} {a : List SD} (v : Val m (D + 1) B (.tup a)) : ValL m D B a := ⟨by have := v.ok; rw [okV] at this; exact this, by have := v.dp; rw [dpV] at this; omega, by have := v.wt; rw [wtV] at this; exact this⟩
theorem Val.pos {m D B : Nat} {a : List SD} (v : Val m D B (.tup a)) : 0 < D := by have := v.dp; rw [dpV] at this; omega
/-! what is shown -/
theorem int_short {m : Nat} (hm : m ≤ 10 ^ 20) {i : Int} (h : i.natAbs ≤ 10 ^ 20 + m) : (PyData.shown (.int i)).length ≤ 31 ∧ i.natAbs.log2 < 1920 := by
  have h30 : i.natAbs < 10 ^ 30 := by have : (10 : Nat) ^ 30 = 10 ^ 20 * 10 ^ 10 := by decide
                                      omega
  constructor
  · have := int_text_length_le10 (k := 30) (by decide) h30
    simp only [PyData.shown]
    show (Str.ofString (toString i)).length ≤ 31
    rw [PySem.ofString_length]; exact this
  · by_cases e : i.natAbs = 0
    · rw [e]; decide
    · refine (Nat.log2_lt e).mpr (Nat.lt_of_lt_of_le h30 ?_)
      decide +kernel
mutual
theorem okV_shows {m : Nat} (hm : m ≤ 10 ^ 20) : ∀ {d : SD}, okV m d → ∃ p, pqS d = some p ∧ p.depth = dpV d ∧ p.showable = true ∧ p.leavesShort 40 = true ∧ p.bulk = wtV d
  | .non, _ => ⟨.none, rfl, by simp [PyData.depth, dpV], by simp [PyData.showable], by simp [PyData.leavesShort], by simp [PyData.bulk, wtV]⟩
  | .bl b, _ => ⟨.bool b, rfl, by simp [PyData.depth, dpV], by simp [PyData.showable], by simp [PyData.leavesShort], by simp [PyData.bulk, wtV]⟩
  | .int i, q => by
    rw [okV] at q
    obtain ⟨h1, h2⟩ := int_short hm q
    exact ⟨.int i, rfl, by simp [PyData.depth, dpV], by simpa [PyData.showable] using h2, by simp only [PyData.leavesShort, decide_eq_true_eq]; omega, by simp [PyData.bulk, wtV]⟩
  | .str x, q => by
    rw [okV] at q
    refine ⟨.str x, rfl, by simp [PyData.depth, dpV], by simp [PyData.showable], ?_, by simp [PyData.bulk, wtV]⟩
    unfold PyData.leavesShort
    rw [List.all_eq_true]
    intro c hc
    have := (Array.all_eq_true_iff_forall_mem.mp q) c (by simpa using hc)
    simp at this ⊢
    omega
  | .ref _, q => by rw [okV] at q; exact q.elim
  | .ty _, q => by rw [okV] at q; exact q.elim
  | .tup xs, q => by
    rw [okV] at q
    obtain ⟨ps, e, h1, h2, h3, h4⟩ := okVL_shows hm q
    exact ⟨.tuple ps, by rw [pqS, e], by rw [PyData.depth, dpV, h1], by simp [PyData.showable, h2], by simp [PyData.leavesShort, h3], by rw [PyData.bulk, wtV, h4]⟩
  | .lst xs, q => by
    rw [okV] at q
    obtain ⟨ps, e, h1, h2, h3, h4⟩ := okVL_shows hm q
    exact ⟨.list ps, by rw [pqS, e], by rw [PyData.depth, dpV, h1], by simp [PyData.showable, h2], by simp [PyData.leavesShort, h3], by rw [PyData.bulk, wtV, h4]⟩
  | .rol _, q => by rw [okV] at q; exact q.elim
  | .exc _ _, q => by rw [okV] at q; exact q.elim
  | .ptp _, q => by rw [okV] at q; exact q.elim
  | .dic kvs, q => by
    rw [okV] at q; subst q
    exact ⟨.dict [], rfl, by simp [PyData.depth, PyData.depthKv, dpV], by simp [PyData.showable, PyData.showableKv], by simp [PyData.leavesShort, PyData.leavesShortKv], by simp [PyData.bulk, PyData.bulkKv, wtV]⟩
theorem okVL_shows {m : Nat} (hm : m ≤ 10 ^ 20) : ∀ {xs : List SD}, okVL m xs → ∃ ps, pqL xs = some ps ∧ PyData.depthAll ps = dpVL xs ∧ PyData.showableAll ps = true ∧ PyData.leavesShortAll 40 ps = true ∧ PyData.bulkAll ps = wtVL xs
  | [], _ => ⟨[], rfl, by simp [PyData.depthAll, dpVL], by simp [PyData.showableAll], by simp [PyData.leavesShortAll], by simp [PyData.bulkAll, wtVL]⟩
  | d :: r, q => by
    rw [okVL] at q
    obtain ⟨p, e, h1, h2, h3, h4⟩ := okV_shows hm q.1
    obtain ⟨ps, e', g1, g2, g3, g4⟩ := okVL_shows hm q.2
    exact ⟨p :: ps, by rw [pqL, e, e'], by rw [PyData.depthAll, dpVL, h1, g1], by simp [PyData.showableAll, h2, g2], by simp [PyData.leavesShortAll, h3, g3], by rw [PyData.bulkAll, wtVL, h4, g4]⟩
end
/-- the text that is shown -/
def shw (d : SD) : Str := match pqS d with
  | some p => p.shown
  | none => ""
theorem r_reprQ {m D B : Nat} {d : SD} {μ : Mu} {Q : SD → Mu → Prop} (v : Val m D B d) (hm : m ≤ 10 ^ 20) (hD : D ≤ 64) (hB : B ≤ 250000) (q : Q (.str (shw d)) μ) : drReprQ [d] μ Q := by
  obtain ⟨p, e, h1, h2, h3, h4⟩ := okV_shows hm v.ok
  have e2 : pq μ d = some p := by
    have hv := v.ok
    cases d <;> first | exact e | (rw [okV] at hv; exact hv.elim)
  have es : shw d = p.shown := by unfold shw; rw [e]
  unfold drReprQ
  simp only [e2]
  refine ⟨⟨h2, ?_, by rw [h1]; exact Nat.le_trans v.dp hD⟩, by rw [← es]; exact q⟩
  have hs := PyData.shown_le_bulk 40 (by decide) p h3
  have hw := v.wt
  rw [h4] at hs
  rw [sizeLine_eq]
  have : (40 + 2) * wtV d ≤ 42 * 250000 := Nat.mul_le_mul_left _ (by omega)
  omega
/-! isinstance -/
def isIntD : SD → Bool
  | .int _ => true
  | .bl _ => true
  | _ => false
section
variable {m : Nat} {d : SD} {μ : Mu} {Q : SD → Mu → Prop}
theorem kit_facts : (kitB "NoneType" "str" = some false ∧ kitB "bool" "str" = some false ∧ kitB "int" "str" = some false ∧ kitB "str" "str" = some true ∧ kitB "tuple" "str" = some false ∧ kitB "list" "str" = some false ∧ kitB "dict" "str" = some false) ∧
    (kitB "NoneType" "tuple" = some false ∧ kitB "bool" "tuple" = some false ∧ kitB "int" "tuple" = some false ∧ kitB "str" "tuple" = some false ∧ kitB "tuple" "tuple" = some true ∧ kitB "list" "tuple" = some false ∧ kitB "dict" "tuple" = some false) ∧
    (kitB "NoneType" "int" = some false ∧ kitB "bool" "int" = some true ∧ kitB "int" "int" = some true ∧ kitB "str" "int" = some false ∧ kitB "tuple" "int" = some false ∧ kitB "list" "int" = some false ∧ kitB "dict" "int" = some false) := by decide +kernel
theorem isi_str (v : okV m d) (q : Q (.bl (isStr d)) μ) : drIsi [d, .ty "str"] μ Q := by
  obtain ⟨⟨a1, a2, a3, a4, a5, a6, a7⟩, _⟩ := kit_facts
  cases d with
  | non => exact isi_of rfl a1 q
  | bl b => exact isi_of rfl a2 q
  | int i => exact isi_of rfl a3 q
  | str x => exact isi_of rfl a4 q
  | tup xs => exact isi_of rfl a5 q
  | lst xs => exact isi_of rfl a6 q
  | dic kvs => exact isi_of rfl a7 q
  | _ => rw [okV] at v; exact v.elim
theorem isi_tup (v : okV m d) (q : Q (.bl (isTup d)) μ) : drIsi [d, .ty "tuple"] μ Q := by
  obtain ⟨_, ⟨a1, a2, a3, a4, a5, a6, a7⟩, _⟩ := kit_facts
  cases d with
  | non => exact isi_of rfl a1 q
  | bl b => exact isi_of rfl a2 q
  | int i => exact isi_of rfl a3 q
  | str x => exact isi_of rfl a4 q
  | tup xs => exact isi_of rfl a5 q
  | lst xs => exact isi_of rfl a6 q
  | dic kvs => exact isi_of rfl a7 q
  | _ => rw [okV] at v; exact v.elim
theorem isi_int (v : okV m d) (q : Q (.bl (isIntD d)) μ) : drIsi [d, .ty "int"] μ Q := by
  obtain ⟨_, _, ⟨a1, a2, a3, a4, a5, a6, a7⟩⟩ := kit_facts
  cases d with
  | non => exact isi_of rfl a1 q
  | bl b => exact isi_of rfl a2 q
  | int i => exact isi_of rfl a3 q
  | str x => exact isi_of rfl a4 q
  | tup xs => exact isi_of rfl a5 q
  | lst xs => exact isi_of rfl a6 q
  | dic kvs => exact isi_of rfl a7 q
  | _ => rw [okV] at v; exact v.elim
end
end MA
/-! NW: trees and keys as values to be shown. -/
namespace LK
open PySem PySem.Spec PyProof.Rows L2 DS MA
mutual
theorem enc_val : ∀ t : T, (∀ k ∈ pre t, KeyOk k) → Val 0 (2 * dep t) (64 * (pre t).length - 1) (enc t)
  | .node k cs, h => by
    rw [pre] at h
    have gs := encL_val cs fun x hx => h x (List.mem_cons_of_mem _ hx)
    obtain ⟨k1, k2⟩ := h k (List.mem_cons_self ..)
    rw [enc, dep, pre]
    have g2 := ValL.cons ((Val.str k1).mono (m' := 0) (D' := 2 * depL cs + 1) (Nat.le_refl _) (Nat.zero_le _) k2) (ValL.one ((Val.tup gs).mono (Nat.le_refl _) (Nat.le_refl _) (Nat.le_refl _)))
    refine (Val.tup g2).mono (Nat.le_refl _) (by omega) ?_
    rw [List.length_cons]; omega
theorem encL_val : ∀ ts : List T, (∀ k ∈ preL ts, KeyOk k) → ValL 0 (2 * depL ts) (64 * (preL ts).length) (encL ts)
  | [], _ => by rw [encL]; exact ValL.nil.mono (Nat.le_refl _) (Nat.zero_le _) (Nat.zero_le _)
  | t :: r, h => by
    rw [preL] at h
    have g := enc_val t fun x hx => h x (List.mem_append_left _ hx)
    have gs := encL_val r fun x hx => h x (List.mem_append_right _ hx)
    have := pre_pos t
    rw [encL, depL, preL]
    refine (ValL.cons (g.mono (m' := 0) (D' := 2 * max (dep t) (depL r)) (Nat.le_refl _) (by omega) (Nat.le_refl _)) (gs.mono (m' := 0) (D' := 2 * max (dep t) (depL r)) (Nat.le_refl _) (by omega) (Nat.le_refl _))).mono (Nat.le_refl _) (Nat.le_refl _) ?_
    rw [List.length_append]; omega
end
section
variable {μ : Mu} {Q : SD → Mu → Prop} {a b : Addr} {xs ys : List SD}
theorem rl_add (m : μ a = some (.lst xs)) (l : xs.length + ys.length ≤ sizeLine) (q : Q (.lst (xs ++ ys)) μ) : dAdd (.ref a) (.lst ys) μ Q := by
  unfold dAdd; simp only [lstD, m]; exact ⟨l, q⟩
theorem ll_addM (l : xs.length + ys.length ≤ sizeLine) (q : ∀ p, μ p = none → Q (.ref p) (up μ p (.lst (xs ++ ys)))) : dAddM (.lst xs) (.lst ys) μ Q := ⟨l, q⟩
theorem ne_sameQ {u : Str} (q : Q (.bl false) μ) : dEq true (.str u) (.str u) μ Q := by
  have : eqD μ (.str u) (.str u) = some true := by simp [eqD]
  unfold dEq; rw [this]; exact q
end
theorem cut_len {α : Type} {xs : List α} {l : Option Int} {k : Nat} : (cutL xs l (some (k : Int))).length ≤ k := by
  unfold cutL
  rw [List.length_take, HT.sIx_nat, List.length_drop]
  omega
theorem sts_mem {names : List Str} {d : SD} (h : d ∈ sts names) : ∃ k ∈ names, d = .str k := by
  obtain ⟨k, hk, e⟩ := List.mem_map.mp h
  exact ⟨k, hk, e.symm⟩
theorem key_val {k : Str} (h : KeyOk k) : Val 0 0 61 (.str k) := (Val.str h.1).mono (Nat.le_refl _) (Nat.le_refl _) h.2
end LK
/-! NK1: is_key, keys_within, is_tree of any value. -/
namespace LK
open PySem PySem.Spec PyProof.Rows L2 DS MA
section
variable {μ : Mu} {Q : SD → Mu → Prop} {m n : Int} {c : Nat} {z : Str}
theorem i_eq (q : Q (.bl (decide (m = n))) μ) : dEq false (.int m) (.int n) μ Q := by
  have : eqD μ (.int m) (.int n) = some (decide (m = n)) := by simp [eqD]
  unfold dEq; rw [this]
  show Q (.bl (false != decide (m = n))) μ
  rw [Bool.false_bne]; exact q
theorem i_ne (q : Q (.bl (!decide (m = n))) μ) : dEq true (.int m) (.int n) μ Q := by
  have : eqD μ (.int m) (.int n) = some (decide (m = n)) := by simp [eqD]
  unfold dEq; rw [this]
  show Q (.bl (true != decide (m = n))) μ
  rw [Bool.true_bne]; exact q
theorem in_sign (q : Q (.bl (decide (c ∈ z.cps.toList))) μ) : dIn false (.str ⟨#[c]⟩) (.str z) μ Q := by
  show Q (.bl (false != decide (c ∈ z.cps.toList))) μ
  rw [Bool.false_bne]; exact q
theorem bls_all {bs : List Bool} (q : Q (.bl (bs.all _root_.id)) μ) : drBls (fun bs => bs.all _root_.id) [.lst (bs.map SD.bl)] μ Q := by
  unfold drBls
  simp only [lstD, blsOf_map]
  exact q
end
theorem subLen {α : Type} [DecidableEq α] : ∀ {u l : List α}, u.Nodup → (∀ k ∈ u, k ∈ l) → u.length ≤ l.length
  | [], _, _, _ => Nat.zero_le _
  | x :: r, l, nd, h => by
    have nd2 := List.nodup_cons.mp nd
    have hx := h x (List.mem_cons_self ..)
    have := subLen (u := r) (l := l.erase x) nd2.2 fun k hk => by
      have h1 := h k (List.mem_cons_of_mem _ hk)
      have : k ≠ x := fun e => nd2.1 (e ▸ hk)
      exact (List.mem_erase_of_ne this).mpr h1
    rw [List.length_erase_of_mem hx] at this
    have : 0 < l.length := List.length_pos_of_mem hx
    rw [List.length_cons]; omega
theorem dist_lt {α : Type} [DecidableEq α] : ∀ {l u : List α}, Dist l u → ¬ l.Nodup → u.length < l.length
  | [], _, _, h => (h List.nodup_nil).elim
  | x :: r, u, d, h => by
    by_cases hx : x ∈ r
    · have := subLen d.nd fun k hk => by
        rcases List.mem_cons.mp ((d.mem k).mp hk) with e | e
        · exact e ▸ hx
        · exact e
      rw [List.length_cons]; omega
    · have hr : ¬ r.Nodup := fun q => h (List.nodup_cons.mpr ⟨hx, q⟩)
      have hxu : x ∈ u := (d.mem x).mpr (List.mem_cons_self ..)
      have := dist_lt (l := r) (u := u.erase x) ⟨d.nd.erase x, fun k => by
        rw [d.nd.mem_erase_iff, d.mem k, List.mem_cons]
        constructor
        · rintro ⟨h1, h2 | h2⟩
          · exact (h1 h2).elim
          · exact h2
        · intro h2; exact ⟨fun e => hx (e ▸ h2), .inr h2⟩⟩ hr
      rw [List.length_erase_of_mem hxu] at this
      rw [List.length_cons]; omega
theorem dist_len {α : Type} [DecidableEq α] {l u : List α} (d : Dist l u) : decide ((u.length : Int) = (l.length : Int)) = decide l.Nodup := by
  by_cases h : l.Nodup
  · have h1 := subLen d.nd fun k hk => (d.mem k).mp hk
    have h2 := subLen h fun k hk => (d.mem k).mpr hk
    rw [decide_eq_true h, decide_eq_true (by omega)]
  · have := dist_lt d h
    rw [decide_eq_false h, decide_eq_false (by omega)]
def abcS : Str := "abcdefghijklmnopqrstuvwxyz"
def keyB : SD → Bool
  | .str x => decide (1 ≤ x.length) && decide (x.length ≤ 8) && x.cps.toList.all fun c => decide (c ∈ abcS.cps.toList)
  | _ => false
theorem keyB_eq (x : Str) : keyB (.str x) = (decide (1 ≤ x.length) && decide (x.length ≤ 8) && x.cps.toList.all fun c => decide (c ∈ abcS.cps.toList)) := rfl
def strD : SD → Str
  | .str x => x
  | _ => ""
theorem keyB_str {d : SD} (h : keyB d = true) : ∃ x, d = .str x := by
  cases d <;> first | exact ⟨_, rfl⟩ | cases h
def sp_is_key : DSp := fun ds μ Q _ => ∃ (d : SD) (m : Nat), ds = [d] ∧ okV m d ∧ wtV d ≤ 300000 ∧ Q (.bl (keyB d)) μ
theorem len_is_key : ∀ ds μ Q E, sp_is_key ds μ Q E → ds.length = 1 := by rintro ds μ Q E ⟨d, m, rfl, _⟩; rfl
theorem letters_ok {x : Str} {ρ : Rho} {μ : Mu} {Q : SD → Mu → Prop} (hx : x.length ≤ 300000) (h0 : ρ[0]? = some (some (.str x))) (hl : ρ.length = 2) (q : Q (.bl (x.cps.toList.all fun c => decide (c ∈ abcS.cps.toList))) μ) :
    dCB (drBls fun bs => bs.all _root_.id) (dCons (dLcS (jSeq (dVar 0)) (hName 1) dYes (dOp (dIn false) (dVar 1) (dC (.str "abcdefghijklmnopqrstuvwxyz"))) [1]) dNil) ρ μ Q := by
  unfold dLcS dLc
  refine r_var h0 ?_
  have cl : (chars x).length = x.cps.size := by simp [chars]
  have hx' : x.cps.size ≤ 300000 := hx
  refine lc_pure (zs := (x.cps.toList.map fun c => decide (c ∈ abcS.cps.toList)).map SD.bl) trivial (by rw [cl]; omega) (by simp [chars]) ?_ ?_
  · intro i d y hd hy R r
    unfold chars at hd
    rw [List.getElem?_map] at hd
    rw [List.getElem?_map, List.getElem?_map] at hy
    cases e : x.cps.toList[i]? with
    | none => rw [e] at hd; cases hd
    | some c =>
      rw [e] at hd hy; cases hd; cases hy
      have : ((wipeR ρ [1]).set 1 (some (SD.str ⟨#[c]⟩)))[1]? = some (some (SD.str ⟨#[c]⟩)) := by
        rw [List.getElem?_set_self]; simp [wipeR, hl]
      refine r_var this ?_
      exact in_sign r
  · refine bls_all ?_
    have : (x.cps.toList.map fun c => decide (c ∈ abcS.cps.toList)).all _root_.id = x.cps.toList.all fun c => decide (c ∈ abcS.cps.toList) := by
      rw [List.all_map]; rfl
    rw [this]; exact q
def t_is_key : DTS := (dSeq (dIfS (dOr (dNot (dTest (dCB drIsi (dCons (dVar 0) (dCons (dC (.ty "str")) dNil))))) (dNot (dTest (dChain dLe dLe (dC (.int 1)) (dCB drLen (dCons (dVar 0) dNil)) (dC (.int 8)))))) (dRet (dC (.bl false))) dNext)
    (dRet (dCB (drBls fun bs => bs.all _root_.id) (dCons (dLcS (jSeq (dVar 0)) (hName 1) dYes (dOp (dIn false) (dVar 1) (dC (.str "abcdefghijklmnopqrstuvwxyz"))) [1]) dNil))))
theorem read_is_key : ∀ ds μ Q E, sp_is_key ds μ Q E → t_is_key { nx := fun _ μ' => Q .non μ', rt := Q } (begin_ ["value", "letter"] ds) μ := by
  rintro ds μ Q E ⟨d, m, rfl, v, w, q⟩
  unfold t_is_key
  refine r_var rfl ?_
  refine isi_str v ?_
  cases d with
  | str x =>
    refine ifF rfl ?_
    rw [wtV] at w
    have xl : x.length ≤ 300000 := w
    refine r_var rfl ?_
    refine l_lenS (le_line xl (by omega)) ?_
    refine i_le ?_
    by_cases h1 : 1 ≤ x.length
    · rw [decide_eq_true (show (1 : Int) ≤ (x.length : Int) by omega)]
      refine i_le ?_
      by_cases h2 : x.length ≤ 8
      · rw [decide_eq_true (show (x.length : Int) ≤ 8 by omega)]
        refine ifF rfl ?_
        refine letters_ok (ρ := begin_ ["value", "letter"] [.str x]) xl rfl rfl ?_
        have : keyB (.str x) = x.cps.toList.all fun c => decide (c ∈ abcS.cps.toList) := by rw [keyB_eq, decide_eq_true h1, decide_eq_true h2]; rfl
        rw [← this]; exact q
      · rw [decide_eq_false (show ¬ (x.length : Int) ≤ 8 by omega)]
        refine ifT rfl ?_
        have : keyB (.str x) = false := by rw [keyB_eq, decide_eq_false h2, Bool.and_false, Bool.false_and]
        rw [← this]; exact q
    · rw [decide_eq_false (show ¬ (1 : Int) ≤ (x.length : Int) by omega)]
      refine ifT rfl ?_
      have : keyB (.str x) = false := by rw [keyB_eq, decide_eq_false h1, Bool.false_and, Bool.false_and]
      rw [← this]; exact q
  | ref a => rw [okV] at v; exact v.elim
  | ty a => rw [okV] at v; exact v.elim
  | rol a => rw [okV] at v; exact v.elim
  | exc a b => rw [okV] at v; exact v.elim
  | ptp a => rw [okV] at v; exact v.elim
  | _ => exact ifT rfl (ifT rfl q)
def sp__law_is_key : DSp := fun ds μ Q _ => ∃ (d : SD) (m : Nat), ds = [d] ∧ okV m d ∧ wtV d ≤ 300000 ∧ Q (.bl (keyB d)) μ
theorem len__law_is_key : ∀ ds μ Q E, sp__law_is_key ds μ Q E → ds.length = 1 := by rintro ds μ Q E ⟨d, m, rfl, _⟩; rfl
def t__law_is_key : DTS := (dSeq (dIfS (dOr (dNot (dTest (dCB drIsi (dCons (dVar 0) (dCons (dC (.ty "str")) dNil))))) (dNot (dTest (dChain dLt dLt (dC (.int 0)) (dCB drLen (dCons (dVar 0) dNil)) (dC (.int 9)))))) (dRet (dC (.bl false))) dNext)
    (dRet (dCB (drBls fun bs => bs.all _root_.id) (dCons (dLcS (jSeq (dVar 0)) (hName 1) dYes (dOp (dIn false) (dVar 1) (dC (.str "abcdefghijklmnopqrstuvwxyz"))) [1]) dNil))))
theorem read__law_is_key : ∀ ds μ Q E, sp__law_is_key ds μ Q E → t__law_is_key { nx := fun _ μ' => Q .non μ', rt := Q } (begin_ ["_law_thing", "_law_letter"] ds) μ := by
  rintro ds μ Q E ⟨d, m, rfl, v, w, q⟩
  unfold t__law_is_key
  refine r_var rfl ?_
  refine isi_str v ?_
  cases d with
  | str x =>
    refine ifF rfl ?_
    rw [wtV] at w
    have xl : x.length ≤ 300000 := w
    refine r_var rfl ?_
    refine l_lenS (le_line xl (by omega)) ?_
    refine i_lt ?_
    by_cases h1 : 1 ≤ x.length
    · rw [decide_eq_true (show (0 : Int) < (x.length : Int) by omega)]
      refine i_lt ?_
      by_cases h2 : x.length ≤ 8
      · rw [decide_eq_true (show (x.length : Int) < 9 by omega)]
        refine ifF rfl ?_
        refine letters_ok (ρ := begin_ ["_law_thing", "_law_letter"] [.str x]) xl rfl rfl ?_
        have : keyB (.str x) = x.cps.toList.all fun c => decide (c ∈ abcS.cps.toList) := by rw [keyB_eq, decide_eq_true h1, decide_eq_true h2]; rfl
        rw [← this]; exact q
      · rw [decide_eq_false (show ¬ (x.length : Int) < 9 by omega)]
        refine ifT rfl ?_
        have : keyB (.str x) = false := by rw [keyB_eq, decide_eq_false h2, Bool.and_false, Bool.false_and]
        rw [← this]; exact q
    · rw [decide_eq_false (show ¬ (0 : Int) < (x.length : Int) by omega)]
      refine ifT rfl ?_
      have : keyB (.str x) = false := by rw [keyB_eq, decide_eq_false h1, Bool.false_and, Bool.false_and]
      rw [← this]; exact q
  | ref a => rw [okV] at v; exact v.elim
  | ty a => rw [okV] at v; exact v.elim
  | rol a => rw [okV] at v; exact v.elim
  | exc a b => rw [okV] at v; exact v.elim
  | ptp a => rw [okV] at v; exact v.elim
  | _ => exact ifT rfl (ifT rfl q)
/-! keys of a value as a tree -/
def allO {α β : Type} (f : α → Option (List β)) : List α → Option (List β)
  | [] => some []
  | c :: r => match f c, allO f r with
    | some a, some b => some (a ++ b)
    | _, _ => none
theorem allO_append {α β : Type} {f : α → Option (List β)} {b : List α} {y : List β} : ∀ {a : List α} {x : List β}, allO f a = some x → allO f b = some y → allO f (a ++ b) = some (x ++ y)
  | [], x, h, g => by cases h; exact g
  | c :: r, x, h, g => by
    rw [allO] at h
    split at h
    · rename_i p q e1 e2
      cases h
      rw [List.cons_append, allO, e1, allO_append e2 g]; simp
    · cases h
theorem allO_mem {α β : Type} {f : α → Option (List β)} : ∀ {a : List α} {x : List β}, allO f a = some x → ∀ c ∈ a, ∃ y, f c = some y
  | [], _, _, c, hc => by cases hc
  | d :: r, x, h, c, hc => by
    rw [allO] at h
    split at h
    · rename_i p q e1 e2
      rcases List.mem_cons.mp hc with rfl | hc
      · exact ⟨p, e1⟩
      · exact allO_mem e2 c hc
    · cases h
theorem allO_none {α β : Type} {f : α → Option (List β)} {a : List α} {c : α} (hc : c ∈ a) (h : f c = none) : allO f a = none := by
  cases e : allO f a with
  | none => rfl
  | some x => obtain ⟨y, hy⟩ := allO_mem e c hc; rw [h] at hy; cases hy
def kin : Nat → SD → Option (List Str)
  | 0, _ => none
  | n + 1, d => match d with
    | .tup [x, .tup cs] => if keyB x = true then (match allO (kin n) cs with
      | some l => some (strD x :: l)
      | none => none) else none
    | _ => none
theorem allO_wt {f : SD → Option (List Str)} (h : ∀ d l, f d = some l → l.length ≤ wtV d) : ∀ {cs : List SD} {l : List Str}, allO f cs = some l → l.length ≤ wtVL cs
  | [], l, e => by cases e; simp
  | c :: r, l, e => by
    rw [allO] at e
    split at e
    · rename_i p q e1 e2
      cases e
      have := h _ _ e1
      have := allO_wt h e2
      rw [wtVL, List.length_append]; omega
    · cases e
theorem kin_wt : ∀ (n : Nat) (d : SD) (l : List Str), kin n d = some l → l.length ≤ wtV d
  | 0, d, l, h => by cases h
  | n + 1, d, l, h => by
    unfold kin at h
    split at h
    · rename_i x cs
      split at h
      · split at h
        · rename_i l' e
          cases h
          have := allO_wt (kin_wt n) e
          rw [wtV, wtVL, wtVL, wtV, wtVL, List.length_cons]; omega
        · cases h
      · cases h
    · cases h
def kwR (lv : Nat) (d : SD) : SD := match kin lv d with
  | some l => .lst (sts l)
  | none => .non
def sp_keys_within (n : Nat) : DSp := fun ds μ Q _ => ∃ (d : SD) (m lv : Nat), ds = [d, .int lv] ∧ lv < n ∧ okV m d ∧ wtV d ≤ 300000 ∧ ∀ μ', Le μ μ' → Q (kwR lv d) μ'
theorem no_keys_within {ds μ Q E} (h : sp_keys_within 0 ds μ Q E) : False := by
  obtain ⟨d, m, lv, rfl, h, _⟩ := h; omega
theorem len_keys_within {n} : ∀ ds μ Q E, sp_keys_within n ds μ Q E → ds.length = 2 := by rintro ds μ Q E ⟨d, m, lv, rfl, _⟩; rfl
def t_keys_within (n : Nat) : DTS := (dSeq (dIfS (dOr (dTest (dOp (dEq false) (dVar 1) (dC (.int 0)))) (dOr (dNot (dTest (dCB drIsi (dCons (dVar 0) (dCons (dC (.ty "tuple")) dNil))))) (dTest (dOp (dEq true) (dCB drLen (dCons (dVar 0) dNil)) (dC (.int 2)))))) (dRet (dC .non)) dNext)
    (dSeq (dIfS (dOr (dNot (dTest (dCall sp_is_key [] (dCons (dOp dIx (dVar 0) (dC (.int 0))) dNil)))) (dNot (dTest (dCB drIsi (dCons (dOp dIx (dVar 0) (dC (.int 1))) (dCons (dC (.ty "tuple")) dNil)))))) (dRet (dC .non)) dNext)
    (dSeq (dSet (dLstM (dCons (dOp dIx (dVar 0) (dC (.int 0))) dNil)) 2)
    (dSeq (dFor (jSeq (dOp dIx (dVar 0) (dC (.int 1)))) (hName 3) (dSeq (dSet (dCall (sp_keys_within n) [] (dCons (dVar 3) (dCons (dOp dSub (dVar 1) (dC (.int 1))) dNil))) 4)
    (dSeq (dIfS (dTest (dIsN (dVar 4))) (dRet (dC .non)) dNext)
    (dDrop (dLM dmExtend (dVar 2) (dCons (dVar 4) dNil))))))
    (dRetF (dVar 2))))))
theorem read_keys_within (n : Nat) : ∀ ds μ Q E, sp_keys_within (n + 1) ds μ Q E → t_keys_within n { nx := fun _ μ' => Q .non μ', rt := Q } (begin_ ["value", "levels", "found", "child", "some"] ds) μ := by
  rintro ds μ Q E ⟨d, m, lv, rfl, hlv, v, w, q⟩
  unfold t_keys_within dFor
  refine r_var rfl ?_
  refine i_eq ?_
  cases lv with
  | zero => exact ifT rfl (ifT rfl (q μ (Le.refl μ)))
  | succ l0 =>
    rw [decide_eq_false (show ¬ ((l0 + 1 : Nat) : Int) = 0 by omega)]
    refine ifF rfl ?_
    refine r_var rfl ?_
    refine isi_tup v ?_
    cases d with
    | ref a => rw [okV] at v; exact v.elim
    | ty a => rw [okV] at v; exact v.elim
    | rol a => rw [okV] at v; exact v.elim
    | exc a b => rw [okV] at v; exact v.elim
    | ptp a => rw [okV] at v; exact v.elim
    | tup xs =>
      refine ifF rfl ?_
      refine r_var rfl ?_
      refine l_lenT ?_
      refine i_ne ?_
      by_cases h2 : xs.length = 2
      · rw [decide_eq_true (show (xs.length : Int) = 2 by omega)]
        refine ifF rfl ?_
        simp only [dNext]
        obtain ⟨x, y, rfl⟩ : ∃ x y, xs = [x, y] := by
          match xs, h2 with
          | [x, y], _ => exact ⟨x, y, rfl⟩
        rw [okV, okVL, okVL] at v
        obtain ⟨vx, vy, _⟩ := v
        rw [wtV, wtVL, wtVL, wtVL] at w
        refine r_var rfl ?_
        refine ix_tup (d := x) rfl ?_
        refine ⟨x, m, rfl, vx, by omega, ?_⟩
        cases hk : keyB x with
        | false =>
          refine ifT rfl (ifT rfl ?_)
          have e : kwR (l0 + 1) (.tup [x, y]) = .non := by
            unfold kwR kin
            cases y <;> simp [hk]
          have := q μ (Le.refl μ)
          rw [e] at this; exact this
        | true =>
          refine ifF rfl ?_
          refine r_var rfl ?_
          refine ix_tup (d := y) rfl ?_
          refine isi_tup vy ?_
          obtain ⟨s, rfl⟩ := keyB_str hk
          cases y with
          | ref a => rw [okV] at vy; exact vy.elim
          | ty a => rw [okV] at vy; exact vy.elim
          | rol a => rw [okV] at vy; exact vy.elim
          | exc a b => rw [okV] at vy; exact vy.elim
          | ptp a => rw [okV] at vy; exact vy.elim
          | tup cs =>
            refine ifF rfl ?_
            simp only [dNext]
            rw [okV] at vy
            rw [wtV, wtV] at w
            refine r_var rfl ?_
            refine ix_tup (d := .str s) rfl ?_
            refine ⟨(by show 1 ≤ sizeLine; decide), fun p hp => ?_⟩
            dsimp only
            refine r_var rfl ?_
            refine ix_tup (d := .tup cs) rfl ?_
            have ke : kin (l0 + 1) (.tup [.str s, .tup cs]) = (match allO (kin l0) cs with
              | some l => some (s :: l)
              | none => none) := by unfold kin; simp [hk, strD]
            refine ⟨fun i ρ μ' => ∃ (a b : Option SD) (l : List Str), ρ = [some (.tup [.str s, .tup cs]), some (.int ((l0 + 1 : Nat) : Int)), some (.ref p), a, b] ∧ Le μ μ' ∧ μ' p = some (.lst (sts (s :: l))) ∧ allO (kin l0) (cs.take i) = some l, ?_, fun _ _ _ _ _ => rfl, ?_, ?_⟩
            · exact ⟨none, none, [], rfl, (Le.refl μ).up hp, by rw [up_same]; rfl, rfl⟩
            · rintro i c ρ μ' hc ⟨a, b, l, rfl, le, hp', hl⟩
              have hcm := List.mem_of_getElem? hc
              have vc := okVL_mem.mp vy c hcm
              have wc := wtVL_mem hcm
              dsimp only
              refine r_var rfl ?_
              refine r_var rfl ?_
              refine i_sub ?_
              rw [show ((l0 + 1 : Nat) : Int) - 1 = ((l0 : Nat) : Int) by omega]
              refine ⟨c, m, l0, rfl, by omega, vc, by omega, fun μ2 le2 => ?_⟩
              dsimp only
              refine r_var rfl ?_
              cases e : kin l0 c with
              | none =>
                have e2 : kwR l0 c = .non := by unfold kwR; rw [e]
                rw [e2]
                refine ifT rfl ?_
                have e3 : kwR (l0 + 1) (.tup [.str s, .tup cs]) = .non := by unfold kwR; rw [ke, allO_none hcm e]
                have := q μ2 (le.trans le2)
                rw [e3] at this; exact this
              | some lc =>
                have e2 : kwR l0 c = .lst (sts lc) := by unfold kwR; rw [e]
                rw [e2]
                refine ifF rfl ?_
                simp only [dNext]
                have hp2 := le2 _ _ hp'
                refine r_var rfl ⟨isSome_ref hp2, ?_⟩
                refine r_var rfl ?_
                have tk : allO (kin l0) (cs.take (i + 1)) = some (l ++ lc) := by
                  rw [List.take_succ, hc]
                  refine allO_append hl ?_
                  show allO (kin l0) [c] = some lc
                  rw [allO, e, allO]; simp
                have b1 := allO_wt (kin_wt l0) tk
                have b2 : wtVL (cs.take (i + 1)) ≤ wtVL cs := by have := wtVL_cut cs (i + 1); omega
                rw [List.length_append] at b1
                refine dm_extendL hp2 (le_line (m := 300002) (by simp [sts]; omega) (by omega)) ?_
                refine ⟨_, _, l ++ lc, rfl, (le.trans le2).up hp, by rw [up_same]; simp [sts], tk⟩
            · rintro ρ μ' ⟨a, b, l, rfl, le, hp', hl⟩
              dsimp only
              refine r_var rfl ?_
              unfold frz
              simp only [hp']
              rw [List.take_length] at hl
              have e3 : kwR (l0 + 1) (.tup [.str s, .tup cs]) = .lst (sts (s :: l)) := by unfold kwR; rw [ke, hl]
              have := q _ (le.rm hp)
              rw [e3] at this; exact this
          | _ =>
            refine ifT rfl ?_
            have := q μ (Le.refl μ)
            unfold kwR kin at this
            exact this
      · rw [decide_eq_false (show ¬ (xs.length : Int) = 2 by omega)]
        refine ifT rfl ?_
        have e : kwR (l0 + 1) (.tup xs) = .non := by
          unfold kwR kin
          match xs, h2 with
          | [], _ => rfl
          | [_], _ => rfl
          | [_, _], h => exact (h rfl).elim
          | _ :: b :: _ :: _, _ => cases b <;> rfl
        have := q μ (Le.refl μ)
        rw [e] at this; exact this
    | _ => exact ifT rfl (ifT rfl (q μ (Le.refl μ)))
def treeB (d : SD) : Bool := match kin 20 d with
  | some l => decide (l.length ≤ 60) && decide l.Nodup
  | none => false
def sp_is_tree : DSp := fun ds μ Q _ => ∃ (d : SD) (m : Nat), ds = [d] ∧ okV m d ∧ wtV d ≤ 300000 ∧ ∀ μ', Le μ μ' → Q (.bl (treeB d)) μ'
theorem len_is_tree : ∀ ds μ Q E, sp_is_tree ds μ Q E → ds.length = 1 := by rintro ds μ Q E ⟨d, m, rfl, _⟩; rfl
def t_is_tree : DTS := (dSeq (dSet (dCall (sp_keys_within 24) [] (dCons (dVar 0) (dCons (dC (.int 20)) dNil))) 1)
    (dRet (dAndV (dNotN (dVar 1)) (dAndV (dOp dLe (dCB drLen (dCons (dVar 1) dNil)) (dC (.int 60))) (dOp (dEq false) (dLenSet (dVar 1)) (dCB drLen (dCons (dVar 1) dNil)))))))
theorem lenSet_L {μ : Mu} {Q : SD → Mu → Prop} {l : List Str} (hl : l.length ≤ 4000) (q : ∀ u, Dist l u → Q (.int (u.length : Nat)) μ) : drLenSet (.lst (sts l)) μ Q := by
  unfold drLenSet sts
  simp only [lstD, strsOf_map]
  exact ⟨hl, q⟩
theorem read_is_tree : ∀ ds μ Q E, sp_is_tree ds μ Q E → t_is_tree { nx := fun _ μ' => Q .non μ', rt := Q } (begin_ ["value", "found"] ds) μ := by
  rintro ds μ Q E ⟨d, m, rfl, v, w, q⟩
  unfold t_is_tree
  refine r_var rfl ?_
  refine ⟨d, m, 20, rfl, by decide, v, w, fun μ1 le => ?_⟩
  have q1 := q μ1 le
  unfold treeB at q1
  unfold kwR
  dsimp only
  refine r_var rfl ?_
  cases e : kin 20 d with
  | none => rw [e] at q1; exact q1
  | some l =>
    rw [e] at q1
    dsimp only at q1
    dsimp only [DS.isNon]
    refine r_var rfl ?_
    refine l_len ?_
    refine i_le ?_
    have sl : (sts l).length = l.length := by simp [sts]
    rw [sl]
    by_cases h : l.length ≤ 60
    · rw [decide_eq_true (show (l.length : Int) ≤ 60 by omega)]
      refine r_var rfl ?_
      refine lenSet_L (by omega) fun u hu => ?_
      refine r_var rfl ?_
      refine l_len ?_
      refine i_eq ?_
      rw [sl, dist_len hu]
      rw [decide_eq_true h, Bool.true_and] at q1
      exact q1
    · rw [decide_eq_false (show ¬ (l.length : Int) ≤ 60 by omega)]
      rw [decide_eq_false h, Bool.false_and] at q1
      exact q1
end LK
/-! NK2: the law's own look at keys and trees. -/
namespace LK
open PySem PySem.Spec PyProof.Rows L2 DS MA
section
variable {μ : Mu} {Q : SD → Mu → Prop} {a : Addr} {xs : List SD} {neg : Bool} {ρ : Rho} {g : DTG} {te : DTE} {vs : List Nat}
theorem l0_ref (m : μ a = some (.lst xs)) (q : Q (.bl (neg != xs.isEmpty)) μ) : dL0 neg (.ref a) (.lst []) μ Q := by
  unfold dL0; simp only [lstD, m]; exact q
theorem l0_lst (q : Q (.bl (neg != xs.isEmpty)) μ) : dL0 neg (.lst xs) (.lst []) μ Q := q
theorem lc_g {ds zs : List SD} {ok : Mu → Prop} {R : List SD → Mu → Prop} (hok : ok μ) (hl : ds.length ≤ 1000000) (hy : zs.length = ds.length) (el : ∀ (i : Nat) (d y : SD), ds[i]? = some d → zs[i]? = some y → ∀ R : SD → Mu → Prop, R y μ → g d (wipeR ρ vs) μ fun ρ2 μ2 => te ρ2 μ2 R) (q : R zs μ) :
    ds.length ≤ sizeLine ∧ ∃ W : Nat → List SD → Mu → Prop, W 0 [] μ ∧ (∀ i acc μ', i ≤ ds.length → W i acc μ' → ok μ') ∧ (∀ i d acc μ', ds[i]? = some d → W i acc μ' → g d (wipeR ρ vs) μ' fun ρ2 μ2 => dYes ρ2 μ2 fun b μ3 => if b = true then te ρ2 μ3 fun y μ4 => W (i+1) (acc ++ [y]) μ4 else W (i+1) acc μ3) ∧ ∀ acc μ', W ds.length acc μ' → R acc μ' := by
  refine ⟨le_line hl (Nat.le_refl _), fun i acc μ' => acc = zs.take i ∧ μ' = μ, ⟨rfl, rfl⟩, ?_, ?_, ?_⟩
  · rintro i acc μ' _ ⟨_, rfl⟩; exact hok
  · rintro i d acc μ' hd ⟨rfl, rfl⟩
    have hi := (List.getElem?_eq_some_iff.mp hd).1
    have hz : zs[i]? = some zs[i] := List.getElem?_eq_getElem (by omega)
    have e : ∀ K : SD → Mu → Prop, ∀ L : Mu → Prop, (fun (ρ2 : Rho) (μ2 : Mu) => dYes ρ2 μ2 fun b μ3 => if b = true then te ρ2 μ3 K else L μ3) = fun ρ2 μ2 => te ρ2 μ2 K := fun K L => by
      funext ρ2 μ2; exact if_pos rfl
    rw [e]
    refine el i d _ hd hz _ ⟨?_, rfl⟩
    rw [List.take_succ, hz]; rfl
  · rintro acc μ' ⟨rfl, rfl⟩
    rw [List.take_of_length_le (by omega)]; exact q
end
/-- names with their depths, at any depth -/
def wk : Nat → Nat → SD → Option (List (Str × Nat))
  | 0, _, _ => none
  | n + 1, k, d => match d with
    | .tup [x, .tup cs] => if keyB x = true then (match allO (wk n (k + 1)) cs with
      | some l => some ((strD x, k) :: l)
      | none => none) else none
    | _ => none
theorem allO_congr {α β : Type} {f g : α → Option (List β)} : ∀ {a : List α}, (∀ c ∈ a, f c = g c) → allO f a = allO g a
  | [], _ => rfl
  | c :: r, h => by rw [allO, allO, h c (List.mem_cons_self ..), allO_congr fun x hx => h x (List.mem_cons_of_mem _ hx)]
theorem dp_pair {x : SD} {cs : List SD} {c : SD} (h : c ∈ cs) : dpV c + 2 ≤ dpV (.tup [x, .tup cs]) := by
  rw [dpV, dpVL, dpVL, dpVL, dpV]
  have := dpVL_le.mp (Nat.le_refl (dpVL cs)) c h
  omega
theorem wk_fuel : ∀ (n n' k : Nat) (d : SD), dpV d < n → dpV d < n' → wk n k d = wk n' k d
  | 0, _, _, _, h, _ => by omega
  | _, 0, _, _, _, h => by omega
  | n + 1, n' + 1, k, d, h, h' => by
    unfold wk
    split
    · rename_i x cs
      have := allO_congr (f := wk n (k + 1)) (g := wk n' (k + 1)) (a := cs) fun c hc => by
        have := dp_pair (x := x) hc
        exact wk_fuel n n' (k + 1) c (by omega) (by omega)
      rw [this]
    · rfl
def W (k : Nat) (d : SD) : Option (List (Str × Nat)) := wk (dpV d + 1) k d
theorem W_pair (k : Nat) (x : SD) (cs : List SD) : W k (.tup [x, .tup cs]) = if keyB x = true then (match allO (W (k + 1)) cs with
      | some l => some ((strD x, k) :: l)
      | none => none) else none := by
  unfold W
  rw [wk]
  have := allO_congr (f := wk (dpV (.tup [x, .tup cs])) (k + 1)) (g := fun d => wk (dpV d + 1) (k + 1) d) (a := cs) fun c hc => by
    have := dp_pair (x := x) hc
    exact wk_fuel _ _ (k + 1) c (by omega) (by omega)
  rw [this]
theorem W_none {k : Nat} {d : SD} (h : ∀ x cs, d = .tup [x, .tup cs] → keyB x = false) : W k d = none := by
  unfold W wk
  split
  · rename_i x cs
    rw [h x cs rfl]; rfl
  · rfl
theorem W_wt' : ∀ (n k : Nat) (d : SD) (l : List (Str × Nat)), wk n k d = some l → l.length ≤ wtV d ∧ (∀ p ∈ l, k ≤ p.2) ∧ ∃ s r, l = (s, k) :: r
  | 0, _, _, _, h => by cases h
  | n + 1, k, d, l, h => by
    unfold wk at h
    split at h
    · rename_i x cs
      split at h
      · split at h
        · rename_i l' e
          cases h
          have key : ∀ {cs : List SD} {l' : List (Str × Nat)}, allO (wk n (k + 1)) cs = some l' → l'.length ≤ wtVL cs ∧ ∀ p ∈ l', k + 1 ≤ p.2 := by
            intro cs
            induction cs with
            | nil => intro l' e; cases e; exact ⟨Nat.zero_le _, fun p hp => by cases hp⟩
            | cons c r ih =>
              intro l' e
              rw [allO] at e
              split at e
              · rename_i p q e1 e2
                cases e
                obtain ⟨a1, a2, _⟩ := W_wt' n (k + 1) c p e1
                obtain ⟨b1, b2⟩ := ih e2
                refine ⟨by rw [wtVL, List.length_append]; omega, fun z hz => ?_⟩
                rcases List.mem_append.mp hz with hz | hz
                · exact a2 z hz
                · exact b2 z hz
              · cases e
          obtain ⟨a1, a2⟩ := key e
          refine ⟨by rw [wtV, wtVL, wtVL, wtV, wtVL, List.length_cons]; omega, fun p hp => ?_, _, _, rfl⟩
          rcases List.mem_cons.mp hp with rfl | hp
          · exact Nat.le_refl _
          · have := a2 p hp; omega
        · cases h
      · cases h
    · cases h
theorem W_facts {k : Nat} {d : SD} {l : List (Str × Nat)} (h : W k d = some l) : l.length ≤ wtV d ∧ (∀ p ∈ l, k ≤ p.2) ∧ ∃ s r, l = (s, k) :: r := W_wt' _ k d l h
/-- the program's look is the law's, cut -/
def cutW (k n : Nat) : Option (List (Str × Nat)) → Option (List Str)
  | some l => if ∀ p ∈ l, p.2 < k + n then some (l.map (·.1)) else none
  | none => none
theorem kin_W : ∀ (n k : Nat) (d : SD), kin n d = cutW k n (W k d)
  | 0, k, d => by
    unfold kin
    cases e : W k d with
    | none => rfl
    | some l =>
      obtain ⟨_, _, s, r, rfl⟩ := W_facts e
      unfold cutW
      dsimp only
      rw [if_neg]
      intro h; have := h (s, k) (List.mem_cons_self ..); simp at this
  | n + 1, k, d => by
    have all : ∀ cs : List SD, allO (kin n) cs = cutW (k + 1) n (allO (W (k + 1)) cs) := by
      intro cs
      induction cs with
      | nil => simp [allO, cutW]
      | cons c r ih =>
        rw [allO, allO, ih, kin_W n (k + 1) c]
        cases e1 : W (k + 1) c with
        | none => simp [cutW]
        | some a =>
          cases e2 : allO (W (k + 1)) r with
          | none =>
            simp only [cutW]
            by_cases ha : ∀ p ∈ a, p.2 < k + 1 + n
            · rw [if_pos ha]
            · rw [if_neg ha]
          | some b =>
            simp only [cutW]
            by_cases ha : ∀ p ∈ a, p.2 < k + 1 + n
            · by_cases hb : ∀ p ∈ b, p.2 < k + 1 + n
              · have hab : ∀ p ∈ a ++ b, p.2 < k + 1 + n := fun p hp => (List.mem_append.mp hp).elim (ha p) (hb p)
                rw [if_pos ha, if_pos hb, if_pos hab]
                simp
              · have hab : ¬ ∀ p ∈ a ++ b, p.2 < k + 1 + n := fun h => hb fun p hp => h p (List.mem_append_right _ hp)
                rw [if_pos ha, if_neg hb, if_neg hab]
            · have hab : ¬ ∀ p ∈ a ++ b, p.2 < k + 1 + n := fun h => ha fun p hp => h p (List.mem_append_left _ hp)
              by_cases hb : ∀ p ∈ b, p.2 < k + 1 + n
              · rw [if_neg ha, if_pos hb, if_neg hab]
              · rw [if_neg ha, if_neg hb, if_neg hab]
    unfold kin
    split
    · rename_i x cs
      rw [W_pair]
      cases hk : keyB x with
      | false => simp [cutW]
      | true =>
        rw [if_pos rfl, if_pos rfl, all]
        cases e : allO (W (k + 1)) cs with
        | none => simp [cutW]
        | some l =>
          simp only [cutW]
          by_cases h : ∀ p ∈ l, p.2 < k + 1 + n
          · rw [if_pos h, if_pos]
            · simp
            · intro p hp
              rcases List.mem_cons.mp hp with rfl | hp
              · show k < k + (n + 1); omega
              · have := h p hp; omega
          · rw [if_neg h, if_neg]
            intro h2; exact h fun p hp => by have := h2 p (List.mem_cons_of_mem _ hp); omega
    · rename_i hne
      rw [W_none fun x cs e => (hne x cs e).elim]
      rfl
theorem treeB_W (d : SD) : treeB d = (match W 1 d with
    | some l => decide (l.length ≤ 60) && decide (∀ p ∈ l, p.2 ≤ 20) && decide (l.map (·.1)).Nodup
    | none => false) := by
  unfold treeB
  rw [kin_W 20 1 d]
  cases W 1 d with
  | none => rfl
  | some l =>
    simp only [cutW]
    by_cases h : ∀ p ∈ l, p.2 < 1 + 20
    · rw [if_pos h, decide_eq_true (show ∀ p ∈ l, p.2 ≤ 20 from fun p hp => by have := h p hp; omega)]
      simp
    · rw [if_neg h, decide_eq_false (show ¬ ∀ p ∈ l, p.2 ≤ 20 from fun q => h fun p hp => by have := q p hp; omega)]
      simp
/-! _law_names_in -/
def encP (p : Str × Nat) : SD := .tup [.str p.1, .int p.2]
def encT (p : SD × Nat) : SD := .tup [p.1, .int p.2]
def stW (ts : List (SD × Nat)) : Option (List (Str × Nat)) := allO (fun p => W p.2 p.1) ts
def stWt : List (SD × Nat) → Nat
  | [] => 0
  | p :: r => wtV p.1 + 1 + stWt r
theorem stWt_append (a b : List (SD × Nat)) : stWt (a ++ b) = stWt a + stWt b := by
  induction a with
  | nil => simp [stWt]
  | cons x r ih => rw [List.cons_append, stWt, stWt, ih]; omega
theorem stWt_kids (k : Nat) (cs : List SD) : stWt (cs.map fun c => (c, k)) = wtVL cs := by
  induction cs with
  | nil => rfl
  | cons c r ih => rw [List.map_cons, stWt, ih, wtVL]
theorem stWt_len (ts : List (SD × Nat)) : ts.length ≤ stWt ts := by
  induction ts with
  | nil => simp
  | cons x r ih => rw [stWt, List.length_cons]; omega
theorem stW_kids (k : Nat) (cs : List SD) : stW (cs.map fun c => (c, k)) = allO (W k) cs := by
  unfold stW
  induction cs with
  | nil => rfl
  | cons c r ih => rw [List.map_cons, allO, ih, allO]
theorem allO_append2 {α β : Type} {f : α → Option (List β)} {b : List α} : ∀ {a : List α}, allO f (a ++ b) = (match allO f a, allO f b with
    | some x, some y => some (x ++ y)
    | _, _ => none)
  | [] => by rw [List.nil_append, allO]; cases allO f b <;> simp
  | c :: r => by
    rw [List.cons_append, allO, allO_append2, allO]
    cases f c <;> cases allO f r <;> cases allO f b <;> simp
def sp__law_names_in : DSp := fun ds μ Q _ => ∃ (d : SD) (m : Nat), ds = [d] ∧ okV m d ∧ wtV d ≤ 250000 ∧ ∀ μ' L, Le μ μ' → (match W 1 d with
    | some l => L.Perm l
    | none => L = []) → Q (.lst (L.map encP)) μ'
theorem len__law_names_in : ∀ ds μ Q E, sp__law_names_in ds μ Q E → ds.length = 1 := by rintro ds μ Q E ⟨d, m, rfl, _⟩; rfl
def t__law_names_in : DTS := (dSeq (dPar 1 2 (dCons (dLstM dNil) (dCons (dLstM (dCons (dTup (dCons (dVar 0) (dCons (dC (.int 1)) dNil))) dNil)) dNil)))
    (dSeq (dWhile (dTest (dOp (dL0 true) (dVar 2) (dLst dNil))) (dSeq (dAsg (dLM0 dmPop (dVar 2)) (hTup 2 (hCons (hName 3) (hCons (hName 4) hNil))))
    (dSeq (dIfS (dOr (dNot (dTest (dCB drIsi (dCons (dVar 3) (dCons (dC (.ty "tuple")) dNil))))) (dOr (dTest (dOp (dEq true) (dCB drLen (dCons (dVar 3) dNil)) (dC (.int 2)))) (dOr (dNot (dTest (dCall sp__law_is_key [] (dCons (dOp dIx (dVar 3) (dC (.int 0))) dNil)))) (dNot (dTest (dCB drIsi (dCons (dOp dIx (dVar 3) (dC (.int 1))) (dCons (dC (.ty "tuple")) dNil)))))))) (dRet (dLst dNil)) dNext)
    (dSeq (dDrop (dLM dmAppend (dVar 1) (dCons (dTup (dCons (dOp dIx (dVar 3) (dC (.int 0))) (dCons (dVar 4) dNil))) dNil)))
    (dDrop (dLM dmExtend (dVar 2) (dCons (dLcS (jSeq (dOp dIx (dVar 3) (dC (.int 1)))) (hName 5) dYes (dTup (dCons (dVar 5) (dCons (dOp dAdd (dVar 4) (dC (.int 1))) dNil))) [5]) dNil)))))))
    (dRetF (dVar 1))))
theorem read__law_names_in : ∀ ds μ Q E, sp__law_names_in ds μ Q E → t__law_names_in { nx := fun _ μ' => Q .non μ', rt := Q } (begin_ ["_law_thing", "_law_found", "_law_left", "_law_one", "_law_deep", "_law_child"] ds) μ := by
  rintro ds μ Q E ⟨d0, m, rfl, v0, w0, q⟩
  unfold t__law_names_in dLcS dLc
  refine ⟨Nat.zero_le _, fun p hp => ?_⟩
  refine r_var rfl ?_
  refine ⟨(by show 2 ≤ sizeLine; decide), (by show 1 ≤ sizeLine; decide), fun w hw => ?_⟩
  obtain ⟨pw, hw0⟩ := up_none hw
  dsimp only
  refine ⟨fun M ρ μ' => ∃ (ts : List (SD × Nat)) (done : List (Str × Nat)) (a b c : Option SD), ρ = [some d0, some (.ref p), some (.ref w), a, b, c] ∧ Le μ μ' ∧ μ' p = some (.lst (done.map encP)) ∧ μ' w = some (.lst (ts.map encT)) ∧ M = stWt ts ∧ (∀ t ∈ ts, okV m t.1) ∧ done.length + stWt ts ≤ 250001 ∧
    (match stW ts with
      | some r => ∃ l, W 1 d0 = some l ∧ (done ++ r).Perm l
      | none => W 1 d0 = none), ?_, ?_⟩
  · refine ⟨_, [(d0, 1)], [], none, none, none, rfl, ((Le.refl μ).up hp).up hw0, by rw [up_ne (Ne.symm pw), up_same]; rfl, by rw [up_same]; rfl, rfl, by simpa using v0, by simp [stWt]; omega, ?_⟩
    have : stW [(d0, 1)] = (match W 1 d0 with | some a => some (a ++ []) | none => none) := by
      unfold stW; rw [allO, allO]; cases W 1 d0 <;> rfl
    rw [this]
    cases e : W 1 d0 with
    | none => rfl
    | some l => exact ⟨l, rfl, by simp⟩
  · rintro M ρ μ1 ⟨ts, done, a, b, c, rfl, le, hp1, hw1, rfl, hok, hlen, inv⟩
    refine r_var rfl ?_
    refine ⟨Nat.zero_le _, ?_⟩
    refine l0_ref hw1 ?_
    rcases List.eq_nil_or_concat ts with rfl | ⟨ts', t, rfl⟩
    · refine ifF rfl ?_
      dsimp only
      refine r_var rfl ?_
      unfold frz
      simp only [hp1]
      refine q _ done (le.rm hp) ?_
      have e0 : stW [] = some [] := rfl
      rw [e0] at inv
      obtain ⟨l, hl, hperm⟩ := (show ∃ l, W 1 d0 = some l ∧ (done ++ []).Perm l from inv)
      rw [hl]
      simpa using hperm
    · obtain ⟨d, k⟩ := t
      rw [List.concat_eq_append] at *
      have vd : okV m d := hok (d, k) (by simp)
      have wts : stWt (ts' ++ [(d, k)]) = stWt ts' + (wtV d + 1) := by rw [stWt_append]; rfl
      rw [wts] at hlen
      rw [List.map_append] at hw1
      have ne : (true != ((ts'.map encT) ++ ([(d, k)].map encT)).isEmpty) = true := by simp
      rw [List.map_append, ne]
      refine ifT rfl ⟨_, fun _ _ h => h, ?_⟩
      refine r_var rfl ⟨isSome_ref hw1, ?_⟩
      refine dm_pop (y := encT (d, k)) hw1 ?_
      refine ⟨rfl, rfl, ?_⟩
      dsimp only
      refine r_var rfl ?_
      refine isi_tup vd ?_
      have st : stW (ts' ++ [(d, k)]) = (match stW ts', W k d with
        | some x, some y => some (x ++ y)
        | _, _ => none) := by
        unfold stW
        rw [allO_append2]
        have : allO (fun p : SD × Nat => W p.2 p.1) [(d, k)] = (match W k d with | some a => some (a ++ []) | none => none) := by
          rw [allO, allO]; cases W k d <;> rfl
        rw [this]
        cases W k d with
        | none => cases allO (fun p : SD × Nat => W p.2 p.1) ts' <;> rfl
        | some y => cases allO (fun p : SD × Nat => W p.2 p.1) ts' <;> simp
      rw [st] at inv
      have bad : W k d = none → W 1 d0 = none := fun e => by
        rw [e] at inv
        cases e2 : stW ts' <;> rw [e2] at inv <;> exact inv
      have fail : ∀ μ2, Le μ μ2 → W k d = none → Q (.lst []) μ2 := fun μ2 l2 e => by
        have := q μ2 [] l2
        rw [bad e] at this
        exact this rfl
      have le2 : Le μ (up μ1 w (.lst (ts'.map encT))) := le.up hw0
      have out : ∀ μ2, Le μ μ2 → W k d = none → ([] : List SD).length ≤ sizeLine ∧ Q (.lst []) μ2 := fun μ2 l2 e => ⟨Nat.zero_le _, fail μ2 l2 e⟩
      cases d with
      | ref a => rw [okV] at vd; exact vd.elim
      | ty a => rw [okV] at vd; exact vd.elim
      | rol a => rw [okV] at vd; exact vd.elim
      | exc a b => rw [okV] at vd; exact vd.elim
      | ptp a => rw [okV] at vd; exact vd.elim
      | tup xs =>
        refine ifF rfl ?_
        refine r_var rfl ?_
        refine l_lenT ?_
        refine i_ne ?_
        by_cases h2 : xs.length = 2
        · rw [decide_eq_true (show (xs.length : Int) = 2 by omega)]
          refine ifF rfl ?_
          obtain ⟨x, y, rfl⟩ : ∃ x y, xs = [x, y] := by
            match xs, h2 with
            | [x, y], _ => exact ⟨x, y, rfl⟩
          rw [okV, okVL, okVL] at vd
          obtain ⟨vx, vy, _⟩ := vd
          rw [wtV, wtVL, wtVL, wtVL] at hlen
          refine r_var rfl ?_
          refine ix_tup (d := x) rfl ?_
          refine ⟨x, m, rfl, vx, by omega, ?_⟩
          cases hk : keyB x with
          | false =>
            refine ifT rfl (ifT rfl ?_)
            exact out _ le2 (W_none fun x' cs e => by cases e; exact hk)
          | true =>
            refine ifF rfl ?_
            refine r_var rfl ?_
            refine ix_tup (d := y) rfl ?_
            refine isi_tup vy ?_
            obtain ⟨s, rfl⟩ := keyB_str hk
            cases y with
            | ref a => rw [okV] at vy; exact vy.elim
            | ty a => rw [okV] at vy; exact vy.elim
            | rol a => rw [okV] at vy; exact vy.elim
            | exc a b => rw [okV] at vy; exact vy.elim
            | ptp a => rw [okV] at vy; exact vy.elim
            | tup cs =>
              refine ifF rfl ?_
              simp only [dNext]
              rw [okV] at vy
              rw [wtV, wtV] at hlen
              have hp2 : up μ1 w (.lst (ts'.map encT)) p = some (.lst (done.map encP)) := by rw [up_ne (Ne.symm pw)]; exact hp1
              refine r_var rfl ⟨isSome_ref hp2, ?_⟩
              refine r_var rfl ?_
              refine ix_tup (d := .str s) rfl ?_
              refine r_var rfl ?_
              refine ⟨(by show 2 ≤ sizeLine; decide), ?_⟩
              refine dm_append hp2 (lt_line (m := 250001) (by simp; omega) (by omega)) ?_
              have hw3 : up (up μ1 w (.lst (ts'.map encT))) p (.lst (done.map encP ++ [encP (s, k)])) w = some (.lst (ts'.map encT)) := by rw [up_ne pw, up_same]
              dsimp only
              refine r_var rfl ⟨isSome_ref hw3, ?_⟩
              refine r_var rfl ?_
              refine ix_tup (d := .tup cs) rfl ?_
              have cl := len_wtVL cs
              refine lc_pure (zs := (cs.map fun c => (c, k + 1)).map encT) rfl (by omega) (by simp) ?_ ?_
              · intro i e y he hy R r
                rw [List.getElem?_map, List.getElem?_map, he] at hy
                cases hy
                refine r_var rfl ?_
                refine r_var rfl ?_
                refine i_add ?_
                refine ⟨(by show 2 ≤ sizeLine; decide), ?_⟩
                exact r
              · have tl := stWt_len ts'
                refine dm_extendL hw3 (le_line (m := 500002) (by simp; omega) (by omega)) ?_
                refine ⟨_, ?_, ts' ++ cs.map (fun c => (c, k + 1)), done ++ [(s, k)], _, _, _, rfl, ?_, ?_, ?_, rfl, ?_, ?_, ?_⟩
                · rw [wts, stWt_append, stWt_kids, wtV, wtVL, wtVL, wtVL, wtV, wtV]; omega
                · exact (le2.up hp).up hw0
                · rw [up_ne (Ne.symm pw), up_same, List.map_append]; rfl
                · rw [up_same, List.map_append]
                · intro t ht
                  rcases List.mem_append.mp ht with ht | ht
                  · exact hok t (List.mem_append_left _ ht)
                  · obtain ⟨c, hc, rfl⟩ := List.mem_map.mp ht
                    exact okVL_mem.mp vy c hc
                · rw [stWt_append, stWt_kids, List.length_append]; simp; omega
                · have ek : W k (.tup [.str s, .tup cs]) = (match allO (W (k + 1)) cs with
                    | some l => some ((s, k) :: l)
                    | none => none) := by rw [W_pair, if_pos hk]; rfl
                  rw [ek] at inv
                  have e3 : stW (ts' ++ cs.map fun c => (c, k + 1)) = (match stW ts', allO (W (k + 1)) cs with
                    | some x, some y => some (x ++ y)
                    | _, _ => none) := by
                    rw [← stW_kids]; unfold stW; rw [allO_append2]
                    generalize allO (fun p : SD × Nat => W p.2 p.1) ts' = A
                    generalize allO (fun p : SD × Nat => W p.2 p.1) (cs.map fun c => (c, k + 1)) = B
                    cases A <;> cases B <;> rfl
                  rw [e3]
                  cases e1 : stW ts' with
                  | none => rw [e1] at inv; exact inv
                  | some x =>
                    rw [e1] at inv
                    cases e2 : allO (W (k + 1)) cs with
                    | none => rw [e2] at inv; exact inv
                    | some y =>
                      rw [e2] at inv
                      obtain ⟨l, hl, hperm⟩ := (show ∃ l, W 1 d0 = some l ∧ (done ++ (x ++ (s, k) :: y)).Perm l from inv)
                      refine ⟨l, hl, List.Perm.trans ?_ hperm⟩
                      rw [List.append_assoc]
                      refine List.Perm.append_left done ?_
                      exact (List.perm_middle (a := (s, k)) (l₁ := x) (l₂ := y)).symm
            | _ =>
              refine ifT rfl ?_
              exact out _ le2 (W_none fun x' cs e => by cases e)
        · rw [decide_eq_false (show ¬ (xs.length : Int) = 2 by omega)]
          refine ifT rfl (ifT rfl ?_)
          exact out _ le2 (W_none fun x' cs e => by cases e; exact (h2 rfl).elim)
      | _ =>
        refine ifT rfl (ifT rfl ?_)
        exact out _ le2 (W_none fun x' cs e => by cases e)
end LK
/-! NK3: _law_is_tree. -/
namespace LK
open PySem PySem.Spec PyProof.Rows L2 DS MA
theorem most_L {μ : Mu} {Q : SD → Mu → Prop} {P : Int → Int → Prop} {ns : List Int} (h : 0 < ns.length) (q : ∀ m, m ∈ ns → (∀ y, y ∈ ns → P y m) → Q (.int m) μ) : drMost P [.lst (ns.map SD.int)] μ Q := by
  unfold drMost
  simp only [lstD, intsOf_map]
  exact ⟨h, q⟩
theorem encP_at {L : List (Str × Nat)} {i : Nat} {d y : SD} {f : Str × Nat → SD} (hd : (L.map encP)[i]? = some d) (hy : (L.map f)[i]? = some y) : ∃ p, L[i]? = some p ∧ d = encP p ∧ y = f p := by
  rw [List.getElem?_map] at hd hy
  cases e : L[i]? with
  | none => rw [e] at hd; cases hd
  | some p => rw [e] at hd hy; cases hd; cases hy; exact ⟨p, rfl, rfl, rfl⟩
def sp__law_is_tree : DSp := fun ds μ Q _ => ∃ (d : SD) (m : Nat), ds = [d] ∧ okV m d ∧ wtV d ≤ 250000 ∧ ∀ μ', Le μ μ' → Q (.bl (treeB d)) μ'
theorem len__law_is_tree : ∀ ds μ Q E, sp__law_is_tree ds μ Q E → ds.length = 1 := by rintro ds μ Q E ⟨d, m, rfl, _⟩; rfl
def t__law_is_tree : DTS := (dSeq (dSet (dCall sp__law_names_in [] (dCons (dVar 0) dNil)) 1)
    (dSeq (dIfS (dOr (dTest (dOp (dL0 false) (dVar 1) (dLst dNil))) (dOr (dTest (dOp dGt (dCB drLen (dCons (dVar 1) dNil)) (dC (.int 60)))) (dTest (dOp dGt (dCB (drMost fun y m => y ≤ m) (dCons (dLcS (jSeq (dVar 1)) (hTup 2 (hNames [2, 3])) dYes (dVar 3) [2, 3]) dNil)) (dC (.int 20)))))) (dRet (dC (.bl false))) dNext)
    (dRet (dOp (dEq false) (dLenSet (dLcS (jSeq (dVar 1)) (hTup 2 (hNames [2, 3])) dYes (dVar 2) [2, 3])) (dCB drLen (dCons (dVar 1) dNil))))))
theorem read__law_is_tree : ∀ ds μ Q E, sp__law_is_tree ds μ Q E → t__law_is_tree { nx := fun _ μ' => Q .non μ', rt := Q } (begin_ ["_law_thing", "_law_some", "_law_name", "_law_deep"] ds) μ := by
  rintro ds μ Q E ⟨d, m, rfl, v, w, q⟩
  unfold t__law_is_tree dLcS dLc
  refine r_var rfl ?_
  refine ⟨d, m, rfl, v, w, fun μ1 L le hL => ?_⟩
  have q1 := q μ1 le
  rw [treeB_W] at q1
  dsimp only
  refine r_var rfl ?_
  refine ⟨Nat.zero_le _, ?_⟩
  refine l0_lst ?_
  cases e : W 1 d with
  | none =>
    rw [e] at hL q1
    have hL : L = [] := hL
    subst hL
    exact ifT rfl (ifT rfl q1)
  | some l =>
    rw [e] at hL q1
    have hp : L.Perm l := hL
    dsimp only at q1
    obtain ⟨_, _, s, r, el⟩ := W_facts e
    have hne : 0 < L.length := by rw [hp.length_eq, el]; simp
    have ne : (false != (L.map encP).isEmpty) = false := by
      cases L with
      | nil => simp at hne
      | cons _ _ => rfl
    rw [ne]
    refine ifF rfl ?_
    refine r_var rfl ?_
    refine l_len ?_
    refine i_gt ?_
    have ml : (L.map encP).length = L.length := by simp
    rw [ml]
    by_cases h60 : L.length ≤ 60
    · rw [decide_eq_false (show ¬ (60 : Int) < (L.length : Int) by omega)]
      refine ifF rfl ?_
      refine r_var rfl ?_
      refine lc_g (zs := (L.map fun p => (p.2 : Int)).map SD.int) rfl (by rw [ml]; omega) (by simp) ?_ ?_
      · intro i d y hd hy R r
        rw [List.map_map] at hy
        obtain ⟨p, _, rfl, rfl⟩ := encP_at hd hy
        refine ⟨rfl, rfl, ?_⟩
        exact r_var rfl r
      · refine most_L (by simpa using hne) fun mx h1 h2 => ?_
        refine i_gt ?_
        obtain ⟨p, hpm, rfl⟩ := List.mem_map.mp h1
        rw [decide_eq_true (show l.length ≤ 60 by rw [← hp.length_eq]; exact h60), Bool.true_and] at q1
        by_cases h20 : ∀ p ∈ l, p.2 ≤ 20
        · rw [decide_eq_false (show ¬ (20 : Int) < (p.2 : Int) by have := h20 p (hp.mem_iff.mp hpm); omega)]
          refine ifF rfl ?_
          simp only [dNext]
          rw [decide_eq_true h20, Bool.true_and] at q1
          refine r_var rfl ?_
          refine lc_g (zs := sts (L.map (·.1))) rfl (by rw [ml]; omega) (by simp [sts]) ?_ ?_
          · intro i d y hd hy R r
            rw [sts, List.map_map] at hy
            obtain ⟨p, _, rfl, rfl⟩ := encP_at hd hy
            refine ⟨rfl, rfl, ?_⟩
            exact r_var rfl r
          · refine lenSet_L (by rw [List.length_map]; omega) fun u hu => ?_
            refine r_var rfl ?_
            refine l_len ?_
            refine i_eq ?_
            have e2 : ((L.map encP).length : Int) = ((L.map (·.1)).length : Int) := by simp
            rw [e2, dist_len hu]
            have e3 : decide (L.map (·.1)).Nodup = decide (l.map (·.1)).Nodup := by
              have := (hp.map (fun p : Str × Nat => p.1)).nodup_iff
              exact decide_eq_decide.mpr this
            rw [e3]; exact q1
        · have : ∃ p ∈ l, 20 < p.2 := by
            refine Classical.byContradiction fun hn => h20 fun p hp => ?_
            exact Nat.le_of_not_lt fun hlt => hn ⟨p, hp, hlt⟩
          obtain ⟨p', hp', h20'⟩ := this
          have := h2 (p'.2 : Int) (List.mem_map.mpr ⟨p', hp.mem_iff.mpr hp', rfl⟩)
          rw [decide_eq_true (show (20 : Int) < (p.2 : Int) by omega)]
          rw [decide_eq_false h20, Bool.false_and] at q1
          exact ifT rfl q1
    · rw [decide_eq_true (show (60 : Int) < (L.length : Int) by omega)]
      rw [decide_eq_false (show ¬ l.length ≤ 60 by rw [← hp.length_eq]; exact h60), Bool.false_and, Bool.false_and] at q1
      exact ifT rfl (ifT rfl q1)
end LK
/-! NK4: _law_odd; what bending asks. -/
namespace LK
open PySem PySem.Spec PyProof.Rows L2 DS MA
mutual
def okB : SD → Bool
  | .non => true
  | .bl _ => true
  | .int i => decide (i.natAbs ≤ 10 ^ 20)
  | .str x => PyData.strOk x
  | .ref _ => false
  | .ty _ => false
  | .tup xs => okBL xs
  | .lst xs => okBL xs
  | .rol _ => false
  | .exc _ _ => false
  | .ptp _ => false
  | .dic kvs => kvs.isEmpty
def okBL : List SD → Bool
  | [] => true
  | d :: r => okB d && okBL r
end
mutual
theorem okB_V : ∀ {d : SD}, okB d = true → okV 0 d
  | .non, _ => by rw [okV]; trivial
  | .bl _, _ => by rw [okV]; trivial
  | .int i, h => by rw [okV]; rw [okB, decide_eq_true_eq] at h; exact h
  | .str x, h => by rw [okV]; rw [okB] at h; exact h
  | .ref _, h => by rw [okB] at h; cases h
  | .ty _, h => by rw [okB] at h; cases h
  | .tup xs, h => by rw [okV]; rw [okB] at h; exact okBL_V h
  | .lst xs, h => by rw [okV]; rw [okB] at h; exact okBL_V h
  | .rol _, h => by rw [okB] at h; cases h
  | .exc _ _, h => by rw [okB] at h; cases h
  | .ptp _, h => by rw [okB] at h; cases h
  | .dic kvs, h => by rw [okV]; rw [okB] at h; exact List.isEmpty_iff.mp h
theorem okBL_V : ∀ {xs : List SD}, okBL xs = true → okVL 0 xs
  | [], _ => by rw [okVL]; trivial
  | d :: r, h => by rw [okVL]; rw [okBL, Bool.and_eq_true] at h; exact ⟨okB_V h.1, okBL_V h.2⟩
end
def fitB (D B : Nat) (xs : List SD) : Bool := xs.all fun d => okB d && decide (dpV d ≤ D) && decide (wtV d ≤ B)
theorem fitB_V {D B : Nat} {xs : List SD} (h : fitB D B xs = true) : ∀ d ∈ xs, Val 0 D B d := fun d hd => by
  have := List.all_eq_true.mp h d hd
  simp only [Bool.and_eq_true, decide_eq_true_eq] at this
  exact ⟨okB_V this.1.1, this.1.2, this.2⟩
def oddL : List SD := [.non, .bl true, .bl false, .int 0, .int 1, .int (-1), .int (10 ^ Int.toNat 20), .str "", .str "a", .str "A", .str "a b", .str "ninechars", .str "-", .tup [], .lst [], .dic [], .tup [.str "a", .tup []], .tup [.str "a"]] ++
  [.tup [.str "move", .str "a", .str "b", .non], .tup [.str "remove", .str "a"], .tup [.tup [.str "a", .int 1]]]
theorem oddL_ok : ∀ d ∈ oddL, Val 0 2 30 d := fitB_V (by decide +kernel)
def sp__law_odd : DSp := fun ds μ Q _ => ∃ (h : Addr) (T : Nat), ds = [.ref h] ∧ T ≤ 900000000 ∧ HandAt μ h T ∧ ∀ d μ', Val 0 14 42 d → HandAt μ' h (T + 14) → LeX h μ μ' → Q d μ'
theorem len__law_odd : ∀ ds μ Q E, sp__law_odd ds μ Q E → ds.length = 1 := by rintro ds μ Q E ⟨h, T, rfl, _⟩; rfl
def t__law_odd : DTS := (dSeq (dSet (dLst (dCons (dC .non) (dCons (dC (.bl true)) (dCons (dC (.bl false)) (dCons (dC (.int 0)) (dCons (dC (.int 1)) (dCons (dUnI (fun i => -i) (dC (.int 1))) (dCons (dOp dPow (dC (.int 10)) (dC (.int 20))) (dCons (dC (.str "")) (dCons (dC (.str "a")) (dCons (dC (.str "A")) (dCons (dC (.str "a b")) (dCons (dC (.str "ninechars")) (dCons (dC (.str "-")) (dCons (dTup dNil) (dCons (dLst dNil) (dCons dDict0S (dCons (dTup (dCons (dC (.str "a")) (dCons (dTup dNil) dNil))) (dCons (dTup (dCons (dC (.str "a")) dNil)) dNil))))))))))))))))))) 1)
    (dSeq (dSet (dCall sp__law_of [] (dCons (dVar 0) (dCons (dOp dAdd (dVar 1) (dLst (dCons (dTup (dCons (dC (.str "move")) (dCons (dC (.str "a")) (dCons (dC (.str "b")) (dCons (dC .non) dNil))))) (dCons (dTup (dCons (dC (.str "remove")) (dCons (dC (.str "a")) dNil))) (dCons (dTup (dCons (dTup (dCons (dC (.str "a")) (dCons (dC (.int 1)) dNil))) dNil)) dNil))))) dNil))) 2)
    (dSeq (dFor (jRng1 (dCons (dCall sp__law_of [] (dCons (dVar 0) (dCons (dLst (dCons (dC (.int 0)) (dCons (dC (.int 0)) (dCons (dC (.int 0)) (dCons (dC (.int 1)) (dCons (dC (.int 2)) (dCons (dC (.int 12)) dNil))))))) dNil))) dNil)) (hName 3) (dSet (dIf (dTest (dOp (dEq false) (dCall sp__law_take [] (dCons (dVar 0) (dCons (dC (.int 2)) dNil))) (dC (.int 0)))) (dTup (dCons (dVar 2) dNil)) (dLst (dCons (dVar 2) dNil))) 2))
    (dRet (dVar 2)))))
theorem read__law_odd : ∀ ds μ Q E, sp__law_odd ds μ Q E → t__law_odd { nx := fun _ μ' => Q .non μ', rt := Q } (begin_ ["_law_hand_here", "_law_some", "_law_thing", "_law_turn"] ds) μ := by
  rintro ds μ Q E ⟨h, T, rfl, hT, H, q⟩
  unfold t__law_odd dFor
  refine i_pow (n := 20) (pow_ok (n := 20) (by decide) (by decide)) ?_
  refine ⟨Nat.zero_le _, ?_⟩
  refine ⟨Nat.zero_le _, ?_⟩
  refine ⟨Nat.zero_le _, ?_⟩
  refine ⟨(by show 2 ≤ sizeLine; decide), ?_⟩
  refine ⟨(by show 1 ≤ sizeLine; decide), ?_⟩
  refine ⟨(by show 18 ≤ sizeLine; decide), ?_⟩
  dsimp only
  refine r_var rfl ?_
  refine r_var rfl ?_
  refine ⟨(by show 4 ≤ sizeLine; decide), ?_⟩
  refine ⟨(by show 2 ≤ sizeLine; decide), ?_⟩
  refine ⟨(by show 2 ≤ sizeLine; decide), ?_⟩
  refine ⟨(by show 1 ≤ sizeLine; decide), ?_⟩
  refine ⟨(by show 3 ≤ sizeLine; decide), ?_⟩
  refine l_add (by show 21 ≤ sizeLine; decide) ?_
  refine ⟨h, _, oddL, T, rfl, .inl rfl, by simp [oddL], by simp [oddL], by omega, H, fun i d μ1 hd H1 l1 => ?_⟩
  have vd := oddL_ok d (List.mem_of_getElem? hd)
  dsimp only
  refine r_var rfl ?_
  refine ⟨(by show 6 ≤ sizeLine; decide), ?_⟩
  refine ⟨h, _, _, T + 1, rfl, .inl rfl, by simp, by simp, by omega, H1, fun i2 dm μ2 hdm H2 l2 => ?_⟩
  have hr : ∃ r : Nat, dm = .int r ∧ r ≤ 12 := by
    have := List.mem_of_getElem? hdm
    simp at this
    rcases this with rfl | rfl | rfl | rfl
    · exact ⟨0, rfl, by decide⟩
    · exact ⟨1, rfl, by decide⟩
    · exact ⟨2, rfl, by decide⟩
    · exact ⟨12, rfl, by decide⟩
  obtain ⟨r, rfl, r12⟩ := hr
  refine ⟨⟨by omega, by omega⟩, fun j ρ μ' => j ≤ 12 ∧ ∃ (a : SD) (d : SD) (x : Option SD), ρ = [some (.ref h), some a, some d, x] ∧ Val 0 (2 + j) (30 + j) d ∧ HandAt μ' h (T + 2 + j) ∧ LeX h μ μ', ⟨Nat.zero_le _, _, _, _, rfl, vd, H2, l1.trans l2⟩, fun _ _ _ _ _ => trivial, ?_, ?_⟩
  · rintro j dj ρ μ3 hdj ⟨j12, a, d, x, rfl, v, H3, l3⟩
    have hj := (List.getElem?_eq_some_iff.mp hdj).1
    rw [List.length_map, List.length_range, Int.toNat_natCast] at hj
    dsimp only
    refine r_var rfl ?_
    refine ⟨h, 2, T + 2 + j, rfl, by decide, by decide, by omega, H3, fun y μ4 _ _ H4 l4 => ?_⟩
    refine i_eq ?_
    by_cases hy : y = 0
    · refine ifT (decide_eq_true hy) ?_
      refine r_var rfl ?_
      refine ⟨(by show 1 ≤ sizeLine; decide), ?_⟩
      exact ⟨by omega, _, _, _, rfl, (Val.tup (ValL.one v)).mono (Nat.le_refl _) (by omega) (by omega), H4, l3.trans l4⟩
    · refine ifF (decide_eq_false hy) ?_
      refine r_var rfl ?_
      refine ⟨(by show 1 ≤ sizeLine; decide), ?_⟩
      exact ⟨by omega, _, _, _, rfl, (Val.lst (ValL.one v)).mono (Nat.le_refl _) (by omega) (by omega), H4, l3.trans l4⟩
  · rintro ρ μ3 ⟨j12, a, d, x, rfl, v, H3, l3⟩
    rw [List.length_map, List.length_range, Int.toNat_natCast] at *
    dsimp only
    refine r_var rfl ?_
    exact q d _ (v.mono (Nat.le_refl _) (by omega) (by omega)) (H3.mono (by omega)) l3
/-! texts -/
theorem ok_signs {x : Str} : PyData.strOk x = true ↔ ∀ c ∈ x.cps.toList, c < 0x110000 := by
  unfold PyData.strOk
  rw [Array.all_eq_true_iff_forall_mem]; simp
theorem shifted_lt {N : Nat} : ∀ {l : List (Nat × Nat × Nat)} {c d : Nat}, (l.all fun e => decide (e.2.2 + (e.2.1 - e.1) < N)) = true → Unicode.shifted l c = some d → d < N
  | [], _, _, _, h => by simp [Unicode.shifted] at h
  | (a, b, t) :: r, c, d, ha, h => by
    rw [List.all_cons, Bool.and_eq_true] at ha
    rw [Unicode.shifted] at h
    split at h
    · cases h
    · split at h
      · cases h
        have := of_decide_eq_true ha.1
        simp only at this
        omega
      · exact shifted_lt ha.2 h
theorem upper_one : (UnicodeData.oneUpper.all fun e => decide (e.2.2 + (e.2.1 - e.1) < 0x110000)) = true := by decide +kernel
theorem upper_several : (UnicodeData.severalUpper.all fun e => e.2.all fun c => decide (c < 0x110000)) = true := by decide +kernel
theorem upperOf_lt {c : Nat} (hc : c < 0x110000) : ∀ d ∈ Unicode.upperOf c, d < 0x110000 := by
  unfold Unicode.upperOf Unicode.image
  intro d hd
  split at hd
  · rename_i cs e
    have : (c, cs) ∈ UnicodeData.severalUpper := by
      have key : ∀ {l : List (Nat × List Nat)}, l.lookup c = some cs → (c, cs) ∈ l := by
        intro l
        induction l with
        | nil => intro h; cases h
        | cons p r ih =>
          intro h
          obtain ⟨k, v⟩ := p
          rw [List.lookup_cons] at h
          split at h
          · rename_i hk
            cases h
            have : c = k := by simpa using hk
            subst this
            exact List.mem_cons_self ..
          · exact List.mem_cons_of_mem _ (ih h)
      exact key e
    have h1 := List.all_eq_true.mp upper_several _ this
    exact of_decide_eq_true (List.all_eq_true.mp h1 d hd)
  · have : d = (Unicode.shifted UnicodeData.oneUpper c).getD c := by simpa using hd
    subst this
    cases e : Unicode.shifted UnicodeData.oneUpper c with
    | none => exact hc
    | some y => exact shifted_lt upper_one e
theorem ok_upper {x : Str} (h : PyData.strOk x = true) : PyData.strOk (Txt.upper x) = true := by
  rw [ok_signs]
  intro c hc
  unfold Txt.upper placed at hc
  have hc : c ∈ ((x.cps.mapIdx fun i c => (Unicode.upperOf c).toArray).flatten).toList := hc
  rw [Array.mem_toList_iff, Array.mem_flatten] at hc
  obtain ⟨a, ha, hca⟩ := hc
  rw [Array.mem_mapIdx] at ha
  obtain ⟨i, hi, rfl⟩ := ha
  have : c ∈ Unicode.upperOf x.cps[i] := by simpa using hca
  refine upperOf_lt (ok_signs.mp h _ ?_) c this
  simp
theorem ok_app {u v : Str} (hu : PyData.strOk u = true) (hv : PyData.strOk v = true) : PyData.strOk (u ++ v) = true := by
  rw [ok_signs]
  intro c hc
  have hc : c ∈ (u.cps ++ v.cps).toList := hc
  rw [Array.toList_append, List.mem_append] at hc
  exact hc.elim (ok_signs.mp hu c) (ok_signs.mp hv c)
theorem app_len {u v : Str} : (u ++ v).cps.size = u.cps.size + v.cps.size := by
  show (u.cps ++ v.cps).size = _
  rw [Array.size_append]
theorem ok_cut {x : Str} {l u : Option Int} (h : PyData.strOk x = true) : PyData.strOk (cutS x l u) = true := by
  rw [ok_signs]
  intro c hc
  have hc : c ∈ (x.cps.toList.drop (HT.sIx x.length 0 l)).take (HT.sIx x.length x.length u - HT.sIx x.length 0 l) := by
    unfold cutS at hc; simpa using hc
  exact ok_signs.mp h c (List.mem_of_mem_drop (List.mem_of_mem_take hc))
theorem ok_int {i : Int} : PyData.strOk (toString i : String) = true := by
  rw [ok_signs]
  intro c hc
  refine Nat.lt_of_not_le fun hge => ?_
  exact int_text_free' c ⟨by omega, by omega⟩ i hc
end LK
/-! NK5: _law_bent. -/
namespace LK
open PySem PySem.Spec PyProof.Rows L2 DS MA
theorem t_add {μ : Mu} {Q : SD → Mu → Prop} {xs ys : List SD} (h : xs.length + ys.length ≤ sizeLine) (q : Q (.tup (xs ++ ys)) μ) : dAdd (.tup xs) (.tup ys) μ Q := ⟨h, q⟩
theorem t0_tup {μ : Mu} {Q : SD → Mu → Prop} {xs : List SD} {neg : Bool} (q : Q (.bl (neg != xs.isEmpty)) μ) : dT0 neg (.tup xs) (.tup []) μ Q := q
theorem bl_eq1 {μ : Mu} {Q : SD → Mu → Prop} {b : Bool} (q : ∀ r, Q (.bl r) μ) : dEq false (.bl b) (.int 1) μ Q := by
  have : ∃ r, eqD μ (.bl b) (.int 1) = some r := by
    refine ⟨PyData.eqv (.bool b) (.int 1), ?_⟩
    have s1 : SeqAt.shaped (.bool b) = true := by cases b <;> decide +kernel
    have s2 : SeqAt.shaped (.int 1) = true := by decide +kernel
    show (match pd μ (.bl b), pd μ (.int 1) with
      | some p, some q => if SeqAt.shaped p = true ∧ SeqAt.shaped q = true then some (PyData.eqv p q) else none
      | _, _ => none) = _
    show (if SeqAt.shaped (.bool b) = true ∧ SeqAt.shaped (.int 1) = true then some (PyData.eqv (.bool b) (.int 1)) else none) = _
    rw [if_pos ⟨s1, s2⟩]
  obtain ⟨r, e⟩ := this
  unfold dEq; rw [e]
  exact q _
theorem ib_ii {μ : Mu} {Q : SD → Mu → Prop} {f : Int → Int → Int} {i j : Int} (q : Q (.int (f i j)) μ) : dIB f (.int i) (.int j) μ Q := q
theorem ib_bi {μ : Mu} {Q : SD → Mu → Prop} {f : Int → Int → Int} {b : Bool} {j : Int} (q : Q (.int (f (b2d b) j)) μ) : dIB f (.bl b) (.int j) μ Q := q
theorem ib_ib {μ : Mu} {Q : SD → Mu → Prop} {f : Int → Int → Int} {i : Int} {b : Bool} (q : Q (.int (f i (b2d b))) μ) : dIB f (.int i) (.bl b) μ Q := q
def sp__law_bent (n : Nat) : DSp := fun ds μ Q _ => ∃ (h : Addr) (d : SD) (m D B T : Nat), ds = [.ref h, d] ∧ dpV d < n ∧ Val m D B d ∧ m ≤ 1000000 ∧ B ≤ 100000 ∧ T + 100 * (dpV d + 1) ≤ 900000000 ∧ HandAt μ h T ∧
  ∀ d' μ', Val (m + 2) (D + 14) (4 * B + 100) d' → HandAt μ' h (T + 100 * (dpV d + 1)) → LeX h μ μ' → Q d' μ'
theorem no__law_bent {ds μ Q E} (h : sp__law_bent 0 ds μ Q E) : False := by
  obtain ⟨h, d, m, D, B, T, rfl, h, _⟩ := h; omega
theorem len__law_bent {n} : ∀ ds μ Q E, sp__law_bent n ds μ Q E → ds.length = 2 := by rintro ds μ Q E ⟨h, d, m, D, B, T, rfl, _⟩; rfl
def bLast : DTS := (dRet (dCall sp__law_of [] (dCons (dVar 0) (dCons (dLst (dCons (dCall sp__law_odd [] (dCons (dVar 0) dNil)) (dCons (dCall sp__law_odd [] (dCons (dVar 0) dNil)) (dCons (dTup (dCons (dVar 1) dNil)) (dCons (dLst (dCons (dVar 1) dNil)) dNil))))) dNil))))
def bInt : DTS := (dIfS (dAnd (dTest (dCB drIsi (dCons (dVar 1) (dCons (dC (.ty "int")) dNil)))) (dTest (dOp dGt (dCall sp__law_take [] (dCons (dVar 0) (dCons (dC (.int 3)) dNil))) (dC (.int 0))))) (dRet (dCall sp__law_of [] (dCons (dVar 0) (dCons (dLst (dCons (dOp (dIB fun i j => i + j) (dVar 1) (dC (.int 1))) (dCons (dOp (dIB fun i j => i - j) (dVar 1) (dC (.int 1))) (dCons (dOp (dIB fun i j => i - j) (dC (.int 0)) (dVar 1)) (dCons (dC (.int 1000)) (dCons (dC (.int 1001)) (dCons (dOp (dEq false) (dVar 1) (dC (.int 1))) (dCons (dCB drStr (dCons (dVar 1) dNil)) (dCons (dC .non) dNil))))))))) dNil)))) dNext)
def bStr : DTS := (dIfS (dAnd (dTest (dCB drIsi (dCons (dVar 1) (dCons (dC (.ty "str")) dNil)))) (dTest (dOp dGt (dCall sp__law_take [] (dCons (dVar 0) (dCons (dC (.int 3)) dNil))) (dC (.int 0))))) (dRet (dCall sp__law_of [] (dCons (dVar 0) (dCons (dLst (dCons (dOp dAdd (dVar 1) (dC (.str "a"))) (dCons (dSl (dVar 1) (dPart (dC (.int 1))) dNoPart) (dCons (dUpper (dVar 1)) (dCons (dOp dAdd (dVar 1) (dC (.str " "))) (dCons (dRevX (dVar 1)) (dCons (dLst (dCons (dVar 1) dNil)) (dCons (dC (.str "a")) (dCons (dC (.str "create")) dNil))))))))) dNil)))) dNext)
def bTup (n : Nat) : DTS := (dIfS (dAnd (dTest (dCB drIsi (dCons (dVar 1) (dCons (dC (.ty "tuple")) dNil)))) (dAnd (dTest (dOp (dT0 true) (dVar 1) (dTup dNil))) (dTest (dOp dGt (dCall sp__law_take [] (dCons (dVar 0) (dCons (dC (.int 6)) dNil))) (dC (.int 0)))))) (dSeq (dPar 2 3 (dCons (dCall sp__law_take [] (dCons (dVar 0) (dCons (dCB drLen (dCons (dVar 1) dNil)) dNil))) (dCons (dCall sp__law_take [] (dCons (dVar 0) (dCons (dC (.int 9)) dNil))) dNil)))
    (dSeq (dIfS (dTest (dOp dLt (dVar 3) (dC (.int 5)))) (dRet (dOp dAdd (dOp dAdd (dSl (dVar 1) dNoPart (dPart (dVar 2))) (dTup (dCons (dCall (sp__law_bent n) [] (dCons (dVar 0) (dCons (dOp dIx (dVar 1) (dVar 2)) dNil))) dNil))) (dSl (dVar 1) (dPart (dOp dAdd (dVar 2) (dC (.int 1)))) dNoPart))) dNext)
    (dRet (dOp dIx (dLst (dCons (dOp dAdd (dSl (dVar 1) dNoPart (dPart (dVar 2))) (dSl (dVar 1) (dPart (dOp dAdd (dVar 2) (dC (.int 1)))) dNoPart)) (dCons (dOp dAdd (dSl (dVar 1) dNoPart (dPart (dOp dAdd (dVar 2) (dC (.int 1))))) (dSl (dVar 1) (dPart (dVar 2)) dNoPart)) (dCons (dRevX (dVar 1)) (dCons (dCB drList (dCons (dVar 1) dNil)) dNil))))) (dOp dSub (dVar 3) (dC (.int 5))))))) dNext)
def t__law_bent (n : Nat) : DTS := dSeq (bTup n) (dSeq bStr (dSeq bInt bLast))
section
variable {μ : Mu} {Q : SD → Mu → Prop} {h : Addr} {d : SD} {m D B T : Nat} {a b : Option SD}
theorem bent_last (v : Val m D B d) (hT : T + 40 ≤ 900000000) (H : HandAt μ h T) (nx : Rho → Mu → Prop) (bk ct : Rho → Mu → Prop) (q : ∀ d' μ', Val (m + 2) (D + 14) (4 * B + 100) d' → HandAt μ' h (T + 40) → LeX h μ μ' → Q d' μ') :
    bLast { nx := nx, rt := Q, bk := bk, ct := ct } [some (.ref h), some d, a, b] μ := by
  unfold bLast
  refine r_var rfl ?_
  refine r_var rfl ?_
  refine ⟨h, T, rfl, by omega, H, fun d1 μ1 v1 H1 l1 => ?_⟩
  refine r_var rfl ?_
  refine ⟨h, T + 14, rfl, by omega, H1, fun d2 μ2 v2 H2 l2 => ?_⟩
  refine r_var rfl ?_
  refine ⟨(by show 1 ≤ sizeLine; decide), ?_⟩
  refine r_var rfl ?_
  refine ⟨(by show 1 ≤ sizeLine; decide), ?_⟩
  refine ⟨(by show 4 ≤ sizeLine; decide), ?_⟩
  refine ⟨h, _, _, T + 14 + 14, rfl, .inl rfl, by simp, by simp, by omega, H2, fun i dm μ3 hdm H3 l3 => ?_⟩
  refine q dm μ3 ?_ (H3.mono (by omega)) ((l1.trans l2).trans l3)
  have := List.mem_of_getElem? hdm
  simp only [List.mem_cons, List.not_mem_nil, or_false] at this
  rcases this with rfl | rfl | rfl | rfl
  · exact v1.mono (by omega) (by omega) (by omega)
  · exact v2.mono (by omega) (by omega) (by omega)
  · exact (Val.tup (ValL.one v)).mono (by omega) (by omega) (by omega)
  · exact (Val.lst (ValL.one v)).mono (by omega) (by omega) (by omega)
theorem bent_int (v : Val m D B d) (hm : m ≤ 1000000) (hT : T + 44 ≤ 900000000) (H : HandAt μ h T) (nx : Rho → Mu → Prop) (bk ct : Rho → Mu → Prop) (q : ∀ d' μ', Val (m + 2) (D + 14) (4 * B + 100) d' → HandAt μ' h (T + 44) → LeX h μ μ' → Q d' μ') :
    dSeq bInt bLast { nx := nx, rt := Q, bk := bk, ct := ct } [some (.ref h), some d, a, b] μ := by
  unfold bInt
  refine r_var rfl ?_
  refine isi_int v.ok ?_
  cases hd : isIntD d with
  | false =>
    refine ifF rfl ?_
    refine ifF rfl ?_
    exact bent_last v (by omega) H nx bk ct fun d' μ' v' H' l' => q d' μ' v' (H'.mono (by omega)) l'
  | true =>
    refine ifT rfl ?_
    refine r_var rfl ?_
    refine ⟨h, 3, T, rfl, by decide, by decide, by omega, H, fun x μ1 _ _ H1 l1 => ?_⟩
    refine i_gt ?_
    by_cases hx : 0 < x
    · refine ifT (by simpa using hx) ?_
      refine r_var rfl ?_
      have fin : ∀ (i1 i2 i3 : Int) (r : Bool) (s : Str), i1.natAbs ≤ 10 ^ 20 + (m + 2) → i2.natAbs ≤ 10 ^ 20 + (m + 2) → i3.natAbs ≤ 10 ^ 20 + (m + 2) → PyData.strOk s = true → s.cps.size ≤ 100 →
          ([SD.int i1, .int i2, .int i3, .int 1000, .int 1001, .bl r, .str s, .non] : List SD).length ≤ sizeLine ∧ sp__law_of ([SD.ref h, .lst [SD.int i1, .int i2, .int i3, .int 1000, .int 1001, .bl r, .str s, .non]] ++ []) μ1 Q fun _ _ _ => False := fun i1 i2 i3 r s h1 h2 h3 h4 h5 => by
        refine ⟨(by show 8 ≤ sizeLine; decide), ?_⟩
        refine ⟨h, _, _, T + 1, rfl, .inl rfl, by simp, by simp, by omega, H1, fun i dm μ3 hdm H3 l3 => ?_⟩
        refine q dm μ3 ?_ (H3.mono (by omega)) (l1.trans l3)
        have := List.mem_of_getElem? hdm
        simp only [List.mem_cons, List.not_mem_nil, or_false] at this
        rcases this with rfl | rfl | rfl | rfl | rfl | rfl | rfl | rfl
        · exact (Val.int h1).mono (Nat.le_refl _) (by omega) (by omega)
        · exact (Val.int h2).mono (Nat.le_refl _) (by omega) (by omega)
        · exact (Val.int h3).mono (Nat.le_refl _) (by omega) (by omega)
        · exact (Val.int (m := 0) (by decide)).mono (by omega) (by omega) (by omega)
        · exact (Val.int (m := 0) (by decide)).mono (by omega) (by omega) (by omega)
        · exact (Val.bl r).mono (by omega) (by omega) (by omega)
        · exact (Val.str h4).mono (by omega) (by omega) (by omega)
        · exact Val.non.mono (by omega) (by omega) (by omega)
      have vo := v.ok
      cases d with
      | int i =>
        rw [okV] at vo
        refine r_var rfl (ib_ii ?_)
        refine r_var rfl (ib_ii ?_)
        refine r_var rfl (ib_ii ?_)
        refine r_var rfl ?_
        refine i_eq ?_
        refine r_var rfl ?_
        obtain ⟨s1, s2⟩ := int_short (m := m) (by omega) vo
        refine ⟨s2, ?_⟩
        refine fin (i + 1) (i - 1) (0 - i) (decide (i = 1)) _ (by omega) (by omega) (by omega) ok_int ?_
        simp only [PyData.shown] at s1
        exact Nat.le_trans s1 (by decide)
      | bl r =>
        refine r_var rfl (ib_bi ?_)
        refine r_var rfl (ib_bi ?_)
        refine r_var rfl (ib_ib ?_)
        refine r_var rfl ?_
        refine bl_eq1 fun r2 => ?_
        refine r_var rfl ?_
        have hb : b2d r = 0 ∨ b2d r = 1 := by cases r <;> simp [b2d]
        refine fin (b2d r + 1) (b2d r - 1) (0 - b2d r) r2 _ (by omega) (by omega) (by omega) ?_ ?_
        · cases r <;> decide +kernel
        · cases r <;> decide +kernel
      | _ => cases hd
    · refine ifF (by simpa using hx) ?_
      exact bent_last v (by omega) H1 nx bk ct fun d' μ' v' H' l' => q d' μ' v' (H'.mono (by omega)) (l1.trans l')
theorem bent_str (v : Val m D B d) (hm : m ≤ 1000000) (hB : B ≤ 100000) (hT : T + 48 ≤ 900000000) (H : HandAt μ h T) (nx : Rho → Mu → Prop) (bk ct : Rho → Mu → Prop) (q : ∀ d' μ', Val (m + 2) (D + 14) (4 * B + 100) d' → HandAt μ' h (T + 48) → LeX h μ μ' → Q d' μ') :
    dSeq bStr (dSeq bInt bLast) { nx := nx, rt := Q, bk := bk, ct := ct } [some (.ref h), some d, a, b] μ := by
  unfold bStr
  refine r_var rfl ?_
  refine isi_str v.ok ?_
  cases hd : isStr d with
  | false =>
    refine ifF rfl ?_
    refine ifF rfl ?_
    exact bent_int v hm (by omega) H nx bk ct fun d' μ' v' H' l' => q d' μ' v' (H'.mono (by omega)) l'
  | true =>
    refine ifT rfl ?_
    refine r_var rfl ?_
    refine ⟨h, 3, T, rfl, by decide, by decide, by omega, H, fun x μ1 _ _ H1 l1 => ?_⟩
    refine i_gt ?_
    by_cases hx : 0 < x
    · refine ifT (by simpa using hx) ?_
      obtain ⟨z, rfl⟩ : ∃ z, d = .str z := by cases d <;> first | exact ⟨_, rfl⟩ | cases hd
      have vo := v.ok
      rw [okV] at vo
      have vw := v.wt
      rw [wtV] at vw
      have zl : z.length = z.cps.size := rfl
      have z1 : z.length ≤ sizeLine := le_line (m := 100000) (by omega) (by omega)
      refine r_var rfl ?_
      refine r_var rfl ?_
      refine s_add (le_line (m := 100001) (by show z.cps.size + 1 ≤ _; omega) (by omega)) ?_
      refine r_var rfl ?_
      refine ⟨z1, ?_⟩
      refine r_var rfl ?_
      refine ⟨by omega, ?_⟩
      refine r_var rfl ?_
      refine s_add (le_line (m := 100001) (by show z.cps.size + 1 ≤ _; omega) (by omega)) ?_
      refine r_var rfl ?_
      refine ⟨z1, fun t tl tc => ?_⟩
      refine r_var rfl ?_
      refine ⟨(by show 1 ≤ sizeLine; decide), ?_⟩
      refine ⟨(by show 8 ≤ sizeLine; decide), ?_⟩
      refine ⟨h, _, _, T + 1, rfl, .inl rfl, by simp, by simp, by omega, H1, fun i dm μ3 hdm H3 l3 => ?_⟩
      refine q dm μ3 ?_ (H3.mono (by omega)) (l1.trans l3)
      have := List.mem_of_getElem? hdm
      simp only [List.mem_cons, List.not_mem_nil, or_false] at this
      have tl' : t.cps.size ≤ z.cps.size := tl
      have ul : (Txt.upper z).cps.size ≤ 3 * z.cps.size := len_upper z
      have cl : (cutS z (some 1) none).cps.size ≤ z.cps.size := cutS_length z (some 1) none
      rcases this with rfl | rfl | rfl | rfl | rfl | rfl | rfl | rfl
      · exact (Val.str (ok_app vo (by decide +kernel))).mono (by omega) (by omega) (by rw [app_len]; show z.cps.size + 1 ≤ _; omega)
      · exact (Val.str (ok_cut vo)).mono (by omega) (by omega) (by omega)
      · exact (Val.str (ok_upper vo)).mono (by omega) (by omega) (by omega)
      · exact (Val.str (ok_app vo (by decide +kernel))).mono (by omega) (by omega) (by rw [app_len]; show z.cps.size + 1 ≤ _; omega)
      · exact (Val.str (ok_signs.mpr fun c hc => ok_signs.mp vo c (tc c hc))).mono (by omega) (by omega) (by omega)
      · exact (Val.lst (ValL.one v)).mono (by omega) (by omega) (by omega)
      · exact (Val.str (x := "a") (by decide +kernel)).mono (by omega) (by omega) (by show 1 ≤ _; omega)
      · exact (Val.str (x := "create") (by decide +kernel)).mono (by omega) (by omega) (by show 6 ≤ _; omega)
    · refine ifF (by simpa using hx) ?_
      exact bent_int v hm (by omega) H1 nx bk ct fun d' μ' v' H' l' => q d' μ' v' (H'.mono (by omega)) (l1.trans l')
end
theorem read__law_bent (n : Nat) : ∀ ds μ Q E, sp__law_bent (n + 1) ds μ Q E → t__law_bent n { nx := fun _ μ' => Q .non μ', rt := Q } (begin_ ["_law_hand_here", "_law_thing", "_law_at", "_law_way"] ds) μ := by
  rintro ds μ Q E ⟨h, d, m, D, B, T, rfl, hn, v, hm, hB, hT, H, q⟩
  unfold t__law_bent bTup
  refine r_var rfl ?_
  refine isi_tup v.ok ?_
  have rest : ∀ μ1 k, k ≤ 3 → HandAt μ1 h (T + k) → LeX h μ μ1 → dSeq bStr (dSeq bInt bLast) { nx := fun _ μ' => Q .non μ', rt := Q } [some (.ref h), some d, none, none] μ1 := fun μ1 k hk H1 l1 =>
    bent_str v hm hB (by omega) H1 _ _ _ fun d' μ' v' H' l' => q d' μ' v' (H'.mono (by omega)) (l1.trans l')
  cases hd : isTup d with
  | false => exact ifF rfl (ifF rfl (rest μ 0 (by omega) H (LeX.refl h μ)))
  | true =>
    refine ifT rfl ?_
    obtain ⟨xs, rfl⟩ : ∃ xs, d = .tup xs := by cases d <;> first | exact ⟨_, rfl⟩ | cases hd
    refine r_var rfl ?_
    refine ⟨Nat.zero_le _, ?_⟩
    refine t0_tup ?_
    cases hxs : xs.isEmpty with
    | true => exact ifF rfl (ifF rfl (rest μ 0 (by omega) H (LeX.refl h μ)))
    | false =>
      refine ifT rfl ?_
      refine r_var rfl ?_
      refine ⟨h, 6, T, rfl, by decide, by decide, by omega, H, fun x μ1 _ _ H1 l1 => ?_⟩
      refine i_gt ?_
      by_cases hx : 0 < x
      · refine ifT (by simpa using hx) ?_
        obtain ⟨D', rfl⟩ : ∃ D', D = D' + 1 := ⟨D - 1, by have := v.pos; omega⟩
        have vl := v.ofTup
        have xl : xs.length ≤ B := Nat.le_trans (len_wtVL xs) vl.wt
        have x0 : 0 < xs.length := by cases xs with
          | nil => cases hxs
          | cons _ _ => simp
        dsimp only
        refine r_var rfl ?_
        refine r_var rfl ?_
        refine l_lenT ?_
        refine ⟨h, _, T + 1, rfl, by omega, by omega, by omega, H1, fun at_ μ2 a0 a1 H2 l2 => ?_⟩
        obtain ⟨k, rfl⟩ := Int.eq_ofNat_of_zero_le a0
        have hk : k < xs.length := by omega
        refine r_var rfl ?_
        refine ⟨h, 9, T + 1 + 1, rfl, by decide, by decide, by omega, H2, fun way μ3 b0 b1 H3 l3 => ?_⟩
        obtain ⟨y, rfl⟩ := Int.eq_ofNat_of_zero_le b0
        have l03 := (l1.trans l2).trans l3
        dsimp only
        refine r_var rfl ?_
        refine i_lt ?_
        have tk := (vl.take k)
        have dr := (vl.drop (k + 1))
        by_cases hy : y < 5
        · refine ifT (decide_eq_true (by omega)) ?_
          refine r_var rfl ?_
          refine r_var rfl ?_
          refine sl_T ?_
          rw [cutL_to]
          refine r_var rfl ?_
          refine r_var rfl ?_
          refine r_var rfl ?_
          have hin : xs[k]? = some xs[k] := List.getElem?_eq_getElem hk
          refine ix_tup (d := xs[k]) (atI_nat hin) ?_
          have hc := List.getElem_mem hk
          have dc : dpV xs[k] < dpV (.tup xs) := by rw [dpV]; exact Nat.lt_succ_of_le (dpVL_le.mp (Nat.le_refl _) _ hc)
          have vc := vl.mem hc
          have wc := wtVL_mem hc
          have wB := vl.wt
          refine ⟨h, xs[k], m, D', wtV xs[k], T + 1 + 1 + 1, rfl, by omega, ⟨vc.ok, vc.dp, Nat.le_refl _⟩, hm, by omega, by omega, H3, fun d' μ4 v' H4 l4 => ?_⟩
          refine ⟨(by show 1 ≤ sizeLine; decide), ?_⟩
          refine t_add (le_line (m := 100002) (by simp; omega) (by omega)) ?_
          refine r_var rfl ?_
          refine r_var rfl ?_
          refine i_add ?_
          refine sl_T ?_
          rw [show ((k : Nat) : Int) + 1 = ((k + 1 : Nat) : Int) by omega, cutL_from]
          refine t_add (le_line (m := 200002) (by simp; omega) (by omega)) ?_
          refine q _ μ4 ?_ (H4.mono (by omega)) (l03.trans l4)
          have w1 := wtVL_cut xs k
          have w2 : xs.drop k = xs[k] :: xs.drop (k + 1) := (List.drop_eq_getElem_cons hk)
          rw [w2, wtVL] at w1
          have e1 : ValL m D' (wtVL (xs.take k)) (xs.take k) := ⟨tk.ok, tk.dp, Nat.le_refl _⟩
          have e2 : ValL m D' (wtVL (xs.drop (k + 1))) (xs.drop (k + 1)) := ⟨dr.ok, dr.dp, Nat.le_refl _⟩
          have e3 := ValL.append (ValL.append (e1.mono (m' := m + 2) (D' := D' + 14) (by omega) (by omega) (Nat.le_refl _)) (ValL.one v')) (e2.mono (m' := m + 2) (D' := D' + 14) (by omega) (by omega) (Nat.le_refl _))
          exact (Val.tup e3).mono (Nat.le_refl _) (by omega) (by omega)
        · refine ifF (decide_eq_false (by omega)) ?_
          simp only [dNext]
          refine r_var rfl ?_
          refine r_var rfl ?_
          refine sl_T ?_
          rw [cutL_to]
          refine r_var rfl ?_
          refine r_var rfl ?_
          refine i_add ?_
          refine sl_T ?_
          rw [show ((k : Nat) : Int) + 1 = ((k + 1 : Nat) : Int) by omega, cutL_from]
          refine t_add (le_line (m := 200002) (by simp; omega) (by omega)) ?_
          refine r_var rfl ?_
          refine r_var rfl ?_
          refine i_add ?_
          refine sl_T ?_
          rw [show ((k : Nat) : Int) + 1 = ((k + 1 : Nat) : Int) by omega, cutL_to]
          refine r_var rfl ?_
          refine r_var rfl ?_
          refine sl_T ?_
          rw [cutL_from]
          refine t_add (le_line (m := 200002) (by simp; omega) (by omega)) ?_
          refine r_var rfl ?_
          show drRevX (.tup xs) μ3 _
          unfold drRevX
          dsimp only
          refine r_var rfl ?_
          show drList [.tup xs] μ3 _
          unfold drList
          simp only [seqD]
          refine ⟨(by show 4 ≤ sizeLine; decide), ?_⟩
          refine r_var rfl ?_
          refine i_sub ?_
          have fin : ∀ d', Val (m + 2) (D' + 1 + 14) (4 * B + 100) d' → Q d' μ3 := fun d' v' => q d' μ3 v' (H3.mono (by omega)) l03
          have y4 : y = 5 ∨ y = 6 ∨ y = 7 ∨ y = 8 := by omega
          rcases y4 with rfl | rfl | rfl | rfl
          · refine ix_lst (k := 0) rfl (fin _ ?_)
            exact (Val.tup (ValL.append tk dr)).mono (by omega) (by omega) (by omega)
          · refine ix_lst (k := 1) rfl (fin _ ?_)
            exact (Val.tup (ValL.append (vl.take (k + 1)) (vl.drop k))).mono (by omega) (by omega) (by omega)
          · refine ix_lst (k := 2) rfl (fin _ ?_)
            exact (Val.tup vl.reverse).mono (by omega) (by omega) (by omega)
          · refine ix_lst (k := 3) rfl (fin _ ?_)
            exact (Val.lst vl).mono (by omega) (by omega) (by omega)
      · exact ifF (by simpa using hx) (rest μ1 1 (by omega) H1 l1)
end LK
/-! KC2: is_cost, are_costs, the law's _law_are_prices. -/
namespace LK
open PySem PySem.Spec PyProof.Rows L2 DS MA
/-! strictly ascending -/
def ltT (a b : Str) : Bool := decide (a.cps.toList < b.cps.toList)
theorem ltT_leS {a b : Str} : ltT a b = true ↔ leS b a = false := by
  unfold ltT
  rw [decide_eq_true_eq]
  constructor
  · intro h
    cases e : leS b a with
    | false => rfl
    | true => exact (leS_iff.mp e h).elim
  · intro h
    by_cases g : a.cps.toList < b.cps.toList
    · exact g
    · rw [leS_iff.mpr g] at h; cases h
def ascB (l : List Str) : Bool := (List.zipWith ltT l (l.drop 1)).all _root_.id
theorem ascB_pw : ∀ {l : List Str}, ascB l = true → l.Pairwise fun a b => ltT a b = true
  | [], _ => .nil
  | [a], _ => List.pairwise_singleton _ _
  | a :: b :: r, h => by
    have h' : (ltT a b && ascB (b :: r)) = true := h
    rw [Bool.and_eq_true] at h'
    have ih := ascB_pw h'.2
    refine List.pairwise_cons.mpr ⟨fun c hc => ?_, ih⟩
    rcases List.mem_cons.mp hc with rfl | hc
    · exact h'.1
    · have k := (List.pairwise_cons.mp ih).1 c hc
      unfold ltT at *
      rw [decide_eq_true_eq] at *
      exact List.lt_trans h'.1 k
theorem ascB_of : ∀ {l : List Str}, (l.Pairwise fun a b => leS a b = true) → l.Nodup → ascB l = true
  | [], _, _ => rfl
  | [a], _, _ => rfl
  | a :: b :: r, p, nd => by
    show (ltT a b && ascB (b :: r)) = true
    have p' := List.pairwise_cons.mp p
    have nd' := List.nodup_cons.mp nd
    rw [ascB_of p'.2 nd'.2, Bool.and_true, ltT_leS]
    cases e : leS b a with
    | false => rfl
    | true => exact (nd'.1 (by rw [leS_anti (p'.1 b (List.mem_cons_self ..)) e]; exact List.mem_cons_self ..)).elim
theorem asc_srtU {l : List Str} : ascB l = decide (l = srtU l) := by
  cases e : ascB l with
  | true =>
    have p := ascB_pw e
    have nd : l.Nodup := p.imp fun {a b} h z => by subst z; unfold ltT at h; exact List.lt_irrefl _ (of_decide_eq_true h)
    have le : l.Pairwise fun a b => leS a b = true := p.imp fun {a b} h => by
      rcases leS_total a b with z | z
      · exact z
      · rw [ltT_leS.mp h] at z; cases z
    have : l = srtU l := pw_uniq ((srt_perm _).trans (perm_same (ddp_nd l) nd fun k => ddp_mem)).symm le (srt_pw _)
    exact (decide_eq_true this).symm
  | false =>
    refine (decide_eq_false fun z => ?_).symm
    have h : ascB (srtU l) = true := ascB_of (srt_pw _) (srtU_nd l)
    rw [← z, e] at h
    cases h
/-! pairs of a key and a cost -/
def costV : SD → Bool
  | .int i => decide (1 ≤ i) && decide (i ≤ 1000)
  | _ => false
def costB : SD → Bool
  | .tup [x, y] => keyB x && costV y
  | _ => false
def nmD : SD → Str
  | .tup (.str x :: _) => x
  | _ => ""
theorem costB_at {d : SD} (h : costB d = true) : ∃ x i, d = .tup [.str x, .int i] ∧ keyB (.str x) = true := by
  unfold costB at h
  split at h
  · rename_i x y
    rw [Bool.and_eq_true] at h
    obtain ⟨s, rfl⟩ := keyB_str h.1
    obtain ⟨i, rfl⟩ : ∃ i, y = .int i := by
      have := h.2
      unfold costV at this
      split at this
      · exact ⟨_, rfl⟩
      · cases this
    exact ⟨s, i, rfl, h.1⟩
  · cases h
def costsB : SD → Bool
  | .tup xs => xs.all costB && ascB (xs.map nmD)
  | _ => false
theorem kit_bool : kitB "NoneType" "bool" = some false ∧ kitB "bool" "bool" = some true ∧ kitB "int" "bool" = some false := by decide +kernel
def sp_is_cost : DSp := fun ds μ Q _ => ∃ (d : SD) (m : Nat), ds = [d] ∧ okV m d ∧ wtV d ≤ 300000 ∧ Q (.bl (costB d)) μ
theorem len_is_cost : ∀ ds μ Q E, sp_is_cost ds μ Q E → ds.length = 1 := by rintro ds μ Q E ⟨d, m, rfl, _⟩; rfl
def t_is_cost : DTS := (dSeq (dIfS (dOr (dNot (dTest (dCB drIsi (dCons (dVar 0) (dCons (dC (.ty "tuple")) dNil))))) (dOr (dTest (dOp (dEq true) (dCB drLen (dCons (dVar 0) dNil)) (dC (.int 2)))) (dNot (dTest (dCall sp_is_key [] (dCons (dOp dIx (dVar 0) (dC (.int 0))) dNil)))))) (dRet (dC (.bl false))) dNext)
    (dRet (dAndV (dCB drIsi (dCons (dOp dIx (dVar 0) (dC (.int 1))) (dCons (dC (.ty "int")) dNil))) (dAndV (dNotV (dCB drIsi (dCons (dOp dIx (dVar 0) (dC (.int 1))) (dCons (dC (.ty "bool")) dNil)))) (dChain dLe dLe (dC (.int 1)) (dOp dIx (dVar 0) (dC (.int 1))) (dC (.int 1000)))))))
theorem read_is_cost : ∀ ds μ Q E, sp_is_cost ds μ Q E → t_is_cost { nx := fun _ μ' => Q .non μ', rt := Q } (begin_ ["value"] ds) μ := by
  rintro ds μ Q E ⟨d, m, rfl, v, w, q⟩
  unfold t_is_cost
  refine r_var rfl ?_
  refine isi_tup v ?_
  cases d with
  | ref a => rw [okV] at v; exact v.elim
  | ty a => rw [okV] at v; exact v.elim
  | rol a => rw [okV] at v; exact v.elim
  | exc a b => rw [okV] at v; exact v.elim
  | ptp a => rw [okV] at v; exact v.elim
  | tup xs =>
    refine ifF rfl ?_
    refine r_var rfl ?_
    refine l_lenT ?_
    refine i_ne ?_
    match xs, v, w, q with
    | [], _, _, q => exact ifT rfl (ifT rfl q)
    | [x], _, _, q => exact ifT rfl (ifT rfl q)
    | x :: y :: z :: r, _, _, q =>
      rw [decide_eq_false (show ¬ (((x :: y :: z :: r).length : Nat) : Int) = 2 by simp only [List.length_cons]; omega)]
      exact ifT rfl (ifT rfl q)
    | [x, y], v, w, q =>
      rw [okV, okVL, okVL] at v
      obtain ⟨vx, vy, _⟩ := v
      rw [wtV, wtVL, wtVL, wtVL] at w
      refine ifF rfl ?_
      refine r_var rfl ?_
      refine ix_tup (d := x) rfl ?_
      refine ⟨x, m, rfl, vx, by omega, ?_⟩
      have e : costB (.tup [x, y]) = (keyB x && costV y) := rfl
      rw [e] at q
      cases hk : keyB x with
      | false => rw [hk] at q; exact ifT rfl q
      | true =>
        rw [hk, Bool.true_and] at q
        refine ifF rfl ?_
        simp only [dNext]
        refine r_var rfl ?_
        refine ix_tup (d := y) rfl ?_
        refine isi_int vy ?_
        cases y with
        | int i =>
          refine r_var rfl ?_
          refine ix_tup (d := .int i) rfl ?_
          refine isi_of (t := "int") (b := false) rfl kit_bool.2.2 ?_
          refine r_var rfl ?_
          refine ix_tup (d := .int i) rfl ?_
          refine i_le ?_
          have e2 : costV (.int i) = (decide (1 ≤ i) && decide (i ≤ 1000)) := rfl
          rw [e2] at q
          by_cases h1 : 1 ≤ i
          · rw [decide_eq_true h1] at q ⊢
            exact i_le q
          · rw [decide_eq_false h1] at q ⊢
            exact q
        | bl b =>
          refine r_var rfl ?_
          refine ix_tup (d := .bl b) rfl ?_
          exact isi_of (t := "bool") (b := true) rfl kit_bool.2.1 q
        | _ => exact q
  | _ => exact ifT rfl (ifT rfl q)
/-! the program's look at costs -/
theorem zips_names : ∀ {xs : List SD} (ys : List SD), (zips xs ys).map (fun d => match d with | .tup [a, b] => ltT (nmD a) (nmD b) | _ => false) = List.zipWith ltT (xs.map nmD) (ys.map nmD) := fun {xs} ys => by
  unfold zips
  rw [List.map_zipWith, List.zipWith_map]
def sp_are_costs : DSp := fun ds μ Q _ => ∃ (d : SD) (m : Nat), ds = [d] ∧ okV m d ∧ wtV d ≤ 300000 ∧ Q (.bl (costsB d)) μ
theorem len_are_costs : ∀ ds μ Q E, sp_are_costs ds μ Q E → ds.length = 1 := by rintro ds μ Q E ⟨d, m, rfl, _⟩; rfl
def t_are_costs : DTS := (dSeq (dIfS (dOr (dNot (dTest (dCB drIsi (dCons (dVar 0) (dCons (dC (.ty "tuple")) dNil))))) (dNot (dTest (dCB (drBls fun bs => bs.all _root_.id) (dCons (dLcS (jSeq (dVar 0)) (hName 1) dYes (dCall sp_is_cost [] (dCons (dVar 1) dNil)) [1]) dNil))))) (dRet (dC (.bl false))) dNext)
    (dRet (dCB (drBls fun bs => bs.all _root_.id) (dCons (dLcS (jZip (dCons (dVar 0) (dCons (dSl (dVar 0) (dPart (dC (.int 1))) dNoPart) dNil))) (hTup 2 (hNames [1, 2])) dYes (dOp dLt (dOp dIx (dVar 1) (dC (.int 0))) (dOp dIx (dVar 2) (dC (.int 0)))) [1, 2]) dNil))))
theorem read_are_costs : ∀ ds μ Q E, sp_are_costs ds μ Q E → t_are_costs { nx := fun _ μ' => Q .non μ', rt := Q } (begin_ ["value", "pair", "later"] ds) μ := by
  rintro ds μ Q E ⟨d, m, rfl, v, w, q⟩
  unfold t_are_costs
  refine r_var rfl ?_
  refine isi_tup v ?_
  cases d with
  | ref a => rw [okV] at v; exact v.elim
  | ty a => rw [okV] at v; exact v.elim
  | rol a => rw [okV] at v; exact v.elim
  | exc a b => rw [okV] at v; exact v.elim
  | ptp a => rw [okV] at v; exact v.elim
  | tup xs =>
    refine ifF rfl ?_
    rw [okV] at v
    rw [wtV] at w
    have ok := okVL_mem.mp v
    have xl : xs.length ≤ 300000 := Nat.le_trans (len_wtVL xs) w
    unfold dLcS dLc
    refine r_var rfl ?_
    refine lc_g (zs := (xs.map costB).map SD.bl) rfl (by omega) (by simp) (fun i d y hd hy R rr => ?_) ?_
    · rw [List.getElem?_map, List.getElem?_map, hd] at hy
      cases hy
      refine r_var rfl ?_
      have hm := List.mem_of_getElem? hd
      exact ⟨d, m, rfl, ok d hm, by have := wtVL_mem hm; omega, rr⟩
    · refine bls_all ?_
      have e : costsB (.tup xs) = (xs.all costB && ascB (xs.map nmD)) := rfl
      rw [e] at q
      have e2 : (xs.map costB).all _root_.id = xs.all costB := by rw [List.all_map]; rfl
      rw [e2]
      cases hall : xs.all costB with
      | false => rw [hall] at q; exact ifT rfl q
      | true =>
        rw [hall, Bool.true_and] at q
        have all := List.all_eq_true.mp hall
        refine ifF rfl ?_
        simp only [dNext]
        unfold jZip
        refine r_var rfl ?_
        refine r_var rfl ?_
        refine sl_T ?_
        rw [show cutL xs (some 1) none = xs.drop 1 from cutL_from xs 1]
        refine ⟨rfl, ?_⟩
        dsimp only
        simp only [seqD]
        have zl : (zips xs (xs.drop 1)).length ≤ 300000 := by unfold zips; rw [List.length_zipWith]; omega
        refine lc_g (ok := fun _ => True ∧ True) (zs := ((zips xs (xs.drop 1)).map fun d => match d with | .tup [a, b] => ltT (nmD a) (nmD b) | _ => false).map SD.bl) ⟨trivial, trivial⟩ (by omega) (by simp) (fun i d y hd hy R rr => ?_) ?_
        · rw [List.getElem?_map, List.getElem?_map, hd] at hy
          unfold zips at hd
          rw [List.getElem?_zipWith] at hd
          cases ea : xs[i]? with
          | none => rw [ea] at hd; cases hd
          | some a =>
          cases eb : (xs.drop 1)[i]? with
          | none => rw [ea, eb] at hd; cases hd
          | some b =>
          rw [ea, eb] at hd
          cases hd
          cases hy
          obtain ⟨x, j, rfl, _⟩ := costB_at (all a (List.mem_of_getElem? ea))
          obtain ⟨x2, j2, rfl, _⟩ := costB_at (all b (List.mem_of_mem_drop (List.mem_of_getElem? eb)))
          refine ⟨rfl, rfl, ?_⟩
          refine r_var rfl ?_
          refine ix_tup (d := .str x) (atI_nat (j := 0) rfl) ?_
          refine r_var rfl ?_
          refine ix_tup (d := .str x2) (atI_nat (j := 0) rfl) ?_
          exact rr
        · refine bls_all ?_
          rw [zips_names, List.map_drop]
          exact q
  | _ => exact ifT rfl (ifT rfl q)
end LK
/-! KC3: _law_are_prices, _law_mixed. -/
namespace LK
open PySem PySem.Spec PyProof.Rows L2 DS MA
/-! == of lists of texts -/
theorem eqvK : ∀ l l' : List Str, PyData.eqvAll (l.map PyData.str) (l'.map PyData.str) = decide (l = l')
  | [], [] => by simp [PyData.eqvAll]
  | [], _ :: _ => by simp [PyData.eqvAll]
  | _ :: _, [] => by simp [PyData.eqvAll]
  | a :: l, b :: l' => by
    rw [List.map_cons, List.map_cons, PyData.eqvAll, eqvK l l', PyData.eqv]
    by_cases h1 : a = b <;> by_cases h2 : l = l' <;> simp [h1, h2]
theorem pdLK : ∀ l : List Str, pdL (sts l) = some (l.map PyData.str)
  | [] => rfl
  | a :: l => by rw [sts, List.map_cons, pdL, ← sts, pdLK l]; rfl
theorem layK : ∀ {l : List Str}, (∀ k ∈ l, KeyOk k) → PyData.canLayAll0 (l.map PyData.str) = true
  | [], _ => by simp [PyData.canLayAll0]
  | a :: l, h => by
    rw [List.map_cons, PyData.canLayAll0, layK fun k hk => h k (List.mem_cons_of_mem _ hk), PyData.canLay0, (h a (List.mem_cons_self ..)).1]; rfl
theorem depthK : ∀ l : List Str, PyData.depthAll (l.map PyData.str) = 0
  | [] => by simp [PyData.depthAll]
  | a :: l => by rw [List.map_cons, PyData.depthAll, depthK l]; simp [PyData.depth]
theorem eqL_ok {a b : List Str} {μ : Mu} {Q : SD → Mu → Prop} (ha : ∀ k ∈ a, KeyOk k) (hb : ∀ k ∈ b, KeyOk k) (q : Q (.bl (decide (a = b))) μ) : dEq false (.lst (sts a)) (.lst (sts b)) μ Q := by
  have sh : ∀ {l : List Str}, (∀ k ∈ l, KeyOk k) → SeqAt.shaped (.list (l.map PyData.str)) = true := fun {l} h => by
    unfold SeqAt.shaped
    rw [PyData.canLay0, layK h, PyData.depth, depthK]; rfl
  have pd2 : ∀ l : List Str, pd μ (.lst (sts l)) = some (.list (l.map PyData.str)) := fun l => by
    show pdS (.lst (sts l)) = _
    rw [pdS, pdLK]
  have e : eqD μ (.lst (sts a)) (.lst (sts b)) = some (decide (a = b)) := by
    unfold eqD
    simp only [pd2]
    rw [if_pos ⟨sh ha, sh hb⟩, PyData.eqv, eqvK]
  unfold dEq
  rw [e]
  show Q (.bl (false != decide (a = b))) μ
  rw [Bool.false_bne]; exact q
theorem eqT_ok {a b : List Str} {μ : Mu} {Q : SD → Mu → Prop} (ha : ∀ k ∈ a, KeyOk k) (hb : ∀ k ∈ b, KeyOk k) (q : Q (.bl (decide (a = b))) μ) : dEq false (.tup (sts a)) (.tup (sts b)) μ Q := by
  have sh : ∀ {l : List Str}, (∀ k ∈ l, KeyOk k) → SeqAt.shaped (.tuple (l.map PyData.str)) = true := fun {l} h => by
    unfold SeqAt.shaped
    rw [PyData.canLay0, layK h, PyData.depth, depthK]; rfl
  have pd2 : ∀ l : List Str, pd μ (.tup (sts l)) = some (.tuple (l.map PyData.str)) := fun l => by
    show pdS (.tup (sts l)) = _
    rw [pdS, pdLK]
  have e : eqD μ (.tup (sts a)) (.tup (sts b)) = some (decide (a = b)) := by
    unfold eqD
    simp only [pd2]
    rw [if_pos ⟨sh ha, sh hb⟩, PyData.eqv, eqvK]
  unfold dEq
  rw [e]
  show Q (.bl (false != decide (a = b))) μ
  rw [Bool.false_bne]; exact q
theorem keyB_ok {x : Str} {m : Nat} (v : okV m (.str x)) (h : keyB (.str x) = true) : KeyOk x := by
  rw [okV] at v
  rw [keyB_eq, Bool.and_eq_true, Bool.and_eq_true] at h
  have h2 : x.length ≤ 8 := of_decide_eq_true h.1.2
  exact ⟨v, Nat.le_trans (show x.cps.size ≤ 8 from h2) (by decide)⟩
/-! the law's look -/
def sp__law_are_prices : DSp := fun ds μ Q _ => ∃ (d : SD) (m : Nat), ds = [d] ∧ okV m d ∧ wtV d ≤ 4000 ∧ Q (.bl (costsB d)) μ
theorem len__law_are_prices : ∀ ds μ Q E, sp__law_are_prices ds μ Q E → ds.length = 1 := by rintro ds μ Q E ⟨d, m, rfl, _⟩; rfl
def t__law_are_prices : DTS := (dSeq (dIfS (dNot (dTest (dCB drIsi (dCons (dVar 0) (dCons (dC (.ty "tuple")) dNil))))) (dRet (dC (.bl false))) dNext)
    (dSeq (dFor (jSeq (dVar 0)) (hName 1) (dSeq (dIfS (dOr (dNot (dTest (dCB drIsi (dCons (dVar 1) (dCons (dC (.ty "tuple")) dNil))))) (dOr (dTest (dOp (dEq true) (dCB drLen (dCons (dVar 1) dNil)) (dC (.int 2)))) (dNot (dTest (dCall sp__law_is_key [] (dCons (dOp dIx (dVar 1) (dC (.int 0))) dNil)))))) (dRet (dC (.bl false))) dNext)
    (dIfS (dOr (dNot (dTest (dCB drIsi (dCons (dOp dIx (dVar 1) (dC (.int 1))) (dCons (dC (.ty "int")) dNil))))) (dOr (dTest (dCB drIsi (dCons (dOp dIx (dVar 1) (dC (.int 1))) (dCons (dC (.ty "bool")) dNil)))) (dNot (dTest (dChain dLe dLe (dC (.int 1)) (dOp dIx (dVar 1) (dC (.int 1))) (dC (.int 1000))))))) (dRet (dC (.bl false))) dNext)))
    (dSeq (dSet (dLcS (jSeq (dVar 0)) (hName 1) dYes (dOp dIx (dVar 1) (dC (.int 0))) [1]) 2)
    (dRet (dOp (dEq false) (dVar 2) (dSortSet (dVar 2)))))))
theorem read__law_are_prices : ∀ ds μ Q E, sp__law_are_prices ds μ Q E → t__law_are_prices { nx := fun _ μ' => Q .non μ', rt := Q } (begin_ ["_law_thing", "_law_pair", "_law_names"] ds) μ := by
  rintro ds μ Q E ⟨d, m, rfl, v, w, q⟩
  unfold t__law_are_prices dFor
  refine r_var rfl ?_
  refine isi_tup v ?_
  cases d with
  | ref a => rw [okV] at v; exact v.elim
  | ty a => rw [okV] at v; exact v.elim
  | rol a => rw [okV] at v; exact v.elim
  | exc a b => rw [okV] at v; exact v.elim
  | ptp a => rw [okV] at v; exact v.elim
  | tup xs =>
    refine ifF rfl ?_
    simp only [dNext]
    rw [okV] at v
    rw [wtV] at w
    have ok := okVL_mem.mp v
    have xl : xs.length ≤ 4000 := Nat.le_trans (len_wtVL xs) w
    have bad : ∀ d ∈ xs, costB d = false → Q (.bl false) μ := fun d hd h => by
      have e : costsB (.tup xs) = false := by
        show (xs.all costB && ascB (xs.map nmD)) = false
        rw [show xs.all costB = false from List.all_eq_false.mpr ⟨d, hd, by rw [h]; exact Bool.false_ne_true⟩, Bool.false_and]
      rw [e] at q; exact q
    refine r_var rfl ?_
    refine ⟨fun i ρ μ' => ∃ a1, ρ = [some (.tup xs), a1, none] ∧ μ' = μ ∧ ∀ d ∈ xs.take i, costB d = true, ⟨none, rfl, rfl, by simp⟩, fun _ _ _ _ _ => rfl, ?_, ?_⟩
    · rintro i d ρ μ' hd ⟨a1, rfl, rfl, good⟩
      have hm := List.mem_of_getElem? hd
      have vd := ok d hm
      have wd : wtV d ≤ 4000 := by have := wtVL_mem hm; omega
      have nxt : costB d = true → ∀ d' ∈ xs.take (i + 1), costB d' = true := fun h d' hd' => by
        rw [List.take_succ, hd] at hd'
        rcases List.mem_append.mp hd' with h1 | h1
        · exact good d' h1
        · simp at h1; rw [h1]; exact h
      have bd := bad d hm
      dsimp only
      refine r_var rfl ?_
      refine isi_tup vd ?_
      cases d with
      | ref a => rw [okV] at vd; exact vd.elim
      | ty a => rw [okV] at vd; exact vd.elim
      | rol a => rw [okV] at vd; exact vd.elim
      | exc a b => rw [okV] at vd; exact vd.elim
      | ptp a => rw [okV] at vd; exact vd.elim
      | tup ys =>
        refine ifF rfl ?_
        refine r_var rfl ?_
        refine l_lenT ?_
        refine i_ne ?_
        match ys, vd, wd, nxt, bd with
        | [], _, _, _, bd => exact ifT rfl (ifT rfl (bd rfl))
        | [x], _, _, _, bd => exact ifT rfl (ifT rfl (bd rfl))
        | x :: y :: z :: r, _, _, _, bd =>
          rw [decide_eq_false (show ¬ (((x :: y :: z :: r).length : Nat) : Int) = 2 by simp only [List.length_cons]; omega)]
          exact ifT rfl (ifT rfl (bd rfl))
        | [x, y], vd, wd, nxt, bd =>
          rw [okV, okVL, okVL] at vd
          obtain ⟨vx, vy, _⟩ := vd
          rw [wtV, wtVL, wtVL, wtVL] at wd
          refine ifF rfl ?_
          refine r_var rfl ?_
          refine ix_tup (d := x) rfl ?_
          refine ⟨x, m, rfl, vx, by omega, ?_⟩
          have e : costB (.tup [x, y]) = (keyB x && costV y) := rfl
          rw [e] at nxt bd
          cases hk : keyB x with
          | false => rw [hk] at bd; exact ifT rfl (bd rfl)
          | true =>
            rw [hk, Bool.true_and] at nxt bd
            refine ifF rfl ?_
            simp only [dNext]
            refine r_var rfl ?_
            refine ix_tup (d := y) rfl ?_
            refine isi_int vy ?_
            cases y with
            | int j =>
              refine ifF rfl ?_
              refine r_var rfl ?_
              refine ix_tup (d := .int j) rfl ?_
              refine isi_of (t := "int") (b := false) rfl kit_bool.2.2 ?_
              refine ifF rfl ?_
              refine r_var rfl ?_
              refine ix_tup (d := .int j) rfl ?_
              refine i_le ?_
              have e2 : costV (.int j) = (decide (1 ≤ j) && decide (j ≤ 1000)) := rfl
              rw [e2] at nxt bd
              by_cases h1 : 1 ≤ j
              · rw [decide_eq_true h1] at nxt bd ⊢
                refine i_le ?_
                by_cases h2 : j ≤ 1000
                · rw [decide_eq_true h2] at nxt bd ⊢
                  refine ifF rfl ?_
                  exact ⟨_, rfl, rfl, nxt rfl⟩
                · rw [decide_eq_false h2] at nxt bd ⊢
                  exact ifT rfl (bd rfl)
              · rw [decide_eq_false h1] at nxt bd ⊢
                exact ifT rfl (bd rfl)
            | bl b =>
              refine ifF rfl ?_
              refine r_var rfl ?_
              refine ix_tup (d := .bl b) rfl ?_
              refine isi_of (t := "bool") (b := true) rfl kit_bool.2.1 ?_
              exact ifT rfl (ifT rfl (bd rfl))
            | _ => exact ifT rfl (ifT rfl (bd rfl))
      | _ => exact ifT rfl (ifT rfl (bd rfl))
    · rintro ρ μ' ⟨a1, rfl, rfl, good⟩
      rw [List.take_length] at good
      have ks : ∀ k ∈ xs.map nmD, KeyOk k := fun k hk => by
        obtain ⟨d, hd, rfl⟩ := List.mem_map.mp hk
        obtain ⟨x, j, rfl, hx⟩ := costB_at (good d hd)
        have vd := ok _ hd
        rw [okV, okVL] at vd
        exact keyB_ok vd.1 hx
      dsimp only
      unfold dLcS dLc
      refine r_var rfl ?_
      refine lc_g (zs := sts (xs.map nmD)) rfl (by omega) (by simp [sts]) (fun i d y hd hy R rr => ?_) ?_
      · obtain ⟨x, j, rfl, _⟩ := costB_at (good d (List.mem_of_getElem? hd))
        rw [sts, List.getElem?_map, List.getElem?_map, hd] at hy
        cases hy
        refine r_var rfl ?_
        exact ix_tup (d := .str x) (atI_nat (j := 0) rfl) rr
      · dsimp only
        refine r_var rfl ?_
        refine r_var rfl ?_
        refine sortSet_ok (l := xs.map nmD) rfl (by rw [List.length_map]; omega) ?_
        refine eqL_ok ks (fun k hk => ks k (srtU_mem.mp hk)) ?_
        rw [← asc_srtU]
        have e : costsB (.tup xs) = ascB (xs.map nmD) := by
          show (xs.all costB && ascB (xs.map nmD)) = _
          rw [show xs.all costB = true from List.all_eq_true.mpr good, Bool.true_and]
        rw [e] at q; exact q
  | _ => exact ifT rfl q
/-! mixed -/
theorem popAt_any {μ : Mu} {a : Addr} {ls : List SD} {j : Nat} {Q : SD → Mu → Prop} (m : μ a = some (.lst ls)) (hj : j < ls.length) (h62 : j ≤ 1000000) (q : Q ls[j] (up μ a (.lst (ls.eraseIdx j)))) : dmPopAt (.ref a) [.int (j : Nat)] μ Q := by
  unfold dmPopAt
  have e : mlst μ (.ref a) = some (a, ls) := by simp [mlst, m]
  simp only [e]
  refine ⟨by omega, by omega, ?_⟩
  have e2 : ls[((j : Nat) : Int).toNat]? = some ls[j] := by rw [Int.toNat_natCast, List.getElem?_eq_getElem hj]
  rw [e2]
  dsimp only
  rw [Int.toNat_natCast]; exact q
theorem erase_permK {α : Type} : ∀ {l : List α} {j : Nat} (h : j < l.length), l.Perm (l[j] :: l.eraseIdx j)
  | a :: l, 0, _ => .refl _
  | a :: l, j + 1, h => by
    have := erase_permK (l := l) (j := j) (by simpa using h)
    exact (this.cons a).trans (.swap _ _ _)
def sp__law_mixed : DSp := fun ds μ Q _ => ∃ (h : Addr) (T : Nat) (xs : List SD), ds = [.ref h, .tup xs] ∧ HandAt μ h T ∧ T ≤ 900000000 ∧ xs.length ≤ 1000 ∧ ∀ (ys : List SD) μ' T', ys.Perm xs → HandAt μ' h T' → T' ≤ T + xs.length → LeX h μ μ' → Q (.lst ys) μ'
theorem len__law_mixed : ∀ ds μ Q E, sp__law_mixed ds μ Q E → ds.length = 2 := by rintro ds μ Q E ⟨h, T, xs, rfl, _⟩; rfl
def t__law_mixed : DTS := (dSeq (dPar 2 3 (dCons (dCB drListM (dCons (dVar 1) dNil)) (dCons (dLstM dNil) dNil)))
    (dSeq (dWhile (dTest (dOp (dL0 true) (dVar 2) (dLst dNil))) (dDrop (dLM dmAppend (dVar 3) (dCons (dLM dmPopAt (dVar 2) (dCons (dCall sp__law_take [] (dCons (dVar 0) (dCons (dCB drLen (dCons (dVar 2) dNil)) dNil))) dNil)) dNil))))
    (dRetF (dVar 3))))
theorem read__law_mixed : ∀ ds μ Q E, sp__law_mixed ds μ Q E → t__law_mixed { nx := fun _ μ' => Q .non μ', rt := Q } (begin_ ["_law_hand_here", "_law_items", "_law_left", "_law_found"] ds) μ := by
  rintro ds μ Q E ⟨h, T, xs, rfl, H, hT, hl, q⟩
  unfold t__law_mixed
  refine r_var rfl ?_
  refine fun p hp => ⟨Nat.zero_le _, fun p3 hp3 => ?_⟩
  obtain ⟨n3, hp3'⟩ := up_none hp3
  have hph := H.ne hp
  have hph3 := H.ne hp3'
  dsimp only
  refine ⟨fun m ρ μ' => ∃ (ls ys : List SD) (T' : Nat), ρ = [some (.ref h), some (.tup xs), some (.ref p), some (.ref p3)] ∧ μ' p = some (.lst ls) ∧ μ' p3 = some (.lst ys) ∧ (ls ++ ys).Perm xs ∧ HandAt μ' h T' ∧ T' + ls.length ≤ T + xs.length ∧ LeX h μ μ' ∧ m = ls.length, ⟨_, xs, [], T, rfl, by rw [up_ne (Ne.symm n3), up_same], up_same, by simp, (H.up hph).up hph3, Nat.le_refl _, ((LeX.refl h μ).up hp).up hp3', rfl⟩, ?_⟩
  rintro m ρ μ1 ⟨ls, ys, T', rfl, m1, m3, pm, H1, hT1, l1, rfl⟩
  have ll := pm.length_eq
  rw [List.length_append] at ll
  refine r_var rfl ⟨Nat.zero_le _, ?_⟩
  refine l0_ref m1 ?_
  by_cases h0 : ls = []
  · rw [show ls.isEmpty = true by rw [h0]; rfl]
    refine ifF rfl ?_
    dsimp only
    refine r_var rfl ?_
    unfold frz
    simp only [m3]
    subst h0
    exact q ys _ T' (by simpa using pm) (H1.rm hph3) (by simpa using hT1) (l1.rm hp3')
  · have lp : 0 < ls.length := List.length_pos_iff.mpr h0
    rw [show ls.isEmpty = false by cases ls with
      | nil => exact (h0 rfl).elim
      | cons _ _ => rfl]
    refine ifT rfl ⟨_, fun _ _ h => h, ?_⟩
    refine r_var rfl ⟨isSome_ref m3, ?_⟩
    refine r_var rfl ⟨isSome_ref m1, ?_⟩
    refine r_var rfl ?_
    refine r_var rfl ?_
    refine l_lenR m1 ?_
    refine ⟨h, _, T', rfl, by omega, by omega, by omega, H1, fun j μ2 j0 j1 H2 l2 => ?_⟩
    obtain ⟨j, rfl⟩ := Int.eq_ofNat_of_zero_le j0
    have m2 := l2 p _ (Ne.symm hph) m1
    have m23 := l2 p3 _ (Ne.symm hph3) m3
    have hj : j < ls.length := by omega
    refine popAt_any m2 hj (by omega) ?_
    refine dm_append (by rw [up_ne n3]; exact m23) (lt_line (m := 1001) (by omega) (by omega)) ?_
    refine ⟨(ls.eraseIdx j).length, by rw [List.length_eraseIdx_of_lt hj]; omega, ls.eraseIdx j, ys ++ [ls[j]], T' + 1, rfl, by rw [up_ne (Ne.symm n3), up_same], up_same, ?_, (H2.up hph).up hph3, by rw [List.length_eraseIdx_of_lt hj]; omega, ((l1.trans l2).up hp).up hp3', rfl⟩
    have a := erase_permK hj
    have b : (ls.eraseIdx j ++ (ys ++ [ls[j]])).Perm (ls[j] :: ls.eraseIdx j ++ ys) := by
      rw [← List.append_assoc]
      exact List.perm_append_singleton _ _ |>.trans (by rw [List.cons_append])
    exact (b.trans (a.symm.append_right ys)).trans pm
end LK
/-! KC4: _law_great_right of k07. -/
namespace LK
open PySem PySem.Spec PyProof.Rows L2 DS MA
theorem sortL_ok {l : List Str} {μ : Mu} {Q : SD → Mu → Prop} (q : Q (.lst (sts (srt l))) μ) : drSorted [.lst (sts l)] μ Q := by
  unfold drSorted
  refine ⟨rfl, ?_⟩
  simp only [seqD, sts, txtsD_map]
  exact q
theorem tupleP_ok {xs : List SD} {μ : Mu} {Q : SD → Mu → Prop} (q : Q (.ptp xs) μ) : drTupleP [.lst xs] μ Q := ⟨rfl, q⟩
theorem tupL_ok {xs : List SD} {μ : Mu} {Q : SD → Mu → Prop} (q : Q (.tup xs) μ) : drTuple [.lst xs] μ Q := q
theorem cut_end1 {α : Type} {xs : List α} (h : 1 ≤ xs.length) : cutL xs (some (-1)) none = xs.drop (xs.length - 1) := by
  unfold cutL
  have e : HT.sIx xs.length 0 (some (-1)) = xs.length - 1 := by
    show (if (-1 : Int) < 0 then ((-1 : Int) + (xs.length : Int)).toNat else min (-1 : Int).toNat xs.length) = _
    rw [if_pos (by decide)]; omega
  rw [e, HT.sIx_none, List.take_of_length_le (by rw [List.length_drop]; omega)]
theorem keyB_low {k : Str} (h : LowK k) : keyB (.str k) = true := by
  obtain ⟨h1, h2, h3⟩ := h
  rw [keyB_eq, decide_eq_true (show 1 ≤ k.length from h1), decide_eq_true (show k.length ≤ 8 from h2), Bool.true_and, Bool.true_and]
  refine List.all_eq_true.mpr fun c hc => decide_eq_true ?_
  obtain ⟨a, b⟩ := h3 c hc
  rw [show abcS.cps.toList = (List.range 26).map (97 + ·) from abc]
  exact List.mem_map.mpr ⟨c - 97, List.mem_range.mpr (by omega), by omega⟩
theorem srt_id {l : List Str} : srt (srt l) = srt l := pw_uniq (srt_perm _) (srt_pw _) (srt_pw _)
/-! the table of costs as a value -/
def TblOk (L : List (Str × Int)) : Prop := ∀ p ∈ L, KeyOk p.1 ∧ LowK p.1 ∧ 1 ≤ p.2 ∧ p.2 ≤ 1000
theorem si_val {p : Str × Int} (k : KeyOk p.1) (h : LowK p.1) (h1 : 1 ≤ p.2) (h2 : p.2 ≤ 1000) : Val 0 1 10 (siD p) := by
  have a : Val 0 0 8 (.str p.1) := (Val.str k.1).mono (Nat.le_refl _) (Nat.le_refl _) h.2.1
  have b : Val 0 0 0 (.int p.2) := Val.int (m := 0) (by omega)
  exact (Val.tup (ValL.cons a (ValL.one b))).mono (Nat.le_refl _) (Nat.le_refl _) (by omega)
theorem tbl_val {L : List (Str × Int)} (ok : TblOk L) : ValL 0 1 (L.length * 11) (L.map siD) := ValL.of (fun d hd => by
  obtain ⟨p, hp, rfl⟩ := List.mem_map.mp hd
  obtain ⟨a, b, c, e⟩ := ok p hp
  exact si_val a b c e) (by simp)
theorem tbl_nm {L : List (Str × Int)} : (L.map siD).map nmD = L.map (·.1) := by rw [List.map_map]; rfl
theorem tbl_cost {L : List (Str × Int)} (ok : TblOk L) : (L.map siD).all costB = true := List.all_eq_true.mpr fun d hd => by
  obtain ⟨p, hp, rfl⟩ := List.mem_map.mp hd
  obtain ⟨_, b, c, e⟩ := ok p hp
  show (keyB (.str p.1) && (decide (1 ≤ p.2) && decide (p.2 ≤ 1000))) = true
  rw [keyB_low b, decide_eq_true c, decide_eq_true e]; rfl
theorem tbl_costs {L : List (Str × Int)} (ok : TblOk L) : costsB (.tup (L.map siD)) = ascB (L.map (·.1)) := by
  show ((L.map siD).all costB && ascB ((L.map siD).map nmD)) = _
  rw [tbl_cost ok, Bool.true_and, tbl_nm]
/-! three hundred -/
def numT (S : List Str) : List (Str × Int) := S.mapIdx fun i k => (k, 1 + (i : Int))
theorem numT_names (S : List Str) : (numT S).map (·.1) = S := by
  apply List.ext_getElem?
  intro i
  rw [List.getElem?_map, numT, List.getElem?_mapIdx]
  cases S[i]? <;> rfl
theorem numT_pr {S : List Str} (nd : S.Nodup) : S.map (pr (numT S)) = (List.range S.length).map fun i : Nat => 1 + (i : Int) := by
  apply List.ext_getElem?
  intro i
  rw [List.getElem?_map, List.getElem?_map]
  cases e : S[i]? with
  | none =>
    rw [List.getElem?_eq_none_iff] at e
    rw [List.getElem?_eq_none (by simpa using e)]; rfl
  | some k =>
    have hi := (List.getElem?_eq_some_iff.mp e).1
    rw [List.getElem?_range hi]
    have hm : (k, 1 + (i : Int)) ∈ numT S := List.mem_of_getElem? (i := i) (by rw [numT, List.getElem?_mapIdx, e]; rfl)
    have := pr_at (l := numT S) (by rw [numT_names]; exact nd) hm
    exact congrArg some this
def mvD (k : Str) : SD := .tup [.str "move", .str k, .str "a", .non]
theorem mvD_sel : ∀ l : List Str, (l.map mvD).filterMap mvN = l
  | [] => rfl
  | k :: l => by rw [List.map_cons, List.filterMap_cons, show mvN (mvD k) = some k from rfl]; simp only [mvD_sel l]
theorem asc_not {l : List Str} (h : ¬ l.Nodup) : ascB l = false := by
  rw [asc_srtU]
  exact decide_eq_false fun z => h (z ▸ srtU_nd l)
theorem asc_srt {l : List Str} (nd : l.Nodup) : ascB (srt l) = true := ascB_of (srt_pw l) ((srt_perm l).nodup_iff.mpr nd)
theorem srtU_dup {S M : List Str} (nd : S.Nodup) (so : S.Pairwise fun a b => leS a b = true) (sub : ∀ k ∈ M, k ∈ S) : srtU (S ++ M) = S := by
  refine pw_uniq ((srt_perm _).trans (perm_same (ddp_nd _) nd fun k => ?_)) (srt_pw _) so
  rw [ddp_mem, List.mem_append]
  exact ⟨fun h => h.elim id (sub k), .inl⟩
def sp__law_great_right : DSp := fun ds μ Q _ => ∃ (h : Addr) (T : Nat), ds = [.ref h] ∧ T ≤ 900000000 ∧ HandAt μ h T ∧ ∀ μ', Q (.bl true) μ'
theorem len__law_great_right : ∀ ds μ Q E, sp__law_great_right ds μ Q E → ds.length = 1 := by rintro ds μ Q E ⟨h, T, rfl, _⟩; rfl
def t__law_great_right : DTS := (dSeq (dSet (dCB drSorted (dCons (dCall sp__law_keys [] (dCons (dVar 0) (dCons (dC (.int 300)) dNil))) dNil)) 1)
    (dSeq (dSet (dCB drTupleP (dCons (dLcS (jEnum (dCons (dVar 1) dNil)) (hTup 2 (hNames [4, 5])) dYes (dTup (dCons (dVar 5) (dCons (dOp dAdd (dC (.int 1)) (dVar 4)) dNil))) [4, 5]) dNil)) 2)
    (dSeq (dSet (dCB drTuple (dCons (dLcS (jSeq (dOp dAdd (dVar 1) (dSl (dVar 1) dNoPart (dPart (dC (.int 100)))))) (hName 5) dYes (dTup (dCons (dC (.str "move")) (dCons (dVar 5) (dCons (dC (.str "a")) (dCons (dC .non) dNil))))) [5]) dNil)) 3)
    (dSeq (dIfS (dOr (dNot (dTest (dCall sp_are_costs [] (dCons (dFg (dVar 2)) dNil)))) (dOr (dTest (dCall sp_are_costs [] (dCons (dOp dAdd (dFg (dVar 2)) (dSl (dFg (dVar 2)) (dPart (dUnI (fun i => -i) (dC (.int 1)))) dNoPart)) dNil))) (dTest (dCall sp_are_costs [] (dCons (dOp dAdd (dSl (dFg (dVar 2)) (dPart (dC (.int 1))) dNoPart) (dSl (dFg (dVar 2)) dNoPart (dPart (dC (.int 1))))) dNil))))) (dRet (dC (.bl false))) dNext)
    (dRet (dAndV (dOp (dEq false) (dCall sp_cost_of [] (dCons (dVar 3) (dCons (dVar 2) dNil))) (dOp dAdd (dOp dMul (dC (.int 150)) (dC (.int 301))) (dOp dMul (dC (.int 50)) (dC (.int 101))))) (dOp (dEq false) (dCall sp_moved [] (dCons (dVar 3) dNil)) (dCB drTuple (dCons (dVar 1) dNil)))))))))
theorem read__law_great_right : ∀ ds μ Q E, sp__law_great_right ds μ Q E → t__law_great_right { nx := fun _ μ' => Q .non μ', rt := Q } (begin_ ["_law_hand_here", "_law_names", "_law_told", "_law_deeds", "_law_nth", "_law_name"] ds) μ := by
  rintro ds μ Q E ⟨h, T, rfl, hT, H, q⟩
  unfold t__law_great_right
  refine r_var rfl ?_
  refine ⟨h, 300, T, rfl, by decide, hT, H, fun N μ1 nd0 nl ok H1 l1 => ?_⟩
  refine sortL_ok ?_
  have nd : (srt N).Nodup := (srt_perm N).nodup_iff.mpr nd0
  have sl : (srt N).length = 300 := (srt_perm N).length_eq.trans nl
  have so := srt_pw N
  have sk : ∀ k ∈ srt N, KeyOk k ∧ LowK k := fun k hk => ok k ((srt_perm N).mem_iff.mp hk)
  generalize srt N = S at nd sl so sk
  clear nd0 nl ok
  dsimp only
  -- the table
  have tl : (numT S).length = 300 := by unfold numT; rw [List.length_mapIdx, sl]
  have tok : TblOk (numT S) := fun p hp => by
    obtain ⟨i, hi⟩ := List.getElem?_of_mem hp
    rw [numT, List.getElem?_mapIdx] at hi
    cases e : S[i]? with
    | none => rw [e] at hi; cases hi
    | some k =>
      rw [e] at hi; cases hi
      have hm := sk k (List.mem_of_getElem? e)
      have hb := (List.getElem?_eq_some_iff.mp e).1
      exact ⟨hm.1, hm.2, by show (1 : Int) ≤ 1 + (i : Int); omega, by show 1 + (i : Int) ≤ 1000; omega⟩
  unfold dLcS dLc jEnum
  refine r_var rfl ?_
  refine ⟨rfl, ?_⟩
  simp only [seqD]
  have el : (enums (sts S)).length = 300 := by unfold enums; simp [sts, sl]
  refine lc_g (ok := fun μ' => True) (zs := (numT S).map siD) trivial (by omega) (by rw [List.length_map, tl, el]) (fun i d y hd hy R rr => ?_) ?_
  · obtain ⟨y2, h2, rfl⟩ := enums_at hd
    rw [sts, List.getElem?_map] at h2
    cases e : S[i]? with
    | none => rw [e] at h2; cases h2
    | some k =>
      rw [e] at h2; cases h2
      rw [List.getElem?_map, numT, List.getElem?_mapIdx, e] at hy
      cases hy
      refine ⟨rfl, rfl, ?_⟩
      refine r_var rfl ?_
      refine r_var rfl ?_
      refine i_add ?_
      exact ⟨(by show 2 ≤ sizeLine; decide), rr⟩
  refine tupleP_ok ?_
  -- the operations
  refine r_var rfl ?_
  refine r_var rfl ?_
  refine sl_L ?_
  rw [show cutL (sts S) none (some 100) = sts (S.take 100) by
    have := cutL_to (sts S) 100
    rw [show ((100 : Nat) : Int) = 100 from rfl] at this
    rw [this, sts, sts, List.map_take]]
  refine l_add (le_line (m := 600) (by simp [sts]; omega) (by omega)) ?_
  rw [show sts S ++ sts (S.take 100) = sts (S ++ S.take 100) by simp [sts]]
  have dl : (S ++ S.take 100).length = 400 := by rw [List.length_append, List.length_take, sl]; omega
  refine lc_g (zs := (S ++ S.take 100).map mvD) rfl (by simp only [sts, List.length_map]; omega) (by simp [sts]) (fun i d y hd hy R rr => ?_) ?_
  · rw [sts, List.getElem?_map] at hd
    rw [List.getElem?_map] at hy
    cases e : (S ++ S.take 100)[i]? with
    | none => rw [e] at hd; cases hd
    | some k =>
      rw [e] at hd hy
      cases hd; cases hy
      refine r_var rfl ?_
      exact ⟨(by show 4 ≤ sizeLine; decide), rr⟩
  refine tupL_ok ?_
  have deeds : ∀ d ∈ (S ++ S.take 100).map mvD, Deed d := fun d hd => by
    obtain ⟨k, _, rfl⟩ := List.mem_map.mp hd
    exact ⟨_, _, _, rfl⟩
  have sel := mvD_sel (S ++ S.take 100)
  have ol : ((S ++ S.take 100).map mvD).length ≤ 4000 := by rw [List.length_map]; omega
  generalize (S ++ S.take 100).map mvD = ops at deeds sel ol
  have nt : ((numT S).map (·.1)).Nodup := by rw [numT_names]; exact nd
  have tv := tbl_val tok
  rw [tl] at tv
  have okt : ∀ xs : List SD, (∀ d ∈ xs, d ∈ (numT S).map siD) → okV 0 (.tup xs) := fun xs hx => by
    rw [okV]
    exact okVL_mem.mpr fun d hd => okVL_mem.mp tv.ok d (hx d hd)
  have wtt : ∀ xs : List SD, (∀ d ∈ xs, d ∈ (numT S).map siD) → xs.length ≤ 600 → wtV (.tup xs) ≤ 300000 := fun xs hx hl => by
    have := (ValL.of (m := 0) (D := 1) (B := 10) (a := xs) (n := 600) (fun d hd => by
      obtain ⟨p, hp, rfl⟩ := List.mem_map.mp (hx d hd)
      obtain ⟨a, b, c, e⟩ := tok p hp
      exact si_val a b c e) hl).wt
    rw [wtV]; omega
  -- the table is one
  dsimp only
  refine r_var rfl ?_
  have c1 : costsB (.tup ((numT S).map siD)) = true := by
    rw [tbl_costs tok, numT_names]
    exact ascB_of so nd
  refine ⟨.tup ((numT S).map siD), 0, rfl, okt _ fun _ h => h, wtt _ (fun _ h => h) (by rw [List.length_map, tl]; decide), ?_⟩
  rw [c1]
  refine ifF rfl ?_
  have sub2 : ∀ {A B : List (Str × Int)}, (∀ p ∈ A, p ∈ numT S) → (∀ p ∈ B, p ∈ numT S) → TblOk (A ++ B) ∧ ∀ d ∈ (A ++ B).map siD, d ∈ (numT S).map siD := fun {A B} ha hb => by
    have ab : ∀ p ∈ A ++ B, p ∈ numT S := fun p hp => (List.mem_append.mp hp).elim (ha p) (hb p)
    refine ⟨fun p hp => tok p (ab p hp), fun d hd => ?_⟩
    obtain ⟨p, hp, rfl⟩ := List.mem_map.mp hd
    exact List.mem_map_of_mem (ab p hp)
  -- with the last one twice
  refine r_var rfl ?_
  refine r_var rfl ?_
  refine sl_T ?_
  rw [show cutL ((numT S).map siD) (some (-1)) none = ((numT S).drop 299).map siD by
    rw [cut_end1 (by rw [List.length_map, tl]; decide), List.length_map, tl, List.map_drop]]
  refine t_add (le_line (m := 1000) (by simp only [List.length_map, List.length_drop, tl]; omega) (by omega)) ?_
  rw [← List.map_append]
  obtain ⟨to2, su2⟩ := sub2 (A := numT S) (B := (numT S).drop 299) (fun _ h => h) fun _ h => List.mem_of_mem_drop h
  have c2 : costsB (.tup ((numT S ++ (numT S).drop 299).map siD)) = false := by
    rw [tbl_costs to2]
    refine asc_not fun z => ?_
    rw [List.map_append, List.nodup_append] at z
    have hx : (numT S)[299]? = some ((numT S)[299]'(by omega)) := List.getElem?_eq_getElem _
    have h1 : (numT S)[299]'(by omega) ∈ numT S := List.getElem_mem _
    have h2 : (numT S)[299]'(by omega) ∈ (numT S).drop 299 := List.mem_of_getElem? (i := 0) (by rw [List.getElem?_drop]; exact hx)
    exact z.2.2 _ (List.mem_map_of_mem h1) _ (List.mem_map_of_mem h2) rfl
  refine ⟨.tup ((numT S ++ (numT S).drop 299).map siD), 0, rfl, okt _ su2, wtt _ su2 (by rw [List.length_map, List.length_append, List.length_drop, tl]; decide), ?_⟩
  rw [c2]
  refine ifF rfl ?_
  -- turned round
  refine r_var rfl ?_
  refine sl_T ?_
  rw [show cutL ((numT S).map siD) (some 1) none = ((numT S).drop 1).map siD by rw [List.map_drop]; exact cutL_from _ 1]
  refine r_var rfl ?_
  refine sl_T ?_
  rw [show cutL ((numT S).map siD) none (some 1) = ((numT S).take 1).map siD by rw [List.map_take]; exact cutL_to _ 1]
  refine t_add (le_line (m := 1000) (by simp only [List.length_map, List.length_drop, List.length_take, tl]; omega) (by omega)) ?_
  rw [← List.map_append]
  obtain ⟨to3, su3⟩ := sub2 (A := (numT S).drop 1) (B := (numT S).take 1) (fun _ h => List.mem_of_mem_drop h) fun _ h => List.mem_of_mem_take h
  have c3 : costsB (.tup (((numT S).drop 1 ++ (numT S).take 1).map siD)) = false := by
    rw [tbl_costs to3, List.map_append, List.map_drop, List.map_take, numT_names]
    cases e : ascB (S.drop 1 ++ S.take 1) with
    | false => rfl
    | true =>
      rw [asc_srtU] at e
      have e2 : S.drop 1 ++ S.take 1 = srtU (S.drop 1 ++ S.take 1) := of_decide_eq_true e
      have p : (S.drop 1 ++ S.take 1).Perm S := List.perm_append_comm.trans (by rw [List.take_append_drop])
      have so3 : (S.drop 1 ++ S.take 1).Pairwise fun a b => leS a b = true := by rw [e2]; exact srt_pw _
      have e3 := pw_uniq p so3 so
      match S, sl, nd, e3 with
      | a :: b :: r, _, nd, e3 =>
        rw [List.drop_succ_cons, List.drop_zero, List.take_succ_cons, List.take_zero, List.cons_append] at e3
        injection e3 with e4 _
        exact ((List.nodup_cons.mp nd).1 (by rw [e4]; exact List.mem_cons_self ..)).elim
      | [a], sl, _, _ => cases sl
      | [], sl, _, _ => cases sl
  refine ⟨.tup (((numT S).drop 1 ++ (numT S).take 1).map siD), 0, rfl, okt _ su3, wtt _ su3 (by rw [List.length_map, List.length_append, List.length_drop, List.length_take, tl]; decide), ?_⟩
  rw [c3]
  refine ifF rfl ?_
  simp only [dNext]
  -- the sum
  refine r_var rfl ?_
  refine r_var rfl ?_
  refine ⟨ops, numT S, rfl, deeds, ol, nt, fun μ2 l2 => ?_⟩
  refine i_mul (mul_okS (by omega) (by omega)) ?_
  refine i_mul (mul_okS (by omega) (by omega)) ?_
  refine i_add ?_
  refine i_eq ?_
  have sum : ((ops.filterMap mvN).map (pr (numT S))).sum = 150 * 301 + 50 * 101 := by
    rw [sel, List.map_append, List.map_take, numT_pr nd, sl]
    decide +kernel
  rw [decide_eq_true sum]
  refine r_var rfl ?_
  refine ⟨ops, rfl, deeds, ol, fun μ3 l3 => ?_⟩
  refine r_var rfl ?_
  refine eqT_ok (fun k hk => ?_) (fun k hk => (sk k hk).1) ?_
  · rw [srtU_mem, sel] at hk
    exact (sk k ((List.mem_append.mp hk).elim id List.mem_of_mem_take)).1
  · rw [sel, srtU_dup nd so (fun k hk => List.mem_of_mem_take hk), decide_eq_true rfl]
    exact q μ3
end LK
/-! KC5: _law_right of k07, the values that are judged. -/
namespace LK
open PySem PySem.Spec PyProof.Rows L2 DS MA
def ThK (d : SD) : Prop := Val 10 50 4000 d
theorem tupR_ok {a : Addr} {xs : List SD} {μ : Mu} {Q : SD → Mu → Prop} (m : μ a = some (.lst xs)) (q : Q (.tup xs) μ) : drTuple [.ref a] μ Q := by
  unfold drTuple
  simp only [seqD, m]
  exact q
theorem listT_ok {xs : List SD} {μ : Mu} {Q : SD → Mu → Prop} (q : Q (.lst xs) μ) : drList [.tup xs] μ Q := q
theorem addM_ok {a : Addr} {xs ys : List SD} {μ : Mu} {Q : SD → Mu → Prop} (m : μ a = some (.lst xs)) (l : xs.length + ys.length ≤ sizeLine) (q : ∀ p, μ p = none → Q (.ref p) (up μ p (.lst (xs ++ ys)))) : dAddM (.ref a) (.lst ys) μ Q := by
  unfold dAddM
  simp only [lstD, m]
  exact ⟨l, q⟩
theorem tbl_th {L : List (Str × Int)} (ok : TblOk L) {xs : List SD} (h : ∀ d ∈ xs, d ∈ L.map siD) (hl : xs.length ≤ 12) : ValL 0 1 132 xs :=
  (ValL.of (n := 12) (fun d hd => by
    obtain ⟨p, hp, rfl⟩ := List.mem_map.mp (h d hd)
    obtain ⟨a, b, c, e⟩ := ok p hp
    exact si_val a b c e) hl).mono (Nat.le_refl _) (Nat.le_refl _) (by decide)
theorem one_th {k : Str} (h : KeyOk k) {s : SD} (v : Val 0 0 10 s) : ThK (.tup [.tup [.str k, s]]) :=
  (Val.tup (ValL.one (Val.tup (ValL.cons (key_val h) (ValL.one (v.mono (Nat.le_refl _) (Nat.le_refl _) (by decide : 10 ≤ 61))))))).mono (by decide) (by decide) (by decide)
def tRest : DTS := (dSeq (dSet (dLstM (dCons (dFg (dVar 6)) (dCons (dTup dNil) (dCons (dCB drList (dCons (dFg (dVar 6)) dNil)) (dCons (dRev (dFg (dVar 6))) (dCons (dOp dMulTA (dSl (dFg (dVar 6)) dNoPart (dPart (dC (.int 1)))) (dC (.int 2))) (dCons (dCB drTuple (dCons (dCall sp__law_mixed [] (dCons (dVar 0) (dCons (dFg (dVar 6)) dNil))) dNil)) dNil))))))) 9)
    (dSeq (dDrop (dLM dmAppend (dVar 9) (dCons (dTup (dCons (dTup (dCons (dOp dIx (dVar 1) (dC (.int 0))) (dCons (dC (.int 1000)) dNil))) (dCons (dTup (dCons (dOp dIx (dVar 1) (dC (.int 0))) (dCons (dC (.int 1)) dNil))) dNil))) dNil)))
    (dSeq (dSet (dOp dAddM (dVar 9) (dLcS (jSeq (dTup (dCons (dC (.int 0)) (dCons (dC (.int 1)) (dCons (dC (.int 1000)) (dCons (dC (.int 1001)) (dCons (dC (.bl true)) (dCons (dC (.str "1")) (dCons (dC .non) dNil))))))))) (hName 14) dYes (dTup (dCons (dTup (dCons (dOp dIx (dVar 1) (dC (.int 0))) (dCons (dVar 14) dNil))) dNil)) [14])) 9)
    (dSeq (dFor (jRng1 (dCons (dC (.int 16)) dNil)) (hName 7) (dSeq (dSet (dCall (sp__law_bent 64) [] (dCons (dVar 0) (dCons (dFg (dVar 6)) dNil))) 12)
    (dDrop (dLM dmAppend (dVar 9) (dCons (dIf (dTest (dOp (dEq false) (dCall sp__law_take [] (dCons (dVar 0) (dCons (dC (.int 2)) dNil))) (dC (.int 0)))) (dVar 12) (dCall (sp__law_bent 64) [] (dCons (dVar 0) (dCons (dVar 12) dNil)))) dNil)))))
    (dSeq (dFor (jSeq (dOp dAdd (dVar 9) (dLcS (jRng1 (dCons (dC (.int 6)) dNil)) (hName 7) dYes (dCall sp__law_odd [] (dCons (dVar 0) dNil)) [7]))) (hName 10) (dSeq (dSet (dCB drReprQ (dCons (dVar 10) dNil)) 13)
    (dSeq (dSet (dCall sp__law_are_prices [] (dCons (dVar 10) dNil)) 8)
    (dIfS (dOr (dTest (dOp (dEq true) (dCB drReprQ (dCons (dLst (dCons (dCall sp_are_costs [] (dCons (dVar 10) dNil)) (dCons (dCallK sp_are_costs [.inr 0] 0 1 dNil (dCons (dVar 10) dNil)) dNil))) dNil)) (dCB drReprQ (dCons (dLst (dCons (dVar 8) (dCons (dVar 8) dNil))) dNil)))) (dTest (dOp (dEq true) (dCB drReprQ (dCons (dVar 10) dNil)) (dVar 13)))) (dRet (dC (.bl false))) dNext))))
    (dRet (dC (.bl true))))))))
theorem rest_ok {μ : Mu} {Q : SD → Mu → Prop} {h : Addr} {T : Nat} {names : List Str} {n0 : Str} {L : List (Str × Int)} {a2 a3 a4 a5 a7 a8 a11 a15 : Option SD} (hat : atI (sts names) 0 = some (.str n0)) (k0 : KeyOk n0) (ok : TblOk L) (hl : L.length ≤ 12) (H : HandAt μ h T) (hT : T ≤ 100000) (q : ∀ μ', Q (.bl true) μ') :
    tRest { nx := fun _ μ' => Q .non μ', rt := Q } [some (.ref h), some (.lst (sts names)), a2, a3, a4, a5, some (.ptp (L.map siD)), a7, a8, none, none, a11, none, none, none, a15] μ := by
  unfold tRest dFor
  have ml : (L.map siD).length ≤ 12 := by rw [List.length_map]; exact hl
  refine r_var rfl ?_
  refine ⟨Nat.zero_le _, ?_⟩
  refine r_var rfl ?_
  refine listT_ok ?_
  refine r_var rfl ?_
  refine rev_T ?_
  refine r_var rfl ?_
  refine sl_T ?_
  rw [show cutL (L.map siD) none (some 1) = (L.map siD).take 1 from cutL_to _ 1]
  refine ⟨by omega, by omega, by rw [List.length_take]; omega, ?_⟩
  refine r_var rfl ?_
  refine r_var rfl ?_
  refine ⟨h, T, L.map siD, rfl, H, by omega, by omega, fun ys μ1 T1 pm H1 hT1 l1 => ?_⟩
  refine tupL_ok ?_
  refine ⟨(by show 6 ≤ sizeLine; decide), fun p hp => ?_⟩
  have hph := H1.ne hp
  rw [show fgT (.ptp (L.map siD)) = .tup (L.map siD) from rfl]
  generalize hx0 : [SD.tup (L.map siD), .tup [], .lst (L.map siD), .tup (L.map siD).reverse, .tup (List.replicate (Int.toNat 2) ((L.map siD).take 1)).flatten, .tup ys] = xs0
  have all0 : ∀ d ∈ xs0, ThK d := fun d hd => by
    rw [← hx0] at hd
    have tt : ∀ {xs : List SD}, (∀ d ∈ xs, d ∈ L.map siD) → xs.length ≤ 12 → ThK (.tup xs) ∧ ThK (.lst xs) := fun {xs} a b => ⟨(Val.tup (tbl_th ok a b)).mono (by decide) (by decide) (by decide), (Val.lst (tbl_th ok a b)).mono (by decide) (by decide) (by decide)⟩
    simp only [List.mem_cons, List.not_mem_nil, or_false] at hd
    rcases hd with rfl | rfl | rfl | rfl | rfl | rfl
    · exact (tt (fun _ h => h) ml).1
    · exact (tt (xs := []) (fun _ h => by cases h) (Nat.zero_le _)).1
    · exact (tt (fun _ h => h) ml).2
    · exact (tt (fun _ h => List.mem_reverse.mp h) (by rw [List.length_reverse]; exact ml)).1
    · refine (tt (fun d hd => ?_) ?_).1
      · obtain ⟨l, h1, h2⟩ := List.mem_flatten.mp hd
        rw [List.eq_of_mem_replicate h1] at h2
        exact List.mem_of_mem_take h2
      · show ((List.replicate 2 ((L.map siD).take 1)).flatten).length ≤ 12
        simp only [List.replicate_succ, List.replicate_zero, List.flatten_cons, List.flatten_nil, List.length_append, List.length_take, List.length_nil]
        omega
    · exact (tt (fun d hd => pm.mem_iff.mp hd) (by rw [pm.length_eq]; exact ml)).1
  have len0 : xs0.length = 6 := by rw [← hx0]; rfl
  clear hx0
  have kv := key_val k0
  dsimp only
  -- one more
  refine r_var rfl ⟨isSome_ref up_same, ?_⟩
  refine r_var rfl ?_
  refine ix_lst hat ?_
  refine ⟨(by show 2 ≤ sizeLine; decide), ?_⟩
  refine r_var rfl ?_
  refine ix_lst hat ?_
  refine ⟨(by show 2 ≤ sizeLine; decide), (by show 2 ≤ sizeLine; decide), ?_⟩
  refine dm_append up_same (lt_line (m := 100) (by omega) (by omega)) ?_
  dsimp only
  -- seven more
  unfold dLcS dLc
  refine r_var rfl ?_
  refine ⟨(by show 7 ≤ sizeLine; decide), ?_⟩
  generalize hmu : up (up μ1 p (.lst xs0)) p (.lst (xs0 ++ [.tup [.tup [.str n0, .int 1000], .tup [.str n0, .int 1]]])) = μ2
  have m2 : μ2 p = some (.lst (xs0 ++ [.tup [.tup [.str n0, .int 1000], .tup [.str n0, .int 1]]])) := by rw [← hmu, up_same]
  have H2 : HandAt μ2 h T1 := by rw [← hmu]; exact (H1.up hph).up hph
  have gl : ∀ d ∈ [SD.int 0, .int 1, .int 1000, .int 1001, .bl true, .str "1", .non], Val 0 0 10 d := fun d hd => by
    simp only [List.mem_cons, List.not_mem_nil, or_false] at hd
    rcases hd with rfl | rfl | rfl | rfl | rfl | rfl | rfl
    · exact (Val.int (by decide)).mono (Nat.le_refl _) (Nat.le_refl _) (by decide)
    · exact (Val.int (by decide)).mono (Nat.le_refl _) (Nat.le_refl _) (by decide)
    · exact (Val.int (by decide)).mono (Nat.le_refl _) (Nat.le_refl _) (by decide)
    · exact (Val.int (by decide)).mono (Nat.le_refl _) (Nat.le_refl _) (by decide)
    · exact (Val.bl true).mono (Nat.le_refl _) (Nat.le_refl _) (by decide)
    · exact (Val.str (by decide +kernel)).mono (Nat.le_refl _) (Nat.le_refl _) (by decide +kernel)
    · exact Val.non.mono (Nat.le_refl _) (Nat.le_refl _) (by decide)
  refine lc_g (zs := [SD.int 0, .int 1, .int 1000, .int 1001, .bl true, .str "1", .non].map fun s => .tup [.tup [.str n0, s]]) rfl (by decide) rfl (fun i d y hd hy R rr => ?_) ?_
  · rw [List.getElem?_map, hd] at hy
    cases hy
    refine r_var rfl ?_
    refine ix_lst hat ?_
    refine r_var rfl ?_
    exact ⟨(by show 2 ≤ sizeLine; decide), (by show 1 ≤ sizeLine; decide), rr⟩
  refine addM_ok m2 (le_line (m := 100) (by rw [List.length_append]; simp [len0]) (by omega)) fun p2 hp2 => ?_
  have hph2 := H2.ne hp2
  generalize hx1 : (xs0 ++ [.tup [.tup [.str n0, .int 1000], .tup [.str n0, .int 1]]]) ++ [SD.int 0, .int 1, .int 1000, .int 1001, .bl true, .str "1", .non].map (fun s => SD.tup [.tup [.str n0, s]]) = xs1
  have len1 : xs1.length = 14 := by rw [← hx1]; simp [len0]
  have all1 : ∀ d ∈ xs1, ThK d := fun d hd => by
    rw [← hx1] at hd
    rcases List.mem_append.mp hd with hd | hd
    · rcases List.mem_append.mp hd with hd | hd
      · exact all0 d hd
      · rw [List.mem_singleton.mp hd]
        have a : ∀ i : Int, i.natAbs ≤ 1000 → Val 0 1 65 (.tup [.str n0, .int i]) := fun i hi => (Val.tup (ValL.cons kv (ValL.one (Val.int (m := 0) (by omega))))).mono (Nat.le_refl _) (Nat.le_refl _) (by decide)
        exact (Val.tup (ValL.cons (a 1000 (by decide)) (ValL.one (a 1 (by decide))))).mono (by decide) (by decide) (by decide)
    · obtain ⟨s, hs, rfl⟩ := List.mem_map.mp hd
      exact one_th k0 (gl s hs)
  clear hx1 hmu
  dsimp only
  -- sixteen bent ones
  have vt0 : Val 0 2 132 (.tup (L.map siD)) := Val.tup (tbl_th ok (fun _ h => h) ml)
  have dp0 := vt0.dp
  refine ⟨⟨by omega, by omega⟩, ?_⟩
  refine ⟨fun i ρ μ' => ∃ (xs : List SD) (T' : Nat) (a7 a12 : Option SD), ρ = [some (.ref h), some (.lst (sts names)), a2, a3, a4, a5, some (.ptp (L.map siD)), a7, a8, some (.ref p2), none, a11, a12, none, none, a15] ∧ μ' p2 = some (.lst xs) ∧ xs.length = 14 + i ∧ (∀ d ∈ xs, ThK d) ∧ HandAt μ' h T' ∧ T' ≤ 200000 + 5000 * i, ⟨xs1, T1, _, none, rfl, up_same, len1, all1, H2.up hph2, by omega⟩, fun _ _ _ _ _ => trivial, ?_, ?_⟩
  · rintro i d ρ μ3 hd ⟨xs, T', a7, a12, rfl, m3, xl, xa, H3, hT3⟩
    have i16 : i < 16 := by
      have := (List.getElem?_eq_some_iff.mp hd).1
      simp at this; omega
    dsimp only
    refine r_var rfl ?_
    refine r_var rfl ?_
    refine ⟨h, .tup (L.map siD), 0, 2, 132, T', rfl, by omega, vt0, by omega, by omega, by omega, H3, fun d1 μ4 v1 H4 l4 => ?_⟩
    have m4 := l4 p2 _ (Ne.symm hph2) m3
    dsimp only
    refine r_var rfl ⟨isSome_ref m4, ?_⟩
    refine r_var rfl ?_
    refine ⟨h, 2, _, rfl, by decide, by decide, by omega, H4, fun dw μ5 w0 w1 H5 l5 => ?_⟩
    have m5 := l5 p2 _ (Ne.symm hph2) m4
    refine i_eq ?_
    have done : ∀ (d2 : SD) (μ6 : Mu) (T6 : Nat), ThK d2 → μ6 p2 = some (.lst xs) → HandAt μ6 h T6 → T6 ≤ 200000 + 5000 * (i + 1) → dmAppend (.ref p2) [d2] μ6 (fun _ μ7 => ∃ (xs' : List SD) (T' : Nat) (a7 a12 : Option SD), [some (.ref h), some (.lst (sts names)), a2, a3, a4, a5, some (.ptp (L.map siD)), some d, a8, some (.ref p2), none, a11, some d1, none, none, a15] = [some (.ref h), some (.lst (sts names)), a2, a3, a4, a5, some (.ptp (L.map siD)), a7, a8, some (.ref p2), none, a11, a12, none, none, a15] ∧ μ7 p2 = some (.lst xs') ∧ xs'.length = 14 + (i + 1) ∧ (∀ d ∈ xs', ThK d) ∧ HandAt μ7 h T' ∧ T' ≤ 200000 + 5000 * (i + 1)) := fun d2 μ6 T6 v2 m6 H6 hT6 => by
      refine dm_append m6 (lt_line (m := 1000) (by omega) (by omega)) ?_
      exact ⟨xs ++ [d2], T6, _, _, rfl, up_same, by simp; omega, fun d hd => (List.mem_append.mp hd).elim (xa d) (fun z => by rw [List.mem_singleton.mp z]; exact v2), H6.up hph2, hT6⟩
    by_cases hw : dw = 0
    · rw [decide_eq_true hw]
      refine ifT rfl ?_
      refine r_var rfl ?_
      exact done d1 μ5 _ (v1.mono (by decide) (by decide) (by decide)) m5 H5 (by omega)
    · rw [decide_eq_false hw]
      refine ifF rfl ?_
      refine r_var rfl ?_
      refine r_var rfl ?_
      have dp1 := v1.dp
      refine ⟨h, d1, _, _, _, _, rfl, by omega, v1, by omega, by omega, by omega, H5, fun d2 μ6 v2 H6 l6 => ?_⟩
      exact done d2 μ6 _ (v2.mono (by decide) (by decide) (by decide)) (l6 p2 _ (Ne.symm hph2) m5) H6 (by omega)
  · rintro ρ μ3 ⟨xs, T', a7, a12, rfl, m3, xl, xa, H3, hT3⟩
    have xl : xs.length = 30 := by rw [xl]; simp
    have hT3 : T' ≤ 400000 := by
      refine Nat.le_trans hT3 ?_
      simp
    dsimp only
    refine r_var rfl ?_
    refine ⟨⟨by omega, by omega⟩, le_line (m := 6) (by simp) (by omega), fun i acc μ' => acc.length = i ∧ (∀ d ∈ acc, ThK d) ∧ HandAt μ' h (T' + 14 * i) ∧ LeX h μ3 μ', ⟨rfl, by simp, H3, LeX.refl _ _⟩, fun _ _ _ _ _ => trivial, ?_, ?_⟩
    · rintro i d acc μ4 hd ⟨al, aa, H4, l4⟩
      have i6 : i < 6 := by
        have := (List.getElem?_eq_some_iff.mp hd).1
        simp at this; omega
      refine ifT rfl ?_
      refine r_var rfl ?_
      refine ⟨h, _, rfl, by omega, H4, fun d1 μ5 v1 H5 l5 => ?_⟩
      refine ⟨by simp [al], fun z hz => ?_, H5.mono (by omega), l4.trans l5⟩
      rcases List.mem_append.mp hz with hz | hz
      · exact aa z hz
      · rw [List.mem_singleton.mp hz]; exact v1.mono (by decide) (by decide) (by decide)
    · rintro acc μ4 ⟨al, aa, H4, l4⟩
      have al : acc.length = 6 := by rw [al]; simp
      have m4 := l4 p2 _ (Ne.symm hph2) m3
      refine rl_add m4 (le_line (m := 1000) (by omega) (by omega)) ?_
      have ya : ∀ d ∈ xs ++ acc, ThK d := fun d hd => (List.mem_append.mp hd).elim (xa d) (aa d)
      refine ⟨fun i ρ μ' => ∃ (a8 a10 a13 : Option SD), ρ = [some (.ref h), some (.lst (sts names)), a2, a3, a4, a5, some (.ptp (L.map siD)), a7, a8, some (.ref p2), a10, a11, a12, a13, none, a15], ⟨_, _, _, rfl⟩, fun _ _ _ _ _ => rfl, ?_, ?_⟩
      · rintro i d ρ μ5 hd ⟨a8, a10, a13, rfl⟩
        have v := ya d (List.mem_of_getElem? hd)
        have vb : Val 0 1 10 (.lst [.bl (costsB d), .bl (costsB d)]) := (Val.lst (ValL.cons (Val.bl _) (ValL.one (Val.bl _)))).mono (Nat.le_refl _) (Nat.le_refl _) (by omega)
        have wt : wtV d ≤ 300000 := Nat.le_trans v.wt (by decide)
        dsimp only
        refine r_var rfl ?_
        refine r_reprQ v (by decide) (by decide) (by decide) ?_
        dsimp only
        refine r_var rfl ?_
        refine ⟨d, 10, rfl, v.ok, v.wt, ?_⟩
        dsimp only
        refine r_var rfl ?_
        refine ⟨d, 10, rfl, v.ok, wt, ?_⟩
        refine r_var rfl ?_
        refine ⟨d, 10, rfl, v.ok, wt, ?_⟩
        refine ⟨(by show 2 ≤ sizeLine; decide), ?_⟩
        refine r_reprQ vb (by decide) (by decide) (by decide) ?_
        refine r_var rfl ?_
        refine r_var rfl ?_
        refine ⟨(by show 2 ≤ sizeLine; decide), ?_⟩
        refine r_reprQ vb (by decide) (by decide) (by decide) ?_
        refine ne_sameQ ?_
        refine ifF rfl ?_
        refine r_var rfl ?_
        refine r_reprQ v (by decide) (by decide) (by decide) ?_
        refine r_var rfl ?_
        refine ne_sameQ ?_
        refine ifF rfl ?_
        simp only [dNext]
        exact ⟨_, _, _, rfl⟩
      · rintro ρ μ5 ⟨a8, a10, a13, rfl⟩
        exact q μ5
end LK
/-! KC6: _law_right and law of k07. -/
namespace LK
open PySem PySem.Spec PyProof.Rows L2 DS MA
abbrev kvM (M : List (Str × Int)) : List (Key × SD) := M.map fun p => ((.inr p.1 : Key), SD.int p.2)
theorem putP {M : List (Str × Int)} {x : Str} {v : Int} (nd : (M.map (·.1)).Nodup) (h : x ∉ M.map (·.1)) : putD (kvM M) (.inr x) (.int v) = kvM (M ++ [(x, v)]) := by
  unfold kvM
  rw [kvs_pr nd, putD_mapk (g := fun k => SD.int (pr M k)) h, ← kvs_pr nd, List.map_append]; rfl
theorem sortedSI_ok {M : List (Str × Int)} {μ : Mu} {Q : SD → Mu → Prop} (q : Q (.lst ((srtP M).map siD)) μ) : drSortedSI [.lst (M.map siD)] μ Q := by
  unfold drSortedSI
  refine ⟨rfl, ?_⟩
  simp only [seqD, prsD_map]
  exact q
theorem items_ok {M : List (Str × Int)} {a : Addr} {μ : Mu} {Q : SD → Mu → Prop} (m : μ a = some (.dic (kvM M))) (q : Q (.lst (M.map siD)) μ) : itQ Q (.ref a) μ := by
  unfold itQ
  simp only [DS.mdic, m]
  rw [show (kvM M).map (fun kv => SD.tup [kD kv.1, kv.2]) = M.map siD by unfold kvM; rw [List.map_map]; rfl]
  exact q
theorem neW {μ : Mu} {Q : SD → Mu → Prop} {u v : Str} (q : Q (.bl (!decide (u = v))) μ) : dEq true (.str u) (.str v) μ Q := by
  unfold dEq
  rw [show eqD μ (.str u) (.str v) = some (decide (u = v)) by unfold eqD; rfl]
  show Q (.bl (true != decide (u = v))) μ
  rw [Bool.true_bne]; exact q
theorem deed_cut {w k : Str} {n0 : SD} {b : Bool} : ∃ rest, cutL [SD.str w, .str k, n0, .non] none (some (2 + 2 * (if b = true then 1 else 0))) = .str w :: .str k :: rest := by
  cases b with
  | true => exact ⟨[n0, .non], cutL_to [SD.str w, .str k, n0, .non] 4⟩
  | false => exact ⟨[], cutL_to [SD.str w, .str k, n0, .non] 2⟩
theorem sum_snoc {l : List Int} {x : Int} : (l ++ [x]).sum = l.sum + x := by rw [List.sum_append]; simp
theorem names_val {l : List Str} (h : ∀ k ∈ l, KeyOk k) (hl : l.length ≤ 40) : Val 0 1 2480 (.tup (sts l)) :=
  (Val.tup (ValL.of (m := 0) (D := 0) (B := 61) (n := 40) (fun d hd => by
    obtain ⟨k, hk, rfl⟩ := sts_mem hd
    exact key_val (h k hk)) (by simp [sts]; exact hl))).mono (Nat.le_refl _) (Nat.le_refl _) (by decide)
theorem not_inK {l : List Str} {i : Nat} {x : Str} (nd : l.Nodup) (h : l[i]? = some x) : x ∉ l.take i := by
  intro z
  obtain ⟨j, hj⟩ := List.getElem?_of_mem z
  rw [List.getElem?_take] at hj
  split at hj
  · rename_i hji
    obtain ⟨h1, h2⟩ := List.getElem?_eq_some_iff.mp hj
    obtain ⟨h3, h4⟩ := List.getElem?_eq_some_iff.mp h
    have e1 := nd.idxOf_getElem j h1
    have e2 := nd.idxOf_getElem i h3
    rw [h2] at e1
    rw [h4, e1] at e2
    omega
  · cases hj
def sp__law_right : DSp := fun ds μ Q _ => ∃ h, ds = [.ref h] ∧ HandAt μ h 0 ∧ ∀ μ', Q (.bl true) μ'
theorem len__law_right : ∀ ds μ Q E, sp__law_right ds μ Q E → ds.length = 1 := by rintro ds μ Q E ⟨h, rfl, _⟩; rfl
def t__law_right : DTS := (dSeq (dAsg (dTup (dCons (dCall sp__law_keys [] (dCons (dVar 0) (dCons (dC (.int 12)) dNil))) (dCons (dLstM dNil) (dCons (dC (.int 0)) dNil)))) (hTup 3 (hCons (hName 1) (hCons (hName 2) (hCons (hName 3) hNil)))))
    (dSeq (dSet dDict0M 4)
    (dSeq (dFor (jSeq (dSl (dVar 1) dNoPart (dPart (dCall sp__law_take [] (dCons (dVar 0) (dCons (dC (.int 13)) dNil)))))) (hName 5) (dDPut (dVar 4) (dVar 5) (dCall sp__law_of [] (dCons (dVar 0) (dCons (dLst (dCons (dC (.int 1)) (dCons (dC (.int 2)) (dCons (dOp dAdd (dC (.int 1)) (dCall sp__law_take [] (dCons (dVar 0) (dCons (dC (.int 1000)) dNil)))) (dCons (dC (.int 1000)) dNil))))) dNil)))))
    (dSeq (dSet (dCB drTupleP (dCons (dCB drSortedSI (dCons (dListIt (dVar 4)) dNil)) dNil)) 6)
    (dSeq (dFor (jRng1 (dCons (dCall sp__law_take [] (dCons (dVar 0) (dCons (dC (.int 31)) dNil))) dNil)) (hName 7) (dSeq (dPar 11 5 (dCons (dCall sp__law_of [] (dCons (dVar 0) (dCons (dLst (dCons (dC (.str "create")) (dCons (dC (.str "move")) (dCons (dC (.str "move")) (dCons (dC (.str "move")) (dCons (dC (.str "remove")) dNil)))))) dNil))) (dCons (dCall sp__law_of [] (dCons (dVar 0) (dCons (dVar 1) dNil))) dNil)))
    (dSeq (dDrop (dLM dmAppend (dVar 2) (dCons (dSl (dTup (dCons (dVar 11) (dCons (dVar 5) (dCons (dOp dIx (dVar 1) (dC (.int 0))) (dCons (dC .non) dNil))))) dNoPart (dPart (dOp dAdd (dC (.int 2)) (dOp dMul (dC (.int 2)) (dCB drInt (dCons (dOp (dEq true) (dVar 11) (dC (.str "remove"))) dNil)))))) dNil)))
    (dSet (dOp dAdd (dVar 3) (dOp dMul (dDGet2 (dVar 4) (dVar 5) (dC (.int 1))) (dCB drInt (dCons (dOp (dEq false) (dVar 11) (dC (.str "move"))) dNil)))) 3))))
    (dSeq (dSet (dCB drTuple (dCons (dSortSet (dLcS (jSeq (dVar 2)) (hName 15) (dTest (dOp (dEq false) (dOp dIx (dVar 15) (dC (.int 0))) (dC (.str "move")))) (dOp dIx (dVar 15) (dC (.int 1))) [15])) dNil)) 8)
    (dSeq (dIfS (dTest (dOp (dEq true) (dCB drReprQ (dCons (dLst (dCons (dCall sp_moved [] (dCons (dCB drTuple (dCons (dVar 2) dNil)) dNil)) (dCons (dCallK sp_moved [.inr 0] 0 1 dNil (dCons (dCB drTuple (dCons (dVar 2) dNil)) dNil)) dNil))) dNil)) (dCB drReprQ (dCons (dLst (dCons (dVar 8) (dCons (dVar 8) dNil))) dNil)))) (dRet (dC (.bl false))) dNext)
    (dSeq (dIfS (dTest (dOp (dEq true) (dCB drReprQ (dCons (dLst (dCons (dCall sp_cost_of [] (dCons (dCB drTuple (dCons (dVar 2) dNil)) (dCons (dVar 6) dNil))) (dCons (dCallK sp_cost_of [.inr 1, .inr 0] 0 2 dNil (dCons (dVar 6) (dCons (dCB drTuple (dCons (dVar 2) dNil)) dNil))) dNil))) dNil)) (dCB drReprQ (dCons (dLst (dCons (dVar 3) (dCons (dVar 3) dNil))) dNil)))) (dRet (dC (.bl false))) dNext)
    tRest))))))))
theorem read__law_right : ∀ ds μ Q E, sp__law_right ds μ Q E → t__law_right { nx := fun _ μ' => Q .non μ', rt := Q } (begin_ ["_law_hand_here", "_law_names", "_law_deeds", "_law_total", "_law_price", "_law_name", "_law_told", "_law_turn", "_law_due", "_law_things", "_law_thing", "_law_word", "_law_bent_here", "_law_seen", "_law_some", "_law_deed"] ds) μ := by
  rintro ds μ Q E ⟨h, rfl, H, q⟩
  unfold t__law_right dFor
  refine r_var rfl ?_
  refine ⟨h, 12, 0, rfl, by decide, by omega, H, fun names μ1 nd nl ok1 H1 l1 => ?_⟩
  have kok : ∀ k ∈ names, KeyOk k := fun k hk => (ok1 k hk).1
  obtain ⟨n0, hn0⟩ : ∃ n0, names[0]? = some n0 := ⟨_, List.getElem?_eq_getElem (by omega)⟩
  have hat : atI (sts names) 0 = some (.str n0) := atI_nat (j := 0) (by rw [sts, List.getElem?_map, hn0]; rfl)
  have k0 : KeyOk n0 := kok n0 (List.mem_of_getElem? hn0)
  refine ⟨Nat.zero_le _, fun p2 hp2 => ?_⟩
  have hph2 := H1.ne hp2
  refine ⟨(by show 3 ≤ sizeLine; decide), ?_⟩
  refine ⟨rfl, rfl, ?_⟩
  dsimp only
  refine fun p4 hp4 => ?_
  obtain ⟨n42, hp4'⟩ := up_none hp4
  have hph4 := H1.ne hp4'
  generalize hμ2 : up (up μ1 p2 (.lst [])) p4 (.dic []) = μ2
  have H2 : HandAt μ2 h 4 := by rw [← hμ2]; exact (H1.up hph2).up hph4
  have m22 : μ2 p2 = some (.lst []) := by rw [← hμ2, up_ne (Ne.symm n42), up_same]
  have m24 : μ2 p4 = some (.dic []) := by rw [← hμ2, up_same]
  clear hμ2
  dsimp only
  -- the prices
  refine r_var rfl ?_
  refine r_var rfl ?_
  refine ⟨h, 13, _, rfl, by decide, by decide, by omega, H2, fun d1 μ3 a0 a1 H3 l3 => ?_⟩
  obtain ⟨n, rfl⟩ := Int.eq_ofNat_of_zero_le a0
  have m32 := l3 p2 _ (Ne.symm hph2) m22
  have m34 := l3 p4 _ (Ne.symm hph4) m24
  refine sl_L ?_
  rw [show cutL (sts names) none (some (n : Int)) = sts (names.take n) by rw [sts, sts, List.map_take]; exact cutL_to _ n]
  have ndn : (names.take n).Nodup := nd.sublist (List.take_sublist ..)
  have nln : (names.take n).length ≤ 12 := by rw [List.length_take]; omega
  have subn : ∀ k ∈ names.take n, k ∈ names := fun k hk => List.mem_of_mem_take hk
  generalize names.take n = nm at ndn nln subn
  refine ⟨fun i ρ μ' => ∃ (M : List (Str × Int)) (T' : Nat) (a5 : Option SD), ρ = [some (.ref h), some (.lst (sts names)), some (.ref p2), some (.int 0), some (.ref p4), a5, none, none, none, none, none, none, none, none, none, none] ∧ μ' p2 = some (.lst []) ∧ μ' p4 = some (.dic (kvM M)) ∧ M.map (·.1) = nm.take i ∧ (∀ p ∈ M, 1 ≤ p.2 ∧ p.2 ≤ 1000) ∧ HandAt μ' h T' ∧ T' ≤ 5 + 2 * i, ⟨[], _, none, rfl, m32, m34, rfl, (fun _ h => by cases h), H3, by omega⟩, fun _ _ _ _ _ => rfl, ?_, ?_⟩
  · rintro i d ρ μ4 hd ⟨M, T', a5, rfl, m2, m4, em, cm, H4, hT4⟩
    rw [sts, List.getElem?_map] at hd
    cases ex : nm[i]? with
    | none => rw [ex] at hd; cases hd
    | some x =>
    rw [ex] at hd; cases hd
    have hi := (List.getElem?_eq_some_iff.mp ex).1
    have ml : M.length = i := by
      have := congrArg List.length em
      rw [List.length_map, List.length_take] at this; omega
    have ndm : (M.map (·.1)).Nodup := by rw [em]; exact ndn.sublist (List.take_sublist ..)
    have xn : x ∉ M.map (·.1) := by
      rw [em]; exact not_inK ndn ex
    dsimp only
    refine r_var rfl ?_
    refine r_var rfl ?_
    refine ⟨h, 1000, T', rfl, by decide, by decide, by omega, H4, fun c μ5 c0 c1 H5 l5 => ?_⟩
    refine i_add ?_
    refine ⟨(by show 4 ≤ sizeLine; decide), ?_⟩
    refine ⟨h, _, _, _, rfl, .inl rfl, by simp, (by show 4 ≤ 1000000; decide), by omega, H5, fun i2 d μ6 hd2 H6 l6 => ?_⟩
    obtain ⟨v, rfl, v1, v2⟩ : ∃ v : Int, d = .int v ∧ 1 ≤ v ∧ v ≤ 1000 := by
      have hm := List.mem_of_getElem? hd2
      simp only [List.mem_cons, List.not_mem_nil, or_false] at hm
      rcases hm with e | e | e | e
      · exact ⟨1, e, by decide, by decide⟩
      · exact ⟨2, e, by decide, by decide⟩
      · exact ⟨_, e, by omega, by omega⟩
      · exact ⟨1000, e, by decide, by decide⟩
    have m6 := l6 p4 _ (Ne.symm hph4) (l5 p4 _ (Ne.symm hph4) m4)
    have m62 := l6 p2 _ (Ne.symm hph2) (l5 p2 _ (Ne.symm hph2) m2)
    refine r_var rfl ?_
    refine r_var rfl ?_
    refine put_ok m6 (k := .inr x) rfl (lt_line (m := 100) (by unfold kvM; rw [List.length_map]; omega) (by omega)) ?_
    rw [putP ndm xn]
    refine ⟨M ++ [(x, v)], _, _, rfl, by rw [up_ne (Ne.symm n42)]; exact m62, up_same, ?_, fun p hp => ?_, H6.up hph4, by omega⟩
    · rw [List.map_append, em, List.take_succ, ex]; rfl
    · rcases List.mem_append.mp hp with hp | hp
      · exact cm p hp
      · rw [List.mem_singleton.mp hp]; exact ⟨v1, v2⟩
  rintro ρ μ4 ⟨M, T', a5, rfl, m2, m4, em, cm, H4, hT4⟩
  rw [show (sts nm).length = nm.length by simp [sts], List.take_length] at em
  rw [show (sts nm).length = nm.length by simp [sts]] at hT4
  have ml : M.length ≤ 12 := by
    have := congrArg List.length em
    rw [List.length_map] at this; omega
  have ndm : (M.map (·.1)).Nodup := by rw [em]; exact ndn
  have mok : TblOk M := fun p hp => by
    have hk : p.1 ∈ names := subn _ (em ▸ List.mem_map_of_mem hp)
    exact ⟨(ok1 _ hk).1, (ok1 _ hk).2, cm p hp⟩
  have sp := srtP_perm M
  have lok : TblOk (srtP M) := fun p hp => mok p (sp.mem_iff.mp hp)
  have ndl : ((srtP M).map (·.1)).Nodup := (sp.map _).nodup_iff.mpr ndm
  have ll : (srtP M).length ≤ 12 := by rw [sp.length_eq]; exact ml
  have prl : ∀ k, pr (srtP M) k = pr M k := pr_perm ndm sp
  dsimp only
  refine r_var rfl ?_
  refine items_ok m4 ?_
  refine sortedSI_ok ?_
  refine tupleP_ok ?_
  generalize srtP M = L at lok ndl ll prl sp ⊢
  dsimp only
  -- the operations
  refine r_var rfl ?_
  refine ⟨h, 31, T', rfl, by decide, by decide, by omega, H4, fun d2 μ5 b0 b1 H5 l5 => ?_⟩
  obtain ⟨n2, rfl⟩ := Int.eq_ofNat_of_zero_le b0
  have m52 := l5 p2 _ (Ne.symm hph2) m2
  have m54 := l5 p4 _ (Ne.symm hph4) m4
  refine ⟨⟨by omega, by omega⟩, ?_⟩
  refine ⟨fun i ρ μ' => ∃ (ops : List SD) (tot : Int) (T2 : Nat) (b5 b7 b11 : Option SD), ρ = [some (.ref h), some (.lst (sts names)), some (.ref p2), some (.int tot), some (.ref p4), b5, some (.ptp (L.map siD)), b7, none, none, none, b11, none, none, none, none] ∧ μ' p2 = some (.lst ops) ∧ μ' p4 = some (.dic (kvM M)) ∧ ops.length = i ∧ (∀ d ∈ ops, Deed d) ∧ (∀ k ∈ ops.filterMap mvN, k ∈ names) ∧ tot = ((ops.filterMap mvN).map (pr M)).sum ∧ 0 ≤ tot ∧ tot ≤ 1000 * i ∧ HandAt μ' h T2 ∧ T2 ≤ 30 + 2 * i, ⟨[], 0, _, _, _, _, rfl, m52, m54, rfl, (fun _ h => by cases h), (fun _ h => by cases h), rfl, by omega, by omega, H5, by omega⟩, fun _ _ _ _ _ => trivial, ?_, ?_⟩
  · rintro i d ρ μ6 hd ⟨ops, tot, T2, b5, b7, b11, rfl, m62, m64, ol, deeds, mvs, et, t0, t1, H6, hT2⟩
    have i31 : i < 31 := by
      have := (List.getElem?_eq_some_iff.mp hd).1
      simp at this; omega
    dsimp only
    refine r_var rfl ?_
    refine ⟨(by show 5 ≤ sizeLine; decide), ?_⟩
    refine ⟨h, _, _, T2, rfl, .inl rfl, by simp, (by show 5 ≤ 1000000; decide), by omega, H6, fun i3 dw μ7 hdw H7 l7 => ?_⟩
    obtain ⟨w, rfl⟩ : ∃ w : Str, dw = .str w := by
      have hm := List.mem_of_getElem? hdw
      simp only [List.mem_cons, List.not_mem_nil, or_false] at hm
      rcases hm with e | e | e | e | e <;> exact ⟨_, e⟩
    refine r_var rfl ?_
    refine r_var rfl ?_
    refine ⟨h, _, _, _, rfl, .inl rfl, (fun z => by have := congrArg List.length z; simp [sts] at this; rw [this] at nl; cases nl), (by simp [sts]; omega), by omega, H7, fun i4 dk μ8 hdk H8 l8 => ?_⟩
    obtain ⟨k, hk, rfl⟩ := sts_mem (List.mem_of_getElem? hdk)
    have m82 := l8 p2 _ (Ne.symm hph2) (l7 p2 _ (Ne.symm hph2) m62)
    have m84 := l8 p4 _ (Ne.symm hph4) (l7 p4 _ (Ne.symm hph4) m64)
    dsimp only
    refine r_var rfl ⟨isSome_ref m82, ?_⟩
    refine r_var rfl ?_
    refine r_var rfl ?_
    refine r_var rfl ?_
    refine ix_lst hat ?_
    refine ⟨(by show 4 ≤ sizeLine; decide), ?_⟩
    refine r_var rfl ?_
    refine neW ?_
    refine i_bool ?_
    refine i_mul (mul_okS (by omega) (by split <;> omega)) ?_
    refine i_add ?_
    refine sl_T ?_
    obtain ⟨rest, hr⟩ := deed_cut (w := w) (k := k) (n0 := .str n0) (b := !decide (w = "remove"))
    rw [hr]
    refine dm_append m82 (lt_line (m := 100) (by omega) (by omega)) ?_
    have m94 : up μ8 p2 (.lst (ops ++ [.tup (.str w :: .str k :: rest)])) p4 = some (.dic (kvM M)) := by rw [up_ne n42]; exact m84
    have m92 : up μ8 p2 (.lst (ops ++ [.tup (.str w :: .str k :: rest)])) p2 = some (.lst (ops ++ [.tup (.str w :: .str k :: rest)])) := up_same
    have H9 := H8.up (m := .lst (ops ++ [.tup (.str w :: .str k :: rest)])) hph2
    generalize up μ8 p2 (.lst (ops ++ [.tup (.str w :: .str k :: rest)])) = μ9 at m92 m94 H9
    dsimp only
    refine r_var rfl ?_
    refine r_var rfl ?_
    refine ⟨by rw [dicD_ref m94]; rfl, ?_⟩
    refine r_var rfl ?_
    refine get_pr ndm (dicD_ref m94) ?_
    refine r_var rfl ?_
    refine eqw ?_
    refine i_bool ?_
    have pk : 1 ≤ pr M k ∧ pr M k ≤ 1000 := by
      by_cases hm : k ∈ M.map (·.1)
      · obtain ⟨p, hp, rfl⟩ := List.mem_map.mp hm
        rw [pr_at ndm hp]; exact cm p hp
      · rw [pr_out hm]; exact ⟨by decide, by decide⟩
    refine i_mul (mul_okS (by omega) (by split <;> omega)) ?_
    refine i_add ?_
    have dd : ∀ d ∈ ops ++ [SD.tup (.str w :: .str k :: rest)], Deed d := fun d hd => (List.mem_append.mp hd).elim (deeds d) fun z => by rw [List.mem_singleton.mp z]; exact ⟨_, _, _, rfl⟩
    have sel : mvN (SD.tup (.str w :: .str k :: rest)) = if w = "move" then some k else none := rfl
    by_cases ew : w = "move"
    · have e2 : (ops ++ [SD.tup (.str w :: .str k :: rest)]).filterMap mvN = ops.filterMap mvN ++ [k] := by
        rw [List.filterMap_append, List.filterMap_cons, sel, if_pos ew]; rfl
      rw [decide_eq_true ew]
      refine ⟨_, _, _, _, _, _, rfl, m92, m94, by rw [List.length_append, ol]; rfl, dd, fun k2 hk2 => ?_, ?_, ?_, ?_, H9, by omega⟩
      · rw [e2] at hk2
        rcases List.mem_append.mp hk2 with z | z
        · exact mvs k2 z
        · rw [List.mem_singleton.mp z]; exact hk
      · rw [e2, List.map_append, List.map_cons, List.map_nil, sum_snoc, ← et, if_pos rfl, Int.mul_one]
      · rw [if_pos rfl]; omega
      · rw [if_pos rfl]; omega
    · have e2 : (ops ++ [SD.tup (.str w :: .str k :: rest)]).filterMap mvN = ops.filterMap mvN := by
        rw [List.filterMap_append, List.filterMap_cons, sel, if_neg ew]; simp
      rw [decide_eq_false ew]
      refine ⟨_, _, _, _, _, _, rfl, m92, m94, by rw [List.length_append, ol]; rfl, dd, fun k2 hk2 => mvs k2 (e2 ▸ hk2), ?_, ?_, ?_, H9, by omega⟩
      · rw [e2, ← et, if_neg Bool.false_ne_true]; omega
      · rw [if_neg Bool.false_ne_true]; omega
      · rw [if_neg Bool.false_ne_true]; omega
  rintro ρ μ6 ⟨ops, tot, T2, b5, b7, b11, rfl, m62, m64, ol, deeds, mvs, et, t0, t1, H6, hT2⟩
  have ol : ops.length ≤ 30 := by rw [ol]; simp; omega
  have t1 : tot ≤ 100000 := by
    refine Int.le_trans t1 ?_
    simp; omega
  have hT2 : T2 ≤ 1000 := by
    refine Nat.le_trans hT2 ?_
    simp; omega
  have mvl : (ops.filterMap mvN).length ≤ 30 := Nat.le_trans (List.length_filterMap_le ..) ol
  dsimp only
  refine moved_lc rfl (.inr ⟨p2, rfl, m62⟩) deeds (by omega) (by show 15 < 16; decide) fun μ7 l7 => ?_
  refine sortSet_ok (l := ops.filterMap mvN) rfl (by omega) ?_
  refine tupL_ok ?_
  have uk : ∀ k ∈ srtU (ops.filterMap mvN), KeyOk k := fun k hk => kok k (mvs k (srtU_mem.mp hk))
  have ul : (srtU (ops.filterMap mvN)).length ≤ 30 := Nat.le_trans (srtU_len _) mvl
  generalize hu : srtU (ops.filterMap mvN) = u at uk ul
  have m72 := l7 p2 _ m62
  have H7 := H6.le l7
  dsimp only
  -- what is moved
  refine r_var rfl ?_
  refine tupR_ok m72 ?_
  refine ⟨ops, rfl, deeds, by omega, fun μ8 l8 => ?_⟩
  have m82 := l8 p2 _ m72
  refine r_var rfl ?_
  refine tupR_ok m82 ?_
  refine ⟨ops, rfl, deeds, by omega, fun μ9 l9 => ?_⟩
  have m92 := l9 p2 _ m82
  refine ⟨(by show 2 ≤ sizeLine; decide), ?_⟩
  rw [hu]
  have vu := names_val uk (by omega)
  have v2 : Val 0 2 5000 (.lst [.tup (sts u), .tup (sts u)]) := (Val.lst (ValL.cons vu (ValL.one vu))).mono (Nat.le_refl _) (Nat.le_refl _) (by decide)
  refine r_reprQ v2 (by decide) (by decide) (by decide) ?_
  refine r_var rfl ?_
  refine r_var rfl ?_
  refine ⟨(by show 2 ≤ sizeLine; decide), ?_⟩
  refine r_reprQ v2 (by decide) (by decide) (by decide) ?_
  refine ne_sameQ ?_
  refine ifF rfl ?_
  simp only [dNext]
  -- what it costs
  have el : ((ops.filterMap mvN).map (pr L)).sum = tot := by
    rw [et]; congr 1; exact List.map_congr_left fun k _ => prl k
  refine r_var rfl ?_
  refine tupR_ok m92 ?_
  refine r_var rfl ?_
  refine ⟨ops, L, rfl, deeds, by omega, ndl, fun μ10 l10 => ?_⟩
  have m102 := l10 p2 _ m92
  refine r_var rfl ?_
  refine r_var rfl ?_
  refine tupR_ok m102 ?_
  refine ⟨ops, L, rfl, deeds, by omega, ndl, fun μ11 l11 => ?_⟩
  refine ⟨(by show 2 ≤ sizeLine; decide), ?_⟩
  rw [el]
  have vi : Val 0 0 0 (.int tot) := Val.int (m := 0) (by omega)
  have v3 : Val 0 1 10 (.lst [.int tot, .int tot]) := (Val.lst (ValL.cons vi (ValL.one vi))).mono (Nat.le_refl _) (Nat.le_refl _) (by decide)
  refine r_reprQ v3 (by decide) (by decide) (by decide) ?_
  refine r_var rfl ?_
  refine r_var rfl ?_
  refine ⟨(by show 2 ≤ sizeLine; decide), ?_⟩
  refine r_reprQ v3 (by decide) (by decide) (by decide) ?_
  refine ne_sameQ ?_
  refine ifF rfl ?_
  simp only [dNext]
  exact rest_ok hat k0 lok ll ((((H7.le l8).le l9).le l10).le l11) (by omega) q
/-! the law -/
theorem all_trueK {μ : Mu} {Q : SD → Mu → Prop} {n : Nat} (q : Q (.bl true) μ) : drBls (fun bs => bs.all _root_.id) [.lst ((List.replicate n true).map SD.bl)] μ Q := by
  refine bls_all ?_
  have : (List.replicate n true).all _root_.id = true := by rw [List.all_eq_true]; intro x hx; rw [(List.mem_replicate.mp hx).2]; rfl
  rw [this]; exact q
theorem rep_snocK {i : Nat} : (List.replicate (i + 1) true).map SD.bl = (List.replicate i true).map SD.bl ++ [.bl true] := by
  rw [List.replicate_succ', List.map_append]; rfl
theorem i_minK {μ : Mu} {Q : SD → Mu → Prop} {m n : Int} (q : Q (.int (if n < m then n else m)) μ) : drI2 (fun i j => if j < i then j else i) [.int m, .int n] μ Q := q
theorem i_maxK {μ : Mu} {Q : SD → Mu → Prop} {m n : Int} (q : Q (.int (if n > m then n else m)) μ) : drI2 (fun i j => if j > i then j else i) [.int m, .int n] μ Q := q
def sp_law : DSp := fun ds μ Q _ => ∃ ns : List Int, ds = [.rol (ns.map SD.int)] ∧ ns.length ≤ 63 ∧ ∀ μ', Q (.bl true) μ'
theorem len_law : ∀ ds μ Q E, sp_law ds μ Q E → ds.length = 1 := by rintro ds μ Q E ⟨ns, rfl, _⟩; rfl
def t_law : DTS := (dSeq (dIfS (dNot (dTest (dCall sp__law_great_right [] (dCons (dCall sp__law_hand [] (dCons (dVar 0) (dCons (dC (.int 0)) dNil))) dNil)))) (dRet (dC (.bl false))) dNext)
    (dRet (dCB (drBls fun bs => bs.all _root_.id) (dCons (dLcS (jRng1 (dCons (dCB (drI2 fun i j => if j > i then j else i) (dCons (dC (.int 1)) (dCons (dCB (drI2 fun i j => if j < i then j else i) (dCons (dC (.int 3)) (dCons (dCB drLen (dCons (dVar 0) dNil)) dNil))) dNil))) dNil)) (hName 1) dYes (dCall sp__law_right [] (dCons (dCall sp__law_hand [] (dCons (dVar 0) (dCons (dVar 1) dNil))) dNil)) [1]) dNil))))
theorem read_law : ∀ ds μ Q E, sp_law ds μ Q E → t_law { nx := fun _ μ' => Q .non μ', rt := Q } (begin_ ["_law_script", "_law_k"] ds) μ := by
  rintro ds μ Q E ⟨ns, rfl, hl, q⟩
  unfold t_law dLcS dLc
  refine r_var rfl ?_
  refine ⟨ns, 0, rfl, by omega, fun h μ1 hp le H => ?_⟩
  refine ⟨h, 0, rfl, by omega, H, fun μ2 => ?_⟩
  refine ifF rfl ?_
  simp only [dNext]
  refine r_var rfl ?_
  refine l_lenO ?_
  refine i_minK ?_
  refine i_maxK ?_
  have hr : ∃ r : Nat, r ≤ 3 ∧ (if (if ((ns.map SD.int).length : Int) < 3 then ((ns.map SD.int).length : Int) else 3) > 1 then (if ((ns.map SD.int).length : Int) < 3 then ((ns.map SD.int).length : Int) else 3) else 1) = (r : Int) := by
    refine ⟨(if (if ((ns.map SD.int).length : Int) < 3 then ((ns.map SD.int).length : Int) else 3) > 1 then (if ((ns.map SD.int).length : Int) < 3 then ((ns.map SD.int).length : Int) else 3) else 1).toNat, ?_, ?_⟩ <;> split <;> split <;> omega
  obtain ⟨r, r3, hre⟩ := hr
  rw [hre]
  refine ⟨⟨by omega, by omega⟩, le_line (m := 3) (by simp; omega) (by omega), fun i acc μ' => acc = (List.replicate i true).map SD.bl, rfl, fun _ _ _ _ _ => trivial, ?_, ?_⟩
  · rintro i d acc μ' hd rfl
    have hi := (List.getElem?_eq_some_iff.mp hd).1
    simp at hi
    have hdv : d = .int (i : Nat) := by
      rw [List.getElem?_map, List.getElem?_range (by simpa using hi)] at hd
      exact (Option.some.inj hd).symm
    subst hdv
    refine ifT rfl ?_
    refine r_var rfl ?_
    refine r_var rfl ?_
    refine ⟨ns, i, rfl, by omega, fun p μ3 hp le H => ?_⟩
    exact ⟨p, rfl, H, fun μ4 => rep_snocK.symm⟩
  · rintro acc μ' rfl
    exact all_trueK (q _)
theorem law_takes {ns : List Int} (hl : ns.length ≤ 63) : ∀ μ, sp_law [.rol (ns.map SD.int)] μ (fun d _ => d = .bl true) (fun _ _ _ => False) := fun μ => ⟨ns, rfl, hl, fun _ => rfl⟩
end LK
namespace LK
open PySem PySem.Spec PyProof.Rows L2 DS MA
def top (i : Nat) : Stmt := PySem.Challenge.pw_keyedmoves_k07_moved_keys_and_costs.main.body.getD i (.Pass ⟨0, 0, 0, 0⟩)
abbrev s_is_key : Stmt := top 3
abbrev s_moved : Stmt := top 9
abbrev s_is_cost : Stmt := top 10
abbrev s_are_costs : Stmt := top 11
abbrev s_price_of : Stmt := top 12
abbrev s_cost_of : Stmt := top 13
abbrev s__law_hand : Stmt := top 15
abbrev s__law_take : Stmt := top 16
abbrev s__law_of : Stmt := top 17
abbrev s__law_keys : Stmt := top 18
abbrev s__law_mixed : Stmt := top 19
abbrev s__law_odd : Stmt := top 20
abbrev s__law_bent : Stmt := top 21
abbrev s__law_is_key : Stmt := top 22
abbrev s__law_are_prices : Stmt := top 23
abbrev s__law_great_right : Stmt := top 24
abbrev s__law_right : Stmt := top 25
abbrev s_law : Stmt := top 26
theorem sc_is_key : FnScope ["value", "letter"] ["value"] (defScope s_is_key) := ⟨rfl, rfl, rfl, by decide +kernel, rfl, by decide +kernel, by decide +kernel⟩
theorem sc_moved : FnScope ["operations", "operation"] ["operations"] (defScope s_moved) := ⟨rfl, rfl, rfl, by decide +kernel, rfl, by decide +kernel, by decide +kernel⟩
theorem sc_is_cost : FnScope ["value"] ["value"] (defScope s_is_cost) := ⟨rfl, rfl, rfl, by decide +kernel, rfl, by decide +kernel, by decide +kernel⟩
theorem sc_are_costs : FnScope ["value", "pair", "later"] ["value"] (defScope s_are_costs) := ⟨rfl, rfl, rfl, by decide +kernel, rfl, by decide +kernel, by decide +kernel⟩
theorem sc_price_of : FnScope ["costs", "key"] ["costs", "key"] (defScope s_price_of) := ⟨rfl, rfl, rfl, by decide +kernel, rfl, by decide +kernel, by decide +kernel⟩
theorem sc_cost_of : FnScope ["operations", "costs", "operation"] ["operations", "costs"] (defScope s_cost_of) := ⟨rfl, rfl, rfl, by decide +kernel, rfl, by decide +kernel, by decide +kernel⟩
theorem sc__law_hand : FnScope ["_law_script", "_law_k", "_law_cell", "_law_great"] ["_law_script", "_law_k"] (defScope s__law_hand) := ⟨rfl, rfl, rfl, by decide +kernel, rfl, by decide +kernel, by decide +kernel⟩
theorem sc__law_take : FnScope ["_law_hand_here", "_law_many", "_law_turn", "_law_prime", "_law_mixed_here", "_law_digit"] ["_law_hand_here", "_law_many"] (defScope s__law_take) := ⟨rfl, rfl, rfl, by decide +kernel, rfl, by decide +kernel, by decide +kernel⟩
theorem sc__law_of : FnScope ["_law_hand_here", "_law_items"] ["_law_hand_here", "_law_items"] (defScope s__law_of) := ⟨rfl, rfl, rfl, by decide +kernel, rfl, by decide +kernel, by decide +kernel⟩
theorem sc__law_keys : FnScope ["_law_hand_here", "_law_many", "_law_letters", "_law_first", "_law_leap", "_law_stem", "_law_found", "_law_nth", "_law_tail"] ["_law_hand_here", "_law_many"] (defScope s__law_keys) := ⟨rfl, rfl, rfl, by decide +kernel, rfl, by decide +kernel, by decide +kernel⟩
theorem sc__law_mixed : FnScope ["_law_hand_here", "_law_items", "_law_left", "_law_found"] ["_law_hand_here", "_law_items"] (defScope s__law_mixed) := ⟨rfl, rfl, rfl, by decide +kernel, rfl, by decide +kernel, by decide +kernel⟩
theorem sc__law_odd : FnScope ["_law_hand_here", "_law_some", "_law_thing", "_law_turn"] ["_law_hand_here"] (defScope s__law_odd) := ⟨rfl, rfl, rfl, by decide +kernel, rfl, by decide +kernel, by decide +kernel⟩
theorem sc__law_bent : FnScope ["_law_hand_here", "_law_thing", "_law_at", "_law_way"] ["_law_hand_here", "_law_thing"] (defScope s__law_bent) := ⟨rfl, rfl, rfl, by decide +kernel, rfl, by decide +kernel, by decide +kernel⟩
theorem sc__law_is_key : FnScope ["_law_thing", "_law_letter"] ["_law_thing"] (defScope s__law_is_key) := ⟨rfl, rfl, rfl, by decide +kernel, rfl, by decide +kernel, by decide +kernel⟩
theorem sc__law_are_prices : FnScope ["_law_thing", "_law_pair", "_law_names"] ["_law_thing"] (defScope s__law_are_prices) := ⟨rfl, rfl, rfl, by decide +kernel, rfl, by decide +kernel, by decide +kernel⟩
theorem sc__law_great_right : FnScope ["_law_hand_here", "_law_names", "_law_told", "_law_deeds", "_law_nth", "_law_name"] ["_law_hand_here"] (defScope s__law_great_right) := ⟨rfl, rfl, rfl, by decide +kernel, rfl, by decide +kernel, by decide +kernel⟩
theorem sc__law_right : FnScope ["_law_hand_here", "_law_names", "_law_deeds", "_law_total", "_law_price", "_law_name", "_law_told", "_law_turn", "_law_due", "_law_things", "_law_thing", "_law_word", "_law_bent_here", "_law_seen", "_law_some", "_law_deed"] ["_law_hand_here"] (defScope s__law_right) := ⟨rfl, rfl, rfl, by decide +kernel, rfl, by decide +kernel, by decide +kernel⟩
theorem sc_law : FnScope ["_law_script", "_law_k"] ["_law_script"] (defScope s_law) := ⟨rfl, rfl, rfl, by decide +kernel, rfl, by decide +kernel, by decide +kernel⟩
structure All (K : PySem.W.Frag) (mg : Str → Option Value) (wp : Params) where
  is_key : Def K mg "is_key" s_is_key ["value"]
  moved : Def K mg "moved" s_moved ["operations"]
  is_cost : Def K mg "is_cost" s_is_cost ["value"]
  are_costs : Def K mg "are_costs" s_are_costs ["value"]
  price_of : Def K mg "price_of" s_price_of ["costs", "key"]
  cost_of : Def K mg "cost_of" s_cost_of ["operations", "costs"]
  _law_hand : Def K mg "_law_hand" s__law_hand ["_law_script", "_law_k"]
  _law_take : Def K mg "_law_take" s__law_take ["_law_hand_here", "_law_many"]
  _law_of : Def K mg "_law_of" s__law_of ["_law_hand_here", "_law_items"]
  _law_keys : Def K mg "_law_keys" s__law_keys ["_law_hand_here", "_law_many"]
  _law_mixed : Def K mg "_law_mixed" s__law_mixed ["_law_hand_here", "_law_items"]
  _law_odd : Def K mg "_law_odd" s__law_odd ["_law_hand_here"]
  _law_bent : Def K mg "_law_bent" s__law_bent ["_law_hand_here", "_law_thing"]
  _law_is_key : Def K mg "_law_is_key" s__law_is_key ["_law_thing"]
  _law_are_prices : Def K mg "_law_are_prices" s__law_are_prices ["_law_thing"]
  _law_great_right : Def K mg "_law_great_right" s__law_great_right ["_law_hand_here"]
  _law_right : Def K mg "_law_right" s__law_right ["_law_hand_here"]
  law : Def K mg "law" s_law ["_law_script"]
  z_abs : mg "abs" = none
  z_all : mg "all" = none
  z_bool : mg "bool" = none
  z_dict : mg "dict" = none
  z_enumerate : mg "enumerate" = none
  z_int : mg "int" = none
  z_isinstance : mg "isinstance" = none
  z_len : mg "len" = none
  z_list : mg "list" = none
  z_max : mg "max" = none
  z_min : mg "min" = none
  z_range : mg "range" = none
  z_repr : mg "repr" = none
  z_set : mg "set" = none
  z_sorted : mg "sorted" = none
  z_str : mg "str" = none
  z_sum : mg "sum" = none
  z_tuple : mg "tuple" = none
  z_zip : mg "zip" = none
  c_LEAST_COST : ∃ t, mg "LEAST_COST" = some (.int 1 t)
  c_LETTERS : ∃ t, mg "LETTERS" = some (.str "abcdefghijklmnopqrstuvwxyz" t)
  c_LONGEST_KEY : ∃ t, mg "LONGEST_KEY" = some (.int 8 t)
  c_MOST_COST : ∃ t, mg "MOST_COST" = some (.int 1000 t)
  c_MOVE : ∃ t, mg "MOVE" = some (.str "move" t)
  c_PAIR : ∃ t, mg "PAIR" = some (.int 2 t)
  kb_moved_0_operations : KBinds K moved.fd ["operations"] ["operations"] (kwG [.inr 0] 0 1) (kwG [.inr 0] 0 1)
  kb_cost_of_0_costs_operations : KBinds K cost_of.fd ["operations", "costs"] ["costs", "operations"] (kwG [.inr 1, .inr 0] 0 2) (kwG [.inr 1, .inr 0] 0 2)
  kb_are_costs_0_value : KBinds K are_costs.fd ["value"] ["value"] (kwG [.inr 0] 0 1) (kwG [.inr 0] 0 1)
section
variable {P : Program} {w : World} {K : PySem.W.Frag} {mg : Str → Option Value} {base : Heap}
theorem ok_is_key (T : All K mg w.params) : FnD P w base T.is_key 1 sp_is_key := by
  exact def_ok (k := 0) T.is_key.F sc_is_key _ (len_of (n := 1) len_is_key) (fun cdv A outer s H E hq hr => (dss_cons (ds_if (PW.pt (dw_or (dt_not (dt_val (de_callB call_isi lc_isi rfl T.z_isinstance bt_isinstance (da_cons (dv 0) (da_cons (de_ty rfl T.z_str bt_str) da_nil))))) (dw_or1 (dt_not (dt_chain opr_le lr_cmp opr_le lr_cmp de_int (de_callB cr_len lc_len rfl T.z_len bt_len (da_cons (dv 0) da_nil)) (de_gint T.c_LONGEST_KEY)))))) (dss_one (ds_ret de_bl)) dss_nil)
    (dss_one (ds_ret (de_callB (cr_all rfl) lc_all rfl T.z_all bt_all (da_cons (de_lc (own := [("letter", 1)]) rfl sc_is_key.nd (blkOk_by (show blkC ["value", "letter"] (defScope s_is_key) _ [("letter", 1)] = true by decide +kernel)) (own_name (by decide)) (di_seq (dv 0)) (fun _ _ _ _ _ => (pg_name (i := 1) sc_is_key.nd rfl (by first | exact Or.inl rfl | exact Or.inr rfl) (by first | exact .inl rfl | exact .inr rfl))) (fun _ _ _ _ _ => dts_nil) (fun _ _ _ _ _ => (de_cmp opr_in lr_in (dv 1) (de_gstr T.c_LETTERS) (by with_unfolding_all rfl)))) da_nil)))))) fun ds μ Q E h => read_is_key ds μ Q E h
theorem ok_moved (T : All K mg w.params) : FnD P w base T.moved 1 sp_moved := by
  exact def_ok (k := 0) T.moved.F sc_moved _ (len_of (n := 1) len_moved) (fun cdv A outer s H E hq hr => (dss_one (ds_ret (de_callT call_tuple_of lc_tuple rfl T.z_tuple bt_tuple (da_cons (de_sortSet rfl T.z_sorted rfl T.z_set (de_lc (own := [("operation", 1)]) rfl sc_moved.nd (blkOk_by (show blkC ["operations", "operation"] (defScope s_moved) _ [("operation", 1)] = true by decide +kernel)) (own_name (by decide)) (di_seq (dv 0)) (fun _ _ _ _ _ => (pg_name (i := 1) sc_moved.nd rfl (by first | exact Or.inl rfl | exact Or.inr rfl) (by first | exact .inl rfl | exact .inr rfl))) (fun _ _ _ _ _ => (dts_one (dt_cmp (opr_eq (unit64 hr)) lr_eq (de_ix (dv 1) de_int (fun _ _ => rfl)) (de_gstr T.c_MOVE) (nomark _)))) (fun _ _ _ _ _ => (de_ix (dv 1) de_int (fun _ _ => rfl))))) da_nil))))) fun ds μ Q E h => read_moved ds μ Q E h
theorem ok_price_of (T : All K mg w.params) : FnD P w base T.price_of 1 sp_price_of := by
  exact def_ok (k := 0) T.price_of.F sc_price_of _ (len_of (n := 2) len_price_of) (fun cdv A outer s H E hq hr => (dss_one (ds_ret (de_dget2 (hu_of hr) (de_callT (call_dictT rfl) lc_dictT rfl T.z_dict bt_dict (da_cons (dv 0) da_nil)) (dv 1) (de_gint T.c_LEAST_COST) ⟨by rfl, by rfl, by rfl, by rfl⟩)))) fun ds μ Q E h => read_price_of ds μ Q E h
theorem ok__law_hand (T : All K mg w.params) : FnD P w base T._law_hand 1 sp__law_hand := by
  exact def_ok (k := 0) T._law_hand.F sc__law_hand _ (len_of (n := 2) len__law_hand) (fun cdv A outer s H E hq hr => (dss_cons (ds_set (i := 2) sc__law_hand.nd rfl (by first | exact Or.inl rfl | exact Or.inr rfl) (de_ifExp (dt_cmp opr_lt lr_lt (dv 1) (de_callB cr_len lc_len rfl T.z_len bt_len (da_cons (dv 0) da_nil)) (nomark _)) (de_ix (dv 0) (dv 1) (fun _ _ => rfl)) (de_op opr_add lr_add (de_op opr_mul lr_mul de_int (dv 1)) de_int)))
    (dss_cons (ds_set (i := 3) sc__law_hand.nd rfl (by first | exact Or.inl rfl | exact Or.inr rfl) (de_op opr_mul lr_mul (de_op op_mod lr_i2 (de_callB call_abs lc_abs rfl T.z_abs bt_abs (da_cons (dv 2) da_nil)) (de_op op_powW lr_i2 (de_op op_powW lr_i2 de_int de_int) de_int)) (de_callT call_int1 lc_int rfl T.z_int bt_int (da_cons (de_cmp opr_ge lr_cmp (de_callB call_abs lc_abs rfl T.z_abs bt_abs (da_cons (dv 2) da_nil)) (de_op op_powW lr_i2 de_int de_int) (nomark _)) da_nil))))
    (dss_one (ds_ret (de_lstM (da_cons (dv 3) (da_cons (de_op op_mod lr_i2 (de_op opr_mul lr_mul (de_op opr_add lr_add (de_op opr_add lr_add (de_op op_mod lr_i2 (dv 2) de_int) (de_op opr_mul lr_mul (de_op opr_mul lr_mul de_int (dv 1)) (dv 1))) de_int) de_int) de_int) (da_cons de_int da_nil))))))))) fun ds μ Q E h => read__law_hand ds μ Q E h
theorem ok__law_take (T : All K mg w.params) : FnD P w base T._law_take 1 sp__law_take := by
  exact def_ok (k := 0) T._law_take.F sc__law_take _ (len_of (n := 2) len__law_take) (fun cdv A outer s H E hq hr => (dss_cons (ds_if (dt_cmp opr_gt lr_cmp (de_ix (dv 0) de_int (fun _ _ => rfl)) de_int (nomark _)) (dss_cons (ds_set (i := 5) sc__law_take.nd rfl (by first | exact Or.inl rfl | exact Or.inr rfl) (de_op op_mod lr_i2 (de_ix (dv 0) de_int (fun _ _ => rfl)) (dv 1)))
    (dss_cons (ds_asg (de_op op_fdivW lr_i2 (de_ix (dv 0) de_int (fun _ _ => rfl)) (dv 1)) (dg_sub (dv 0) de_int set_list ls_list))
    (dss_one (ds_ret (dv 5))))) dss_nil)
    (dss_cons (ds_set (i := 2) sc__law_take.nd rfl (by first | exact Or.inl rfl | exact Or.inr rfl) (de_op opr_add lr_add (de_ix (dv 0) de_int (fun _ _ => rfl)) de_int))
    (dss_cons (ds_asg (dv 2) (dg_sub (dv 0) de_int set_list ls_list))
    (dss_cons (ds_set (i := 3) sc__law_take.nd rfl (by first | exact Or.inl rfl | exact Or.inr rfl) (de_ix (de_lst (da_cons de_int (da_cons de_int (da_cons de_int (da_cons de_int (da_cons de_int (da_cons de_int da_nil))))))) (de_op op_mod lr_i2 (dv 2) de_int) (fun _ _ => rfl)))
    (dss_cons (ds_set (i := 4) sc__law_take.nd rfl (by first | exact Or.inl rfl | exact Or.inr rfl) (de_op op_mod lr_i2 (de_op op_powW lr_i2 (de_op opr_add lr_add (de_op opr_add lr_add (de_ix (dv 0) de_int (fun _ _ => rfl)) (de_op opr_mul lr_mul (de_op opr_mul lr_mul de_int (dv 2)) (dv 2))) (de_op opr_mul lr_mul de_int (dv 2))) de_int) (dv 3)))
    (dss_one (ds_ret (de_op op_mod lr_i2 (de_op op_fdivW lr_i2 (de_op op_mod lr_i2 (de_op opr_mul lr_mul (dv 4) (de_op opr_add lr_add (de_op op_mod lr_i2 (dv 4) de_int) (de_op opr_mul lr_mul de_int (dv 2)))) de_int) de_int) (dv 1)))))))))) fun ds μ Q E h => read__law_take ds μ Q E h
theorem ok__law_is_key (T : All K mg w.params) : FnD P w base T._law_is_key 1 sp__law_is_key := by
  exact def_ok (k := 0) T._law_is_key.F sc__law_is_key _ (len_of (n := 1) len__law_is_key) (fun cdv A outer s H E hq hr => (dss_cons (ds_if (PW.pt (dw_or (dt_not (dt_val (de_callB call_isi lc_isi rfl T.z_isinstance bt_isinstance (da_cons (dv 0) (da_cons (de_ty rfl T.z_str bt_str) da_nil))))) (dw_or1 (dt_not (dt_chain opr_lt lr_lt opr_lt lr_lt de_int (de_callB cr_len lc_len rfl T.z_len bt_len (da_cons (dv 0) da_nil)) de_int))))) (dss_one (ds_ret de_bl)) dss_nil)
    (dss_one (ds_ret (de_callB (cr_all rfl) lc_all rfl T.z_all bt_all (da_cons (de_lc (own := [("_law_letter", 1)]) rfl sc__law_is_key.nd (blkOk_by (show blkC ["_law_thing", "_law_letter"] (defScope s__law_is_key) _ [("_law_letter", 1)] = true by decide +kernel)) (own_name (by decide)) (di_seq (dv 0)) (fun _ _ _ _ _ => (pg_name (i := 1) sc__law_is_key.nd rfl (by first | exact Or.inl rfl | exact Or.inr rfl) (by first | exact .inl rfl | exact .inr rfl))) (fun _ _ _ _ _ => dts_nil) (fun _ _ _ _ _ => (de_cmp opr_in lr_in (dv 1) de_str (by with_unfolding_all rfl)))) da_nil)))))) fun ds μ Q E h => read__law_is_key ds μ Q E h
theorem ok_is_cost (T : All K mg w.params) : FnD P w base T.is_cost 2 sp_is_cost := by
  have F_is_key := ok_is_key (P := P) (w := w) (base := base) T
  exact def_ok (k := 1) T.is_cost.F sc_is_cost _ (len_of (n := 1) len_is_cost) (fun cdv A outer s H E hq hr => (dss_cons (ds_if (PW.pt (dw_or (dt_not (dt_val (de_callB call_isi lc_isi rfl T.z_isinstance bt_isinstance (da_cons (dv 0) (da_cons (de_ty rfl T.z_tuple bt_tuple) da_nil))))) (dw_or (dt_cmp (opr_ne (unit64 hr)) lr_ne (de_callB cr_len lc_len rfl T.z_len bt_len (da_cons (dv 0) da_nil)) (de_gint T.c_PAIR) (nomark _)) (dw_or1 (dt_not (dt_val (de_def F_is_key hq hr (da_cons (de_ix (dv 0) de_int (fun _ _ => rfl)) da_nil)))))))) (dss_one (ds_ret de_bl)) dss_nil)
    (dss_one (ds_ret (de_and (de_callB call_isi lc_isi rfl T.z_isinstance bt_isinstance (da_cons (de_ix (dv 0) de_int (fun _ _ => rfl)) (da_cons (de_ty rfl T.z_int bt_int) da_nil))) (de_and (de_not (de_callB call_isi lc_isi rfl T.z_isinstance bt_isinstance (da_cons (de_ix (dv 0) de_int (fun _ _ => rfl)) (da_cons (de_ty rfl T.z_bool bt_bool) da_nil)))) (de_one (de_chain opr_le lr_cmp opr_le lr_cmp (de_gint T.c_LEAST_COST) (de_ix (dv 0) de_int (fun _ _ => rfl)) (de_gint T.c_MOST_COST))))))))) fun ds μ Q E h => read_is_cost ds μ Q E h
theorem ok_cost_of (T : All K mg w.params) : FnD P w base T.cost_of 2 sp_cost_of := by
  have F_price_of := ok_price_of (P := P) (w := w) (base := base) T
  exact def_ok (k := 1) T.cost_of.F sc_cost_of _ (len_of (n := 2) len_cost_of) (fun cdv A outer s H E hq hr => (dss_one (ds_ret (de_callB (cr_sum rfl) lc_sum rfl T.z_sum bt_sum (da_cons (de_lc (own := [("operation", 2)]) rfl sc_cost_of.nd (blkOk_by (show blkC ["operations", "costs", "operation"] (defScope s_cost_of) _ [("operation", 2)] = true by decide +kernel)) (own_name (by decide)) (di_seq (dv 0)) (fun _ _ _ _ _ => (pg_name (i := 2) sc_cost_of.nd rfl (by first | exact Or.inl rfl | exact Or.inr rfl) (by first | exact .inl rfl | exact .inr rfl))) (fun _ _ _ _ _ => (dts_one (dt_cmp (opr_eq (unit64 hr)) lr_eq (de_ix (dv 2) de_int (fun _ _ => rfl)) (de_gstr T.c_MOVE) (nomark _)))) (fun _ _ _ _ _ => (de_def F_price_of hq hr (da_cons (dv 1) (da_cons (de_ix (dv 2) de_int (fun _ _ => rfl)) da_nil))))) da_nil))))) fun ds μ Q E h => read_cost_of ds μ Q E h
theorem ok__law_of (T : All K mg w.params) : FnD P w base T._law_of 2 sp__law_of := by
  have F__law_take := ok__law_take (P := P) (w := w) (base := base) T
  exact def_ok (k := 1) T._law_of.F sc__law_of _ (len_of (n := 2) len__law_of) (fun cdv A outer s H E hq hr => (dss_one (ds_ret (de_ix (dv 1) (de_def F__law_take hq hr (da_cons (dv 0) (da_cons (de_callB cr_len lc_len rfl T.z_len bt_len (da_cons (dv 1) da_nil)) da_nil))) (fun _ _ => rfl))))) fun ds μ Q E h => read__law_of ds μ Q E h
theorem ok__law_mixed (T : All K mg w.params) : FnD P w base T._law_mixed 2 sp__law_mixed := by
  have F__law_take := ok__law_take (P := P) (w := w) (base := base) T
  exact def_ok (k := 1) T._law_mixed.F sc__law_mixed _ (len_of (n := 2) len__law_mixed) (fun cdv A outer s H E hq hr => (dss_cons (ds_par (i := 2) (j := 3) rfl sc__law_mixed.nd rfl rfl (by decide) rfl rfl (da_cons (de_callT call_list_of lc_listM rfl T.z_list bt_list (da_cons (dv 1) da_nil)) (da_cons (de_lstM da_nil) da_nil)) rfl)
    (dss_cons (ds_while PassesOwn.never (dt_cmp (opr_neL0 (unit64 hr)) lr_L0 (dv 2) (de_lst da_nil) (nomark _)) (dss_one (ds_expr (de_append (dv 3) (de_popAt (dv 2) (de_def F__law_take hq hr (da_cons (dv 0) (da_cons (de_callB cr_len lc_len rfl T.z_len bt_len (da_cons (dv 2) da_nil)) da_nil))))))))
    (dss_one (ds_retF (dv 3)))))) fun ds μ Q E h => read__law_mixed ds μ Q E h
theorem ok__law_are_prices (T : All K mg w.params) : FnD P w base T._law_are_prices 2 sp__law_are_prices := by
  have F__law_is_key := ok__law_is_key (P := P) (w := w) (base := base) T
  exact def_ok (k := 1) T._law_are_prices.F sc__law_are_prices _ (len_of (n := 1) len__law_are_prices) (fun cdv A outer s H E hq hr => (dss_cons (ds_if (dt_not (dt_val (de_callB call_isi lc_isi rfl T.z_isinstance bt_isinstance (da_cons (dv 0) (da_cons (de_ty rfl T.z_tuple bt_tuple) da_nil))))) (dss_one (ds_ret de_bl)) dss_nil)
    (dss_cons (ds_for PassesOwn.never rfl (di_seq (dv 0)) (dg_name (i := 1) sc__law_are_prices.nd rfl (by first | exact Or.inl rfl | exact Or.inr rfl)) (dss_cons (ds_if (PW.pt (dw_or (dt_not (dt_val (de_callB call_isi lc_isi rfl T.z_isinstance bt_isinstance (da_cons (dv 1) (da_cons (de_ty rfl T.z_tuple bt_tuple) da_nil))))) (dw_or (dt_cmp (opr_ne (unit64 hr)) lr_ne (de_callB cr_len lc_len rfl T.z_len bt_len (da_cons (dv 1) da_nil)) de_int (nomark _)) (dw_or1 (dt_not (dt_val (de_def F__law_is_key hq hr (da_cons (de_ix (dv 1) de_int (fun _ _ => rfl)) da_nil)))))))) (dss_one (ds_ret de_bl)) dss_nil)
    (dss_one (ds_if (PW.pt (dw_or (dt_not (dt_val (de_callB call_isi lc_isi rfl T.z_isinstance bt_isinstance (da_cons (de_ix (dv 1) de_int (fun _ _ => rfl)) (da_cons (de_ty rfl T.z_int bt_int) da_nil))))) (dw_or (dt_val (de_callB call_isi lc_isi rfl T.z_isinstance bt_isinstance (da_cons (de_ix (dv 1) de_int (fun _ _ => rfl)) (da_cons (de_ty rfl T.z_bool bt_bool) da_nil)))) (dw_or1 (dt_not (dt_chain opr_le lr_cmp opr_le lr_cmp de_int (de_ix (dv 1) de_int (fun _ _ => rfl)) de_int)))))) (dss_one (ds_ret de_bl)) dss_nil))))
    (dss_cons (ds_setLc (own := [("_law_pair", 1)]) rfl sc__law_are_prices.nd (blkOk_by (show blkC ["_law_thing", "_law_pair", "_law_names"] (defScope s__law_are_prices) _ [("_law_pair", 1)] = true by decide +kernel)) (own_name (by decide)) (di_seq (dv 0)) (fun _ _ _ _ _ => (pg_name (i := 1) sc__law_are_prices.nd rfl (by first | exact Or.inl rfl | exact Or.inr rfl) (by first | exact .inl rfl | exact .inr rfl))) (fun _ _ _ _ _ => dts_nil) (fun _ _ _ _ _ => (de_ix (dv 1) de_int (fun _ _ => rfl))) (i := 2) rfl rfl rfl)
    (dss_one (ds_ret (de_cmp (opr_eq (unit64 hr)) lr_eq (dv 2) (de_sortSet rfl T.z_sorted rfl T.z_set (dv 2)) (nomark _)))))))) fun ds μ Q E h => read__law_are_prices ds μ Q E h
theorem ok_are_costs (T : All K mg w.params) : FnD P w base T.are_costs 3 sp_are_costs := by
  have F_is_cost := ok_is_cost (P := P) (w := w) (base := base) T
  exact def_ok (k := 2) T.are_costs.F sc_are_costs _ (len_of (n := 1) len_are_costs) (fun cdv A outer s H E hq hr => (dss_cons (ds_if (PW.pt (dw_or (dt_not (dt_val (de_callB call_isi lc_isi rfl T.z_isinstance bt_isinstance (da_cons (dv 0) (da_cons (de_ty rfl T.z_tuple bt_tuple) da_nil))))) (dw_or1 (dt_not (dt_val (de_callB (cr_all rfl) lc_all rfl T.z_all bt_all (da_cons (de_lc (own := [("pair", 1)]) rfl sc_are_costs.nd (blkOk_by (show blkC ["value", "pair", "later"] (defScope s_are_costs) _ [("pair", 1)] = true by decide +kernel)) (own_name (by decide)) (di_seq (dv 0)) (fun _ _ _ _ _ => (pg_name (i := 1) sc_are_costs.nd rfl (by first | exact Or.inl rfl | exact Or.inr rfl) (by first | exact .inl rfl | exact .inr rfl))) (fun _ _ _ _ _ => dts_nil) (fun _ _ _ _ _ => (de_def F_is_cost hq hr (da_cons (dv 1) da_nil)))) da_nil))))))) (dss_one (ds_ret de_bl)) dss_nil)
    (dss_one (ds_ret (de_callB (cr_all rfl) lc_all rfl T.z_all bt_all (da_cons (de_lc (own := [("pair", 1), ("later", 2)]) rfl sc_are_costs.nd (blkOk_by (show blkC ["value", "pair", "later"] (defScope s_are_costs) _ [("pair", 1), ("later", 2)] = true by decide +kernel)) (own_tup (by decide)) (di_zip rfl T.z_zip (da_cons (dv 0) (da_cons (de_slice (dv 0) (do_some de_int) do_none) da_nil))) (fun _ _ _ _ _ => (pg_tup rfl (pgs_cons (pg_name (i := 1) sc_are_costs.nd rfl (by first | exact Or.inl rfl | exact Or.inr rfl) (by first | exact .inl rfl | exact .inr rfl)) (pgs_cons (pg_name (i := 2) sc_are_costs.nd rfl (by first | exact Or.inl rfl | exact Or.inr rfl) (by first | exact .inl rfl | exact .inr rfl)) pgs_nil rfl) rfl) rfl)) (fun _ _ _ _ _ => dts_nil) (fun _ _ _ _ _ => (de_cmp opr_lt lr_lt (de_ix (dv 1) de_int (fun _ _ => rfl)) (de_ix (dv 2) de_int (fun _ _ => rfl)) (nomark _)))) da_nil)))))) fun ds μ Q E h => read_are_costs ds μ Q E h
theorem ok__law_keys (T : All K mg w.params) : FnD P w base T._law_keys 3 sp__law_keys := by
  have F__law_of := ok__law_of (P := P) (w := w) (base := base) T
  have F__law_take := ok__law_take (P := P) (w := w) (base := base) T
  exact def_ok (k := 2) T._law_keys.F sc__law_keys _ (len_of (n := 2) len__law_keys) (fun cdv A outer s H E hq hr => (dss_cons (ds_set (i := 2) sc__law_keys.nd rfl (by first | exact Or.inl rfl | exact Or.inr rfl) de_str)
    (dss_cons (ds_par (i := 3) (j := 4) rfl sc__law_keys.nd rfl rfl (by decide) rfl rfl (da_cons (de_def F__law_take hq hr (da_cons (dv 0) (da_cons de_int da_nil))) (da_cons (de_def F__law_of hq hr (da_cons (dv 0) (da_cons (de_lst (da_cons de_int (da_cons de_int (da_cons de_int (da_cons de_int (da_cons de_int (da_cons de_int da_nil))))))) da_nil))) da_nil)) rfl)
    (dss_cons (ds_set (i := 5) sc__law_keys.nd rfl (by first | exact Or.inl rfl | exact Or.inr rfl) (de_op opr_mul lr_mul (de_def F__law_of hq hr (da_cons (dv 0) (da_cons (dv 2) da_nil))) (de_def F__law_of hq hr (da_cons (dv 0) (da_cons (de_lst (da_cons de_int (da_cons de_int (da_cons de_int (da_cons de_int (da_cons de_int da_nil)))))) da_nil)))))
    (dss_cons (ds_set (i := 6) sc__law_keys.nd rfl (by first | exact Or.inl rfl | exact Or.inr rfl) (de_lstM da_nil))
    (dss_cons (ds_for PassesOwn.never rfl (di_range1 rfl T.z_range (da_cons (dv 1) da_nil)) (dg_name (i := 7) sc__law_keys.nd rfl (by first | exact Or.inl rfl | exact Or.inr rfl)) (dss_cons (ds_set (i := 8) sc__law_keys.nd rfl (by first | exact Or.inl rfl | exact Or.inr rfl) (de_ifExp (dt_cmp opr_gt lr_cmp (dv 7) de_int (nomark _)) (de_ix (dv 2) (de_op op_sub lr_sub (de_op op_fdivW lr_i2 (dv 7) de_int) de_int) (fun _ _ => rfl)) de_str))
    (dss_one (ds_expr (de_append (dv 6) (de_op opr_add lr_add (de_op opr_add lr_add (dv 5) (de_ix (dv 2) (de_op op_mod lr_i2 (de_op opr_add lr_add (dv 3) (de_op opr_mul lr_mul (dv 4) (dv 7))) de_int) (fun _ _ => rfl))) (dv 8)))))))
    (dss_one (ds_retF (dv 6))))))))) fun ds μ Q E h => read__law_keys ds μ Q E h
theorem ok__law_odd (T : All K mg w.params) : FnD P w base T._law_odd 3 sp__law_odd := by
  have F__law_of := ok__law_of (P := P) (w := w) (base := base) T
  have F__law_take := ok__law_take (P := P) (w := w) (base := base) T
  exact def_ok (k := 2) T._law_odd.F sc__law_odd _ (len_of (n := 1) len__law_odd) (fun cdv A outer s H E hq hr => (dss_cons (ds_set (i := 1) sc__law_odd.nd rfl (by first | exact Or.inl rfl | exact Or.inr rfl) (de_lst (da_cons de_non (da_cons de_bl (da_cons de_bl (da_cons de_int (da_cons de_int (da_cons (de_neg de_int) (da_cons (de_op op_powW lr_i2 de_int de_int) (da_cons de_str (da_cons de_str (da_cons de_str (da_cons de_str (da_cons de_str (da_cons de_str (da_cons (de_tup da_nil) (da_cons (de_lst da_nil) (da_cons de_dict0S (da_cons (de_tup (da_cons de_str (da_cons (de_tup da_nil) da_nil))) (da_cons (de_tup (da_cons de_str da_nil)) da_nil))))))))))))))))))))
    (dss_cons (ds_set (i := 2) sc__law_odd.nd rfl (by first | exact Or.inl rfl | exact Or.inr rfl) (de_def F__law_of hq hr (da_cons (dv 0) (da_cons (de_op opr_add lr_add (dv 1) (de_lst (da_cons (de_tup (da_cons de_str (da_cons de_str (da_cons de_str (da_cons de_non da_nil))))) (da_cons (de_tup (da_cons de_str (da_cons de_str da_nil))) (da_cons (de_tup (da_cons (de_tup (da_cons de_str (da_cons de_int da_nil))) da_nil)) da_nil))))) da_nil))))
    (dss_cons (ds_for PassesOwn.never rfl (di_range1 rfl T.z_range (da_cons (de_def F__law_of hq hr (da_cons (dv 0) (da_cons (de_lst (da_cons de_int (da_cons de_int (da_cons de_int (da_cons de_int (da_cons de_int (da_cons de_int da_nil))))))) da_nil))) da_nil)) (dg_name (i := 3) sc__law_odd.nd rfl (by first | exact Or.inl rfl | exact Or.inr rfl)) (dss_one (ds_set (i := 2) sc__law_odd.nd rfl (by first | exact Or.inl rfl | exact Or.inr rfl) (de_ifExp (dt_cmp (opr_eq (unit64 hr)) lr_eq (de_def F__law_take hq hr (da_cons (dv 0) (da_cons de_int da_nil))) de_int (nomark _)) (de_tup (da_cons (dv 2) da_nil)) (de_lst (da_cons (dv 2) da_nil))))))
    (dss_one (ds_ret (dv 2))))))) fun ds μ Q E h => read__law_odd ds μ Q E h
theorem ok__law_great_right (T : All K mg w.params) : FnD P w base T._law_great_right 4 sp__law_great_right := by
  have F_cost_of := ok_cost_of (P := P) (w := w) (base := base) T
  have F_moved := ok_moved (P := P) (w := w) (base := base) T
  have F__law_keys := ok__law_keys (P := P) (w := w) (base := base) T
  have F_are_costs := ok_are_costs (P := P) (w := w) (base := base) T
  exact def_ok (k := 3) T._law_great_right.F sc__law_great_right _ (len_of (n := 1) len__law_great_right) (fun cdv A outer s H E hq hr => (dss_cons (ds_set (i := 1) sc__law_great_right.nd rfl (by first | exact Or.inl rfl | exact Or.inr rfl) (de_callB cr_sortedL lc_sortedL rfl T.z_sorted bt_sorted (da_cons (de_def F__law_keys hq hr (da_cons (dv 0) (da_cons de_int da_nil))) da_nil)))
    (dss_cons (ds_set (i := 2) sc__law_great_right.nd rfl (by first | exact Or.inl rfl | exact Or.inr rfl) (de_callT call_tupleP lc_tupleP rfl T.z_tuple bt_tuple (da_cons (de_lc (own := [("_law_nth", 4), ("_law_name", 5)]) rfl sc__law_great_right.nd (blkOk_by (show blkC ["_law_hand_here", "_law_names", "_law_told", "_law_deeds", "_law_nth", "_law_name"] (defScope s__law_great_right) _ [("_law_nth", 4), ("_law_name", 5)] = true by decide +kernel)) (own_tup (by decide)) (di_enum rfl T.z_enumerate (da_cons (dv 1) da_nil)) (fun _ _ _ _ _ => (pg_tup rfl (pgs_cons (pg_name (i := 4) sc__law_great_right.nd rfl (by first | exact Or.inl rfl | exact Or.inr rfl) (by first | exact .inl rfl | exact .inr rfl)) (pgs_cons (pg_name (i := 5) sc__law_great_right.nd rfl (by first | exact Or.inl rfl | exact Or.inr rfl) (by first | exact .inl rfl | exact .inr rfl)) pgs_nil rfl) rfl) rfl)) (fun _ _ _ _ _ => dts_nil) (fun _ _ _ _ _ => (de_tup (da_cons (dv 5) (da_cons (de_op opr_add lr_add de_int (dv 4)) da_nil))))) da_nil)))
    (dss_cons (ds_set (i := 3) sc__law_great_right.nd rfl (by first | exact Or.inl rfl | exact Or.inr rfl) (de_callT call_tuple_of lc_tuple rfl T.z_tuple bt_tuple (da_cons (de_lc (own := [("_law_name", 5)]) rfl sc__law_great_right.nd (blkOk_by (show blkC ["_law_hand_here", "_law_names", "_law_told", "_law_deeds", "_law_nth", "_law_name"] (defScope s__law_great_right) _ [("_law_name", 5)] = true by decide +kernel)) (own_name (by decide)) (di_seq (de_op opr_add lr_add (dv 1) (de_slice (dv 1) do_none (do_some de_int)))) (fun _ _ _ _ _ => (pg_name (i := 5) sc__law_great_right.nd rfl (by first | exact Or.inl rfl | exact Or.inr rfl) (by first | exact .inl rfl | exact .inr rfl))) (fun _ _ _ _ _ => dts_nil) (fun _ _ _ _ _ => (de_tup (da_cons de_str (da_cons (dv 5) (da_cons de_str (da_cons de_non da_nil))))))) da_nil)))
    (dss_cons (ds_if (PW.pt (dw_or (dt_not (dt_val (de_def F_are_costs hq hr (da_cons (de_fg (dv 2)) da_nil)))) (dw_or (dt_val (de_def F_are_costs hq hr (da_cons (de_op opr_add lr_add (de_fg (dv 2)) (de_slice (de_fg (dv 2)) (do_some (de_neg de_int)) do_none)) da_nil))) (dw_or1 (dt_val (de_def F_are_costs hq hr (da_cons (de_op opr_add lr_add (de_slice (de_fg (dv 2)) (do_some de_int) do_none) (de_slice (de_fg (dv 2)) do_none (do_some de_int))) da_nil))))))) (dss_one (ds_ret de_bl)) dss_nil)
    (dss_one (ds_ret (de_and (de_cmp (opr_eq (unit64 hr)) lr_eq (de_def F_cost_of hq hr (da_cons (dv 3) (da_cons (dv 2) da_nil))) (de_op opr_add lr_add (de_op opr_mul lr_mul de_int de_int) (de_op opr_mul lr_mul de_int de_int)) (nomark _)) (de_one (de_cmp (opr_eq (unit64 hr)) lr_eq (de_def F_moved hq hr (da_cons (dv 3) da_nil)) (de_callT call_tuple_of lc_tuple rfl T.z_tuple bt_tuple (da_cons (dv 1) da_nil)) (nomark _))))))))))) fun ds μ Q E h => read__law_great_right ds μ Q E h
theorem ok__law_bent (T : All K mg w.params) : ∀ n, FnD P w base T._law_bent (n + 4) (sp__law_bent n) := by
  have F__law_take := ok__law_take (P := P) (w := w) (base := base) T
  have F__law_odd := ok__law_odd (P := P) (w := w) (base := base) T
  have F__law_of := ok__law_of (P := P) (w := w) (base := base) T
  intro n
  induction n with
  | zero => exact (FnG.no _ _ _).imp fun vs H Q E h => by obtain ⟨_, _, _, _, _, _, _, h, _⟩ := h; exact (no__law_bent h).elim
  | succ n ih =>
    have F__law_bent := ih
    exact def_ok (k := n + 4) T._law_bent.F sc__law_bent _ (len_of (n := 2) len__law_bent) (fun cdv A outer s H E hq hr => (dss_cons (ds_if (PW.pt (dw_and (dt_val (de_callB call_isi lc_isi rfl T.z_isinstance bt_isinstance (da_cons (dv 1) (da_cons (de_ty rfl T.z_tuple bt_tuple) da_nil)))) (dw_and (dt_cmp (opr_neT0 (unit64 hr)) lr_T0 (dv 1) (de_tup da_nil) (nomark _)) (dw_and1 (dt_cmp opr_gt lr_cmp (de_def F__law_take hq hr (da_cons (dv 0) (da_cons de_int da_nil))) de_int (nomark _)))))) (dss_cons (ds_par (i := 2) (j := 3) rfl sc__law_bent.nd rfl rfl (by decide) rfl rfl (da_cons (de_def F__law_take hq hr (da_cons (dv 0) (da_cons (de_callB cr_len lc_len rfl T.z_len bt_len (da_cons (dv 1) da_nil)) da_nil))) (da_cons (de_def F__law_take hq hr (da_cons (dv 0) (da_cons de_int da_nil))) da_nil)) rfl)
    (dss_cons (ds_if (dt_cmp opr_lt lr_lt (dv 3) de_int (nomark _)) (dss_one (ds_ret (de_op opr_add lr_add (de_op opr_add lr_add (de_slice (dv 1) do_none (do_some (dv 2))) (de_tup (da_cons (de_def F__law_bent hq hr (da_cons (dv 0) (da_cons (de_ix (dv 1) (dv 2) (fun _ _ => rfl)) da_nil))) da_nil))) (de_slice (dv 1) (do_some (de_op opr_add lr_add (dv 2) de_int)) do_none)))) dss_nil)
    (dss_one (ds_ret (de_ix (de_lst (da_cons (de_op opr_add lr_add (de_slice (dv 1) do_none (do_some (dv 2))) (de_slice (dv 1) (do_some (de_op opr_add lr_add (dv 2) de_int)) do_none)) (da_cons (de_op opr_add lr_add (de_slice (dv 1) do_none (do_some (de_op opr_add lr_add (dv 2) de_int))) (de_slice (dv 1) (do_some (dv 2)) do_none)) (da_cons (de_revX (dv 1)) (da_cons (de_callT call_list_of lc_list rfl T.z_list bt_list (da_cons (dv 1) da_nil)) da_nil))))) (de_op op_sub lr_sub (dv 3) de_int) (fun _ _ => rfl)))))) dss_nil)
    (dss_cons (ds_if (PW.pt (dw_and (dt_val (de_callB call_isi lc_isi rfl T.z_isinstance bt_isinstance (da_cons (dv 1) (da_cons (de_ty rfl T.z_str bt_str) da_nil)))) (dw_and1 (dt_cmp opr_gt lr_cmp (de_def F__law_take hq hr (da_cons (dv 0) (da_cons de_int da_nil))) de_int (nomark _))))) (dss_one (ds_ret (de_def F__law_of hq hr (da_cons (dv 0) (da_cons (de_lst (da_cons (de_op opr_add lr_add (dv 1) de_str) (da_cons (de_slice (dv 1) (do_some de_int) do_none) (da_cons (de_upper (dv 1)) (da_cons (de_op opr_add lr_add (dv 1) de_str) (da_cons (de_revX (dv 1)) (da_cons (de_lst (da_cons (dv 1) da_nil)) (da_cons de_str (da_cons de_str da_nil))))))))) da_nil))))) dss_nil)
    (dss_cons (ds_if (PW.pt (dw_and (dt_val (de_callB call_isi lc_isi rfl T.z_isinstance bt_isinstance (da_cons (dv 1) (da_cons (de_ty rfl T.z_int bt_int) da_nil)))) (dw_and1 (dt_cmp opr_gt lr_cmp (de_def F__law_take hq hr (da_cons (dv 0) (da_cons de_int da_nil))) de_int (nomark _))))) (dss_one (ds_ret (de_def F__law_of hq hr (da_cons (dv 0) (da_cons (de_lst (da_cons (de_op opr_addB lr_IB (dv 1) de_int) (da_cons (de_op opr_subB lr_IB (dv 1) de_int) (da_cons (de_op opr_subB lr_IB de_int (dv 1)) (da_cons de_int (da_cons de_int (da_cons (de_cmp (opr_eq (unit64 hr)) lr_eq (dv 1) de_int (nomark _)) (da_cons (de_callT cr_strOf lc_strOf rfl T.z_str bt_str (da_cons (dv 1) da_nil)) (da_cons de_non da_nil))))))))) da_nil))))) dss_nil)
    (dss_one (ds_ret (de_def F__law_of hq hr (da_cons (dv 0) (da_cons (de_lst (da_cons (de_def F__law_odd hq hr (da_cons (dv 0) da_nil)) (da_cons (de_def F__law_odd hq hr (da_cons (dv 0) da_nil)) (da_cons (de_tup (da_cons (dv 1) da_nil)) (da_cons (de_lst (da_cons (dv 1) da_nil)) da_nil))))) da_nil))))))))) fun ds μ Q E h => read__law_bent n ds μ Q E h
theorem ok__law_right (T : All K mg w.params) : FnD P w base T._law_right 69 sp__law_right := by
  have F__law_mixed := ok__law_mixed (P := P) (w := w) (base := base) T
  have F_moved := ok_moved (P := P) (w := w) (base := base) T
  have F__law_keys := ok__law_keys (P := P) (w := w) (base := base) T
  have F_are_costs := ok_are_costs (P := P) (w := w) (base := base) T
  have F__law_take := ok__law_take (P := P) (w := w) (base := base) T
  have F__law_bent := ok__law_bent (P := P) (w := w) (base := base) T 64
  have F_cost_of := ok_cost_of (P := P) (w := w) (base := base) T
  have F__law_of := ok__law_of (P := P) (w := w) (base := base) T
  have F__law_are_prices := ok__law_are_prices (P := P) (w := w) (base := base) T
  have F__law_odd := ok__law_odd (P := P) (w := w) (base := base) T
  exact def_ok (k := 68) T._law_right.F sc__law_right _ (len_of (n := 1) len__law_right) (fun cdv A outer s H E hq hr => (dss_cons (ds_asg (de_tup (da_cons (de_def F__law_keys hq hr (da_cons (dv 0) (da_cons de_int da_nil))) (da_cons (de_lstM da_nil) (da_cons de_int da_nil)))) (dg_tup rfl (dgs_cons (dg_name (i := 1) sc__law_right.nd rfl (by first | exact Or.inl rfl | exact Or.inr rfl)) (dgs_cons (dg_name (i := 2) sc__law_right.nd rfl (by first | exact Or.inl rfl | exact Or.inr rfl)) (dgs_cons (dg_name (i := 3) sc__law_right.nd rfl (by first | exact Or.inl rfl | exact Or.inr rfl)) dgs_nil)))))
    (dss_cons (ds_set (i := 4) sc__law_right.nd rfl (by first | exact Or.inl rfl | exact Or.inr rfl) de_dict0M)
    (dss_cons (ds_for PassesOwn.never rfl (di_seq (de_slice (dv 1) do_none (do_some (de_def F__law_take hq hr (da_cons (dv 0) (da_cons de_int da_nil)))))) (dg_name (i := 5) sc__law_right.nd rfl (by first | exact Or.inl rfl | exact Or.inr rfl)) (dss_one (ds_dput (hu_of hr) (dv 4) (dv 5) (de_def F__law_of hq hr (da_cons (dv 0) (da_cons (de_lst (da_cons de_int (da_cons de_int (da_cons (de_op opr_add lr_add de_int (de_def F__law_take hq hr (da_cons (dv 0) (da_cons de_int da_nil)))) (da_cons de_int da_nil))))) da_nil))) rfl)))
    (dss_cons (ds_set (i := 6) sc__law_right.nd rfl (by first | exact Or.inl rfl | exact Or.inr rfl) (de_callT call_tupleP lc_tupleP rfl T.z_tuple bt_tuple (da_cons (de_callB cr_sortedSI lc_sortedSI rfl T.z_sorted bt_sorted (da_cons (de_listIt (dv 4) rfl T.z_list) da_nil)) da_nil)))
    (dss_cons (ds_for PassesOwn.never rfl (di_range1 rfl T.z_range (da_cons (de_def F__law_take hq hr (da_cons (dv 0) (da_cons de_int da_nil))) da_nil)) (dg_name (i := 7) sc__law_right.nd rfl (by first | exact Or.inl rfl | exact Or.inr rfl)) (dss_cons (ds_par (i := 11) (j := 5) rfl sc__law_right.nd rfl rfl (by decide) rfl rfl (da_cons (de_def F__law_of hq hr (da_cons (dv 0) (da_cons (de_lst (da_cons de_str (da_cons de_str (da_cons de_str (da_cons de_str (da_cons de_str da_nil)))))) da_nil))) (da_cons (de_def F__law_of hq hr (da_cons (dv 0) (da_cons (dv 1) da_nil))) da_nil)) rfl)
    (dss_cons (ds_expr (de_append (dv 2) (de_slice (de_tup (da_cons (dv 11) (da_cons (dv 5) (da_cons (de_ix (dv 1) de_int (fun _ _ => rfl)) (da_cons de_non da_nil))))) do_none (do_some (de_op opr_add lr_add de_int (de_op opr_mul lr_mul de_int (de_callT call_int1 lc_int rfl T.z_int bt_int (da_cons (de_cmp (opr_ne (unit64 hr)) lr_ne (dv 11) de_str (nomark _)) da_nil))))))))
    (dss_one (ds_set (i := 3) sc__law_right.nd rfl (by first | exact Or.inl rfl | exact Or.inr rfl) (de_op opr_add lr_add (dv 3) (de_op opr_mul lr_mul (de_dget2 (hu_of hr) (dv 4) (dv 5) de_int ⟨by rfl, by rfl, by rfl, by rfl⟩) (de_callT call_int1 lc_int rfl T.z_int bt_int (da_cons (de_cmp (opr_eq (unit64 hr)) lr_eq (dv 11) de_str (nomark _)) da_nil)))))))))
    (dss_cons (ds_set (i := 8) sc__law_right.nd rfl (by first | exact Or.inl rfl | exact Or.inr rfl) (de_callT call_tuple_of lc_tuple rfl T.z_tuple bt_tuple (da_cons (de_sortSet rfl T.z_sorted rfl T.z_set (de_lc (own := [("_law_deed", 15)]) rfl sc__law_right.nd (blkOk_by (show blkC ["_law_hand_here", "_law_names", "_law_deeds", "_law_total", "_law_price", "_law_name", "_law_told", "_law_turn", "_law_due", "_law_things", "_law_thing", "_law_word", "_law_bent_here", "_law_seen", "_law_some", "_law_deed"] (defScope s__law_right) _ [("_law_deed", 15)] = true by decide +kernel)) (own_name (by decide)) (di_seq (dv 2)) (fun _ _ _ _ _ => (pg_name (i := 15) sc__law_right.nd rfl (by first | exact Or.inl rfl | exact Or.inr rfl) (by first | exact .inl rfl | exact .inr rfl))) (fun _ _ _ _ _ => (dts_one (dt_cmp (opr_eq (unit64 hr)) lr_eq (de_ix (dv 15) de_int (fun _ _ => rfl)) de_str (nomark _)))) (fun _ _ _ _ _ => (de_ix (dv 15) de_int (fun _ _ => rfl))))) da_nil)))
    (dss_cons (ds_if (dt_cmp (opr_ne (unit64 hr)) lr_ne (de_callB (cr_reprQ hq (unit66 hr)) lc_reprQ rfl T.z_repr bt_repr (da_cons (de_lst (da_cons (de_def F_moved hq hr (da_cons (de_callT call_tuple_of lc_tuple rfl T.z_tuple bt_tuple (da_cons (dv 2) da_nil)) da_nil)) (da_cons (de_defK0 F_moved hq hr (T.kb_moved_0_operations) (dk_cons (de_callT call_tuple_of lc_tuple rfl T.z_tuple bt_tuple (da_cons (dv 2) da_nil)) dk_nil)) da_nil))) da_nil)) (de_callB (cr_reprQ hq (unit66 hr)) lc_reprQ rfl T.z_repr bt_repr (da_cons (de_lst (da_cons (dv 8) (da_cons (dv 8) da_nil))) da_nil)) (nomark _)) (dss_one (ds_ret de_bl)) dss_nil)
    (dss_cons (ds_if (dt_cmp (opr_ne (unit64 hr)) lr_ne (de_callB (cr_reprQ hq (unit66 hr)) lc_reprQ rfl T.z_repr bt_repr (da_cons (de_lst (da_cons (de_def F_cost_of hq hr (da_cons (de_callT call_tuple_of lc_tuple rfl T.z_tuple bt_tuple (da_cons (dv 2) da_nil)) (da_cons (dv 6) da_nil))) (da_cons (de_defK0 F_cost_of hq hr (T.kb_cost_of_0_costs_operations) (dk_cons (dv 6) (dk_cons (de_callT call_tuple_of lc_tuple rfl T.z_tuple bt_tuple (da_cons (dv 2) da_nil)) dk_nil))) da_nil))) da_nil)) (de_callB (cr_reprQ hq (unit66 hr)) lc_reprQ rfl T.z_repr bt_repr (da_cons (de_lst (da_cons (dv 3) (da_cons (dv 3) da_nil))) da_nil)) (nomark _)) (dss_one (ds_ret de_bl)) dss_nil)
    (dss_cons (ds_set (i := 9) sc__law_right.nd rfl (by first | exact Or.inl rfl | exact Or.inr rfl) (de_lstM (da_cons (de_fg (dv 6)) (da_cons (de_tup da_nil) (da_cons (de_callT call_list_of lc_list rfl T.z_list bt_list (da_cons (de_fg (dv 6)) da_nil)) (da_cons (de_rev (de_fg (dv 6))) (da_cons (de_op op_repA lr_mulTA (de_slice (de_fg (dv 6)) do_none (do_some de_int)) de_int) (da_cons (de_callT call_tuple_of lc_tuple rfl T.z_tuple bt_tuple (da_cons (de_def F__law_mixed hq hr (da_cons (dv 0) (da_cons (de_fg (dv 6)) da_nil))) da_nil)) da_nil))))))))
    (dss_cons (ds_expr (de_append (dv 9) (de_tup (da_cons (de_tup (da_cons (de_ix (dv 1) de_int (fun _ _ => rfl)) (da_cons de_int da_nil))) (da_cons (de_tup (da_cons (de_ix (dv 1) de_int (fun _ _ => rfl)) (da_cons de_int da_nil))) da_nil)))))
    (dss_cons (ds_set (i := 9) sc__law_right.nd rfl (by first | exact Or.inl rfl | exact Or.inr rfl) (de_op op_cat lr_addM (dv 9) (de_lc (own := [("_law_some", 14)]) rfl sc__law_right.nd (blkOk_by (show blkC ["_law_hand_here", "_law_names", "_law_deeds", "_law_total", "_law_price", "_law_name", "_law_told", "_law_turn", "_law_due", "_law_things", "_law_thing", "_law_word", "_law_bent_here", "_law_seen", "_law_some", "_law_deed"] (defScope s__law_right) _ [("_law_some", 14)] = true by decide +kernel)) (own_name (by decide)) (di_seq (de_tup (da_cons de_int (da_cons de_int (da_cons de_int (da_cons de_int (da_cons de_bl (da_cons de_str (da_cons de_non da_nil))))))))) (fun _ _ _ _ _ => (pg_name (i := 14) sc__law_right.nd rfl (by first | exact Or.inl rfl | exact Or.inr rfl) (by first | exact .inl rfl | exact .inr rfl))) (fun _ _ _ _ _ => dts_nil) (fun _ _ _ _ _ => (de_tup (da_cons (de_tup (da_cons (de_ix (dv 1) de_int (fun _ _ => rfl)) (da_cons (dv 14) da_nil))) da_nil))))))
    (dss_cons (ds_for PassesOwn.never rfl (di_range1 rfl T.z_range (da_cons de_int da_nil)) (dg_name (i := 7) sc__law_right.nd rfl (by first | exact Or.inl rfl | exact Or.inr rfl)) (dss_cons (ds_set (i := 12) sc__law_right.nd rfl (by first | exact Or.inl rfl | exact Or.inr rfl) (de_def F__law_bent hq hr (da_cons (dv 0) (da_cons (de_fg (dv 6)) da_nil))))
    (dss_one (ds_expr (de_append (dv 9) (de_ifExp (dt_cmp (opr_eq (unit64 hr)) lr_eq (de_def F__law_take hq hr (da_cons (dv 0) (da_cons de_int da_nil))) de_int (nomark _)) (dv 12) (de_def F__law_bent hq hr (da_cons (dv 0) (da_cons (dv 12) da_nil)))))))))
    (dss_cons (ds_for PassesOwn.never rfl (di_seq (de_op opr_add lr_add (dv 9) (de_lc (own := [("_law_turn", 7)]) rfl sc__law_right.nd (blkOk_by (show blkC ["_law_hand_here", "_law_names", "_law_deeds", "_law_total", "_law_price", "_law_name", "_law_told", "_law_turn", "_law_due", "_law_things", "_law_thing", "_law_word", "_law_bent_here", "_law_seen", "_law_some", "_law_deed"] (defScope s__law_right) _ [("_law_turn", 7)] = true by decide +kernel)) (own_name (by decide)) (di_range1 rfl T.z_range (da_cons de_int da_nil)) (fun _ _ _ _ _ => (pg_name (i := 7) sc__law_right.nd rfl (by first | exact Or.inl rfl | exact Or.inr rfl) (by first | exact .inl rfl | exact .inr rfl))) (fun _ _ _ _ _ => dts_nil) (fun _ _ _ _ _ => (de_def F__law_odd hq hr (da_cons (dv 0) da_nil)))))) (dg_name (i := 10) sc__law_right.nd rfl (by first | exact Or.inl rfl | exact Or.inr rfl)) (dss_cons (ds_set (i := 13) sc__law_right.nd rfl (by first | exact Or.inl rfl | exact Or.inr rfl) (de_callB (cr_reprQ hq (unit66 hr)) lc_reprQ rfl T.z_repr bt_repr (da_cons (dv 10) da_nil)))
    (dss_cons (ds_set (i := 8) sc__law_right.nd rfl (by first | exact Or.inl rfl | exact Or.inr rfl) (de_def F__law_are_prices hq hr (da_cons (dv 10) da_nil)))
    (dss_one (ds_if (PW.pt (dw_or (dt_cmp (opr_ne (unit64 hr)) lr_ne (de_callB (cr_reprQ hq (unit66 hr)) lc_reprQ rfl T.z_repr bt_repr (da_cons (de_lst (da_cons (de_def F_are_costs hq hr (da_cons (dv 10) da_nil)) (da_cons (de_defK0 F_are_costs hq hr (T.kb_are_costs_0_value) (dk_cons (dv 10) dk_nil)) da_nil))) da_nil)) (de_callB (cr_reprQ hq (unit66 hr)) lc_reprQ rfl T.z_repr bt_repr (da_cons (de_lst (da_cons (dv 8) (da_cons (dv 8) da_nil))) da_nil)) (nomark _)) (dw_or1 (dt_cmp (opr_ne (unit64 hr)) lr_ne (de_callB (cr_reprQ hq (unit66 hr)) lc_reprQ rfl T.z_repr bt_repr (da_cons (dv 10) da_nil)) (dv 13) (nomark _))))) (dss_one (ds_ret de_bl)) dss_nil)))))
    (dss_one (ds_ret de_bl)))))))))))))))) fun ds μ Q E h => read__law_right ds μ Q E h
theorem ok_law (T : All K mg w.params) : FnD P w base T.law 70 sp_law := by
  have F__law_right := ok__law_right (P := P) (w := w) (base := base) T
  have F__law_hand := ok__law_hand (P := P) (w := w) (base := base) T
  have F__law_great_right := ok__law_great_right (P := P) (w := w) (base := base) T
  exact def_ok (k := 69) T.law.F sc_law _ (len_of (n := 1) len_law) (fun cdv A outer s H E hq hr => (dss_cons (ds_if (dt_not (dt_val (de_def F__law_great_right hq hr (da_cons (de_def F__law_hand hq hr (da_cons (dv 0) (da_cons de_int da_nil))) da_nil)))) (dss_one (ds_ret de_bl)) dss_nil)
    (dss_one (ds_ret (de_callB (cr_all rfl) lc_all rfl T.z_all bt_all (da_cons (de_lc (own := [("_law_k", 1)]) rfl sc_law.nd (blkOk_by (show blkC ["_law_script", "_law_k"] (defScope s_law) _ [("_law_k", 1)] = true by decide +kernel)) (own_name (by decide)) (di_range1 rfl T.z_range (da_cons (de_callB (call_max2 rfl) lc_i2 rfl T.z_max bt_max (da_cons de_int (da_cons (de_callB (call_min2 rfl) lc_i2 rfl T.z_min bt_min (da_cons de_int (da_cons (de_callB cr_len lc_len rfl T.z_len bt_len (da_cons (dv 0) da_nil)) da_nil))) da_nil))) da_nil)) (fun _ _ _ _ _ => (pg_name (i := 1) sc_law.nd rfl (by first | exact Or.inl rfl | exact Or.inr rfl) (by first | exact .inl rfl | exact .inr rfl))) (fun _ _ _ _ _ => dts_nil) (fun _ _ _ _ _ => (de_def F__law_right hq hr (da_cons (de_def F__law_hand hq hr (da_cons (dv 0) (da_cons (dv 1) da_nil))) da_nil)))) da_nil)))))) fun ds μ Q E h => read_law ds μ Q E h
end
theorem all_mk {l : PySem.W.OpenLaw} {w : World} {K : PySem.W.Frag} {h : Heap} {mg : Str → Option Value} {fa f0 f1 f2 f3 f4 f5 f6 f7 f8 f9 f10 f11 f12 f13 f14 f15 f16 f17 : Addr} (X : K.In h) (G : h.Ns mainGlobals mg) (hfa : mg "law" = some (.ref fa))
    {od0 an0 : Option Addr} {sl0 : Array (Option Value)} {oc0 kV0 dc0 pm0 cd0 ct0 : Value} (a0 : PySem.W.nsIn K mainGlobals "is_key" = some (some (.ref f0))) (l0 : K.lookup f0 = some ⟨oc0, od0, .func (PySem.W.fnOf "is_key" "is_key" (defArgs s_is_key) (defBody s_is_key) (defScope s_is_key) .none kV0 dc0 pm0 an0 cd0 ct0), sl0⟩) (c0 : PySem.W.codeIn K cd0 "is_key" = true) (k0 : PySem.W.keepIn K (.ref f0) = true)
    {od1 an1 : Option Addr} {sl1 : Array (Option Value)} {oc1 kV1 dc1 pm1 cd1 ct1 : Value} (a1 : PySem.W.nsIn K mainGlobals "moved" = some (some (.ref f1))) (l1 : K.lookup f1 = some ⟨oc1, od1, .func (PySem.W.fnOf "moved" "moved" (defArgs s_moved) (defBody s_moved) (defScope s_moved) .none kV1 dc1 pm1 an1 cd1 ct1), sl1⟩) (c1 : PySem.W.codeIn K cd1 "moved" = true) (k1 : PySem.W.keepIn K (.ref f1) = true)
    {od2 an2 : Option Addr} {sl2 : Array (Option Value)} {oc2 kV2 dc2 pm2 cd2 ct2 : Value} (a2 : PySem.W.nsIn K mainGlobals "is_cost" = some (some (.ref f2))) (l2 : K.lookup f2 = some ⟨oc2, od2, .func (PySem.W.fnOf "is_cost" "is_cost" (defArgs s_is_cost) (defBody s_is_cost) (defScope s_is_cost) .none kV2 dc2 pm2 an2 cd2 ct2), sl2⟩) (c2 : PySem.W.codeIn K cd2 "is_cost" = true) (k2 : PySem.W.keepIn K (.ref f2) = true)
    {od3 an3 : Option Addr} {sl3 : Array (Option Value)} {oc3 kV3 dc3 pm3 cd3 ct3 : Value} (a3 : PySem.W.nsIn K mainGlobals "are_costs" = some (some (.ref f3))) (l3 : K.lookup f3 = some ⟨oc3, od3, .func (PySem.W.fnOf "are_costs" "are_costs" (defArgs s_are_costs) (defBody s_are_costs) (defScope s_are_costs) .none kV3 dc3 pm3 an3 cd3 ct3), sl3⟩) (c3 : PySem.W.codeIn K cd3 "are_costs" = true) (k3 : PySem.W.keepIn K (.ref f3) = true)
    {od4 an4 : Option Addr} {sl4 : Array (Option Value)} {oc4 kV4 dc4 pm4 cd4 ct4 : Value} (a4 : PySem.W.nsIn K mainGlobals "price_of" = some (some (.ref f4))) (l4 : K.lookup f4 = some ⟨oc4, od4, .func (PySem.W.fnOf "price_of" "price_of" (defArgs s_price_of) (defBody s_price_of) (defScope s_price_of) .none kV4 dc4 pm4 an4 cd4 ct4), sl4⟩) (c4 : PySem.W.codeIn K cd4 "price_of" = true) (k4 : PySem.W.keepIn K (.ref f4) = true)
    {od5 an5 : Option Addr} {sl5 : Array (Option Value)} {oc5 kV5 dc5 pm5 cd5 ct5 : Value} (a5 : PySem.W.nsIn K mainGlobals "cost_of" = some (some (.ref f5))) (l5 : K.lookup f5 = some ⟨oc5, od5, .func (PySem.W.fnOf "cost_of" "cost_of" (defArgs s_cost_of) (defBody s_cost_of) (defScope s_cost_of) .none kV5 dc5 pm5 an5 cd5 ct5), sl5⟩) (c5 : PySem.W.codeIn K cd5 "cost_of" = true) (k5 : PySem.W.keepIn K (.ref f5) = true)
    {od6 an6 : Option Addr} {sl6 : Array (Option Value)} {oc6 kV6 dc6 pm6 cd6 ct6 : Value} (a6 : PySem.W.nsIn K mainGlobals "_law_hand" = some (some (.ref f6))) (l6 : K.lookup f6 = some ⟨oc6, od6, .func (PySem.W.fnOf "_law_hand" "_law_hand" (defArgs s__law_hand) (defBody s__law_hand) (defScope s__law_hand) .none kV6 dc6 pm6 an6 cd6 ct6), sl6⟩) (c6 : PySem.W.codeIn K cd6 "_law_hand" = true) (k6 : PySem.W.keepIn K (.ref f6) = true)
    {od7 an7 : Option Addr} {sl7 : Array (Option Value)} {oc7 kV7 dc7 pm7 cd7 ct7 : Value} (a7 : PySem.W.nsIn K mainGlobals "_law_take" = some (some (.ref f7))) (l7 : K.lookup f7 = some ⟨oc7, od7, .func (PySem.W.fnOf "_law_take" "_law_take" (defArgs s__law_take) (defBody s__law_take) (defScope s__law_take) .none kV7 dc7 pm7 an7 cd7 ct7), sl7⟩) (c7 : PySem.W.codeIn K cd7 "_law_take" = true) (k7 : PySem.W.keepIn K (.ref f7) = true)
    {od8 an8 : Option Addr} {sl8 : Array (Option Value)} {oc8 kV8 dc8 pm8 cd8 ct8 : Value} (a8 : PySem.W.nsIn K mainGlobals "_law_of" = some (some (.ref f8))) (l8 : K.lookup f8 = some ⟨oc8, od8, .func (PySem.W.fnOf "_law_of" "_law_of" (defArgs s__law_of) (defBody s__law_of) (defScope s__law_of) .none kV8 dc8 pm8 an8 cd8 ct8), sl8⟩) (c8 : PySem.W.codeIn K cd8 "_law_of" = true) (k8 : PySem.W.keepIn K (.ref f8) = true)
    {od9 an9 : Option Addr} {sl9 : Array (Option Value)} {oc9 kV9 dc9 pm9 cd9 ct9 : Value} (a9 : PySem.W.nsIn K mainGlobals "_law_keys" = some (some (.ref f9))) (l9 : K.lookup f9 = some ⟨oc9, od9, .func (PySem.W.fnOf "_law_keys" "_law_keys" (defArgs s__law_keys) (defBody s__law_keys) (defScope s__law_keys) .none kV9 dc9 pm9 an9 cd9 ct9), sl9⟩) (c9 : PySem.W.codeIn K cd9 "_law_keys" = true) (k9 : PySem.W.keepIn K (.ref f9) = true)
    {od10 an10 : Option Addr} {sl10 : Array (Option Value)} {oc10 kV10 dc10 pm10 cd10 ct10 : Value} (a10 : PySem.W.nsIn K mainGlobals "_law_mixed" = some (some (.ref f10))) (l10 : K.lookup f10 = some ⟨oc10, od10, .func (PySem.W.fnOf "_law_mixed" "_law_mixed" (defArgs s__law_mixed) (defBody s__law_mixed) (defScope s__law_mixed) .none kV10 dc10 pm10 an10 cd10 ct10), sl10⟩) (c10 : PySem.W.codeIn K cd10 "_law_mixed" = true) (k10 : PySem.W.keepIn K (.ref f10) = true)
    {od11 an11 : Option Addr} {sl11 : Array (Option Value)} {oc11 kV11 dc11 pm11 cd11 ct11 : Value} (a11 : PySem.W.nsIn K mainGlobals "_law_odd" = some (some (.ref f11))) (l11 : K.lookup f11 = some ⟨oc11, od11, .func (PySem.W.fnOf "_law_odd" "_law_odd" (defArgs s__law_odd) (defBody s__law_odd) (defScope s__law_odd) .none kV11 dc11 pm11 an11 cd11 ct11), sl11⟩) (c11 : PySem.W.codeIn K cd11 "_law_odd" = true) (k11 : PySem.W.keepIn K (.ref f11) = true)
    {od12 an12 : Option Addr} {sl12 : Array (Option Value)} {oc12 kV12 dc12 pm12 cd12 ct12 : Value} (a12 : PySem.W.nsIn K mainGlobals "_law_bent" = some (some (.ref f12))) (l12 : K.lookup f12 = some ⟨oc12, od12, .func (PySem.W.fnOf "_law_bent" "_law_bent" (defArgs s__law_bent) (defBody s__law_bent) (defScope s__law_bent) .none kV12 dc12 pm12 an12 cd12 ct12), sl12⟩) (c12 : PySem.W.codeIn K cd12 "_law_bent" = true) (k12 : PySem.W.keepIn K (.ref f12) = true)
    {od13 an13 : Option Addr} {sl13 : Array (Option Value)} {oc13 kV13 dc13 pm13 cd13 ct13 : Value} (a13 : PySem.W.nsIn K mainGlobals "_law_is_key" = some (some (.ref f13))) (l13 : K.lookup f13 = some ⟨oc13, od13, .func (PySem.W.fnOf "_law_is_key" "_law_is_key" (defArgs s__law_is_key) (defBody s__law_is_key) (defScope s__law_is_key) .none kV13 dc13 pm13 an13 cd13 ct13), sl13⟩) (c13 : PySem.W.codeIn K cd13 "_law_is_key" = true) (k13 : PySem.W.keepIn K (.ref f13) = true)
    {od14 an14 : Option Addr} {sl14 : Array (Option Value)} {oc14 kV14 dc14 pm14 cd14 ct14 : Value} (a14 : PySem.W.nsIn K mainGlobals "_law_are_prices" = some (some (.ref f14))) (l14 : K.lookup f14 = some ⟨oc14, od14, .func (PySem.W.fnOf "_law_are_prices" "_law_are_prices" (defArgs s__law_are_prices) (defBody s__law_are_prices) (defScope s__law_are_prices) .none kV14 dc14 pm14 an14 cd14 ct14), sl14⟩) (c14 : PySem.W.codeIn K cd14 "_law_are_prices" = true) (k14 : PySem.W.keepIn K (.ref f14) = true)
    {od15 an15 : Option Addr} {sl15 : Array (Option Value)} {oc15 kV15 dc15 pm15 cd15 ct15 : Value} (a15 : PySem.W.nsIn K mainGlobals "_law_great_right" = some (some (.ref f15))) (l15 : K.lookup f15 = some ⟨oc15, od15, .func (PySem.W.fnOf "_law_great_right" "_law_great_right" (defArgs s__law_great_right) (defBody s__law_great_right) (defScope s__law_great_right) .none kV15 dc15 pm15 an15 cd15 ct15), sl15⟩) (c15 : PySem.W.codeIn K cd15 "_law_great_right" = true) (k15 : PySem.W.keepIn K (.ref f15) = true)
    {od16 an16 : Option Addr} {sl16 : Array (Option Value)} {oc16 kV16 dc16 pm16 cd16 ct16 : Value} (a16 : PySem.W.nsIn K mainGlobals "_law_right" = some (some (.ref f16))) (l16 : K.lookup f16 = some ⟨oc16, od16, .func (PySem.W.fnOf "_law_right" "_law_right" (defArgs s__law_right) (defBody s__law_right) (defScope s__law_right) .none kV16 dc16 pm16 an16 cd16 ct16), sl16⟩) (c16 : PySem.W.codeIn K cd16 "_law_right" = true) (k16 : PySem.W.keepIn K (.ref f16) = true)
    {od17 an17 : Option Addr} {sl17 : Array (Option Value)} {oc17 kV17 dc17 pm17 cd17 ct17 : Value} (a17 : PySem.W.nsIn K mainGlobals "law" = some (some (.ref f17))) (l17 : K.lookup f17 = some ⟨oc17, od17, .func (PySem.W.fnOf "law" "law" (defArgs s_law) (defBody s_law) (defScope s_law) .none kV17 dc17 pm17 an17 cd17 ct17), sl17⟩) (c17 : PySem.W.codeIn K cd17 "law" = true) (k17 : PySem.W.keepIn K (.ref f17) = true)
    {tk_LEAST_COST : Nat} (c_LEAST_COST : PySem.W.nsIn K mainGlobals "LEAST_COST" = some (some (.int 1 tk_LEAST_COST))) {tk_LETTERS : Nat} (c_LETTERS : PySem.W.nsIn K mainGlobals "LETTERS" = some (some (.str "abcdefghijklmnopqrstuvwxyz" tk_LETTERS))) {tk_LONGEST_KEY : Nat} (c_LONGEST_KEY : PySem.W.nsIn K mainGlobals "LONGEST_KEY" = some (some (.int 8 tk_LONGEST_KEY))) {tk_MOST_COST : Nat} (c_MOST_COST : PySem.W.nsIn K mainGlobals "MOST_COST" = some (some (.int 1000 tk_MOST_COST))) {tk_MOVE : Nat} (c_MOVE : PySem.W.nsIn K mainGlobals "MOVE" = some (some (.str "move" tk_MOVE))) {tk_PAIR : Nat} (c_PAIR : PySem.W.nsIn K mainGlobals "PAIR" = some (some (.int 2 tk_PAIR)))
    (z_abs : PySem.W.nsIn K mainGlobals "abs" = some none) (z_all : PySem.W.nsIn K mainGlobals "all" = some none) (z_bool : PySem.W.nsIn K mainGlobals "bool" = some none) (z_dict : PySem.W.nsIn K mainGlobals "dict" = some none) (z_enumerate : PySem.W.nsIn K mainGlobals "enumerate" = some none) (z_int : PySem.W.nsIn K mainGlobals "int" = some none) (z_isinstance : PySem.W.nsIn K mainGlobals "isinstance" = some none) (z_len : PySem.W.nsIn K mainGlobals "len" = some none) (z_list : PySem.W.nsIn K mainGlobals "list" = some none) (z_max : PySem.W.nsIn K mainGlobals "max" = some none) (z_min : PySem.W.nsIn K mainGlobals "min" = some none) (z_range : PySem.W.nsIn K mainGlobals "range" = some none) (z_repr : PySem.W.nsIn K mainGlobals "repr" = some none) (z_set : PySem.W.nsIn K mainGlobals "set" = some none) (z_sorted : PySem.W.nsIn K mainGlobals "sorted" = some none) (z_str : PySem.W.nsIn K mainGlobals "str" = some none) (z_sum : PySem.W.nsIn K mainGlobals "sum" = some none) (z_tuple : PySem.W.nsIn K mainGlobals "tuple" = some none) (z_zip : PySem.W.nsIn K mainGlobals "zip" = some none) :
    ∃ fd : FuncData, (∀ (s : Shared) (v : Value), BindsTo s fd ⟨[v], []⟩ [("_law_script", v)]) ∧ ∀ base : Heap, K.In base → base.Ns mainGlobals mg → FnG l.prog w K mg base CX0 70 fa fd ["_law_script"] (LSp K sp_law) := by
  have e := hfa.symm.trans (PySem.W.mg_of X G a17)
  cases e
  have F0 := fun_mk (st := s_is_key) l0 c0 k0
  have b0 := F0.binds (ps := ["value"]) fun _ _ _ _ _ _ us hl => match us, hl with | [_], _ => rfl
  have F1 := fun_mk (st := s_moved) l1 c1 k1
  have b1 := F1.binds (ps := ["operations"]) fun _ _ _ _ _ _ us hl => match us, hl with | [_], _ => rfl
  have F2 := fun_mk (st := s_is_cost) l2 c2 k2
  have b2 := F2.binds (ps := ["value"]) fun _ _ _ _ _ _ us hl => match us, hl with | [_], _ => rfl
  have F3 := fun_mk (st := s_are_costs) l3 c3 k3
  have b3 := F3.binds (ps := ["value"]) fun _ _ _ _ _ _ us hl => match us, hl with | [_], _ => rfl
  have F4 := fun_mk (st := s_price_of) l4 c4 k4
  have b4 := F4.binds (ps := ["costs", "key"]) fun _ _ _ _ _ _ us hl => match us, hl with | [_, _], _ => rfl
  have F5 := fun_mk (st := s_cost_of) l5 c5 k5
  have b5 := F5.binds (ps := ["operations", "costs"]) fun _ _ _ _ _ _ us hl => match us, hl with | [_, _], _ => rfl
  have F6 := fun_mk (st := s__law_hand) l6 c6 k6
  have b6 := F6.binds (ps := ["_law_script", "_law_k"]) fun _ _ _ _ _ _ us hl => match us, hl with | [_, _], _ => rfl
  have F7 := fun_mk (st := s__law_take) l7 c7 k7
  have b7 := F7.binds (ps := ["_law_hand_here", "_law_many"]) fun _ _ _ _ _ _ us hl => match us, hl with | [_, _], _ => rfl
  have F8 := fun_mk (st := s__law_of) l8 c8 k8
  have b8 := F8.binds (ps := ["_law_hand_here", "_law_items"]) fun _ _ _ _ _ _ us hl => match us, hl with | [_, _], _ => rfl
  have F9 := fun_mk (st := s__law_keys) l9 c9 k9
  have b9 := F9.binds (ps := ["_law_hand_here", "_law_many"]) fun _ _ _ _ _ _ us hl => match us, hl with | [_, _], _ => rfl
  have F10 := fun_mk (st := s__law_mixed) l10 c10 k10
  have b10 := F10.binds (ps := ["_law_hand_here", "_law_items"]) fun _ _ _ _ _ _ us hl => match us, hl with | [_, _], _ => rfl
  have F11 := fun_mk (st := s__law_odd) l11 c11 k11
  have b11 := F11.binds (ps := ["_law_hand_here"]) fun _ _ _ _ _ _ us hl => match us, hl with | [_], _ => rfl
  have F12 := fun_mk (st := s__law_bent) l12 c12 k12
  have b12 := F12.binds (ps := ["_law_hand_here", "_law_thing"]) fun _ _ _ _ _ _ us hl => match us, hl with | [_, _], _ => rfl
  have F13 := fun_mk (st := s__law_is_key) l13 c13 k13
  have b13 := F13.binds (ps := ["_law_thing"]) fun _ _ _ _ _ _ us hl => match us, hl with | [_], _ => rfl
  have F14 := fun_mk (st := s__law_are_prices) l14 c14 k14
  have b14 := F14.binds (ps := ["_law_thing"]) fun _ _ _ _ _ _ us hl => match us, hl with | [_], _ => rfl
  have F15 := fun_mk (st := s__law_great_right) l15 c15 k15
  have b15 := F15.binds (ps := ["_law_hand_here"]) fun _ _ _ _ _ _ us hl => match us, hl with | [_], _ => rfl
  have F16 := fun_mk (st := s__law_right) l16 c16 k16
  have b16 := F16.binds (ps := ["_law_hand_here"]) fun _ _ _ _ _ _ us hl => match us, hl with | [_], _ => rfl
  have F17 := fun_mk (st := s_law) l17 c17 k17
  have b17 := F17.binds (ps := ["_law_script"]) fun _ _ _ _ _ _ us hl => match us, hl with | [_], _ => rfl
  have kb0 : KBinds K _ ["operations"] ["operations"] (kwG [.inr 0] 0 1) (kwG [.inr 0] 0 1) := kbinds_of F1 (fun _ _ _ _ _ _ us ws h1 h2 _ => match us, ws, h1, h2 with | [], [_], _, _ => rfl) (by simp)
  have kb1 : KBinds K _ ["operations", "costs"] ["costs", "operations"] (kwG [.inr 1, .inr 0] 0 2) (kwG [.inr 1, .inr 0] 0 2) := kbinds_of F5 (fun _ _ _ _ _ _ us ws h1 h2 _ => match us, ws, h1, h2 with | [], [_, _], _, _ => rfl) (by simp)
  have kb2 : KBinds K _ ["value"] ["value"] (kwG [.inr 0] 0 1) (kwG [.inr 0] 0 1) := kbinds_of F3 (fun _ _ _ _ _ _ us ws h1 h2 _ => match us, ws, h1, h2 with | [], [_], _, _ => rfl) (by simp)
  let T : All K mg w.params := { is_key := ⟨_, _, F0, PySem.W.mg_of X G a0, b0⟩, moved := ⟨_, _, F1, PySem.W.mg_of X G a1, b1⟩, is_cost := ⟨_, _, F2, PySem.W.mg_of X G a2, b2⟩, are_costs := ⟨_, _, F3, PySem.W.mg_of X G a3, b3⟩, price_of := ⟨_, _, F4, PySem.W.mg_of X G a4, b4⟩, cost_of := ⟨_, _, F5, PySem.W.mg_of X G a5, b5⟩, _law_hand := ⟨_, _, F6, PySem.W.mg_of X G a6, b6⟩, _law_take := ⟨_, _, F7, PySem.W.mg_of X G a7, b7⟩, _law_of := ⟨_, _, F8, PySem.W.mg_of X G a8, b8⟩, _law_keys := ⟨_, _, F9, PySem.W.mg_of X G a9, b9⟩, _law_mixed := ⟨_, _, F10, PySem.W.mg_of X G a10, b10⟩, _law_odd := ⟨_, _, F11, PySem.W.mg_of X G a11, b11⟩, _law_bent := ⟨_, _, F12, PySem.W.mg_of X G a12, b12⟩, _law_is_key := ⟨_, _, F13, PySem.W.mg_of X G a13, b13⟩, _law_are_prices := ⟨_, _, F14, PySem.W.mg_of X G a14, b14⟩, _law_great_right := ⟨_, _, F15, PySem.W.mg_of X G a15, b15⟩, _law_right := ⟨_, _, F16, PySem.W.mg_of X G a16, b16⟩, law := ⟨_, _, F17, PySem.W.mg_of X G a17, b17⟩, z_abs := PySem.W.mg_none_of X G z_abs, z_all := PySem.W.mg_none_of X G z_all, z_bool := PySem.W.mg_none_of X G z_bool, z_dict := PySem.W.mg_none_of X G z_dict, z_enumerate := PySem.W.mg_none_of X G z_enumerate, z_int := PySem.W.mg_none_of X G z_int, z_isinstance := PySem.W.mg_none_of X G z_isinstance, z_len := PySem.W.mg_none_of X G z_len, z_list := PySem.W.mg_none_of X G z_list, z_max := PySem.W.mg_none_of X G z_max, z_min := PySem.W.mg_none_of X G z_min, z_range := PySem.W.mg_none_of X G z_range, z_repr := PySem.W.mg_none_of X G z_repr, z_set := PySem.W.mg_none_of X G z_set, z_sorted := PySem.W.mg_none_of X G z_sorted, z_str := PySem.W.mg_none_of X G z_str, z_sum := PySem.W.mg_none_of X G z_sum, z_tuple := PySem.W.mg_none_of X G z_tuple, z_zip := PySem.W.mg_none_of X G z_zip, c_LEAST_COST := ⟨_, PySem.W.mg_of X G c_LEAST_COST⟩, c_LETTERS := ⟨_, PySem.W.mg_of X G c_LETTERS⟩, c_LONGEST_KEY := ⟨_, PySem.W.mg_of X G c_LONGEST_KEY⟩, c_MOST_COST := ⟨_, PySem.W.mg_of X G c_MOST_COST⟩, c_MOVE := ⟨_, PySem.W.mg_of X G c_MOVE⟩, c_PAIR := ⟨_, PySem.W.mg_of X G c_PAIR⟩, kb_moved_0_operations := kb0, kb_cost_of_0_costs_operations := kb1, kb_are_costs_0_value := kb2 }
  exact ⟨PySem.W.fnOf "law" "law" (defArgs s_law) (defBody s_law) (defScope s_law) .none kV17 dc17 pm17 an17 cd17 ct17, fun s v => .of_eq rfl, fun base _ _ => ok_law (P := l.prog) (w := w) (base := base) T⟩
theorem walk {l : PySem.W.OpenLaw} {q : Program} {loose : List Str} {XP : (Str → Option Value) → Heap → Prop} {YP : World → Heap → Prop} {d : DefRec} {K : Params → PySem.W.Frag} (hn : l.most = some 63) (hdf : d.params.defaults = [])
    (hY : ∀ (w : World) (h : Heap), YP w h → (K w.params).In h)
    (F : ∀ (w : World) (mg : Str → Option Value) (fa : Addr) (h : Heap), (K w.params).In h → h.Ns mainGlobals mg → mg d.name = some (.ref fa) →
      ∃ fd : FuncData, (∀ (s : Shared) (u : Value), BindsTo s fd ⟨[u], []⟩ [("_law_script", u)]) ∧ ∀ base : Heap, (K w.params).In base → base.Ns mainGlobals mg → FnG l.prog w (K w.params) mg base CX0 70 fa fd ["_law_script"] (LSp (K w.params) sp_law)) :
    PySem.W.WalkO q loose XP YP l.row.toRowW d [] (fun f vs => PySem.call f vs) :=
  walkG (n := 63) (k := 70) (x := "_law_script") (CX := CX0) (sp := fun K => LSp K sp_law) hn (by decide) hdf ⟨rfl, by decide, by decide⟩ hY F (fun K H a ns hl _ hS => law_start hS (law_takes hl)) fun _ _ _ _ z => z
end LK
open PySem PySem.W PyProof.Rows
set_option maxRecDepth 100000 in
set_option maxHeartbeats 0 in
theorem PySem.Challenge.cw_keyedmoves_k07_moved_keys_and_costs_holds : PySem.Challenge.rw_keyedmoves_k07_moved_keys_and_costs.Holds := by
  w_on; o_law; k_head; (case hw => w_witness2)
  k_fill
  refine LK.walk (l := PySem.Challenge.rw_keyedmoves_k07_moved_keys_and_costs) rfl rfl (fun w h Y => PySem.W.kIn_of Y) ?F
  case F =>
    intro w mg fa h KX G hmg
    refine' LK.all_mk KX G hmg  ?a0 ?l0 ?c0 ?k0 ?a1 ?l1 ?c1 ?k1 ?a2 ?l2 ?c2 ?k2 ?a3 ?l3 ?c3 ?k3 ?a4 ?l4 ?c4 ?k4 ?a5 ?l5 ?c5 ?k5 ?a6 ?l6 ?c6 ?k6 ?a7 ?l7 ?c7 ?k7 ?a8 ?l8 ?c8 ?k8 ?a9 ?l9 ?c9 ?k9 ?a10 ?l10 ?c10 ?k10 ?a11 ?l11 ?c11 ?k11 ?a12 ?l12 ?c12 ?k12 ?a13 ?l13 ?c13 ?k13 ?a14 ?l14 ?c14 ?k14 ?a15 ?l15 ?c15 ?k15 ?a16 ?l16 ?c16 ?k16 ?a17 ?l17 ?c17 ?k17   ?c_LEAST_COST ?c_LETTERS ?c_LONGEST_KEY ?c_MOST_COST ?c_MOVE ?c_PAIR ?z_abs ?z_all ?z_bool ?z_dict ?z_enumerate ?z_int ?z_isinstance ?z_len ?z_list ?z_max ?z_min ?z_range ?z_repr ?z_set ?z_sorted ?z_str ?z_sum ?z_tuple ?z_zip
    (case a0 => k_is); (case l0 => k_is); (case c0 => k_is); (case k0 => k_is)
    (case a1 => k_is); (case l1 => k_is); (case c1 => k_is); (case k1 => k_is)
    (case a2 => k_is); (case l2 => k_is); (case c2 => k_is); (case k2 => k_is)
    (case a3 => k_is); (case l3 => k_is); (case c3 => k_is); (case k3 => k_is)
    (case a4 => k_is); (case l4 => k_is); (case c4 => k_is); (case k4 => k_is)
    (case a5 => k_is); (case l5 => k_is); (case c5 => k_is); (case k5 => k_is)
    (case a6 => k_is); (case l6 => k_is); (case c6 => k_is); (case k6 => k_is)
    (case a7 => k_is); (case l7 => k_is); (case c7 => k_is); (case k7 => k_is)
    (case a8 => k_is); (case l8 => k_is); (case c8 => k_is); (case k8 => k_is)
    (case a9 => k_is); (case l9 => k_is); (case c9 => k_is); (case k9 => k_is)
    (case a10 => k_is); (case l10 => k_is); (case c10 => k_is); (case k10 => k_is)
    (case a11 => k_is); (case l11 => k_is); (case c11 => k_is); (case k11 => k_is)
    (case a12 => k_is); (case l12 => k_is); (case c12 => k_is); (case k12 => k_is)
    (case a13 => k_is); (case l13 => k_is); (case c13 => k_is); (case k13 => k_is)
    (case a14 => k_is); (case l14 => k_is); (case c14 => k_is); (case k14 => k_is)
    (case a15 => k_is); (case l15 => k_is); (case c15 => k_is); (case k15 => k_is)
    (case a16 => k_is); (case l16 => k_is); (case c16 => k_is); (case k16 => k_is)
    (case a17 => k_is); (case l17 => k_is); (case c17 => k_is); (case k17 => k_is)
    (case c_LEAST_COST => k_is); (case c_LETTERS => k_is); (case c_LONGEST_KEY => k_is); (case c_MOST_COST => k_is); (case c_MOVE => k_is); (case c_PAIR => k_is)
    (case z_abs => k_is); (case z_all => k_is); (case z_bool => k_is); (case z_dict => k_is); (case z_enumerate => k_is); (case z_int => k_is); (case z_isinstance => k_is); (case z_len => k_is); (case z_list => k_is); (case z_max => k_is); (case z_min => k_is); (case z_range => k_is); (case z_repr => k_is); (case z_set => k_is); (case z_sorted => k_is); (case z_str => k_is); (case z_sum => k_is); (case z_tuple => k_is); (case z_zip => k_is)
