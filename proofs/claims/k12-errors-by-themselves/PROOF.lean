import PyProof.Rows.All
import Wide.All
import OpenK.AllK
import Wide.FinOn
import HandS.ForMost
import HandS.Flow
import HandS.Style
import HandS.Conv
import HandS.Exc
import KE.KExcIs
import HandS.Zip
import HandS.TupAny
import HandS.Wide
import HandS.TryOnly
import HandS.WordsExc
import HandS.ExcInit
import PyProof.ReprReads
import PyProof.ReprRoads
import PyProof.Rows.RuleB_pow
import PyProof.StrOps2
import HandS.IsInst
import HandS.SortInts
import PyProof.AutoSeq1
import KE.KRevSl
import HandS.More
import HandS.Text
import HandS.Codes
import HandS.SetFor
import HandS.Strs
import PyProof.Rows.SetFrom
import PyProof.Rows.IntBool
import PyProof.Rows.StrStep
import PyProof.NeKinds
import HandS.ExcValue
import PyProof.Rows.ReprOcc
import PySem.Challenge.RW_keyedmoves_k12_errors_by_themselves
set_option Elab.async false
set_option linter.all false
set_option autoImplicit false
set_option maxRecDepth 100000
set_option maxHeartbeats 4000000
/-! DS1: a layer over HandS in which immutable data are plain trees (SD) and only what changes has an address (Mu). -/
namespace DS
open PySem PySem.Spec PyProof.Rows L2

/-- data without addresses; ref: an address of its own standing (something that changes, a def, a class) -/
inductive SD where
  | non | bl (b : Bool) | int (i : Int) | str (x : Str) | ref (a : Addr) | ty (n : String)
  | tup (xs : List SD) | lst (xs : List SD) | dic (kvs : List (Key × SD))
  /-- a list that is read only (the script) -/
  | rol (xs : List SD)
  /-- an error of the own class named x, with its fields; it changes no more -/
  | exc (x : Str) (fs : List (Str × SD))

/-- at a: an error of the class at C, its dict -/
def exq (a C : Addr) (d : Option Addr) : HO := .ext fun h => ∃ (oe : Obj) (vs : Array Value), h.get? a = some oe ∧ Zc (.ref C) d oe ∧ oe.data = .fields vs
/-- what the written part says of the class named x, and of the names fs as fields of its instances -/
structure XcK (K : PySem.W.Frag) (x : Str) (C : Addr) (fs : List Str) : Prop where
  at_ : PySem.W.nsIn K mainGlobals x = some (some (.ref C))
  ga : PySem.W.findIn K (.ref C) "__getattribute__" = some (some (.builtin "BaseException.__getattribute__"))
  gg : PySem.W.findIn K (.ref C) "__getattr__" = some none
  sub : PySem.W.subIn K (.ref C) (.type "BaseException") = some true
  hd : PySem.W.hasDictIn K C = true
  cl : PySem.W.findIn K (.ref C) "__class__" = some (some (.builtin "object.__class__"))
  sp : PySem.W.specialIn K (.builtin "object.__class__") "__get__" = some (some (.builtin "getset_descriptor.__get__"))
  tk : PySem.W.takesIn K (.builtin "object.__class__") = some true
  mro : PySem.W.mroIn K C (.type "object") = some true
  no : ∀ f ∈ fs, PySem.W.findIn K (.ref C) f = some none
/-- what tells of a thing that stays as it is -/
def still : HO → Bool
  | .ext _ => true
  | .xd _ => true
  | _ => false

mutual
/-- the value v is the datum, by what F knows -/
inductive RepS (K : PySem.W.Frag) (F : Hp) : SD → V → Prop
  | non : RepS K F .non .non
  | bl (b : Bool) : RepS K F (.bl b) (.bl b)
  | int (i : Int) : RepS K F (.int i) (.int i)
  | str (x : Str) : RepS K F (.str x) (.str x)
  | ref (a : Addr) : RepS K F (.ref a) (.ref a)
  | ty (n : String) : RepS K F (.ty n) (.ty n)
  | tup {a : Addr} {ds : List SD} {vs : List V} : SqT K F a vs → RepL K F ds vs → RepS K F (.tup ds) (.ref a)
  | lst {a : Addr} {ds : List SD} {vs : List V} : F a = some (.lst vs) → RepL K F ds vs → RepS K F (.lst ds) (.ref a)
  | rol {a : Addr} {ds : List SD} {vs : List V} : SqL K F a vs → RepL K F ds vs → RepS K F (.rol ds) (.ref a)
  | dic {a : Addr} {ds : List (Key × SD)} {vs : List (Key × V)} : Rd F a (.dK vs) → vs.map (·.1) = ds.map (·.1) → RepL K F (ds.map (·.2)) (vs.map (·.2)) → RepS K F (.dic ds) (.ref a)
  | exc0 {a C : Addr} {x : Str} : XcK K x C [] → F a = some (exq a C none) → RepS K F (.exc x []) (.ref a)
  | exc {a C dx : Addr} {x : Str} {ds : List (Str × SD)} {vs : List (Str × V)} : XcK K x C (ds.map (·.1)) → F a = some (exq a C (some dx)) → F dx = some (.xd vs) → vs.map (·.1) = ds.map (·.1) → RepL K F (ds.map (·.2)) (vs.map (·.2)) → RepS K F (.exc x ds) (.ref a)
inductive RepL (K : PySem.W.Frag) (F : Hp) : List SD → List V → Prop
  | nil : RepL K F [] []
  | cons {d : SD} {v : V} {ds : List SD} {vs : List V} : RepS K F d v → RepL K F ds vs → RepL K F (d :: ds) (v :: vs)
end

/-- F' reads whatever F reads -/
structure Ext (F F' : Hp) : Prop where
  rd : ∀ a u, Rd F a u → Rd F' a u
  ls : ∀ a vs, F a = some (.lst vs) → F' a = some (.lst vs)
  fz : ∀ a o u, F a = some (.frz o u) → F' a = some (.frz o u)
  st : ∀ a o, still o = true → F a = some o → F' a = some o
theorem Ext.refl (F : Hp) : Ext F F := ⟨fun _ _ h => h, fun _ _ h => h, fun _ _ _ h => h, fun _ _ _ h => h⟩
theorem Ext.trans {F F1 F2 : Hp} (a : Ext F F1) (b : Ext F1 F2) : Ext F F2 := ⟨fun x u h => b.rd x u (a.rd x u h), fun x u h => b.ls x u (a.ls x u h), fun x o u h => b.fz x o u (a.fz x o u h), fun x o q h => b.st x o q (a.st x o q h)⟩
theorem Ext.sqL {K : PySem.W.Frag} {F F' : Hp} {a : Addr} {xs : List V} (e : Ext F F') (h : SqL K F a xs) : SqL K F' a xs := h.elim (fun r => .inl (e.rd a _ r)) .inr
theorem Ext.sqT {K : PySem.W.Frag} {F F' : Hp} {a : Addr} {xs : List V} (e : Ext F F') (h : SqT K F a xs) : SqT K F' a xs := h.elim (fun r => .inl (e.rd a _ r)) .inr
theorem Ext.of_sub {F F' : Hp} (h : ∀ a o, F a = some o → F' a = some o) : Ext F F' := ⟨fun a u r => r.elim (fun z => .inl (h a _ z)) fun ⟨o, z⟩ => .inr ⟨o, h a _ z⟩, fun a vs z => h a _ z, fun a o u z => h a _ z, fun a o _ z => h a _ z⟩
theorem Ext.new {F : Hp} {p : Addr} {o : HO} (h : F p = none) : Ext F (upd F p o) := Ext.of_sub fun a u e => by
  rw [upd_ne (ne_of_none e h)]; exact e

mutual
theorem RepS.mono {K : PySem.W.Frag} {F F' : Hp} (e : Ext F F') : ∀ {d : SD} {v : V}, RepS K F d v → RepS K F' d v
  | _, _, .non => .non
  | _, _, .bl b => .bl b
  | _, _, .int i => .int i
  | _, _, .str x => .str x
  | _, _, .ref a => .ref a
  | _, _, .ty n => .ty n
  | _, _, .tup h r => .tup (e.sqT h) (RepL.mono e r)
  | _, _, .lst h r => .lst (e.ls _ _ h) (RepL.mono e r)
  | _, _, .rol h r => .rol (e.sqL h) (RepL.mono e r)
  | _, _, .dic h q r => .dic (e.rd _ _ h) q (RepL.mono e r)
  | _, _, .exc0 h q => .exc0 h (e.st _ _ rfl q)
  | _, _, .exc h q p z r => .exc h (e.st _ _ rfl q) (e.st _ _ rfl p) z (RepL.mono e r)
theorem RepL.mono {K : PySem.W.Frag} {F F' : Hp} (e : Ext F F') : ∀ {ds : List SD} {vs : List V}, RepL K F ds vs → RepL K F' ds vs
  | _, _, .nil => .nil
  | _, _, .cons h r => .cons (RepS.mono e h) (RepL.mono e r)
end

section
variable {K : PySem.W.Frag} {F : Hp}
theorem RepL.length : ∀ {ds : List SD} {vs : List V}, RepL K F ds vs → ds.length = vs.length
  | _, _, .nil => rfl
  | _, _, .cons _ r => congrArg (· + 1) (RepL.length r)
theorem RepL.get : ∀ {ds : List SD} {vs : List V} {i : Nat} {d : SD}, RepL K F ds vs → ds[i]? = some d → ∃ v, vs[i]? = some v ∧ RepS K F d v
  | _, _, _, _, .nil, e => by simp at e
  | _, _, 0, _, .cons h _, e => by simp at e; subst e; exact ⟨_, rfl, h⟩
  | _, _, i + 1, d, .cons _ r, e => by
    obtain ⟨v, h1, h2⟩ := RepL.get (i := i) (d := d) r (by simpa using e)
    exact ⟨v, by simpa using h1, h2⟩
theorem RepL.getV : ∀ {ds : List SD} {vs : List V} {i : Nat} {v : V}, RepL K F ds vs → vs[i]? = some v → ∃ d, ds[i]? = some d ∧ RepS K F d v
  | _, _, _, _, .nil, e => by simp at e
  | _, _, 0, _, .cons h _, e => by simp at e; subst e; exact ⟨_, rfl, h⟩
  | _, _, i + 1, v, .cons _ r, e => by
    obtain ⟨d, h1, h2⟩ := RepL.getV (i := i) (v := v) r (by simpa using e)
    exact ⟨d, by simpa using h1, h2⟩
theorem RepL.append : ∀ {ds es : List SD} {vs ws : List V}, RepL K F ds vs → RepL K F es ws → RepL K F (ds ++ es) (vs ++ ws)
  | _, _, _, _, .nil, s => s
  | _, _, _, _, .cons h r, s => .cons h (RepL.append r s)
theorem RepL.take : ∀ {ds : List SD} {vs : List V} (n : Nat), RepL K F ds vs → RepL K F (ds.take n) (vs.take n)
  | _, _, 0, _ => .nil
  | _, _, _ + 1, .nil => .nil
  | _, _, n + 1, .cons h r => .cons h (RepL.take n r)
theorem RepL.drop : ∀ {ds : List SD} {vs : List V} (n : Nat), RepL K F ds vs → RepL K F (ds.drop n) (vs.drop n)
  | _, _, 0, r => r
  | _, _, _ + 1, .nil => .nil
  | _, _, n + 1, .cons _ r => RepL.drop n r
theorem RepL.one {d : SD} {v : V} (h : RepS K F d v) : RepL K F [d] [v] := .cons h .nil
theorem RepL.reverse : ∀ {ds : List SD} {vs : List V}, RepL K F ds vs → RepL K F ds.reverse vs.reverse
  | _, _, .nil => .nil
  | _, _, .cons h r => by rw [List.reverse_cons, List.reverse_cons]; exact (RepL.reverse r).append (.one h)
theorem RepL.set {e : SD} {w : V} (h : RepS K F e w) : ∀ {ds : List SD} {vs : List V} (i : Nat), RepL K F ds vs → RepL K F (ds.set i e) (vs.set i w)
  | _, _, _, .nil => .nil
  | _, _, 0, .cons _ r => .cons h r
  | _, _, i + 1, .cons q r => .cons q (RepL.set h i r)
theorem RepL.dropLast {ds : List SD} {vs : List V} (h : RepL K F ds vs) : RepL K F ds.dropLast vs.dropLast := by
  rw [List.dropLast_eq_take, List.dropLast_eq_take, h.length]; exact h.take _
theorem RepL.eraseIdx : ∀ {ds : List SD} {vs : List V} (i : Nat), RepL K F ds vs → RepL K F (ds.eraseIdx i) (vs.eraseIdx i)
  | _, _, _, .nil => .nil
  | _, _, 0, .cons _ r => r
  | _, _, i + 1, .cons q r => .cons q (RepL.eraseIdx i r)
theorem RepL.cut {ds : List SD} {vs : List V} (h : RepL K F ds vs) (i : Nat) : RepL K F (ds.take i ++ ds.drop i) (vs.take i ++ vs.drop i) := (h.take i).append (h.drop i)
theorem RepL.splitL : ∀ {ds es : List SD} {vs : List V}, RepL K F (ds ++ es) vs → ∃ xs ys, vs = xs ++ ys ∧ RepL K F ds xs ∧ RepL K F es ys
  | [], _, vs, h => ⟨[], vs, rfl, .nil, h⟩
  | _ :: _, _, _, .cons q r => by
    obtain ⟨xs, ys, e, a, b⟩ := RepL.splitL r
    exact ⟨_ :: xs, ys, by rw [e]; rfl, .cons q a, b⟩
theorem RepL.nil_iff {ds : List SD} {vs : List V} (h : RepL K F ds vs) : ds = [] ↔ vs = [] := by
  cases h <;> simp
theorem RepL.ints : ∀ {ns : List Int} {vs : List V}, RepL K F (ns.map SD.int) vs → vs = ns.map V.int
  | [], _, .nil => rfl
  | _ :: _, _, .cons (.int _) r => by rw [RepL.ints r]; rfl
theorem RepL.ofInts : ∀ (ns : List Int), RepL K F (ns.map SD.int) (ns.map V.int)
  | [] => .nil
  | n :: r => .cons (.int n) (RepL.ofInts r)
theorem RepL.strs : ∀ {ns : List Str} {vs : List V}, RepL K F (ns.map SD.str) vs → vs = ns.map V.str
  | [], _, .nil => rfl
  | _ :: _, _, .cons (.str _) r => by rw [RepL.strs r]; rfl
theorem RepL.ofStrs : ∀ (ns : List Str), RepL K F (ns.map SD.str) (ns.map V.str)
  | [] => .nil
  | n :: r => .cons (.str n) (RepL.ofStrs r)
end

/-- what stands at an address and may change -/
inductive MO where
  | lst (xs : List SD)
  | dic (kvs : List (Key × SD))
  | obj (C : Addr) (fs : List (Str × SD))
  /-- a dict that is walked through: it stands just so -/
  | fdic (kvs : List (Key × SD)) (o : HO)
abbrev Mu := Addr → Option MO
def up (μ : Mu) (a : Addr) (m : MO) : Mu := fun b => if b = a then some m else μ b
theorem up_same {μ : Mu} {a : Addr} {m : MO} : up μ a m a = some m := by unfold up; rw [if_pos rfl]
theorem up_ne {μ : Mu} {a b : Addr} {m : MO} (h : b ≠ a) : up μ a m b = μ b := by unfold up; rw [if_neg h]
theorem up_up {μ : Mu} {a : Addr} {m n : MO} : up (up μ a m) a n = up μ a n := by funext b; unfold up; split <;> rfl
theorem up_comm {μ : Mu} {a b : Addr} {m n : MO} (h : a ≠ b) : up (up μ a m) b n = up (up μ b n) a m := by
  funext c; unfold up
  by_cases h1 : c = b
  · subst h1; rw [if_pos rfl, if_neg (Ne.symm h), if_pos rfl]
  · rw [if_neg h1, if_neg h1]
theorem up_self {μ : Mu} {a : Addr} {m : MO} (h : μ a = some m) : up μ a m = μ := by
  funext c; unfold up; split
  · rename_i e; rw [e, h]
  · rfl
theorem mu_ne {μ : Mu} {a b : Addr} {m : MO} (h : μ a = some m) (h' : μ b = none) : a ≠ b := by
  intro e; subst e; rw [h] at h'; cases h'
inductive RepO (K : PySem.W.Frag) (F : Hp) : MO → HO → Prop
  | lst {ds : List SD} {vs : List V} : RepL K F ds vs → RepO K F (.lst ds) (.lst vs)
  | dic {ds : List (Key × SD)} {vs : List (Key × V)} : vs.map (·.1) = ds.map (·.1) → RepL K F (ds.map (·.2)) (vs.map (·.2)) → RepO K F (.dic ds) (.dK vs)
  | obj {C dx : Addr} {ds : List (Str × SD)} {vs : List (Str × V)} : vs.map (·.1) = ds.map (·.1) → RepL K F (ds.map (·.2)) (vs.map (·.2)) → RepO K F (.obj C ds) (.ins C dx vs)
  | fdic {ob : Obj} {ds : List (Key × SD)} {vs : List (Key × V)} : vs.map (·.1) = ds.map (·.1) → RepL K F (ds.map (·.2)) (vs.map (·.2)) → RepO K F (.fdic ds (.frz ob (.dK vs))) (.frz ob (.dK vs))
theorem RepO.mono {K : PySem.W.Frag} {F F' : Hp} (e : Ext F F') {m : MO} {o : HO} (h : RepO K F m o) : RepO K F' m o := by
  cases h with
  | lst r => exact .lst (r.mono e)
  | dic q r => exact .dic q (r.mono e)
  | obj q r => exact .obj q (r.mono e)
  | fdic q r => exact .fdic q (r.mono e)

/-- the heap H is F (known, unchanging) and μ (what changes), and more -/
structure HReal (K : PySem.W.Frag) (F H : Hp) (μ : Mu) : Prop where
  sub : ∀ a o, F a = some o → H a = some o
  mus : ∀ a m, μ a = some m → F a = none ∧ ∃ o, H a = some o ∧ RepO K F m o
/-- what is neither F's nor μ's stays so -/
structure Stp (F H : Hp) (μ : Mu) (F' H' : Hp) (μ' : Mu) : Prop where
  ext : Ext F F'
  fr : ∀ a, H a ≠ none → F a = none → μ a = none → H' a = H a ∧ F' a = none ∧ μ' a = none
theorem Stp.refl (F H : Hp) (μ : Mu) : Stp F H μ F H μ := ⟨Ext.refl F, fun _ _ b c => ⟨rfl, b, c⟩⟩
theorem Stp.trans {F H F1 H1 F2 H2 : Hp} {μ μ1 μ2 : Mu} (a : Stp F H μ F1 H1 μ1) (b : Stp F1 H1 μ1 F2 H2 μ2) : Stp F H μ F2 H2 μ2 :=
  ⟨a.ext.trans b.ext, fun x h1 h2 h3 => by
    obtain ⟨p, q, r⟩ := a.fr x h1 h2 h3
    obtain ⟨p', q', r'⟩ := b.fr x (by rw [p]; exact h1) q r
    exact ⟨p'.trans p, q', r'⟩⟩
section
variable {K : PySem.W.Frag} {F H : Hp} {μ : Mu} {p a : Addr}
theorem HReal.freeF (R : HReal K F H μ) (h : H p = none) : F p = none := by
  cases e : F p with
  | none => rfl
  | some o => rw [R.sub p o e] at h; cases h
theorem HReal.freeM (R : HReal K F H μ) (h : H p = none) : μ p = none := by
  cases e : μ p with
  | none => rfl
  | some m =>
    obtain ⟨_, o, z, _⟩ := R.mus p m e
    rw [z] at h; cases h
theorem HReal.ext (R : HReal K F H μ) : Ext F H := Ext.of_sub R.sub
/-- a new object that will not change -/
theorem HReal.newS (R : HReal K F H μ) {o : HO} (h : H p = none) : HReal K (upd F p o) (upd H p o) μ := by
  have hF := R.freeF h
  refine ⟨fun b u e => ?_, fun b m e => ?_⟩
  · by_cases hb : b = p
    · subst hb; rw [upd_same] at e ⊢; exact e
    · rw [upd_ne hb] at e ⊢; exact R.sub b u e
  · obtain ⟨z, u, q, r⟩ := R.mus b m e
    have hb : b ≠ p := ne_of_none q h
    exact ⟨by rw [upd_ne hb]; exact z, u, by rw [upd_ne hb]; exact q, r.mono (Ext.new hF)⟩
theorem Stp.newS (R : HReal K F H μ) {o : HO} (h : H p = none) : Stp F H μ (upd F p o) (upd H p o) μ :=
  ⟨Ext.new (R.freeF h), fun b h1 h2 h3 => by
    have hb : b ≠ p := fun z => by subst z; exact h1 h
    exact ⟨upd_ne hb, by rw [upd_ne hb]; exact h2, h3⟩⟩
/-- a new object that may change -/
theorem HReal.newM (R : HReal K F H μ) {o : HO} {m : MO} (h : H p = none) (r : RepO K F m o) : HReal K F (upd H p o) (up μ p m) := by
  have hF := R.freeF h
  refine ⟨fun b u e => ?_, fun b n e => ?_⟩
  · rw [upd_ne (ne_of_none e hF)]; exact R.sub b u e
  · by_cases hb : b = p
    · subst hb; rw [up_same] at e; cases e; exact ⟨hF, o, upd_same, r⟩
    · rw [up_ne hb] at e
      obtain ⟨z, u, q, r'⟩ := R.mus b n e
      exact ⟨z, u, by rw [upd_ne hb]; exact q, r'⟩
theorem Stp.newM (R : HReal K F H μ) {o : HO} {m : MO} (h : H p = none) : Stp F H μ F (upd H p o) (up μ p m) :=
  ⟨Ext.refl F, fun b h1 h2 h3 => by
    have hb : b ≠ p := fun z => by subst z; exact h1 h
    exact ⟨upd_ne hb, h2, by rw [up_ne hb]; exact h3⟩⟩
/-- an object is changed -/
theorem HReal.put (R : HReal K F H μ) {o : HO} {m n : MO} (h : μ a = some n) (r : RepO K F m o) : HReal K F (upd H a o) (up μ a m) := by
  have hF := (R.mus a n h).1
  refine ⟨fun b u e => ?_, fun b k e => ?_⟩
  · rw [upd_ne (ne_of_none e hF)]; exact R.sub b u e
  · by_cases hb : b = a
    · subst hb; rw [up_same] at e; cases e; exact ⟨hF, o, upd_same, r⟩
    · rw [up_ne hb] at e
      obtain ⟨z, u, q, r'⟩ := R.mus b k e
      exact ⟨z, u, by rw [upd_ne hb]; exact q, r'⟩
theorem Stp.put {o : HO} {m n : MO} (h : μ a = some n) : Stp F H μ F (upd H a o) (up μ a m) :=
  ⟨Ext.refl F, fun b h1 h2 h3 => by
    have hb : b ≠ a := fun z => by subst z; rw [h] at h3; cases h3
    exact ⟨upd_ne hb, h2, by rw [up_ne hb]; exact h3⟩⟩
/-- forgetting -/
def rm (μ : Mu) (a : Addr) : Mu := fun b => if b = a then none else μ b
theorem rm_same : rm μ a a = none := by unfold rm; rw [if_pos rfl]
theorem rm_ne {b : Addr} (h : b ≠ a) : rm μ a b = μ b := by unfold rm; rw [if_neg h]
theorem rm_up {m : MO} (h : μ a = none) : rm (up μ a m) a = μ := by
  funext b; unfold rm up; split
  · rename_i e; rw [e, h]
  · rfl
/-- a list that changes no more -/
theorem HReal.freeze (R : HReal K F H μ) {xs : List SD} (h : μ a = some (.lst xs)) : ∃ vs, H a = some (.lst vs) ∧ RepL K F xs vs ∧ HReal K (upd F a (.lst vs)) H (rm μ a) ∧ Stp F H μ (upd F a (.lst vs)) H (rm μ a) ∧ RepS K (upd F a (.lst vs)) (.lst xs) (.ref a) := by
  obtain ⟨hF, o, hH, r⟩ := R.mus a _ h
  cases r with
  | lst r =>
    rename_i vs
    have ex : Ext F (upd F a (.lst vs)) := Ext.new hF
    refine ⟨vs, hH, r, ⟨fun b u e => ?_, fun b m e => ?_⟩, ⟨ex, fun b h1 h2 h3 => ?_⟩, .lst upd_same (r.mono ex)⟩
    · by_cases hb : b = a
      · subst hb; rw [upd_same] at e; cases e; exact hH
      · rw [upd_ne hb] at e; exact R.sub b u e
    · by_cases hb : b = a
      · subst hb; rw [rm_same] at e; cases e
      · rw [rm_ne hb] at e
        obtain ⟨z, u, q, r'⟩ := R.mus b m e
        exact ⟨by rw [upd_ne hb]; exact z, u, q, r'.mono ex⟩
    · have hb : b ≠ a := fun z => by subst z; rw [h] at h3; cases h3
      exact ⟨rfl, by rw [upd_ne hb]; exact h2, by rw [rm_ne hb]; exact h3⟩
theorem HReal.freezeD (R : HReal K F H μ) {xs : List (Key × SD)} (h : μ a = some (.dic xs)) : ∃ vs, H a = some (.dK vs) ∧ HReal K (upd F a (.dK vs)) H (rm μ a) ∧ Stp F H μ (upd F a (.dK vs)) H (rm μ a) ∧ RepS K (upd F a (.dK vs)) (.dic xs) (.ref a) := by
  obtain ⟨hF, o, hH, r⟩ := R.mus a _ h
  cases r with
  | dic q r =>
    rename_i vs
    have ex : Ext F (upd F a (.dK vs)) := Ext.new hF
    refine ⟨vs, hH, ⟨fun b u e => ?_, fun b m e => ?_⟩, ⟨ex, fun b h1 h2 h3 => ?_⟩, .dic (.inl upd_same) q (r.mono ex)⟩
    · by_cases hb : b = a
      · subst hb; rw [upd_same] at e; cases e; exact hH
      · rw [upd_ne hb] at e; exact R.sub b u e
    · by_cases hb : b = a
      · subst hb; rw [rm_same] at e; cases e
      · rw [rm_ne hb] at e
        obtain ⟨z, u, q, r'⟩ := R.mus b m e
        exact ⟨by rw [upd_ne hb]; exact z, u, q, r'.mono ex⟩
    · have hb : b ≠ a := fun z => by subst z; rw [h] at h3; cases h3
      exact ⟨rfl, by rw [upd_ne hb]; exact h2, by rw [rm_ne hb]; exact h3⟩
end

abbrev Rho := List (Option SD)
/-- the slots: where ρ knows a datum, σ has it -/
structure Slots (K : PySem.W.Frag) (F : Hp) (σ : L2.St) (ρ : Rho) : Prop where
  len : σ.length = ρ.length
  at_ : ∀ (i : Nat) (d : SD), ρ[i]? = some (some d) → ∃ v, σ[i]? = some (some v) ∧ RepS K F d v
section
variable {K : PySem.W.Frag} {F F' : Hp} {σ : L2.St} {ρ : Rho}
theorem Slots.mono (e : Ext F F') (h : Slots K F σ ρ) : Slots K F' σ ρ := ⟨h.len, fun i d q => let ⟨v, a, b⟩ := h.at_ i d q; ⟨v, a, b.mono e⟩⟩
theorem Slots.set {d : SD} {v : V} (h : Slots K F σ ρ) (i : Nat) (r : RepS K F d v) : Slots K F (σ.set i (some v)) (ρ.set i (some d)) := by
  refine ⟨by simp [h.len], fun j e q => ?_⟩
  by_cases hj : j = i
  · subst hj
    by_cases hl : j < ρ.length
    · rw [List.getElem?_set_self hl] at q
      cases q
      exact ⟨v, List.getElem?_set_self (by rw [h.len]; exact hl), r⟩
    · rw [List.getElem?_eq_none (by simpa using Nat.le_of_not_lt hl)] at q; cases q
  · rw [List.getElem?_set_ne (Ne.symm hj)] at q ⊢
    exact h.at_ j e q
end

/-! ### the readings over data, and their lift -/
abbrev DTE := Rho → Mu → (SD → Mu → Prop) → Prop
abbrev DTT := Rho → Mu → (Bool → Mu → Prop) → Prop
abbrev DTA := Rho → Mu → (List SD → Mu → Prop) → Prop
/-- what an exception's reading may speak of: the class, its attributes -/
abbrev DXK := Addr → List (Str × SD) → Mu → Prop
structure DEnds where
  nx : Rho → Mu → Prop
  rt : SD → Mu → Prop
  bk : Rho → Mu → Prop := fun _ _ => False
  ct : Rho → Mu → Prop := fun _ _ => False
abbrev DTS := DEnds → Rho → Mu → Prop
abbrev DTG := SD → Rho → Mu → (Rho → Mu → Prop) → Prop
abbrev DTGs := List SD → Rho → Mu → (Rho → Mu → Prop) → Prop

/-- the state is (F, H, μ) with the slots; behind it Q' is to hold of the datum -/
def LE (K : PySem.W.Frag) (t : DTE) : TE := fun σ H Q => ∃ F ρ μ Q', HReal K F H μ ∧ Slots K F σ ρ ∧ t ρ μ Q' ∧
  ∀ d μ', Q' d μ' → ∀ F' H' v, Stp F H μ F' H' μ' → HReal K F' H' μ' → RepS K F' d v → Q v H'
def LT (K : PySem.W.Frag) (t : DTT) : TT := fun σ H Q => ∃ F ρ μ Q', HReal K F H μ ∧ Slots K F σ ρ ∧ t ρ μ Q' ∧
  ∀ b μ', Q' b μ' → ∀ F' H', Stp F H μ F' H' μ' → HReal K F' H' μ' → Q b H'
def LA (K : PySem.W.Frag) (t : DTA) : TA := fun σ H Q => ∃ F ρ μ Q', HReal K F H μ ∧ Slots K F σ ρ ∧ t ρ μ Q' ∧
  ∀ ds μ', Q' ds μ' → ∀ F' H' vs, Stp F H μ F' H' μ' → HReal K F' H' μ' → RepL K F' ds vs → Q vs H'
def LG (K : PySem.W.Frag) (t : DTG) : TG := fun v σ H Q => ∃ F ρ μ d Q', HReal K F H μ ∧ Slots K F σ ρ ∧ RepS K F d v ∧ t d ρ μ Q' ∧
  ∀ ρ' μ', Q' ρ' μ' → ∀ F' H' σ', Stp F H μ F' H' μ' → HReal K F' H' μ' → Slots K F' σ' ρ' → Q σ' H'
def LGs (K : PySem.W.Frag) (t : DTGs) : TGs := fun vs σ H Q => ∃ F ρ μ ds Q', HReal K F H μ ∧ Slots K F σ ρ ∧ RepL K F ds vs ∧ t ds ρ μ Q' ∧
  ∀ ρ' μ', Q' ρ' μ' → ∀ F' H' σ', Stp F H μ F' H' μ' → HReal K F' H' μ' → Slots K F' σ' ρ' → Q σ' H'
def LS (K : PySem.W.Frag) (t : DTS) : TS := fun D σ H => ∃ F ρ μ D', HReal K F H μ ∧ Slots K F σ ρ ∧ t D' ρ μ ∧
  (∀ ρ' μ', D'.nx ρ' μ' → ∀ F' H' σ', Stp F H μ F' H' μ' → HReal K F' H' μ' → Slots K F' σ' ρ' → D.nx σ' H') ∧
  (∀ d μ', D'.rt d μ' → ∀ F' H' v, Stp F H μ F' H' μ' → HReal K F' H' μ' → RepS K F' d v → D.rt v H') ∧
  (∀ ρ' μ', D'.bk ρ' μ' → ∀ F' H' σ', Stp F H μ F' H' μ' → HReal K F' H' μ' → Slots K F' σ' ρ' → D.bk σ' H') ∧
  (∀ ρ' μ', D'.ct ρ' μ' → ∀ F' H' σ', Stp F H μ F' H' μ' → HReal K F' H' μ' → Slots K F' σ' ρ' → D.ct σ' H')

abbrev DE (X : Cx) (e : Expr) (t : DTE) : Prop := PE X e (LE X.K t)
abbrev DT (X : Cx) (e : Expr) (t : DTT) : Prop := PT X e (LT X.K t)
abbrev DW (X : Cx) (e : Expr) (t : DTT) : Prop := PW X e (LT X.K t)
abbrev DA (X : Cx) (es : List Expr) (t : DTA) : Prop := PA X es (LA X.K t)
abbrev DG (X : Cx) (e : Expr) (t : DTG) : Prop := PG X e (LG X.K t)
abbrev DGs (X : Cx) (es : List Expr) (t : DTGs) : Prop := PGs X es (LGs X.K t)
abbrev DS_ (X : Cx) (s : Stmt) (t : DTS) : Prop := PS X s (LS X.K t)
abbrev DSs (X : Cx) (s : List Stmt) (t : DTS) : Prop := PSs X s (LS X.K t)

theorem weakE {X : Cx} {e : Expr} {t t' : TE} (h : PE X e t) (w : ∀ σ H Q, t' σ H Q → t σ H Q) : PE X e t' := ⟨fun pins s σ H Q I q => h.run pins s σ H Q I (w σ H Q q)⟩
theorem weakT {X : Cx} {e : Expr} {t t' : TT} (h : PT X e t) (w : ∀ σ H Q, t' σ H Q → t σ H Q) : PT X e t' := ⟨fun pins s σ H Q I q => h.run pins s σ H Q I (w σ H Q q)⟩
theorem weakW {X : Cx} {e : Expr} {t t' : TT} (h : PW X e t) (w : ∀ σ H Q, t' σ H Q → t σ H Q) : PW X e t' := ⟨fun wh pins s σ H Q I q => h.run wh pins s σ H Q I (w σ H Q q)⟩
theorem weakA {X : Cx} {e : List Expr} {t t' : TA} (h : PA X e t) (w : ∀ σ H Q, t' σ H Q → t σ H Q) : PA X e t' := ⟨fun ps pins s σ H Q I q => h.run ps pins s σ H Q I (w σ H Q q)⟩
theorem weakS {X : Cx} {e : Stmt} {t t' : TS} (h : PS X e t) (w : ∀ D σ H, t' D σ H → t D σ H) : PS X e t' := ⟨fun pins s σ H D I q => h.run pins s σ H D I (w D σ H q)⟩
theorem weakSs {X : Cx} {e : List Stmt} {t t' : TS} (h : PSs X e t) (w : ∀ D σ H, t' D σ H → t D σ H) : PSs X e t' := ⟨fun pins s σ H D I q => h.run pins s σ H D I (w D σ H q)⟩
theorem weakG {X : Cx} {e : Expr} {t t' : TG} (h : PG X e t) (w : ∀ v σ H Q, t' v σ H Q → t v σ H Q) : PG X e t' := ⟨fun pins s σ H v u Q I r q => h.run pins s σ H v u Q I r (w v σ H Q q)⟩
theorem weakGs {X : Cx} {e : List Expr} {t t' : TGs} (h : PGs X e t) (w : ∀ v σ H Q, t' v σ H Q → t v σ H Q) : PGs X e t' := ⟨fun pins s σ H v u Q I r q => h.run pins s σ H v u Q I r (w v σ H Q q)⟩

/-! ### expressions -/
section
variable {X : Cx} {pos p : Pos} {a b c e o : Expr} {es : List Expr} {x : Str}
def dVar (i : Nat) : DTE := fun ρ μ Q => match ρ[i]? with
  | some (some d) => Q d μ
  | _ => False
theorem de_var {i : Nat} (hN : X.N[i]? = some x) (hv : Vis X.env.scope x) (hd : (x == ("__debug__" : Str)) = false := by decide) (hcd : (x == ("__classdict__" : Str)) = false := by decide) : DE X (.Name x pos) (dVar i) :=
  weakE (pe_var hN hv hd hcd) fun σ H Q h => by
    obtain ⟨F, ρ, μ, Q', R, S, t, k⟩ := h
    unfold dVar at t
    split at t
    · rename_i d e
      obtain ⟨v, h1, h2⟩ := S.at_ _ _ e
      exact ⟨v, h1, k d μ t F H v (Stp.refl F H μ) R h2⟩
    · exact t.elim
abbrev dC (d : SD) : DTE := fun _ μ Q => Q d μ
/-- a datum whose value is plain -/
def plain : SD → Option V
  | .non => some .non
  | .bl b => some (.bl b)
  | .int i => some (.int i)
  | .str x => some (.str x)
  | .ref a => some (.ref a)
  | .ty n => some (.ty n)
  | _ => none
theorem RepS.plain {K : PySem.W.Frag} {F : Hp} {d : SD} {v : V} (h : plain d = some v) : RepS K F d v := by
  cases d <;> simp [DS.plain] at h <;> subst h <;> constructor
theorem RepS.isPlain {K : PySem.W.Frag} {F : Hp} {d : SD} {v w : V} (h : RepS K F d v) (p : DS.plain d = some w) : v = w := by
  cases h <;> simp [DS.plain] at p <;> exact p
theorem liftC {t : TE} {d : SD} {v : V} (h : PE X e (tC v)) (p : plain d = some v) : DE X e (dC d) :=
  weakE h fun σ H Q h => by
    obtain ⟨F, ρ, μ, Q', R, S, t, k⟩ := h
    exact k d μ t F H v (Stp.refl F H μ) R (RepS.plain p)
theorem de_int {i : Int} {j} : DE X (.Constant (.int i) j pos) (dC (.int i)) := liftC (t := tC (.int i)) pe_int rfl
theorem de_bl {i : Bool} {j} : DE X (.Constant (.bool i) j pos) (dC (.bl i)) := liftC (t := tC (.bl i)) pe_bl rfl
theorem de_non {j} : DE X (.Constant .none j pos) (dC .non) := liftC (t := tC .non) pe_non rfl
theorem de_str {y : Str} {j} : DE X (.Constant (.str y) j pos) (dC (.str y)) := liftC (t := tC (.str y)) pe_str rfl
theorem de_glob {d : SD} {v : V} {u : Value} (hg : Gl X x) (hm : X.mg x = some u) (r : RelV v u) (pl : plain d = some v) (hd : (x == ("__debug__" : Str)) = false := by decide) : DE X (.Name x pos) (dC d) := liftC (t := tC v) (pe_glob hg hm r hd) pl

/-- two operands -/
abbrev DR2 := SD → SD → Mu → (SD → Mu → Prop) → Prop
def LR2 (K : PySem.W.Frag) (dr : DR2) (r : R2) : Prop := ∀ F H μ x y dx dy Q' Q, HReal K F H μ → RepS K F dx x → RepS K F dy y → dr dx dy μ Q' →
  (∀ d μ', Q' d μ' → ∀ F' H' v, Stp F H μ F' H' μ' → HReal K F' H' μ' → RepS K F' d v → Q v H') → r x y H Q
abbrev dOp (dr : DR2) (ta tb : DTE) : DTE := fun ρ μ Q => ta ρ μ fun x μ1 => tb ρ μ1 fun y μ2 => dr x y μ2 Q
theorem lift2 {K : PySem.W.Frag} {dr : DR2} {r : R2} {ta tb : DTE} (hl : LR2 K dr r) : ∀ σ H Q, LE K (dOp dr ta tb) σ H Q → tOp r (LE K ta) (LE K tb) σ H Q := fun σ H Q h => by
  obtain ⟨F, ρ, μ, Q', R, S, t, k⟩ := h
  refine ⟨F, ρ, μ, _, R, S, t, fun d1 μ1 t1 F1 H1 v1 s1 R1 r1 => ?_⟩
  refine ⟨F1, ρ, μ1, _, R1, S.mono s1.ext, t1, fun d2 μ2 t2 F2 H2 v2 s2 R2 r2 => ?_⟩
  exact hl F2 H2 μ2 v1 v2 d1 d2 Q' Q R2 (r1.mono s2.ext) r2 t2 fun d μ' q F' H' v s R' r' => k d μ' q F' H' v ((s1.trans s2).trans s) R' r'
theorem de_op {op : Operator} {r : R2} {dr : DR2} {ta tb : DTE} (ho : OpR X (binaryOp op) r) (hl : LR2 X.K dr r) (ha : DE X a ta) (hb : DE X b tb) : DE X (.BinOp a op b pos) (dOp dr ta tb) :=
  weakE (pe_op ho ha hb) (lift2 hl)
theorem de_cmp {op : CmpOp} {r : R2} {dr : DR2} {ta tb : DTE} (ho : OpR X (compareOp op) r) (hl : LR2 X.K dr r) (ha : DE X a ta) (hb : DE X b tb) (hm : behindInMarks op b = false) : DE X (.Compare a [op] [b] pos) (dOp dr ta tb) :=
  weakE (pe_cmpR ho ha hb hm) (lift2 hl)
abbrev dTest (t : DTE) : DTT := fun ρ μ Q => t ρ μ fun d μ1 => match d with
  | .bl b => Q b μ1
  | _ => False
theorem dt_cmp {op : CmpOp} {r : R2} {dr : DR2} {ta tb : DTE} (ho : OpR X (compareOp op) r) (hl : LR2 X.K dr r) (ha : DE X a ta) (hb : DE X b tb) (hm : behindInMarks op b = false) : DT X (.Compare a [op] [b] pos) (dTest (dOp dr ta tb)) :=
  weakT (pt_cmpR ho ha hb hm) fun σ H Q h => by
    obtain ⟨F, ρ, μ, Q', R, S, t, k⟩ := h
    refine lift2 hl σ H _ ⟨F, ρ, μ, _, R, S, t, fun d μ' q F' H' v s R' r' => ?_⟩
    cases r' with
    | bl b => exact ⟨b, rfl, k b μ' q F' H' s R'⟩
    | _ => exact q.elim
/-- an expression that gives True or False, as a test -/
theorem dt_val {t : DTE} (h : DE X e t) (he : ∀ whole, isTrue e X.env whole = (do let v ← whole; standAt e.pos; holding [v] (truthy v)) := by intro _; rfl) : DT X e (dTest t) :=
  weakT (pt_val h he) fun σ H Q h => by
    obtain ⟨F, ρ, μ, Q', R, S, t, k⟩ := h
    refine ⟨F, ρ, μ, _, R, S, t, fun d μ' q F' H' v s R' r' => ?_⟩
    cases r' with
    | bl b => exact ⟨b, rfl, k b μ' q F' H' s R'⟩
    | _ => exact q.elim
abbrev dAnd (t u : DTT) : DTT := fun ρ μ Q => t ρ μ fun c μ1 => if c = true then u ρ μ1 Q else Q false μ1
abbrev dOr (t u : DTT) : DTT := fun ρ μ Q => t ρ μ fun c μ1 => if c = true then Q true μ1 else u ρ μ1 Q
abbrev dNot (t : DTT) : DTT := fun ρ μ Q => t ρ μ fun c μ1 => Q (!c) μ1
section
variable {K : PySem.W.Frag} {t u : DTT}
theorem lift_and : ∀ σ H Q, LT K (dAnd t u) σ H Q → tAnd (LT K t) (LT K u) σ H Q := fun σ H Q h => by
  obtain ⟨F, ρ, μ, Q', R, S, t, k⟩ := h
  refine ⟨F, ρ, μ, _, R, S, t, fun c μ1 t1 F1 H1 s1 R1 => ?_⟩
  cases c with
  | true => exact ⟨F1, ρ, μ1, Q', R1, S.mono s1.ext, t1, fun b μ' q F' H' s R' => k b μ' q F' H' (s1.trans s) R'⟩
  | false => exact k false μ1 t1 F1 H1 s1 R1
theorem lift_or : ∀ σ H Q, LT K (dOr t u) σ H Q → tOr (LT K t) (LT K u) σ H Q := fun σ H Q h => by
  obtain ⟨F, ρ, μ, Q', R, S, t, k⟩ := h
  refine ⟨F, ρ, μ, _, R, S, t, fun c μ1 t1 F1 H1 s1 R1 => ?_⟩
  cases c with
  | false => exact ⟨F1, ρ, μ1, Q', R1, S.mono s1.ext, t1, fun b μ' q F' H' s R' => k b μ' q F' H' (s1.trans s) R'⟩
  | true => exact k true μ1 t1 F1 H1 s1 R1
end
theorem dw_and1 {t : DTT} (ha : DT X a t) : DW X (.BoolOp .And [a] pos) t := pw_and1 ha
theorem dw_or1 {t : DTT} (ha : DT X a t) : DW X (.BoolOp .Or [a] pos) t := pw_or1 ha
theorem dw_and {t u : DTT} {rest : List Expr} (ha : DT X a t) (hb : DW X (.BoolOp .And (b :: rest) pos) u) : DW X (.BoolOp .And (a :: b :: rest) pos) (dAnd t u) := weakW (pw_and ha hb) lift_and
theorem dw_or {t u : DTT} {rest : List Expr} (ha : DT X a t) (hb : DW X (.BoolOp .Or (b :: rest) pos) u) : DW X (.BoolOp .Or (a :: b :: rest) pos) (dOr t u) := weakW (pw_or ha hb) lift_or
theorem dt_not {t : DTT} (ha : DT X a t) : DT X (.UnaryOp .Not a pos) (dNot t) := weakT (pt_not ha) fun σ H Q h => by
  obtain ⟨F, ρ, μ, Q', R, S, t, k⟩ := h
  exact ⟨F, ρ, μ, _, R, S, t, fun c μ1 t1 F1 H1 s1 R1 => k (!c) μ1 t1 F1 H1 s1 R1⟩
/-- and, or, not as values: all but the last True or False -/
abbrev dAndV (ta tb : DTE) : DTE := fun ρ μ Q => ta ρ μ fun x μ1 => match x with
  | .bl true => tb ρ μ1 Q
  | .bl false => Q (.bl false) μ1
  | _ => False
abbrev dOrV (ta tb : DTE) : DTE := fun ρ μ Q => ta ρ μ fun x μ1 => match x with
  | .bl true => Q (.bl true) μ1
  | .bl false => tb ρ μ1 Q
  | _ => False
abbrev dNotV (ta : DTE) : DTE := fun ρ μ Q => ta ρ μ fun x μ1 => match x with
  | .bl b => Q (.bl (!b)) μ1
  | _ => False
theorem de_one {op} {t : DTE} (h : DE X a t) : DE X (.BoolOp op [a] pos) t := pe_one h
theorem de_and {ta tb : DTE} {rest : List Expr} (ha : DE X a ta) (hb : DE X (.BoolOp .And (b :: rest) pos) tb) : DE X (.BoolOp .And (a :: b :: rest) pos) (dAndV ta tb) := weakE (pe_and ha hb) fun σ H Q h => by
  obtain ⟨F, ρ, μ, Q', R, S, t, k⟩ := h
  refine ⟨F, ρ, μ, _, R, S, t, fun d μ1 t1 F1 H1 v s1 R1 r1 => ?_⟩
  cases r1 with
  | bl c =>
    refine ⟨c, rfl, ?_⟩
    cases c with
    | true => exact ⟨F1, ρ, μ1, Q', R1, S.mono s1.ext, t1, fun b μ' q F' H' v s R' r' => k b μ' q F' H' v (s1.trans s) R' r'⟩
    | false => exact k _ μ1 t1 F1 H1 _ s1 R1 (.bl false)
  | _ => exact t1.elim
theorem de_or {ta tb : DTE} {rest : List Expr} (ha : DE X a ta) (hb : DE X (.BoolOp .Or (b :: rest) pos) tb) : DE X (.BoolOp .Or (a :: b :: rest) pos) (dOrV ta tb) := weakE (pe_or ha hb) fun σ H Q h => by
  obtain ⟨F, ρ, μ, Q', R, S, t, k⟩ := h
  refine ⟨F, ρ, μ, _, R, S, t, fun d μ1 t1 F1 H1 v s1 R1 r1 => ?_⟩
  cases r1 with
  | bl c =>
    refine ⟨c, rfl, ?_⟩
    cases c with
    | false => exact ⟨F1, ρ, μ1, Q', R1, S.mono s1.ext, t1, fun b μ' q F' H' v s R' r' => k b μ' q F' H' v (s1.trans s) R' r'⟩
    | true => exact k _ μ1 t1 F1 H1 _ s1 R1 (.bl true)
  | _ => exact t1.elim
theorem de_not {ta : DTE} (ha : DE X a ta) : DE X (.UnaryOp .Not a pos) (dNotV ta) := weakE (pe_not ha) fun σ H Q h => by
  obtain ⟨F, ρ, μ, Q', R, S, t, k⟩ := h
  refine ⟨F, ρ, μ, _, R, S, t, fun d μ1 t1 F1 H1 v s1 R1 r1 => ?_⟩
  cases r1 with
  | bl c => exact ⟨c, rfl, k _ μ1 t1 F1 H1 _ s1 R1 (.bl _)⟩
  | _ => exact t1.elim
abbrev dIf (t : DTT) (ta tb : DTE) : DTE := fun ρ μ Q => t ρ μ fun c μ1 => if c = true then ta ρ μ1 Q else tb ρ μ1 Q
theorem de_ifExp {t : DTT} {ta tb : DTE} (hc : DT X c t) (ha : DE X a ta) (hb : DE X b tb) : DE X (.IfExp c a b pos) (dIf t ta tb) := weakE (pe_ifExp hc ha hb) fun σ H Q h => by
  obtain ⟨F, ρ, μ, Q', R, S, t, k⟩ := h
  refine ⟨F, ρ, μ, _, R, S, t, fun d μ1 t1 F1 H1 s1 R1 => ?_⟩
  cases d with
  | true => exact ⟨F1, ρ, μ1, Q', R1, S.mono s1.ext, t1, fun b μ' q F' H' v s R' r' => k b μ' q F' H' v (s1.trans s) R' r'⟩
  | false => exact ⟨F1, ρ, μ1, Q', R1, S.mono s1.ext, t1, fun b μ' q F' H' v s R' r' => k b μ' q F' H' v (s1.trans s) R' r'⟩
/-- a < b < c -/
abbrev dChain (r r' : DR2) (ta tb tc : DTE) : DTE := fun ρ μ Q => ta ρ μ fun x μ1 => tb ρ μ1 fun y μ2 => r x y μ2 fun z μ3 => match z with
  | .bl true => tc ρ μ3 fun w μ4 => r' y w μ4 Q
  | .bl false => Q (.bl false) μ3
  | _ => False
theorem de_chain {op op' : CmpOp} {r r' : R2} {dr dr' : DR2} {ta tb tc : DTE} (ho : OpR X (compareOp op) r) (hl : LR2 X.K dr r) (ho' : OpR X (compareOp op') r') (hl' : LR2 X.K dr' r') (ha : DE X a ta) (hb : DE X b tb) (hc : DE X c tc) (hm : lastMarks [op, op'] [b, c] = false := by rfl) :
    DE X (.Compare a [op, op'] [b, c] pos) (dChain dr dr' ta tb tc) := weakE (pe_chain ho ho' ha hb hc hm) fun σ H Q h => by
  obtain ⟨F, ρ, μ, Q', R, S, t, k⟩ := h
  refine ⟨F, ρ, μ, _, R, S, t, fun d1 μ1 t1 F1 H1 v1 s1 R1 r1 => ?_⟩
  refine ⟨F1, ρ, μ1, _, R1, S.mono s1.ext, t1, fun d2 μ2 t2 F2 H2 v2 s2 R2 r2 => ?_⟩
  refine hl F2 H2 μ2 v1 v2 d1 d2 _ _ R2 (r1.mono s2.ext) r2 t2 fun d3 μ3 t3 F3 H3 v3 s3 R3 r3 => ?_
  cases r3 with
  | bl z =>
    refine ⟨z, rfl, ?_⟩
    cases z with
    | true =>
      refine ⟨F3, ρ, μ3, _, R3, S.mono ((s1.trans s2).trans s3).ext, t3, fun d4 μ4 t4 F4 H4 v4 s4 R4 r4 => ?_⟩
      exact hl' F4 H4 μ4 v2 v4 d2 d4 Q' Q R4 (r2.mono (s3.trans s4).ext) r4 t4 fun d μ' q F' H' v s R' r' => k d μ' q F' H' v ((((s1.trans s2).trans s3).trans s4).trans s) R' r'
    | false => exact k _ μ3 t3 F3 H3 _ ((s1.trans s2).trans s3) R3 (.bl false)
  | _ => exact t3.elim

/-! ### arguments, displays -/
abbrev dNil : DTA := fun _ μ Q => Q [] μ
abbrev dCons (te : DTE) (t : DTA) : DTA := fun ρ μ Q => te ρ μ fun x μ1 => t ρ μ1 fun xs μ2 => Q (x :: xs) μ2
theorem da_nil : DA X [] dNil := weakA pa_nil fun σ H Q h => by
  obtain ⟨F, ρ, μ, Q', R, S, t, k⟩ := h
  exact k [] μ t F H [] (Stp.refl F H μ) R .nil
theorem da_cons {te : DTE} {t : DTA} (ha : DE X e te) (hr : DA X es t) (hs : starEach (e :: es) X.env = (false, eval e X.env) :: starEach es X.env := by rfl) : DA X (e :: es) (dCons te t) :=
  weakA (pa_cons ha hr hs) fun σ H Q h => by
    obtain ⟨F, ρ, μ, Q', R, S, t, k⟩ := h
    refine ⟨F, ρ, μ, _, R, S, t, fun d1 μ1 t1 F1 H1 v1 s1 R1 r1 => ?_⟩
    exact ⟨F1, ρ, μ1, _, R1, S.mono s1.ext, t1, fun ds μ2 t2 F2 H2 vs s2 R2 r2 => k _ μ2 t2 F2 H2 _ (s1.trans s2) R2 (.cons (r1.mono s2.ext) r2)⟩
abbrev dTup (t : DTA) : DTE := fun ρ μ Q => t ρ μ fun xs μ1 => xs.length ≤ sizeLine ∧ Q (.tup xs) μ1
abbrev dLst (t : DTA) : DTE := fun ρ μ Q => t ρ μ fun xs μ1 => xs.length ≤ sizeLine ∧ Q (.lst xs) μ1
/-- a list that may change -/
abbrev dLstM (t : DTA) : DTE := fun ρ μ Q => t ρ μ fun xs μ1 => xs.length ≤ sizeLine ∧ ∀ p, μ1 p = none → Q (.ref p) (up μ1 p (.lst xs))
theorem de_tup {t : DTA} {x1} (h : DA X es t) : DE X (.Tuple es x1 pos) (dTup t) := weakE (pe_tup h) fun σ H Q h => by
  obtain ⟨F, ρ, μ, Q', R, S, t, k⟩ := h
  refine ⟨F, ρ, μ, _, R, S, t, fun ds μ1 t1 F1 H1 vs s1 R1 r1 => ⟨by rw [← r1.length]; exact t1.1, fun p hp => ?_⟩⟩
  exact k _ μ1 t1.2 _ _ _ (s1.trans (Stp.newS R1 hp)) (R1.newS hp) (.tup (.inl (.inl upd_same)) (r1.mono (Ext.new (R1.freeF hp))))
theorem de_lst {t : DTA} (h : DA X es t) : DE X (.List es pos) (dLst t) := weakE (pe_lst h) fun σ H Q h => by
  obtain ⟨F, ρ, μ, Q', R, S, t, k⟩ := h
  refine ⟨F, ρ, μ, _, R, S, t, fun ds μ1 t1 F1 H1 vs s1 R1 r1 => ⟨by rw [← r1.length]; exact t1.1, fun p hp => ?_⟩⟩
  exact k _ μ1 t1.2 _ _ _ (s1.trans (Stp.newS R1 hp)) (R1.newS hp) (.lst upd_same (r1.mono (Ext.new (R1.freeF hp))))
theorem de_lstM {t : DTA} (h : DA X es t) : DE X (.List es pos) (dLstM t) := weakE (pe_lst h) fun σ H Q h => by
  obtain ⟨F, ρ, μ, Q', R, S, t, k⟩ := h
  refine ⟨F, ρ, μ, _, R, S, t, fun ds μ1 t1 F1 H1 vs s1 R1 r1 => ⟨by rw [← r1.length]; exact t1.1, fun p hp => ?_⟩⟩
  exact k _ _ (t1.2 p (R1.freeM hp)) _ _ _ (s1.trans (Stp.newM R1 hp)) (R1.newM hp (.lst r1)) (.ref p)
end

/-! ### statements -/
section
variable {X : Cx} {pos p : Pos} {a b c e o : Expr} {es : List Expr} {x : Str} {st : Stmt} {rest : List Stmt}
abbrev dNext : DTS := fun D ρ μ => D.nx ρ μ
abbrev dSeq (t u : DTS) : DTS := fun D ρ μ => t { D with nx := u D } ρ μ
theorem dss_nil : DSs X [] dNext := weakSs pss_nil fun D σ H h => by
  obtain ⟨F, ρ, μ, D', R, S, t, k, _⟩ := h
  exact k ρ μ t F H σ (Stp.refl F H μ) R S
theorem dss_cons {t u : DTS} (h1 : DS_ X st t) (h2 : DSs X rest u) : DSs X (st :: rest) (dSeq t u) := weakSs (pss_cons h1 h2) fun D σ H h => by
  obtain ⟨F, ρ, μ, D', R, S, t, k, k2, k3, k4⟩ := h
  exact ⟨F, ρ, μ, _, R, S, t, fun ρ1 μ1 t1 F1 H1 σ1 s1 R1 S1 => ⟨F1, ρ1, μ1, D', R1, S1, t1, fun ρ' μ' q F' H' σ' s => k ρ' μ' q F' H' σ' (s1.trans s), fun d μ' q F' H' v s => k2 d μ' q F' H' v (s1.trans s),
    fun ρ' μ' q F' H' σ' s => k3 ρ' μ' q F' H' σ' (s1.trans s), fun ρ' μ' q F' H' σ' s => k4 ρ' μ' q F' H' σ' (s1.trans s)⟩, k2, k3, k4⟩
theorem dss_one {t : DTS} (h1 : DS_ X st t) : DSs X [st] t := pss_one h1
theorem ds_pass : DS_ X (.Pass pos) dNext := weakS ps_pass fun D σ H h => by
  obtain ⟨F, ρ, μ, D', R, S, t, k, _⟩ := h
  exact k ρ μ t F H σ (Stp.refl F H μ) R S
theorem ds_doc {y j pos'} : DS_ X (.Expr (.Constant (.str y) j pos) pos') dNext := weakS ps_doc fun D σ H h => by
  obtain ⟨F, ρ, μ, D', R, S, t, k, _⟩ := h
  exact k ρ μ t F H σ (Stp.refl F H μ) R S
abbrev dDrop (te : DTE) : DTS := fun D ρ μ => te ρ μ fun _ μ1 => D.nx ρ μ1
theorem ds_expr {te : DTE} (he : DE X e te) (hs : swapsWith e none pos.line X.env = pure false := by rfl) : DS_ X (.Expr e pos) (dDrop te) := weakS (ps_expr he hs) fun D σ H h => by
  obtain ⟨F, ρ, μ, D', R, S, t, k, _⟩ := h
  exact ⟨F, ρ, μ, _, R, S, t, fun d μ1 t1 F1 H1 v s1 R1 r1 => k ρ μ1 t1 F1 H1 σ s1 R1 (S.mono s1.ext)⟩
abbrev dRet (te : DTE) : DTS := fun D ρ μ => te ρ μ D.rt
theorem ds_ret {te : DTE} (he : DE X e te) : DS_ X (.Return (some e) pos) (dRet te) := weakS (ps_ret he) fun D σ H h => by
  obtain ⟨F, ρ, μ, D', R, S, t, _, k, _⟩ := h
  exact ⟨F, ρ, μ, _, R, S, t, k⟩
/-- return of a list that has been filled: from then on it does not change -/
def frz : (SD → Mu → Prop) → SD → Mu → Prop := fun Q d μ => match d with
  | .ref a => match μ a with
    | some (.lst xs) => Q (.lst xs) (rm μ a)
    | some (.dic xs) => Q (.dic xs) (rm μ a)
    | _ => False
  | _ => False
abbrev dRetF (te : DTE) : DTS := fun D ρ μ => te ρ μ (frz D.rt)
theorem ds_retF {te : DTE} (he : DE X e te) : DS_ X (.Return (some e) pos) (dRetF te) := weakS (ps_ret he) fun D σ H h => by
  obtain ⟨F, ρ, μ, D', R, S, t, _, k, _⟩ := h
  refine ⟨F, ρ, μ, _, R, S, t, fun d μ1 t1 F1 H1 v s1 R1 r1 => ?_⟩
  cases r1 with
  | ref z =>
    unfold frz at t1
    simp only at t1
    split at t1
    · rename_i xs hx
      obtain ⟨vs, h1, h2, R2, s2, r2⟩ := R1.freeze hx
      exact k _ _ t1 _ _ _ (s1.trans s2) R2 r2
    · rename_i xs hx
      obtain ⟨vs, h1, R2, s2, r2⟩ := R1.freezeD hx
      exact k _ _ t1 _ _ _ (s1.trans s2) R2 r2
    · exact t1.elim
  | _ => exact t1.elim
abbrev dRetN : DTS := fun D ρ μ => D.rt .non μ
theorem ds_retN : DS_ X (.Return none pos) dRetN := weakS ps_retN fun D σ H h => by
  obtain ⟨F, ρ, μ, D', R, S, t, _, k, _⟩ := h
  exact k .non μ t F H _ (Stp.refl F H μ) R .non
abbrev dIfS (c : DTT) (t u : DTS) : DTS := fun D ρ μ => c ρ μ fun b μ1 => if b = true then t D ρ μ1 else u D ρ μ1
theorem ds_if {ss uu : List Stmt} {tc : DTT} {t u : DTS} (hc : DT X c tc) (ha : DSs X ss t) (hb : DSs X uu u) : DS_ X (.If c ss uu pos) (dIfS tc t u) := weakS (ps_if hc ha hb) fun D σ H h => by
  obtain ⟨F, ρ, μ, D', R, S, t, k, k2, k3, k4⟩ := h
  refine ⟨F, ρ, μ, _, R, S, t, fun d μ1 t1 F1 H1 s1 R1 => ?_⟩
  cases d with
  | true => exact ⟨F1, ρ, μ1, D', R1, S.mono s1.ext, t1, fun ρ' μ' q F' H' σ' s => k ρ' μ' q F' H' σ' (s1.trans s), fun d μ' q F' H' v s => k2 d μ' q F' H' v (s1.trans s),
    fun ρ' μ' q F' H' σ' s => k3 ρ' μ' q F' H' σ' (s1.trans s), fun ρ' μ' q F' H' σ' s => k4 ρ' μ' q F' H' σ' (s1.trans s)⟩
  | false => exact ⟨F1, ρ, μ1, D', R1, S.mono s1.ext, t1, fun ρ' μ' q F' H' σ' s => k ρ' μ' q F' H' σ' (s1.trans s), fun d μ' q F' H' v s => k2 d μ' q F' H' v (s1.trans s),
    fun ρ' μ' q F' H' σ' s => k3 ρ' μ' q F' H' σ' (s1.trans s), fun ρ' μ' q F' H' σ' s => k4 ρ' μ' q F' H' σ' (s1.trans s)⟩
abbrev dNever : DTS := fun _ _ _ => False
theorem ds_never : DS_ X st dNever := weakS ps_never fun D σ H h => by
  obtain ⟨F, ρ, μ, D', R, S, t, _⟩ := h
  exact t.elim
theorem dss_never : DSs X rest dNever := weakSs pss_never fun D σ H h => by
  obtain ⟨F, ρ, μ, D', R, S, t, _⟩ := h
  exact t.elim
abbrev dBreak : DTS := fun D ρ μ => D.bk ρ μ
abbrev dCont : DTS := fun D ρ μ => D.ct ρ μ
theorem ds_break : DS_ X (.Break pos) dBreak := weakS ps_break fun D σ H h => by
  obtain ⟨F, ρ, μ, D', R, S, t, _, _, k, _⟩ := h
  exact k ρ μ t F H σ (Stp.refl F H μ) R S
theorem ds_continue : DS_ X (.Continue pos) dCont := weakS ps_continue fun D σ H h => by
  obtain ⟨F, ρ, μ, D', R, S, t, _, _, _, k⟩ := h
  exact k ρ μ t F H σ (Stp.refl F H μ) R S

/-! targets -/
abbrev hName (i : Nat) : DTG := fun d ρ μ Q => Q (ρ.set i (some d)) μ
theorem dg_name {i : Nat} (hN : X.N.Nodup) (hi : X.N[i]? = some x) (hx : Loc X.env.scope x) (hf : X.fn x = true ∨ X.env.scope.names.lookup x = some .local := by first | exact .inl rfl | exact .inr rfl | assumption) : DG X (.Name x pos) (hName i) :=
  weakG (pg_name hN hi hx hf) fun v σ H Q h => by
    obtain ⟨F, ρ, μ, d, Q', R, S, r, t, k⟩ := h
    exact k _ μ t F H _ (Stp.refl F H μ) R (S.set i r)
abbrev hNil : DTGs := fun vs ρ μ Q => vs = [] ∧ Q ρ μ
abbrev hCons (t : DTG) (u : DTGs) : DTGs := fun vs ρ μ Q => match vs with
  | v :: r => t v ρ μ fun ρ' μ' => u r ρ' μ' Q
  | [] => False
theorem dgs_nil : DGs X [] hNil := weakGs pgs_nil fun v σ H Q h => by
  obtain ⟨F, ρ, μ, ds, Q', R, S, r, ⟨e, t⟩, k⟩ := h
  subst e
  cases r
  exact ⟨rfl, k ρ μ t F H σ (Stp.refl F H μ) R S⟩
theorem dgs_cons {t : DTG} {u : DTGs} (h1 : DG X e t) (h2 : DGs X es u) (hs : (assignEach (e :: es) X.env).map (·.2) = assign e X.env :: (assignEach es X.env).map (·.2) := by rfl) : DGs X (e :: es) (hCons t u) :=
  weakGs (pgs_cons h1 h2 hs) fun v σ H Q h => by
    obtain ⟨F, ρ, μ, ds, Q', R, S, r, t, k⟩ := h
    cases r with
    | nil => exact t.elim
    | cons r rr =>
      refine ⟨_, _, rfl, F, ρ, μ, _, _, R, S, r, t, fun ρ1 μ1 t1 F1 H1 σ1 s1 R1 S1 => ?_⟩
      exact ⟨F1, ρ1, μ1, _, Q', R1, S1, rr.mono s1.ext, t1, fun ρ' μ' q F' H' σ' s => k ρ' μ' q F' H' σ' (s1.trans s)⟩
abbrev hTup (n : Nat) (t : DTGs) : DTG := fun d ρ μ Q => match d with
  | .tup xs => xs.length = n ∧ t xs ρ μ Q
  | _ => False
theorem dg_tup {k : Nat} {t : DTGs} {n : Nat} (hc : X.calm = true) (h : DGs X es t) (hn : (assignEach es X.env).length = n := by rfl) (hst : (assignEach es X.env).findIdx? (·.1) = none := by rfl) : DG X (.Tuple es k pos) (hTup n t) :=
  weakG (pg_tup hc h hn hst) fun v σ H Q h => by
    obtain ⟨F, ρ, μ, d, Q', R, S, r, t, k⟩ := h
    cases r with
    | tup h r => exact ⟨_, _, rfl, R.ext.sqT h, by rw [← r.length]; exact t.1, F, ρ, μ, _, Q', R, S, r, t.2, k⟩
    | _ => exact t.elim
abbrev dAsg (te : DTE) (g : DTG) : DTS := fun D ρ μ => te ρ μ fun x μ1 => g x ρ μ1 D.nx
theorem liftAsg {K : PySem.W.Frag} {te : DTE} {g : DTG} : ∀ D σ H, LS K (dAsg te g) D σ H → tAsg (LE K te) (LG K g) D σ H := fun D σ H h => by
  obtain ⟨F, ρ, μ, D', R, S, t, k, _⟩ := h
  exact ⟨F, ρ, μ, _, R, S, t, fun d μ1 t1 F1 H1 v s1 R1 r1 => ⟨F1, ρ, μ1, d, _, R1, S.mono s1.ext, r1, t1, fun ρ' μ' q F' H' σ' s => k ρ' μ' q F' H' σ' (s1.trans s)⟩⟩
theorem ds_asg {tg : Expr} {te : DTE} {g : DTG} (he : DE X e te) (hg : DG X tg g) (hs : swapsWithSole [tg] e pos.line X.env = pure false := by rfl) (hw : swappedStores [tg] e X.env = pure none := by rfl)
    (h1 : (assignEach [tg] X.env).map (·.2) = [assign tg X.env] := by rfl) : DS_ X (.Assign [tg] e pos) (dAsg te g) := weakS (ps_asg he hg hs hw h1) liftAsg
abbrev dSet (te : DTE) (i : Nat) : DTS := fun D ρ μ => te ρ μ fun x μ1 => D.nx (ρ.set i (some x)) μ1
theorem ds_set {i : Nat} {te : DTE} {pos' : Pos} (hN : X.N.Nodup) (hi : X.N[i]? = some x) (hx : Loc X.env.scope x) (he : DE X e te) (hs : swapsWith e (some (.Name x pos')) pos.line X.env = pure false := by rfl) (hf : X.fn x = true ∨ X.env.scope.names.lookup x = some .local := by first | exact .inl rfl | exact .inr rfl | assumption) :
    DS_ X (.Assign [.Name x pos'] e pos) (dSet te i) := weakS (ps_set hN hi hx he hs hf) fun D σ H h => by
  obtain ⟨F, ρ, μ, D', R, S, t, k, _⟩ := h
  exact ⟨F, ρ, μ, _, R, S, t, fun d μ1 t1 F1 H1 v s1 R1 r1 => k _ μ1 t1 F1 H1 _ s1 R1 ((S.mono s1.ext).set i r1)⟩
abbrev dPar (i j : Nat) (ta : DTA) : DTS := fun D ρ μ => ta ρ μ fun vs μ1 => match vs with
  | [v, w] => D.nx ((ρ.set i (some v)).set j (some w)) μ1
  | _ => False
theorem ds_par {i j : Nat} {x y : Str} {ta : DTA} {px py pt : Pos} {kt k2 pt2} (hc : X.calm = true) (hN : X.N.Nodup) (hi : X.N[i]? = some x) (hj : X.N[j]? = some y) (hij : i ≠ j)
    (hx : X.env.scope.names.lookup x = some .local) (hy : X.env.scope.names.lookup y = some .local) (ha : DA X [a, b] ta)
    (hw : swappedStores [.Tuple [.Name x px, .Name y py] kt pt] (.Tuple [a, b] k2 pt2) X.env = pure (some [x, y]))
    (hs : swapsWithSole [.Tuple [.Name x px, .Name y py] kt pt] (.Tuple [a, b] k2 pt2) pos.line X.env = pure false := by rfl) :
    DS_ X (.Assign [.Tuple [.Name x px, .Name y py] kt pt] (.Tuple [a, b] k2 pt2) pos) (dPar i j ta) := weakS (ps_par hc hN hi hj hij hx hy ha hw hs) fun D σ H h => by
  obtain ⟨F, ρ, μ, D', R, S, t, k, _⟩ := h
  refine ⟨F, ρ, μ, _, R, S, t, fun ds μ1 t1 F1 H1 vs s1 R1 r1 => ?_⟩
  cases r1 with
  | nil => exact t1.elim
  | cons r1 r2 => cases r2 with
    | nil => exact t1.elim
    | cons r2 r3 => cases r3 with
      | cons _ _ => exact t1.elim
      | nil => exact ⟨_, _, rfl, k _ μ1 t1 F1 H1 _ s1 R1 (((S.mono s1.ext).set i r1).set j r2)⟩
abbrev dPar3 (i j l : Nat) (ta : DTA) : DTS := fun D ρ μ => ta ρ μ fun vs μ1 => match vs with
  | [u, v, w] => D.nx (((ρ.set i (some u)).set j (some v)).set l (some w)) μ1
  | _ => False
theorem ds_par3 {i j l : Nat} {x y z : Str} {ta : DTA} {px py pz pt : Pos} {kt k2 pt2} (hc : X.calm = true) (hN : X.N.Nodup) (hi : X.N[i]? = some x) (hj : X.N[j]? = some y) (hl : X.N[l]? = some z) (hij : i ≠ j) (hil : i ≠ l) (hjl : j ≠ l)
    (hx : X.env.scope.names.lookup x = some .local) (hy : X.env.scope.names.lookup y = some .local) (hz : X.env.scope.names.lookup z = some .local) (ha : DA X [a, b, c] ta)
    (hw : swappedStores [.Tuple [.Name x px, .Name y py, .Name z pz] kt pt] (.Tuple [a, b, c] k2 pt2) X.env = pure (some [x, y, z]))
    (hs : swapsWithSole [.Tuple [.Name x px, .Name y py, .Name z pz] kt pt] (.Tuple [a, b, c] k2 pt2) pos.line X.env = pure false := by rfl) :
    DS_ X (.Assign [.Tuple [.Name x px, .Name y py, .Name z pz] kt pt] (.Tuple [a, b, c] k2 pt2) pos) (dPar3 i j l ta) := weakS (ps_par3 hc hN hi hj hl hij hil hjl hx hy hz ha hw hs) fun D σ H h => by
  obtain ⟨F, ρ, μ, D', R, S, t, k, _⟩ := h
  refine ⟨F, ρ, μ, _, R, S, t, fun ds μ1 t1 F1 H1 vs s1 R1 r1 => ?_⟩
  cases r1 with
  | nil => exact t1.elim
  | cons r1 r2 => cases r2 with
    | nil => exact t1.elim
    | cons r2 r3 => cases r3 with
      | nil => exact t1.elim
      | cons r3 r4 => cases r4 with
        | cons _ _ => exact t1.elim
        | nil => exact ⟨_, _, _, rfl, k _ μ1 t1 F1 H1 _ s1 R1 ((((S.mono s1.ext).set i r1).set j r2).set l r3)⟩
end
end DS
/-! DS2: loops, comprehensions, calls of defs, operators, subscripts. -/
namespace DS
open PySem PySem.Spec PyProof.Rows L2

/-! ### sequences -/
def lstD (μ : Mu) : SD → Option (List SD)
  | .lst xs => some xs
  | .ref a => match μ a with
    | some (.lst xs) => some xs
    | _ => none
  | _ => none
def seqD (μ : Mu) : SD → Option (List SD)
  | .tup xs => some xs
  | .rol xs => some xs
  | .lst xs => some xs
  | .ref a => match μ a with
    | some (.lst xs) => some xs
    | _ => none
  | _ => none
def isTup : SD → Bool
  | .tup _ => true
  | _ => false
section
variable {K : PySem.W.Frag} {F H : Hp} {μ : Mu} {d : SD} {v : V} {xs : List SD}
theorem HReal.lst (R : HReal K F H μ) (r : RepS K F d v) (e : lstD μ d = some xs) : ∃ a vs, v = .ref a ∧ H a = some (.lst vs) ∧ RepL K F xs vs := by
  cases r with
  | lst h q => cases e; exact ⟨_, _, rfl, R.sub _ _ h, q⟩
  | ref a =>
    unfold lstD at e
    simp only at e
    split at e
    · rename_i ys hy
      cases e
      obtain ⟨_, o, h, q⟩ := R.mus a _ hy
      cases q with
      | lst q => exact ⟨a, _, rfl, h, q⟩
    · cases e
  | _ => cases e
theorem HReal.seq (R : HReal K F H μ) (r : RepS K F d v) (e : seqD μ d = some xs) : ∃ a vs, v = .ref a ∧ RepL K F xs vs ∧ ((isTup d = false ∧ SqL K H a vs) ∨ (isTup d = true ∧ SqT K H a vs)) := by
  cases r with
  | lst h q => cases e; exact ⟨_, _, rfl, q, .inl ⟨rfl, SqL.of (R.sub _ _ h)⟩⟩
  | rol h q => cases e; exact ⟨_, _, rfl, q, .inl ⟨rfl, R.ext.sqL h⟩⟩
  | tup h q => cases e; exact ⟨_, _, rfl, q, .inr ⟨rfl, R.ext.sqT h⟩⟩
  | ref a =>
    unfold seqD at e
    simp only at e
    split at e
    · rename_i ys hy
      cases e
      obtain ⟨_, o, h, q⟩ := R.mus a _ hy
      cases q with
      | lst q => exact ⟨a, _, rfl, q, .inl ⟨rfl, SqL.of h⟩⟩
    · cases e
  | _ => cases e
theorem HReal.seq' (R : HReal K F H μ) (r : RepS K F d v) (e : seqD μ d = some xs) : ∃ a vs, v = .ref a ∧ RepL K F xs vs ∧ (SqL K H a vs ∨ SqT K H a vs) := by
  obtain ⟨a, vs, h1, h2, h3⟩ := R.seq r e
  exact ⟨a, vs, h1, h2, h3.imp And.right And.right⟩
end

/-! ### while -/
def dWhile (c : DTT) (tb : DTS) : DTS := fun D ρ μ => ∃ W : Nat → Rho → Mu → Prop, (∃ m, W m ρ μ) ∧ ∀ m ρ μ, W m ρ μ →
  c ρ μ fun b μ1 => if b = true then ∃ N : Rho → Mu → Prop, (∀ ρ' μ', N ρ' μ' → ∃ m', m' < m ∧ W m' ρ' μ') ∧ tb { D with nx := N, ct := N, bk := D.nx } ρ μ1 else D.nx ρ μ1
section
variable {X : Cx} {pos p : Pos} {a b c e o iter tg : Expr} {es : List Expr} {x : Str} {st : Stmt} {rest body : List Stmt}
theorem ds_while {tc : DTT} {tb : DTS} (hp : PassesOwn (model X.prog X.w) X.A X.env X.xe) (hc : DT X c tc) (hb : DSs X body tb) : DS_ X (.While c body [] pos) (dWhile tc tb) := weakS (ps_while hp hc hb) fun D σ H h => by
  obtain ⟨F0, ρ0, μ0, D', R0, S0, ⟨W, ⟨m0, w0⟩, turn⟩, k, k2, k3, k4⟩ := h
  refine ⟨fun m σ1 H1 => ∃ F ρ μ, Stp F0 H μ0 F H1 μ ∧ HReal X.K F H1 μ ∧ Slots X.K F σ1 ρ ∧ W m ρ μ, ⟨m0, F0, ρ0, μ0, Stp.refl _ _ _, R0, S0, w0⟩, ?_⟩
  rintro m σ1 H1 ⟨F, ρ, μ, s, R, S, w⟩
  refine ⟨F, ρ, μ, _, R, S, turn m ρ μ w, fun b μ1 t1 F1 H2 s1 R1 => ?_⟩
  cases b with
  | false => exact k ρ μ1 t1 F1 H2 σ1 (s.trans s1) R1 (S.mono s1.ext)
  | true =>
    obtain ⟨N, hN, t2⟩ := (show ∃ N : Rho → Mu → Prop, _ from t1)
    refine ⟨fun σ' H' => ∃ F ρ μ, Stp F0 H μ0 F H' μ ∧ HReal X.K F H' μ ∧ Slots X.K F σ' ρ ∧ N ρ μ, ?_, ?_⟩
    · rintro σ' H' ⟨F', ρ', μ', s', R', S', n⟩
      obtain ⟨m', hm, w'⟩ := hN ρ' μ' n
      exact ⟨m', hm, F', ρ', μ', s', R', S', w'⟩
    · refine ⟨F1, ρ, μ1, _, R1, S.mono s1.ext, t2, ?_, ?_, ?_, ?_⟩
      · exact fun ρ' μ' q F' H' σ' s' R' S' => ⟨F', ρ', μ', (s.trans s1).trans s', R', S', q⟩
      · exact fun d μ' q F' H' v s' R' r' => k2 d μ' q F' H' v ((s.trans s1).trans s') R' r'
      · exact fun ρ' μ' q F' H' σ' s' R' S' => k ρ' μ' q F' H' σ' ((s.trans s1).trans s') R' S'
      · exact fun ρ' μ' q F' H' σ' s' R' S' => ⟨F', ρ', μ', (s.trans s1).trans s', R', S', q⟩

/-! ### what is walked -/
structure Src (K : PySem.W.Frag) (F0 H0 : Hp) (μ0 : Mu) (J : It) (ds : List SD) (ok : Mu → Prop) : Prop where
  go : ∀ (i : Nat) (F H : Hp) (μ : Mu), Stp F0 H0 μ0 F H μ → HReal K F H μ → ok μ → i < ds.length → J.go i H
  stop : ∀ (F H : Hp) (μ : Mu), Stp F0 H0 μ0 F H μ → HReal K F H μ → ok μ → J.stop ds.length H
  yld : ∀ (i : Nat) (F H : Hp) (μ : Mu) (x : V) (H' : Hp), Stp F0 H0 μ0 F H μ → HReal K F H μ → ok μ → J.yld i H x H' → ∀ d, ds[i]? = some d → ∃ F', Stp F H μ F' H' μ ∧ HReal K F' H' μ ∧ RepS K F' d x
abbrev DTI := Rho → Mu → (List SD → (Mu → Prop) → Mu → Prop) → Prop
def LI (K : PySem.W.Frag) (t : DTI) : TI := fun σ H R => ∃ F ρ μ Q', HReal K F H μ ∧ Slots K F σ ρ ∧ t ρ μ Q' ∧
  ∀ ds ok μ', Q' ds ok μ' → ∀ F' H' J, Stp F H μ F' H' μ' → HReal K F' H' μ' → Src K F' H' μ' J ds ok → R J H'
abbrev DI (X : Cx) (tg iter : Expr) (t : DTI) : Prop := PI X tg iter (LI X.K t)
theorem weakI {t t' : TI} (h : PI X tg iter t) (w : ∀ σ H R, t' σ H R → t σ H R) : PI X tg iter t' := ⟨fun pins s σ H R I q => h.run pins s σ H R I (w σ H R q)⟩

theorem src_list {K : PySem.W.Frag} {F0 H0 : Hp} {μ0 : Mu} {a : Addr} {ds : List SD} {ok : Mu → Prop} (h : ∀ (F H : Hp) (μ : Mu), Stp F0 H0 μ0 F H μ → HReal K F H μ → ok μ → ∃ vs, SqL K H a vs ∧ RepL K F ds vs) : Src K F0 H0 μ0 (Itl K a) ds ok where
  go := fun i F H μ e R k hi => by
    obtain ⟨vs, h1, h2⟩ := h F H μ e R k
    exact ⟨vs, vs[i]'(by rw [← h2.length]; exact hi), h1, List.getElem?_eq_getElem _⟩
  stop := fun F H μ e R k => by
    obtain ⟨vs, h1, h2⟩ := h F H μ e R k
    exact ⟨vs, h1, by rw [h2.length]; exact Nat.le_refl _⟩
  yld := fun i F H μ x H' e R k y d hd => by
    obtain ⟨vs, h1, h2⟩ := h F H μ e R k
    obtain ⟨rfl, y⟩ := y
    obtain ⟨v, h3, h4⟩ := h2.get hd
    have := y vs h1
    rw [h3] at this; cases this
    exact ⟨F, Stp.refl _ _ _, R, h4⟩
theorem src_tup {K : PySem.W.Frag} {F0 H0 : Hp} {μ0 : Mu} {a : Addr} {ds : List SD} {ok : Mu → Prop} (h : ∀ (F H : Hp) (μ : Mu), Stp F0 H0 μ0 F H μ → HReal K F H μ → ok μ → ∃ vs, SqT K H a vs ∧ RepL K F ds vs) : Src K F0 H0 μ0 (Itt K a) ds ok where
  go := fun i F H μ e R k hi => by
    obtain ⟨vs, h1, h2⟩ := h F H μ e R k
    exact ⟨vs, vs[i]'(by rw [← h2.length]; exact hi), h1, List.getElem?_eq_getElem _⟩
  stop := fun F H μ e R k => by
    obtain ⟨vs, h1, h2⟩ := h F H μ e R k
    exact ⟨vs, h1, by rw [h2.length]; exact Nat.le_refl _⟩
  yld := fun i F H μ x H' e R k y d hd => by
    obtain ⟨vs, h1, h2⟩ := h F H μ e R k
    obtain ⟨rfl, y⟩ := y
    obtain ⟨v, h3, h4⟩ := h2.get hd
    have := y vs h1
    rw [h3] at this; cases this
    exact ⟨F, Stp.refl _ _ _, R, h4⟩
/-- list, tuple or text, whichever it is -/
def iSeq (K : PySem.W.Frag) (tl : TE) : TI := fun σ H R => tl σ H fun x H1 => (∃ a, x = .ref a ∧ (∃ xs, SqL K H1 a xs) ∧ R (Itl K a) H1) ∨ (∃ a, x = .ref a ∧ (∃ xs, SqT K H1 a xs) ∧ R (Itt K a) H1) ∨ ∃ y, x = .str y ∧ R (Its y) H1
theorem pi_seq {l : Expr} {tl : TE} (hl : PE X l tl) : PI X tg l (iSeq X.K tl) := by
  refine ⟨fun pins s σ H R I h => ?_⟩
  refine thn (hl.run pins s σ H _ I h) fun v s1 ⟨x, H1, I1, r1, q1⟩ => ?_
  rcases q1 with ⟨a, e, ⟨xs, hq⟩, q⟩ | ⟨a, e, ⟨xs, hq⟩, q⟩ | ⟨y, e, q⟩
  · subst e
    cases r1
    obtain ⟨its, rv, p, hz⟩ := I1.list hq
    refine wpAny_pyIter_list p.isList ?_
    refine ⟨s1.heap.objs.size, [s1.heap.objs.size], _, _, H1, rfl, I1.kept (t' := s1.toks) fun b o e => Heap.get?_push_of_some _ e, turn_list a _, ⟨_, Heap.get?_push_size _ rfl, rfl, rfl⟩, fun b hb => ?_, q⟩
    have e : b = s1.heap.objs.size := by simpa using hb
    subst e
    exact I1.fpOk (Nat.le_refl _) (I1.hok.fresh (Nat.le_refl _))
  · subst e
    cases r1
    obtain ⟨its, rv, p, hz⟩ := I1.tuple hq
    refine wpAny_pyIter_tuple (show s1.heap.IsTuple a its.toArray from p) ?_
    refine ⟨s1.heap.objs.size, [s1.heap.objs.size], _, _, H1, rfl, I1.kept (t' := s1.toks) fun b o e => Heap.get?_push_of_some _ e, turn_tuple a _, ⟨_, Heap.get?_push_size _ rfl, rfl, rfl⟩, fun b hb => ?_, q⟩
    have e : b = s1.heap.objs.size := by simpa using hb
    subst e
    exact I1.fpOk (Nat.le_refl _) (I1.hok.fresh (Nat.le_refl _))
  · subst e
    obtain ⟨t, rfl⟩ := r1
    cases ha : y.cps.all (· < 128)
    · exact wpAny_pyIter_wide ha (pi_one (tk := s1.toks) I1 _ (turn_str _ y t "str_iterator" (.inr rfl)) ⟨_, Heap.get?_push_size _ rfl, rfl, rfl⟩ q)
    · exact wpAny_pyIter_ascii ha (pi_one (tk := s1.toks) I1 _ (turn_str _ y t "str_ascii_iterator" (.inl rfl)) ⟨_, Heap.get?_push_size _ rfl, rfl, rfl⟩ q)
def chars (y : Str) : List SD := y.cps.toList.map fun c => .str ⟨#[c]⟩
abbrev jSeq (t : DTE) : DTI := fun ρ μ Q => t ρ μ fun d μ1 => match d with
  | .str y => Q (chars y) (fun _ => True) μ1
  | d => match seqD μ1 d with
    | some xs => Q xs (fun μ' => seqD μ' d = some xs) μ1
    | none => False
theorem src_seq {K : PySem.W.Frag} {F H : Hp} {μ : Mu} {d : SD} {v : V} {xs : List SD} (R : HReal K F H μ) (r : RepS K F d v) (e : seqD μ d = some xs) :
    ∃ a, v = .ref a ∧ ((∃ vs, SqL K H a vs) ∧ Src K F H μ (Itl K a) xs (fun μ' => seqD μ' d = some xs) ∨ (∃ vs, SqT K H a vs) ∧ Src K F H μ (Itt K a) xs (fun μ' => seqD μ' d = some xs)) := by
  obtain ⟨a, vs, h1, h2, h3⟩ := R.seq r e
  refine ⟨a, h1, ?_⟩
  subst h1
  rcases h3 with ⟨z, h3⟩ | ⟨z, h3⟩
  · refine .inl ⟨⟨vs, h3⟩, src_list fun F' H' μ' ex R' k => ?_⟩
    obtain ⟨b, ws, q1, q2, q3⟩ := R'.seq (r.mono ex.ext) k
    cases q1
    rcases q3 with ⟨_, q3⟩ | ⟨q, _⟩
    · exact ⟨ws, q3, q2⟩
    · rw [z] at q; cases q
  · refine .inr ⟨⟨vs, h3⟩, src_tup fun F' H' μ' ex R' k => ?_⟩
    obtain ⟨b, ws, q1, q2, q3⟩ := R'.seq (r.mono ex.ext) k
    cases q1
    rcases q3 with ⟨q, _⟩ | ⟨_, q3⟩
    · rw [z] at q; cases q
    · exact ⟨ws, q3, q2⟩
theorem src_str {K : PySem.W.Frag} {F H0 : Hp} {μ0 : Mu} (y : Str) : Src K F H0 μ0 (Its y) (chars y) fun _ => True where
  go := fun i F H μ e R k hi => by
    show i < y.cps.size
    simpa [chars] using hi
  stop := fun F H μ e R k => by
    show y.cps.size ≤ (chars y).length
    simp [chars]
  yld := fun i F H μ x H' e R k yy d hd => by
    obtain ⟨rfl, c, h1, rfl⟩ := yy
    have : (chars y)[i]? = some (.str ⟨#[c]⟩) := by simp [chars, h1]
    rw [this] at hd; cases hd
    exact ⟨F, Stp.refl _ _ _, R, .str _⟩
theorem di_seq {l : Expr} {tl : DTE} (hl : DE X l tl) : DI X tg l (jSeq tl) := weakI (pi_seq hl) fun σ H R h => by
  obtain ⟨F, ρ, μ, Q', R0, S, t, k⟩ := h
  refine ⟨F, ρ, μ, _, R0, S, t, fun d μ1 t1 F1 H1 v s1 R1 r1 => ?_⟩
  have seqCase : ∀ xs, seqD μ1 d = some xs → Q' xs (fun μ' => seqD μ' d = some xs) μ1 → ((∃ a, v = .ref a ∧ (∃ xs, SqL X.K H1 a xs) ∧ R (Itl X.K a) H1) ∨ (∃ a, v = .ref a ∧ (∃ xs, SqT X.K H1 a xs) ∧ R (Itt X.K a) H1) ∨ ∃ y, v = .str y ∧ R (Its y) H1) := fun xs e q => by
    obtain ⟨a, e1, h | h⟩ := src_seq R1 r1 e
    · exact .inl ⟨a, e1, h.1, k _ _ _ q F1 H1 _ s1 R1 h.2⟩
    · exact .inr (.inl ⟨a, e1, h.1, k _ _ _ q F1 H1 _ s1 R1 h.2⟩)
  cases r1 with
  | str y => exact .inr (.inr ⟨y, rfl, k _ _ _ t1 F1 H1 _ s1 R1 (src_str y)⟩)
  | lst h q => exact seqCase _ rfl t1
  | tup h q => exact seqCase _ rfl t1
  | rol h q => exact seqCase _ rfl t1
  | ref b =>
    simp only at t1
    cases e : seqD μ1 (.ref b) with
    | none => rw [e] at t1; exact t1.elim
    | some xs => rw [e] at t1; exact seqCase xs e t1
  | _ => exact t1.elim
abbrev jRng1 (ta : DTA) : DTI := fun ρ μ Q => ta ρ μ fun vs μ1 => match vs with
  | [.int j] => (-(2 ^ 62) ≤ j ∧ j < 2 ^ 62) ∧ Q ((List.range j.toNat).map fun i => .int (i : Nat)) (fun _ => True) μ1
  | _ => False
theorem src_rng {K : PySem.W.Frag} {F H0 : Hp} {μ0 : Mu} (lo : Int) (n : Nat) : Src K F H0 μ0 (Itr lo n) ((List.range n).map fun i => .int (lo + (i : Nat))) fun _ => True where
  go := fun i F H μ e R k hi => by
    show i < n
    simpa using hi
  stop := fun F H μ e R k => by
    show n ≤ _
    simp
  yld := fun i F H μ x H' e R k yy d hd => by
    obtain ⟨rfl, rfl⟩ := yy
    rw [List.getElem?_map] at hd
    by_cases hi : i < n
    · rw [List.getElem?_range hi] at hd
      cases hd
      exact ⟨F, Stp.refl _ _ _, R, .int _⟩
    · rw [List.getElem?_eq_none (by simpa using Nat.le_of_not_lt hi)] at hd; cases hd
theorem di_range1 {ta : DTA} (hg : Gl X "range") (hm : X.mg "range" = none) (ha : DA X [a] ta) (hs : starEach [a] X.env = [(false, eval a X.env)] := by rfl) : DI X tg (.Call (.Name "range" p) [a] [] pos) (jRng1 ta) := weakI (pi_range1 hg hm ha hs) fun σ H R h => by
  obtain ⟨F, ρ, μ, Q', R0, S, t, k⟩ := h
  refine ⟨F, ρ, μ, _, R0, S, t, fun ds μ1 t1 F1 H1 vs s1 R1 r1 => ?_⟩
  cases r1 with
  | nil => exact t1.elim
  | cons r1 r2 => cases r2 with
    | cons _ _ => cases r1 <;> exact t1.elim
    | nil => cases r1 with
      | int j =>
        refine ⟨j, rfl, t1.1.1, t1.1.2, ?_⟩
        have hS := src_rng (K := X.K) (F := F1) (H0 := H1) (μ0 := μ1) 0 j.toNat
        simp only [Int.zero_add] at hS
        exact k _ _ _ t1.2 F1 H1 _ s1 R1 hS
      | _ => exact t1.elim
abbrev jRng2 (ta : DTA) : DTI := fun ρ μ Q => ta ρ μ fun vs μ1 => match vs with
  | [.int i, .int j] => (-(2 ^ 62) ≤ i ∧ i < 2 ^ 62 ∧ -(2 ^ 62) ≤ j ∧ j < 2 ^ 62) ∧ Q ((List.range (j - i).toNat).map fun k => .int (i + (k : Nat))) (fun _ => True) μ1
  | _ => False
theorem di_range2 {ta : DTA} (hg : Gl X "range") (hm : X.mg "range" = none) (ha : DA X [a, b] ta) (hs : starEach [a, b] X.env = [(false, eval a X.env), (false, eval b X.env)] := by rfl) (hs2 : starEach [b] X.env = [(false, eval b X.env)] := by rfl) : DI X tg (.Call (.Name "range" p) [a, b] [] pos) (jRng2 ta) := weakI (pi_range2 hg hm ha hs hs2) fun σ H R h => by
  obtain ⟨F, ρ, μ, Q', R0, S, t, k⟩ := h
  refine ⟨F, ρ, μ, _, R0, S, t, fun ds μ1 t1 F1 H1 vs s1 R1 r1 => ?_⟩
  cases r1 with
  | nil => exact t1.elim
  | cons r1 r2 => cases r2 with
    | nil => cases r1 <;> exact t1.elim
    | cons r2 r3 => cases r3 with
      | cons _ _ => cases r1 <;> cases r2 <;> exact t1.elim
      | nil => cases r1 with
        | int i => cases r2 with
          | int j => exact ⟨i, j, rfl, t1.1, k _ _ _ t1.2 F1 H1 _ s1 R1 (src_rng _ _)⟩
          | _ => exact t1.elim
        | _ => cases r2 <;> exact t1.elim
def enums (xs : List SD) : List SD := xs.mapIdx fun i d => .tup [.int (i : Nat), d]
/-- enumerate of a list -/
abbrev jEnum (ta : DTA) : DTI := fun ρ μ Q => ta ρ μ fun vs μ1 => match vs with
  | [d] => isTup d = false ∧ match seqD μ1 d with
    | some xs => Q (enums xs) (fun μ' => seqD μ' d = some xs) μ1
    | none => False
  | _ => False
theorem src_enum {K : PySem.W.Frag} {F0 H0 : Hp} {μ0 : Mu} {a : Addr} {ds : List SD} {ok : Mu → Prop} (h : ∀ (F H : Hp) (μ : Mu), Stp F0 H0 μ0 F H μ → HReal K F H μ → ok μ → ∃ vs, SqL K H a vs ∧ RepL K F ds vs) : Src K F0 H0 μ0 (Ite K a) (enums ds) ok where
  go := fun i F H μ e R k hi => by
    obtain ⟨vs, h1, h2⟩ := h F H μ e R k
    have : i < vs.length := by rw [← h2.length]; simpa [enums] using hi
    exact ⟨vs, vs[i], h1, List.getElem?_eq_getElem _⟩
  stop := fun F H μ e R k => by
    obtain ⟨vs, h1, h2⟩ := h F H μ e R k
    exact ⟨vs, h1, by rw [← h2.length]; simp [enums]⟩
  yld := fun i F H μ x H' e R k y d hd => by
    obtain ⟨vs, h1, h2⟩ := h F H μ e R k
    obtain ⟨T, z, rfl, hT, rfl, y⟩ := y
    have hz := y vs h1
    obtain ⟨d', h3, h4⟩ := h2.getV hz
    have : (enums ds)[i]? = some (.tup [.int (i : Nat), d']) := by simp [enums, h3]
    rw [this] at hd; cases hd
    have ex : Ext F (upd F T (.tup [.int (i : Nat), z])) := Ext.new (R.freeF hT)
    exact ⟨_, Stp.newS R hT, R.newS hT, .tup (.inl (.inl upd_same)) (.cons (.int _) (.one (h4.mono ex)))⟩
theorem di_enum {ta : DTA} {elts : List Expr} {kk : Nat} {tpos : Pos} (hg : Gl X "enumerate") (hm : X.mg "enumerate" = none) (ha : DA X [e] ta) (hs : starEach [e] X.env = [(false, eval e X.env)] := by rfl) : DI X (.Tuple elts kk tpos) (.Call (.Name "enumerate" p) [e] [] pos) (jEnum ta) := weakI (pi_enum hg hm ha hs) fun σ H R h => by
  obtain ⟨F, ρ, μ, Q', R0, S, t, k⟩ := h
  refine ⟨F, ρ, μ, _, R0, S, t, fun ds μ1 t1 F1 H1 vs s1 R1 r1 => ?_⟩
  cases r1 with
  | nil => exact t1.elim
  | cons r1 r2 => cases r2 with
    | cons _ _ => exact t1.elim
    | nil =>
      rename_i d v
      obtain ⟨tt, t1⟩ := (show isTup d = false ∧ _ from t1)
      cases e : seqD μ1 d with
      | none => rw [e] at t1; exact t1.elim
      | some xs =>
        rw [e] at t1
        obtain ⟨a, ws, q1, q2, q3⟩ := R1.seq r1 e
        subst q1
        rcases q3 with ⟨_, q3⟩ | ⟨q, _⟩
        · refine ⟨a, ws, rfl, q3, k _ _ _ t1 F1 H1 _ s1 R1 (src_enum fun F' H' μ' ex R' kk => ?_)⟩
          obtain ⟨b, ys, p1, p2, p3⟩ := R'.seq (r1.mono ex.ext) kk
          cases p1
          rcases p3 with ⟨_, p3⟩ | ⟨p, _⟩
          · exact ⟨ys, p3, p2⟩
          · rw [tt] at p; cases p
        · rw [tt] at q; cases q
/-- zip of two lists or two tuples -/
def zips (xs ys : List SD) : List SD := List.zipWith (fun x y => SD.tup [x, y]) xs ys
def jZip (ta : DTA) : DTI := fun ρ μ Q => ta ρ μ fun vs μ1 => match vs with
  | [d, f] => isTup d = isTup f ∧ match seqD μ1 d, seqD μ1 f with
    | some xs, some ys => Q (zips xs ys) (fun μ' => seqD μ' d = some xs ∧ seqD μ' f = some ys) μ1
    | _, _ => False
  | _ => False

/-! ### for -/
def dFor (wi : DTI) (g : DTG) (tb : DTS) : DTS := fun D ρ μ => wi ρ μ fun ds ok μ1 => ∃ W : Nat → Rho → Mu → Prop, W 0 ρ μ1 ∧ (∀ i ρ μ, i ≤ ds.length → W i ρ μ → ok μ) ∧
  (∀ i d ρ μ, ds[i]? = some d → W i ρ μ → g d ρ μ fun ρ2 μ2 => tb { D with nx := W (i + 1), ct := W (i + 1), bk := D.nx } ρ2 μ2) ∧ ∀ ρ μ, W ds.length ρ μ → D.nx ρ μ
theorem ds_for {wi : DTI} {g : DTG} {tb : DTS} (hp : PassesOwn (model X.prog X.w) X.A X.env X.xe) (hc : X.calm = true) (hi : DI X tg iter wi) (hg : DG X tg g) (hb : DSs X body tb)
    (hs : ∀ x, foldedSetIterable iter X.env x = pure x := by intro _; rfl) : DS_ X (.For tg iter body [] pos) (dFor wi g tb) := weakS (ps_for hp hc hi hg hb hs) fun D σ H h => by
  obtain ⟨F0, ρ0, μ0, D', R0, S0, t, k, k2, k3, k4⟩ := h
  refine ⟨F0, ρ0, μ0, _, R0, S0, t, fun ds ok μ1 t1 F1 H1 J s1 R1 src => ?_⟩
  obtain ⟨W, w0, hok, turn, fin⟩ := t1
  refine ⟨fun i m σ' H' => i + m = ds.length ∧ ∃ F ρ μ, Stp F1 H1 μ1 F H' μ ∧ HReal X.K F H' μ ∧ Slots X.K F σ' ρ ∧ W i ρ μ, ⟨ds.length, by omega, F1, ρ0, μ1, Stp.refl _ _ _, R1, S0.mono s1.ext, w0⟩, ?_⟩
  rintro i m σ' H' ⟨him, F, ρ, μ, s, R, S, w⟩
  have hle : i ≤ ds.length := by omega
  by_cases hi : i < ds.length
  · refine .inr ⟨src.go i F H' μ s R (hok i ρ μ hle w) hi, fun σ2 H2 => ∃ F ρ μ, Stp F1 H1 μ1 F H2 μ ∧ HReal X.K F H2 μ ∧ Slots X.K F σ2 ρ ∧ W (i + 1) ρ μ, ?_, ?_⟩
    · rintro σ2 H2 ⟨F', ρ', μ', s', R', S', w'⟩
      exact ⟨ds.length - (i + 1), by omega, by omega, F', ρ', μ', s', R', S', w'⟩
    · intro x H2 y
      obtain ⟨F', s', R', r'⟩ := src.yld i F H' μ x H2 s R (hok i ρ μ hle w) y _ (List.getElem?_eq_getElem hi)
      refine ⟨F', ρ, μ, _, _, R', S.mono s'.ext, r', turn i _ ρ μ (List.getElem?_eq_getElem hi) w, fun ρ2 μ2 t2 F2 H3 σ2 s2 R2 S2 => ?_⟩
      refine ⟨F2, ρ2, μ2, _, R2, S2, t2, ?_, ?_, ?_, ?_⟩
      · exact fun ρ' μ' q F'' H'' σ'' s'' R'' S'' => ⟨F'', ρ', μ', ((s.trans s').trans s2).trans s'', R'', S'', q⟩
      · exact fun d μ' q F'' H'' v s'' R'' r'' => k2 d μ' q F'' H'' v (s1.trans (((s.trans s').trans s2).trans s'')) R'' r''
      · exact fun ρ' μ' q F'' H'' σ'' s'' R'' S'' => k ρ' μ' q F'' H'' σ'' (s1.trans (((s.trans s').trans s2).trans s'')) R'' S''
      · exact fun ρ' μ' q F'' H'' σ'' s'' R'' S'' => ⟨F'', ρ', μ', ((s.trans s').trans s2).trans s'', R'', S'', q⟩
  · have e : i = ds.length := by omega
    subst e
    exact .inl ⟨src.stop F H' μ s R (hok _ ρ μ hle w), k ρ μ (fin ρ μ w) F H' σ' (s1.trans s) R S⟩

/-! ### list comprehensions -/
def wipeR (ρ : Rho) : List Nat → Rho
  | [] => ρ
  | v :: vs => (wipeR ρ vs).set v none
theorem Slots.setN {K : PySem.W.Frag} {F : Hp} {σ : L2.St} {ρ : Rho} (h : Slots K F σ ρ) (i : Nat) : Slots K F (σ.set i none) (ρ.set i none) := by
  refine ⟨by simp [h.len], fun j e q => ?_⟩
  by_cases hj : j = i
  · subst hj
    by_cases hl : j < ρ.length
    · rw [List.getElem?_set_self hl] at q; cases q
    · rw [List.getElem?_eq_none (by simpa using Nat.le_of_not_lt hl)] at q; cases q
  · rw [List.getElem?_set_ne (Ne.symm hj)] at q ⊢
    exact h.at_ j e q
theorem Slots.wipe {K : PySem.W.Frag} {F : Hp} {σ : L2.St} {ρ : Rho} (h : Slots K F σ ρ) : ∀ vs : List Nat, Slots K F (wipe σ vs) (wipeR ρ vs)
  | [] => h
  | v :: vs => (Slots.wipe h vs).setN v
/-- setting own slots only -/
def Own (σ σ2 : L2.St) (vs : List Nat) : Prop := wipe σ2 vs = wipe σ vs
theorem wipe_set (σ : L2.St) (v : Option V) : ∀ {vs : List Nat} {i : Nat}, i ∈ vs → wipe (σ.set i v) vs = wipe σ vs
  | w :: vs, i, h => by
    by_cases e : i ∈ vs
    · show (wipe (σ.set i v) vs).set w none = (wipe σ vs).set w none
      rw [wipe_set σ v e]
    · have e2 : i = w := by
        rcases List.mem_cons.mp h with z | z
        · exact z
        · exact absurd z e
      subst e2
      show (wipe (σ.set i v) vs).set i none = (wipe σ vs).set i none
      have : ∀ ws : List Nat, i ∉ ws → wipe (σ.set i v) ws = (wipe σ ws).set i v := by
        intro ws
        induction ws with
        | nil => intro _; rfl
        | cons a r ih =>
          intro hn
          have ha : i ≠ a := fun z => hn (by rw [z]; exact List.mem_cons_self)
          show (wipe (σ.set i v) r).set a none = ((wipe σ r).set a none).set i v
          rw [ih (fun z => hn (List.mem_cons_of_mem _ z)), List.set_comm _ _ ha]
      rw [this vs e, List.set_set]
end
end DS
/-! DS3: defs that are known to run while nothing is being shown or compared (so that repr may be asked), their calls; list comprehensions. -/
namespace DS
open PySem PySem.Spec PyProof.Rows L2

/-- nothing that guards itself against going round runs -/
abbrev Quiet (A : Around) : Prop := A.guards = some []
/-- a def's promise, asked only where it is quiet -/
structure FnG (P : Program) (w : World) (K : PySem.W.Frag) (mg : Str → Option Value) (base : Heap) (CX : CXT) (k : Nat) (f : Addr) (fd : FuncData) (ps : List Str) (sp : Sp) : Prop where
  len : ∀ vs H Q E, sp vs H Q E → vs.length = ps.length
  go : ∀ (A : Around) (outer : List Env) (s : Shared) (H : Hp) (args : Args) (us : List Value) (vs : List V) (Q : VK) (E : XK), Quiet A → Room k A → Env0 P w K mg base A outer s H → BindsTo s fd args (ps.zip us) → Vals vs us → sp vs H Q E →
    codeAny (model P w) A (.call (.ref f) args) (CR CX outer P w H s Q E) s
section
variable {P : Program} {w : World} {K : PySem.W.Frag} {mg : Str → Option Value} {base : Heap} {CX : CXT} {j k : Nat} {f C : Addr} {fd : FuncData} {ps : List Str} {sp : Sp}
theorem FnG.of (F : FnOk P w K mg base CX k f fd ps sp) : FnG P w K mg base CX k f fd ps sp := ⟨F.len, fun A outer s H args us vs Q E _ => F.run A outer s H args us vs Q E⟩
theorem FnG.mono (F : FnG P w K mg base CX j f fd ps sp) (h : j ≤ k) : FnG P w K mg base CX k f fd ps sp := ⟨F.len, fun A outer s H args us vs Q E g r => F.go A outer s H args us vs Q E g (r.mono h)⟩
theorem FnG.imp {sp' : Sp} (F : FnG P w K mg base CX k f fd ps sp) (h : ∀ vs H Q E, sp' vs H Q E → sp vs H Q E) : FnG P w K mg base CX k f fd ps sp' :=
  ⟨fun vs H Q E q => F.len vs H Q E (h vs H Q E q), fun A outer s H args us vs Q E g r e b v q => F.go A outer s H args us vs Q E g r e b v (h vs H Q E q)⟩
/-- a promise that holds nowhere costs nothing: for induction on levels -/
theorem FnG.no (f : Addr) (fd : FuncData) (ps : List Str) : FnG P w K mg base CX k f fd ps (fun _ _ _ _ => False) := ⟨fun _ _ _ _ h => False.elim h, fun _ _ _ _ _ _ _ _ _ _ _ _ _ _ h => False.elim h⟩
end
theorem quiet_deeper {A : Around} (h : Quiet A) (env : Env) : Quiet (A.deeper env) := h
theorem quiet_make {A : Around} (h : Quiet A) (C : Addr) (us : List Value) (kw : List (Str × Value)) : Quiet (A.under (.builtin "type.__call__" ⟨.ref C :: us, kw⟩)) := by
  have e : (Code.builtin "type.__call__" ⟨.ref C :: us, kw⟩).guards = [] := by
    unfold Code.guards
    rw [if_neg]
    simp [Code.isGuard, guardIds]
  show pushGuards (Code.builtin "type.__call__" ⟨.ref C :: us, kw⟩).guards A.guards = some []
  rw [e]
  exact h

section
variable {CX : CXT} {P : Program} {w : World} {K : PySem.W.Frag} {mg : Str → Option Value} {base : Heap}
/-- the def's body, walked where it is quiet -/
theorem fnG_of {k : Nat} {f : Addr} {name qual : Str} {params : Arguments} {body : List Stmt} {scope : Scope} {dV kV doc pm cdv ct oc : Value} {an od : Option Addr} {osl : Array (Option Value)} {N ps : List Str} {sp : Sp}
    (lk : K.lookup f = some ⟨oc, od, .func (PySem.W.fnOf name qual params body scope dV kV doc pm an cdv ct), osl⟩) (hcd : PySem.W.codeIn K cdv qual = true) (S : FnScope N ps scope) (len : ∀ vs H Q E, sp vs H Q E → vs.length = ps.length)
    (walk : ∀ (A : Around) (outer : List Env) (s : Shared) (H : Hp) (vs : List V) (Q : VK) (E : XK), Quiet A → Room k (A.deeper (envOfC qual scope s.heap.objs.size f cdv)) → sp vs H Q E →
      ∃ t, PSs (cxOf CX P w K mg base N qual scope f cdv A outer s H E) body t ∧ t { nx := fun _ H' => Q .non H', rt := Q } (L2.start N vs) H) :
    FnG P w K mg base CX (k + 1) f (PySem.W.fnOf name qual params body scope dV kV doc pm an cdv ct) ps sp where
  len := len
  go := fun A outer s H args us vs Q E quiet room e0 binds rel want => by
    have count := len vs H Q E want
    have old := fun b o e => (e0.bs b o e).1
    have here : K.In s.heap := e0.mod.kin.keeps old
    have kinds : ∀ y ∈ ps.zip us, scope.names.lookup y.1 = some .local ∨ (scope.names.lookup y.1 = some .cell ∧ ((cellsFrom (s.heap.objs.size + 1) scope.names []).lookup y.1).isSome = true) := by
      rintro ⟨n, v⟩ hy
      exact (S.par n (List.of_mem_zip hy).1).imp id fun z => ⟨z, PySem.W.cellsFrom_some _ _ _ (.inl z)⟩
    refine codeAny_call_function room.depth (here _ _ lk) rfl S.co S.gen rfl (PySem.W.codeRec_of here hcd) (binds _ _ _ _ ?_)
    refine wpAny_newFunctionEnv_cells S.kind kinds fun env he s1 within => ?_
    subst he
    refine ⟨(e0.mod.nolimit.keeps old).keeps within.toInCall.keep, codeAny_func ?_⟩
    obtain ⟨t, walked, read⟩ := walk A outer s H vs Q E quiet (room.deeper _) want
    have I := inv_start (CX := CX) (E := E) S room.hd e0 count rel within
    refine wpAny_mono (walked.run [] s1 (start N vs) H _ I read) (fun out s' got => ?_) fun _ _ z => z
    have done : ∀ {σ' : L2.St} {H' : Hp} {v : V} {u : Value}, Inv (cxOf CX P w K mg base N qual scope f cdv A outer s H E) [] σ' H' s' → RelV v u → Q v H' → CE outer P w H s Q u s' :=
      fun {_ H' v _} J rv q => ⟨v, H', J.os, J.bare, J.base, J.hok, rv, q⟩
    match out, got with
    | .ret u, ⟨v, _, _, J, rv, q⟩ => exact done J rv q
    | .next, ⟨_, _, J, q⟩ => exact done (v := V.non) (u := Value.none) J rfl q
    | .brk, ⟨_, _, _, q⟩ => exact False.elim q
    | .cont, ⟨_, _, _, q⟩ => exact False.elim q
end

section
variable {X : Cx} {CX : CXT} {k : Nat} {f C : Addr} {fd : FuncData} {ps ks : List Str} {sp : Sp} {dvs : List V} {ds : List Value} {E : XK} {x m : Str} {p pos apos : Pos} {e o : Expr} {es : List Expr} {kws : List Keyword} {ta : TE} {t tk : TA}
def GEnd (X : Cx) (pins : List (Addr × Obj)) (σ : L2.St) (Q : VK) : Result → Shared → Prop
  | .ok (.ret u), s' => EP X pins σ Q u s'
  | .ok _, _ => False
  | .error u, s' => X.xe u s'
theorem run_g {pins : List (Addr × Obj)} {σ : L2.St} {H : Hp} {s : Shared} {Q : VK} {us : List Value} {vs : List V} {args : Args} (F : FnG X.prog X.w X.K X.mg X.base CX k f fd ps sp) (hq : Quiet X.A) (hr : Room k X.A) (hx : Passes CX X E)
    (I : Inv X pins σ H s) (hb : BindsTo s fd args (ps.zip us)) (r : Vals vs us) (h : sp vs H Q E) : codeAny (model X.prog X.w) X.A (.call (.ref f) args) (GEnd X pins σ Q) s := by
  refine codeAny_mono (F.go X.A X.stack s H args us vs Q E hq hr I.env0 hb r h) fun out s' z => ?_
  match out, z with
  | .error u, z => exact hx pins σ H s u s' I z
  | .ok (.ret u), z => exact I.after z
  | .ok .next, z => exact False.elim z
  | .ok .brk, z => exact False.elim z
  | .ok .cont, z => exact False.elim z
theorem call_g {pins : List (Addr × Obj)} {σ : L2.St} {H : Hp} {s : Shared} {Q : VK} {us : List Value} {vs : List V} (F : FnG X.prog X.w X.K X.mg X.base CX k f fd ps sp) (hq : Quiet X.A) (hr : Room k X.A) (hb : Binds X.K fd ps ds) (hd : Vals dvs ds) (hx : Passes CX X E)
    (I : Inv X pins σ H s) (r : Vals vs us) (h : sp (vs ++ dvs) H Q E) : wpAny (model X.prog X.w) X.A (call (.ref f) us) (EP X pins σ Q) X.xe s := by
  have r2 := r.append hd
  have count : (us ++ ds).length = ps.length := r2.length.symm.trans (F.len _ _ _ _ h)
  refine wpAny_call (codeAny_mono (run_g (args := ⟨us, []⟩) F hq hr hx I (hb s us I.kIn count) r2 h) fun out s' z => ?_)
  match out, z with
  | .error _, z => exact z
  | .ok (.ret _), z => exact z
  | .ok .next, z => exact False.elim z
  | .ok .brk, z => exact False.elim z
  | .ok .cont, z => exact False.elim z
/-- f(e, ..) -/
theorem pe_g (F : FnG X.prog X.w X.K X.mg X.base CX k f fd ps sp) (hq : Quiet X.A) (hr : Room k X.A) (hg : Gl X x) (hm : X.mg x = some (.ref f)) (hk : PySem.W.keepIn X.K (.ref f) = true) (hb : Binds X.K fd ps ds) (hd : Vals dvs ds) (hx : Passes CX X E)
    (ha : PA X (e :: es) t) (hdb : (x == ("__debug__" : Str)) = false := by decide) (he : starEach (e :: es) X.env = (false, eval e X.env) :: starEach es X.env := by rfl) (hpl : (backTo pos (starEach es X.env)).any (·.1) = false := by rfl) :
    PE X (.Call (.Name x p) (e :: es) [] pos) (tCall sp dvs E t) :=
  ⟨fun pins s σ H Q I h => wpAny_Call_Name_kw (ld_glob I hg hm (PySem.W.callWith_K (h₀ := X.base) I.ok.mod.kin hk (thn (ha.run pos pins s σ H _ I h) fun _ _ ⟨_, _, I1, r, q⟩ => ⟨I1.kIn, call_g F hq hr hb hd hx I1 r q⟩) he hpl) hdb)⟩
theorem pe_g0 (F : FnG X.prog X.w X.K X.mg X.base CX k f fd ps sp) (hq : Quiet X.A) (hr : Room k X.A) (hg : Gl X x) (hm : X.mg x = some (.ref f)) (hk : PySem.W.keepIn X.K (.ref f) = true) (hb : Binds X.K fd ps ds) (hd : Vals dvs ds) (hx : Passes CX X E)
    (hdb : (x == ("__debug__" : Str)) = false := by decide) : PE X (.Call (.Name x p) [] [] pos) (tCall sp dvs E tNil) :=
  ⟨fun pins s σ H Q I h => wpAny_Call_Name_kw (ld_glob I hg hm (PySem.W.callWith_K0 I.kIn hk (call_g (us := []) F hq hr hb hd hx I .nil h)) hdb)⟩
/-- f(e, .., k = e, ..); no positional one: es may be empty -/
theorem callk_g {g : List Value → List Value → List Value} {gV : List V → List V → List V} {pins : List (Addr × Obj)} {σ : L2.St} {H : Hp} {s : Shared} {Q : VK} {us ws : List Value} {vs zs : List V} (F : FnG X.prog X.w X.K X.mg X.base CX k f fd ps sp) (hq : Quiet X.A) (hr : Room k X.A)
    (hb : KBinds X.K fd ps ks g gV) (hx : Passes CX X E) (I : Inv X pins σ H s) (r : Vals vs us) (rz : Vals zs ws) (h : sp (gV vs zs) H Q E) : wpAny (model X.prog X.w) X.A (call (.ref f) us (ks.zip ws)) (EP X pins σ Q) X.xe s := by
  have r2 := hb.rel r rz
  have count : (g us ws).length = ps.length := r2.length.symm.trans (F.len _ _ _ _ h)
  refine wpAny_call (codeAny_mono (run_g (args := ⟨us, ks.zip ws⟩) F hq hr hx I (hb.to s us ws I.kIn count) r2 h) fun out s' z => ?_)
  match out, z with
  | .error _, z => exact z
  | .ok (.ret _), z => exact z
  | .ok .next, z => exact False.elim z
  | .ok .brk, z => exact False.elim z
  | .ok .cont, z => exact False.elim z
end

/-! ### the law's own call -/
theorem lawG {P : Program} {w : World} {K : PySem.W.Frag} {mg mb : Str → Option Value} {CX : CXT} {k : Nat} {fa a : Addr} {fd : FuncData} {x : Str} {sp : Sp} {s₁ : Shared} {vs : List Value} {ns : List Int}
    (KX : K.In s₁.heap) (hns : s₁.heap.Ns mainGlobals mg) (hb : s₁.heap.Ns builtinsNs mb) (hbb : ∀ x : Str, x ≠ "__name__" → mb x = bootBuiltins x) (hlim : s₁.heap.NoLimit) (hgens : s₁.gens = #[])
    (script : s₁.heap.get? a = some { cls := .type "list", data := .seq vs.toArray }) (hi : IntsAre vs ns) (hl : ns.length ≤ sizeLine) (hr : Room k callerA)
    (F : ∀ base : Heap, K.In base → base.Ns mainGlobals mg → FnG P w K mg base CX k fa fd [x] sp) (hbind : ∀ (s : Shared) (u : Value), BindsTo s fd ⟨[u], []⟩ [(x, u)])
    (promise : ∀ H : Hp, Only H → SqL K H a (ns.map V.int) → sp [.ref a] H (fun v _ => v = .bl true) fun _ _ _ => False) (quiet : ∀ H e s', CX [] H s₁ (fun _ _ _ => False) e s' → False) :
    codeAny (model P w) callerA (.call (.ref fa) ⟨[.ref a], []⟩) (fun r s' => r = .ok (.ret (.bool true)) ∧ OldK s₁.heap s'.heap ∧ s'.os = s₁.os ∧ AllBare s'.gens) s₁ := by
  have vals := vals_ints hi
  have same := hi.length
  -- H: the abstract heap to begin with; it tracks the script, or nothing
  have main : ∀ H : Hp, Only H → SqL K H a (ns.map V.int) → HOk P w H s₁.heap → (∀ b, H b ≠ none → b = a ∧ K.lookup a = none) →
      codeAny (model P w) callerA (.call (.ref fa) ⟨[.ref a], []⟩) (fun r s' => r = .ok (.ret (.bool true)) ∧ OldK s₁.heap s'.heap ∧ s'.os = s₁.os ∧ AllBare s'.gens) s₁ := by
    intro H only seen holds only_a
    have none_at : ∀ b, (b = a → K.lookup a ≠ none) → H b = none := fun b hb => by
      cases q : H b with
      | none => rfl
      | some u =>
        obtain ⟨e1, e2⟩ := only_a b (by rw [q]; exact fun z => nomatch z)
        exact absurd e2 (hb e1)
    have dict_free : ∀ {b : Addr} {o : Obj} {es : Array DictEntry} {ep : Nat}, s₁.heap.get? b = some o → o.data = .dict es ep → H b = none := fun {b o es ep} e d => by
      cases q : H b with
      | none => rfl
      | some u =>
        obtain ⟨rfl, _⟩ := only_a b (by rw [q]; exact fun z => nomatch z)
        rw [script] at e; cases e
        cases (show Data.seq vs.toArray _ = Data.dict es ep from d)
    have ns_of : ∀ {b : Addr} {m : Str → Option Value}, s₁.heap.Ns b m → (hidT s₁.heap H).Ns b m := fun ⟨o, es, ep, e, d, r⟩ => ⟨o, es, ep, hidT_get e (dict_free e d), d, r⟩
    have kb : K.In (hidT s₁.heap H) := fun b o e => hidT_get (KX b o e) (none_at b fun z => by subst z; rw [e]; exact fun q => nomatch q)
    have md : Mod K mg (hidT s₁.heap H) := ⟨kb, ns_of hns, ⟨mb, ns_of hb, hbb⟩, let ⟨mc, h1, h2⟩ := hlim; ⟨mc, ns_of h1, h2⟩⟩
    have e0 : Env0 P w K mg (hidT s₁.heap H) callerA [] s₁ H := ⟨rfl, md, fun b o e => of_hidT e, Nat.le_of_eq (hidT_size _ _), trivial, fun b hb => absurd (show b ∈ ([] : List Addr) from hb) (by simp), holds, .of_eq hgens⟩
    refine codeAny_mono ((F _ kb (ns_of hns)).go callerA [] s₁ H ⟨[.ref a], []⟩ [.ref a] [.ref a] _ _ rfl hr e0 (hbind s₁ (.ref a)) (.cons rfl .nil) (promise H only seen)) fun out s' h => ?_
    match out, h with
    | .error e, h => exact (quiet H e s' h).elim
    | .ok .next, h => exact False.elim h
    | .ok .brk, h => exact False.elim h
    | .ok .cont, h => exact False.elim h
    | .ok (.ret u), h =>
      obtain ⟨v, H', os, bare, un, holds', rel, q⟩ := h
      obtain rfl : v = .bl true := q
      obtain rfl : u = Value.bool true := rel
      refine ⟨rfl, OldK.of_keep fun b o e => ?_, os, bare⟩
      rcases only b with z | ⟨ob, xs, z⟩
      · exact un.keep b o e z (by intro z; exact absurd (show b ∈ ([] : List Addr) from z) (by simp)) (by simp)
      · have now := un.frzs b ob _ z
        obtain ⟨e1, _⟩ := holds b _ z
        obtain ⟨e2, _⟩ := holds' b _ now
        rw [e] at e1; cases e1
        exact e2
  by_cases hk : K.lookup a = none
  · refine main (fun b => if b = a then some (.frz { cls := .type "list", data := .seq vs.toArray } (.lst (ns.map V.int))) else none) (fun b => ?_) (.inl (.inr ⟨{ cls := .type "list", data := .seq vs.toArray }, if_pos rfl⟩)) (fun b u z => ?_) fun b z => ?_
    · by_cases hb : b = a
      · exact .inr ⟨_, _, if_pos hb⟩
      · exact .inl (if_neg hb)
    · by_cases hb : b = a
      · cases (if_pos hb).symm.trans z
        subst hb
        exact ⟨script, by rw [List.length_map]; exact hl, vs, _, vals, script⟩
      · cases (if_neg hb).symm.trans z
    · by_cases hb : b = a
      · exact ⟨hb, hk⟩
      · exact absurd (if_neg hb) z
  · obtain ⟨o, ho⟩ := Option.ne_none_iff_exists'.mp hk
    have e := KX a o ho
    rw [script] at e
    cases e
    exact main (fun _ => none) (fun _ => .inl rfl) (.inr ⟨_, vs.toArray, _, ho, rfl, rfl, rfl, by rw [List.size_toArray, same]; exact hl, by simpa using vals⟩) (fun b u z => nomatch (show (none : Option HO) = some u from z)) fun b z => absurd rfl z
theorem walkG {l : PySem.W.OpenLaw} {n k : Nat} {q : Program} {loose : List Str} {XP : (Str → Option Value) → Heap → Prop} {YP : World → Heap → Prop} {d : DefRec} {K : Params → PySem.W.Frag} {CX : CXT} {sp : PySem.W.Frag → Sp} {x : Str}
    (hn : l.most = some n) (hn2 : n ≤ sizeLine) (hdf : d.params.defaults = []) (hr : Room k callerA) (hY : ∀ (w : World) (h : Heap), YP w h → (K w.params).In h)
    (F : ∀ (w : World) (mg : Str → Option Value) (fa : Addr) (h : Heap), (K w.params).In h → h.Ns mainGlobals mg → mg d.name = some (.ref fa) →
      ∃ fd : FuncData, (∀ (s : Shared) (u : Value), BindsTo s fd ⟨[u], []⟩ [(x, u)]) ∧ ∀ base : Heap, (K w.params).In base → base.Ns mainGlobals mg → FnG l.prog w (K w.params) mg base CX k fa fd [x] (sp (K w.params)))
    (hsp : ∀ (K : PySem.W.Frag) (H : Hp) (a : Addr) (ns : List Int), ns.length ≤ n → Only H → SqL K H a (ns.map V.int) → sp K [.ref a] H (fun v _ => v = .bl true) fun _ _ _ => False)
    (hCX : ∀ (H : Hp) (s : Shared) (e : Value) (s' : Shared), CX [] H s (fun _ _ _ => False) e s' → False) : PySem.W.WalkO q loose XP YP l.row.toRowW d [] (fun f vs => PySem.call f vs) :=
  Att.attach_call hn hdf fun w s₀ s₁ mg mb fa o pm cd doc a vs ns G Y ho hd hcd hmg hobj hints hlen hg => by
    have KX := hY w _ Y
    obtain ⟨fd, hb, hF⟩ := F w mg fa _ KX G.T.g hmg
    exact lawG KX G.T.g G.T.b G.T.builtins G.T.nolimit hg hobj hints (Nat.le_trans hlen hn2) hr hF hb (fun H hO hS => hsp _ H a ns hlen hO hS) fun H e s' => hCX H s₁ e s'

/-! ### promises over data -/
abbrev DSp := List SD → Mu → (SD → Mu → Prop) → DXK → Prop
/-- the own dict of an exception, by what it holds -/
def XRep (K : PySem.W.Frag) (F H : Hp) (od : Option Addr) (fs : List (Str × SD)) : Prop :=
  (od = none ∧ fs = []) ∨ ∃ d vs, od = some d ∧ H d = some (.xd vs) ∧ vs.map (·.1) = fs.map (·.1) ∧ RepL K F (fs.map (·.2)) (vs.map (·.2))
def LSp (K : PySem.W.Frag) (sp : DSp) : Sp := fun vs H Q E => ∃ F μ ds Q' E', HReal K F H μ ∧ RepL K F ds vs ∧ sp ds μ Q' E' ∧
  (∀ d μ', Q' d μ' → ∀ F' H' v, Stp F H μ F' H' μ' → HReal K F' H' μ' → RepS K F' d v → Q v H') ∧
  (∀ C fs μ', E' C fs μ' → ∀ F' H' od, Stp F H μ F' H' μ' → HReal K F' H' μ' → XRep K F' H' od fs → E (.ref C) od H')
abbrev dCall (sp : DSp) (dvs : List SD) (t : DTA) : DTE := fun ρ μ Q => t ρ μ fun ds μ1 => sp (ds ++ dvs) μ1 Q fun _ _ _ => False
section
variable {X : Cx} {k : Nat} {f C : Addr} {fd : FuncData} {ps ks : List Str} {sp : DSp} {dvs : List SD} {dvV : List V} {dv : List Value} {x m : Str} {p pos apos : Pos} {a e o : Expr} {es : List Expr} {kws : List Keyword} {ta : DTE} {t tk : DTA}
theorem RepL.plain {K : PySem.W.Frag} {F : Hp} : ∀ {ds : List SD} {vs : List V}, Paired (fun d v => plain d = some v) ds vs → RepL K F ds vs
  | _, _, .nil => .nil
  | _, _, .cons h r => .cons (RepS.plain h) (RepL.plain r)
/-- a call of a def that lets nothing out -/
theorem de_call {CX : CXT} (F : FnG X.prog X.w X.K X.mg X.base CX k f fd ps (LSp X.K sp)) (hq : Quiet X.A) (hr : Room k X.A) (hg : Gl X x) (hm : X.mg x = some (.ref f)) (hk : PySem.W.keepIn X.K (.ref f) = true) (hb : Binds X.K fd ps []) (hx : Passes CX X E0)
    (ha : DA X (e :: es) t) (hdb : (x == ("__debug__" : Str)) = false := by decide) (he : starEach (e :: es) X.env = (false, eval e X.env) :: starEach es X.env := by rfl) (hpl : (backTo pos (starEach es X.env)).any (·.1) = false := by rfl) :
    DE X (.Call (.Name x p) (e :: es) [] pos) (dCall sp [] t) := weakE (pe_g (E := E0) F hq hr hg hm hk hb .nil hx ha hdb he hpl) fun σ H Q h => by
  obtain ⟨F, ρ, μ, Q', R, S, t, k⟩ := h
  refine ⟨F, ρ, μ, _, R, S, t, fun ds μ1 t1 F1 H1 vs s1 R1 r1 => ?_⟩
  refine ⟨F1, μ1, ds, Q', _, R1, by rw [List.append_nil]; exact r1, by rw [List.append_nil] at t1; exact t1, fun d μ' q F' H' v s R' r' => k d μ' q F' H' v (s1.trans s) R' r', fun _ _ _ q => False.elim q⟩
theorem de_call0 {CX : CXT} (F : FnG X.prog X.w X.K X.mg X.base CX k f fd ps (LSp X.K sp)) (hq : Quiet X.A) (hr : Room k X.A) (hg : Gl X x) (hm : X.mg x = some (.ref f)) (hk : PySem.W.keepIn X.K (.ref f) = true) (hb : Binds X.K fd ps []) (hx : Passes CX X E0)
    (hdb : (x == ("__debug__" : Str)) = false := by decide) : DE X (.Call (.Name x p) [] [] pos) (dCall sp [] dNil) := weakE (pe_g0 (E := E0) F hq hr hg hm hk hb .nil hx hdb) fun σ H Q h => by
  obtain ⟨F, ρ, μ, Q', R, S, t, k⟩ := h
  exact ⟨F, μ, [], Q', _, R, .nil, t, fun d μ' q F' H' v s R' r' => k d μ' q F' H' v s R' r', fun _ _ _ q => False.elim q⟩
end

/-- the slots at a def's entry -/
def begin_ (N : List Str) (ds : List SD) : Rho := ds.map some ++ List.replicate (N.length - ds.length) none
theorem slots_begin {K : PySem.W.Frag} {F : Hp} {N : List Str} {ds : List SD} {vs : List V} (r : RepL K F ds vs) : Slots K F (L2.start N vs) (begin_ N ds) := by
  have hl := r.length
  refine ⟨by simp [L2.start, begin_, hl], fun i d e => ?_⟩
  unfold begin_ at e
  by_cases hi : i < ds.length
  · rw [List.getElem?_append_left (by simpa using hi), List.getElem?_map] at e
    cases q : ds[i]? with
    | none => rw [q] at e; cases e
    | some d' =>
      rw [q] at e
      cases e
      obtain ⟨v, h1, h2⟩ := r.get q
      refine ⟨v, ?_, h2⟩
      unfold L2.start
      rw [List.getElem?_append_left (by simpa [← hl] using hi), List.getElem?_map, h1]
      rfl
  · rw [List.getElem?_append_right (by simpa using Nat.le_of_not_lt hi), List.getElem?_replicate] at e
    split at e <;> cases e
section
variable {P : Program} {w : World} {K : PySem.W.Frag} {mg : Str → Option Value} {base : Heap}
/-- a def that lets nothing out -/
theorem def_ok {x qual : Str} {st : Stmt} {f : Addr} {fd : FuncData} {N ps : List Str} {k : Nat} {sp : DSp} (F : Fun K x qual st f fd) (S : FnScope N ps (defScope st)) (t : DTS) (len : ∀ ds μ Q E, sp ds μ Q E → ds.length = ps.length)
    (walk : ∀ (cdv : Value) (A : Around) (outer : List Env) (s : Shared) (H : Hp) (E : XK), Quiet A → Room k (A.deeper (envOfC qual (defScope st) s.heap.objs.size f cdv)) →
      DSs (cxOf CX0 P w K mg base N qual (defScope st) f cdv A outer s H E).nox (defBody st) t)
    (read : ∀ ds μ Q E, sp ds μ Q E → t { nx := fun _ μ' => Q .non μ', rt := Q } (begin_ N ds) μ) : FnG P w K mg base CX0 (k + 1) f fd ps (LSp K sp) := by
  obtain ⟨oc, od, kV, doc, pm, an, cdv, ct, osl, rfl, lk, hcd⟩ := F.ex
  refine fnG_of lk hcd S (fun vs H Q E h => ?_) fun A outer s H vs Q E quiet room want => ?_
  · obtain ⟨F, μ, ds, Q', E', _, r, q, _⟩ := h
    rw [← r.length]; exact len ds μ Q' E' q
  · obtain ⟨F, μ, ds, Q', E', R, r, q, k1, _⟩ := want
    refine ⟨_, (walk cdv A outer s H E quiet room).nox, F, begin_ N ds, μ, _, R, slots_begin r, read ds μ Q' E' q, ?_, k1, fun _ _ z => False.elim z, fun _ _ z => False.elim z⟩
    exact fun ρ' μ' q F' H' σ' s' R' _ => k1 .non μ' q F' H' .non s' R' .non
/-- a def that may raise -/
theorem def_okX {x qual : Str} {st : Stmt} {f : Addr} {fd : FuncData} {N ps : List Str} {k : Nat} {sp : DSp} (F : Fun K x qual st f fd) (S : FnScope N ps (defScope st)) (len : ∀ ds μ Q E, sp ds μ Q E → ds.length = ps.length)
    (walk : ∀ (cdv : Value) (A : Around) (outer : List Env) (s : Shared) (H : Hp) (E : XK) (E' : DXK) (F0 : Hp) (μ0 : Mu), Quiet A → Room k (A.deeper (envOfC qual (defScope st) s.heap.objs.size f cdv)) →
      (∀ C fs μ', E' C fs μ' → ∀ F' H' od, Stp F0 H μ0 F' H' μ' → HReal K F' H' μ' → XRep K F' H' od fs → E (.ref C) od H') →
      ∃ t, PSs (cxOf (L2.CX P w) P w K mg base N qual (defScope st) f cdv A outer s H E) (defBody st) t ∧ ∀ ds Q Q', sp ds μ0 Q' E' → HReal K F0 H μ0 → (∀ vs, RepL K F0 ds vs → (∀ d μ', Q' d μ' → ∀ F' H' v, Stp F0 H μ0 F' H' μ' → HReal K F' H' μ' → RepS K F' d v → Q v H') →
        t { nx := fun _ H' => Q .non H', rt := Q } (L2.start N vs) H)) : FnG P w K mg base (L2.CX P w) (k + 1) f fd ps (LSp K sp) := by
  obtain ⟨oc, od, kV, doc, pm, an, cdv, ct, osl, rfl, lk, hcd⟩ := F.ex
  refine fnG_of lk hcd S (fun vs H Q E h => ?_) fun A outer s H vs Q E quiet room want => ?_
  · obtain ⟨F, μ, ds, Q', E', _, r, q, _⟩ := h
    rw [← r.length]; exact len ds μ Q' E' q
  · obtain ⟨F, μ, ds, Q', E', R, r, q, k1, k2⟩ := want
    obtain ⟨t, h1, h2⟩ := walk cdv A outer s H E E' F μ quiet room k2
    exact ⟨t, h1, h2 ds Q Q' q R vs r k1⟩
end
end DS
/-! DS4: list comprehensions, operators, comparisons, subscripts, slices, built-ins. -/
namespace DS
open PySem PySem.Spec PyProof.Rows L2

/-! ### something that is neither F's nor μ's -/
section
variable {K : PySem.W.Frag} {F H : Hp} {μ : Mu} {p : Addr}
theorem HReal.aside (R : HReal K F H μ) {o : HO} (hF : F p = none) (hM : μ p = none) : HReal K F (upd H p o) μ :=
  ⟨fun a u e => by rw [upd_ne (ne_of_none e hF)]; exact R.sub a u e, fun a m e => by
    obtain ⟨z, u, q, r⟩ := R.mus a m e
    exact ⟨z, u, by rw [upd_ne (mu_ne e hM)]; exact q, r⟩⟩
theorem HReal.adopt (R : HReal K F H μ) {o : HO} (hF : F p = none) (hM : μ p = none) (hH : H p = some o) : HReal K (upd F p o) H μ :=
  ⟨fun a u e => by
    by_cases ha : a = p
    · subst ha; rw [upd_same] at e; cases e; exact hH
    · rw [upd_ne ha] at e; exact R.sub a u e, fun a m e => by
    obtain ⟨z, u, q, r⟩ := R.mus a m e
    exact ⟨by rw [upd_ne (mu_ne e hM)]; exact z, u, q, r.mono (Ext.new hF)⟩⟩
theorem HReal.adoptM (R : HReal K F H μ) {o : HO} {m : MO} (hF : F p = none) (hH : H p = some o) (r : RepO K F m o) : HReal K F H (up μ p m) :=
  ⟨R.sub, fun a n e => by
    by_cases ha : a = p
    · subst ha; rw [up_same] at e; cases e; exact ⟨hF, o, hH, r⟩
    · rw [up_ne ha] at e; exact R.mus a n e⟩
end

/-! ### list comprehensions -/
/-- a target that touches own slots alone, with its datum's reading -/
structure OwnG (K : PySem.W.Frag) (g : TG) (dg : DTG) (vs : List Nat) : Prop where
  lift : ∀ v σ H Q F ρ μ d Q', HReal K F H μ → Slots K F σ ρ → RepS K F d v → dg d ρ μ Q' →
    (∀ ρ' μ', Q' ρ' μ' → ∀ F' H' σ', Stp F H μ F' H' μ' → HReal K F' H' μ' → Slots K F' σ' ρ' → wipe σ' vs = wipe σ vs → Q σ' H') → g v σ H Q
theorem own_name {K : PySem.W.Frag} {i : Nat} {vs : List Nat} (h : i ∈ vs) : OwnG K (gName i) (hName i) vs :=
  ⟨fun v σ H Q F ρ μ d Q' R S r t k => k _ μ t F H _ (Stp.refl F H μ) R (S.set i r) (wipe_set σ _ h)⟩
def hNames : List Nat → DTGs
  | [] => hNil
  | i :: r => hCons (hName i) (hNames r)
def gNames : List Nat → TGs
  | [] => gNil
  | i :: r => gCons (gName i) (gNames r)
theorem own_names {K : PySem.W.Frag} {F H : Hp} {μ : Mu} {vs : List Nat} (R : HReal K F H μ) : ∀ (is : List Nat), (∀ i ∈ is, i ∈ vs) → ∀ (xs : List V) (ds : List SD) (σ : L2.St) (ρ : Rho) (Q : L2.St → Hp → Prop) (Q' : Rho → Mu → Prop),
    Slots K F σ ρ → RepL K F ds xs → hNames is ds ρ μ Q' → (∀ ρ' μ', Q' ρ' μ' → ∀ F' H' σ', Stp F H μ F' H' μ' → HReal K F' H' μ' → Slots K F' σ' ρ' → wipe σ' vs = wipe σ vs → Q σ' H') → gNames is xs σ H Q
  | [], _, xs, ds, σ, ρ, Q, Q', S, r, t, k => by
    obtain ⟨rfl, t⟩ := t
    cases r
    exact ⟨rfl, k ρ μ t F H σ (Stp.refl F H μ) R S rfl⟩
  | i :: is, h, xs, ds, σ, ρ, Q, Q', S, r, t, k => by
    cases r with
    | nil => exact False.elim t
    | cons r rr =>
      refine ⟨_, _, rfl, own_names R is (fun j hj => h j (List.mem_cons_of_mem _ hj)) _ _ _ _ Q Q' (S.set i r) rr t fun ρ' μ' q F' H' σ' s R' S' e => ?_⟩
      exact k ρ' μ' q F' H' σ' s R' S' (e.trans (wipe_set σ _ (h i List.mem_cons_self)))
theorem own_tup {K : PySem.W.Frag} {n : Nat} {is vs : List Nat} (h : ∀ i ∈ is, i ∈ vs) : OwnG K (gTup K n (gNames is)) (hTup n (hNames is)) vs :=
  ⟨fun v σ H Q F ρ μ d Q' R S r t k => by
    cases r with
    | tup hh r => exact ⟨_, _, rfl, R.ext.sqT hh, by rw [← r.length]; exact t.1, own_names R is h _ _ σ ρ Q Q' S r t.2 k⟩
    | _ => exact False.elim t⟩
def dLc (wi : DTI) (g : DTG) (tt : DTT) (te : DTE) (vs : List Nat) : Rho → Mu → (List SD → Mu → Prop) → Prop := fun ρ μ Q => wi ρ μ fun ds ok μ1 => ds.length ≤ sizeLine ∧ ∃ W : Nat → List SD → Mu → Prop, W 0 [] μ1 ∧
  (∀ i acc μ, i ≤ ds.length → W i acc μ → ok μ) ∧ (∀ i d acc μ, ds[i]? = some d → W i acc μ → g d (wipeR ρ vs) μ fun ρ2 μ2 => tt ρ2 μ2 fun b μ3 => if b = true then te ρ2 μ3 fun y μ4 => W (i + 1) (acc ++ [y]) μ4 else W (i + 1) acc μ3) ∧
  ∀ acc μ, W ds.length acc μ → Q acc μ
/-- the new list will not change | may change -/
def dLcS (wi : DTI) (g : DTG) (tt : DTT) (te : DTE) (vs : List Nat) : DTE := fun ρ μ Q => dLc wi g tt te vs ρ μ fun acc μ' => Q (.lst acc) μ'
def dLcM (wi : DTI) (g : DTG) (tt : DTT) (te : DTE) (vs : List Nat) : DTE := fun ρ μ Q => dLc wi g tt te vs ρ μ fun acc μ' => ∀ p, μ' p = none → Q (.ref p) (up μ' p (.lst acc))
theorem liftLc {K : PySem.W.Frag} {wi : DTI} {g : TG} {dg : DTG} {tt : DTT} {te : DTE} {vs : List Nat} (og : OwnG K g dg vs) {σ : L2.St} {H F : Hp} {ρ : Rho} {μ : Mu} {Q : VK} {Q' : List SD → Mu → Prop} (R : HReal K F H μ) (S : Slots K F σ ρ) (t : dLc wi dg tt te vs ρ μ Q')
    (k : ∀ acc μ', Q' acc μ' → ∀ F' H' p ws, Stp F H μ F' H' μ' → HReal K F' H' μ' → F' p = none → μ' p = none → H' p = some (.lst ws) → RepL K F' acc ws → (∀ a, H a ≠ none → F a = none → μ a = none → a ≠ p) → Q (.ref p) H') : tLc (LI K wi) g (LT K tt) (LE K te) vs σ H Q := by
  refine ⟨F, ρ, μ, _, R, S, t, fun ds ok μ1 t1 F1 H1 J s1 R1 src D hD => ?_⟩
  obtain ⟨hlen, W, w0, hok, turn, fin⟩ := t1
  have hDF := R1.freeF hD
  have hDM := R1.freeM hD
  refine ⟨fun i m H' => i + m = ds.length ∧ ∃ F μ acc ws, Stp F1 H1 μ1 F H' μ ∧ HReal K F H' μ ∧ F D = none ∧ μ D = none ∧ H' D = some (.lst ws) ∧ RepL K F acc ws ∧ acc.length ≤ i ∧ W i acc μ, ⟨ds.length, by omega, F1, μ1, [], [], ?_, R1.aside hDF hDM, hDF, hDM, upd_same, .nil, Nat.le_refl _, w0⟩, ?_⟩
  · exact ⟨Ext.refl _, fun a h1 h2 h3 => ⟨upd_ne (fun z => by subst z; exact h1 hD), h2, h3⟩⟩
  rintro i m H' ⟨him, F2, μ2, acc, ws, s2, R2, f2, m2, hH2, r2, hacc, w2⟩
  have hle : i ≤ ds.length := by omega
  by_cases hi : i < ds.length
  · refine .inr ⟨src.go i F2 H' μ2 s2 R2 (hok i acc μ2 hle w2) hi, fun H3 => ∃ F μ acc ws, Stp F1 H1 μ1 F H3 μ ∧ HReal K F H3 μ ∧ F D = none ∧ μ D = none ∧ H3 D = some (.lst ws) ∧ RepL K F acc ws ∧ acc.length ≤ i + 1 ∧ W (i + 1) acc μ, ?_, ?_⟩
    · rintro H3 ⟨F3, μ3, acc3, ws3, z⟩
      exact ⟨ds.length - (i + 1), by omega, by omega, F3, μ3, acc3, ws3, z⟩
    · intro x H3 y
      obtain ⟨F3, s3, R3, r3⟩ := src.yld i F2 H' μ2 x H3 s2 R2 (hok i acc μ2 hle w2) y _ (List.getElem?_eq_getElem hi)
      obtain ⟨e3, f3, m3⟩ := s3.fr D (by rw [hH2]; exact fun z => nomatch z) f2 m2
      have S3 : Slots K F3 (wipe σ vs) (wipeR ρ vs) := ((S.mono (s1.ext.trans s2.ext)).mono s3.ext).wipe vs
      refine og.lift x _ H3 _ F3 _ μ2 _ _ R3 S3 r3 (turn i _ acc μ2 (List.getElem?_eq_getElem hi) w2) fun ρ4 μ4 t4 F4 H4 σ4 s4 R4 S4 e4 => ⟨e4.trans ?_, ?_⟩
      · have idem : ∀ (τ : L2.St) (us : List Nat), (∀ i ∈ us, τ[i]? = none ∨ τ[i]? = some none) → wipe τ us = τ := by
          intro τ us
          induction us with
          | nil => intro _; rfl
          | cons a r ih =>
            intro hz
            show (wipe τ r).set a none = τ
            rw [ih fun i hi => hz i (List.mem_cons_of_mem _ hi)]
            rcases hz a List.mem_cons_self with q | q
            · exact List.set_eq_of_length_le (List.getElem?_eq_none_iff.mp q)
            · apply List.ext_getElem?
              intro j
              by_cases hj : j = a
              · subst hj
                obtain ⟨hl, _⟩ := List.getElem?_eq_some_iff.mp q
                rw [List.getElem?_set_self hl, q]
              · rw [List.getElem?_set_ne (Ne.symm hj)]
        refine idem _ _ fun i hi => ?_
        have done : ∀ (us : List Nat), i ∈ us → (wipe σ us)[i]? = none ∨ (wipe σ us)[i]? = some none := by
          intro us
          induction us with
          | nil => intro h; cases h
          | cons a r ih =>
            intro h
            show ((wipe σ r).set a none)[i]? = none ∨ ((wipe σ r).set a none)[i]? = some none
            by_cases e : a = i
            · subst e
              by_cases hl : a < (wipe σ r).length
              · exact .inr (List.getElem?_set_self hl)
              · exact .inl (List.getElem?_eq_none (by simpa using Nat.le_of_not_lt hl))
            · rw [List.getElem?_set_ne e]
              exact ih ((List.mem_cons.mp h).resolve_left (fun z => e z.symm))
        exact done vs hi
      · obtain ⟨e5, f5, m5⟩ := s4.fr D (by rw [e3, hH2]; exact fun z => nomatch z) f3 m3
        refine ⟨F4, ρ4, μ4, _, R4, S4, t4, fun b μ6 t6 F6 H6 s6 R6 => ?_⟩
        obtain ⟨e7, f7, m7⟩ := s6.fr D (by rw [e5, e3, hH2]; exact fun z => nomatch z) f5 m5
        have at6 : H6 D = some (.lst ws) := by rw [e7, e5, e3, hH2]
        have st6 := ((s2.trans s3).trans s4).trans s6
        have ext6 : Ext F2 F6 := (s3.ext.trans s4.ext).trans s6.ext
        cases b with
        | false => exact ⟨F6, μ6, acc, ws, st6, R6, f7, m7, at6, r2.mono ext6, Nat.le_succ_of_le hacc, t6⟩
        | true =>
          refine ⟨F6, ρ4, μ6, _, R6, S4.mono s6.ext, t6, fun d μ8 t8 F8 H8 v s8 R8 r8 => ?_⟩
          obtain ⟨e9, f9, m9⟩ := s8.fr D (by rw [at6]; exact fun z => nomatch z) f7 m7
          have at8 : H8 D = some (.lst ws) := e9.trans at6
          have ra : RepL K F8 acc ws := r2.mono (ext6.trans s8.ext)
          refine ⟨ws, at8, by rw [← ra.length]; exact Nat.lt_of_le_of_lt hacc (Nat.lt_of_lt_of_le hi hlen), F8, μ8, acc ++ [d], ws ++ [v], ?_, R8.aside f9 m9, f9, m9, upd_same, ra.append (.one r8), ?_, t8⟩
          · refine ⟨(st6.trans s8).ext, fun a h1 h2 h3 => ?_⟩
            have ha : a ≠ D := fun z => by subst z; exact h1 hD
            obtain ⟨q1, q2, q3⟩ := (st6.trans s8).fr a h1 h2 h3
            exact ⟨(upd_ne ha).trans q1, q2, q3⟩
          · rw [List.length_append]; exact Nat.succ_le_succ hacc
  · have e : i = ds.length := by omega
    subst e
    refine .inl ⟨src.stop F2 H' μ2 s2 R2 (hok _ acc μ2 hle w2), ?_⟩
    refine k acc μ2 (fin acc μ2 w2) F2 H' D ws (s1.trans s2) R2 f2 m2 hH2 r2 fun a ha hb hc z => ?_
    subst z
    exact ha ((s1.fr a ha hb hc).1.symm.trans hD)
end DS
/-! DS5: comprehensions as expressions; operators, subscripts. -/
namespace DS
open PySem PySem.Spec PyProof.Rows L2
section
variable {X : Cx} {pos p spos py : Pos} {a b c e o iter tg elt : Expr} {es ifs : List Expr} {x y : Str} {scope : Scope} {own : List (Str × Nat)} {wi : DTI} {g : TG} {dg : DTG} {tt : DTT} {te : DTE}
abbrev DTs (X : Cx) (ifs : List Expr) (t : DTT) : Prop := PTs X ifs (LT X.K t)
abbrev dYes : DTT := fun _ μ Q => Q true μ
theorem dts_nil : DTs X [] dYes := ⟨fun pins s σ H Q I h => by
  obtain ⟨F, ρ, μ, Q', R, S, t, k⟩ := h
  exact pts_nil.run pins s σ H Q I (k true μ t F H (Stp.refl F H μ) R)⟩
theorem dts_one {t : DTT} (h : DT X c t) : DTs X [c] t := pts_one h
theorem lcS {K : PySem.W.Frag} {vs : List Nat} (og : OwnG K g dg vs) : ∀ σ H Q, LE K (dLcS wi dg tt te vs) σ H Q → tLc (LI K wi) g (LT K tt) (LE K te) vs σ H Q := fun σ H Q h => by
  obtain ⟨F, ρ, μ, Q', R, S, t, k⟩ := h
  refine liftLc og R S t fun acc μ' q F' H' p ws s R' f m hp r ne => ?_
  have ex : Ext F' (upd F' p (.lst ws)) := Ext.new f
  refine k (.lst acc) μ' q (upd F' p (.lst ws)) H' (.ref p) ⟨s.ext.trans ex, fun a h1 h2 h3 => ?_⟩ (R'.adopt f m hp) (.lst upd_same (r.mono ex))
  obtain ⟨q1, q2, q3⟩ := s.fr a h1 h2 h3
  exact ⟨q1, by rw [upd_ne (ne a h1 h2 h3)]; exact q2, q3⟩
theorem lcM {K : PySem.W.Frag} {vs : List Nat} (og : OwnG K g dg vs) : ∀ σ H Q, LE K (dLcM wi dg tt te vs) σ H Q → tLc (LI K wi) g (LT K tt) (LE K te) vs σ H Q := fun σ H Q h => by
  obtain ⟨F, ρ, μ, Q', R, S, t, k⟩ := h
  refine liftLc og R S t fun acc μ' q F' H' p ws s R' f m hp r ne => ?_
  refine k (.ref p) _ (q p m) F' H' (.ref p) ⟨s.ext, fun a h1 h2 h3 => ?_⟩ (R'.adoptM f hp (.lst r)) (.ref p)
  obtain ⟨q1, q2, q3⟩ := s.fr a h1 h2 h3
  exact ⟨q1, q2, by rw [up_ne (ne a h1 h2 h3)]; exact q3⟩
variable (hc : X.calm = true) (hN : X.N.Nodup) (ok : BlkOk X.N X.env.scope scope own) (og : OwnG X.K g dg (own.map (·.2))) (hi : DI X tg iter wi)
  (hg : ∀ (s : Shared) (H : Hp) (C : Addr) (cl : List (Str × Addr)) (fp : List Addr), PG (X.blk s H scope (compEnvC scope cl C X.env) fp) tg g)
  (ht : ∀ (s : Shared) (H : Hp) (C : Addr) (cl : List (Str × Addr)) (fp : List Addr), DTs (X.blk s H scope (compEnvC scope cl C X.env) fp) ifs tt)
  (he : ∀ (s : Shared) (H : Hp) (C : Addr) (cl : List (Str × Addr)) (fp : List Addr), DE (X.blk s H scope (compEnvC scope cl C X.env) fp) elt te)
include hc hN ok og hi hg ht he
theorem de_lc (hs : ∀ x, foldedSetIterable iter X.env x = pure x := by intro _; rfl) : DE X (.ListComp elt [⟨tg, iter, ifs, 0⟩] scope pos) (dLcS wi dg tt te (own.map (·.2))) := weakE (pe_lc hc hN hi ok hg ht he hs) (lcS og)
theorem de_lcM (hs : ∀ x, foldedSetIterable iter X.env x = pure x := by intro _; rfl) : DE X (.ListComp elt [⟨tg, iter, ifs, 0⟩] scope pos) (dLcM wi dg tt te (own.map (·.2))) := weakE (pe_lc hc hN hi ok hg ht he hs) (lcM og)
theorem ds_setLc {i : Nat} (hy : X.N[i]? = some y) (hyl : X.env.scope.names.lookup y = some .local) (hsw : swapsWith (.ListComp elt [⟨tg, iter, ifs, 0⟩] scope pos) (some (.Name y py)) spos.line X.env = pure true) (hs : ∀ x, foldedSetIterable iter X.env x = pure x := by intro _; rfl) :
    DS_ X (.Assign [.Name y py] (.ListComp elt [⟨tg, iter, ifs, 0⟩] scope pos) spos) (dSet (dLcS wi dg tt te (own.map (·.2))) i) := weakS (ps_setLc hc hN hy hyl hsw hi ok hg ht he hs) fun D σ H h => by
  obtain ⟨F, ρ, μ, D', R, S, t, k, _⟩ := h
  exact lcS og σ H _ ⟨F, ρ, μ, _, R, S, t, fun d μ1 t1 F1 H1 v s1 R1 r1 => k _ μ1 t1 F1 H1 _ s1 R1 ((S.mono s1.ext).set i r1)⟩
theorem ds_setLcM {i : Nat} (hy : X.N[i]? = some y) (hyl : X.env.scope.names.lookup y = some .local) (hsw : swapsWith (.ListComp elt [⟨tg, iter, ifs, 0⟩] scope pos) (some (.Name y py)) spos.line X.env = pure true) (hs : ∀ x, foldedSetIterable iter X.env x = pure x := by intro _; rfl) :
    DS_ X (.Assign [.Name y py] (.ListComp elt [⟨tg, iter, ifs, 0⟩] scope pos) spos) (dSet (dLcM wi dg tt te (own.map (·.2))) i) := weakS (ps_setLc hc hN hy hyl hsw hi ok hg ht he hs) fun D σ H h => by
  obtain ⟨F, ρ, μ, D', R, S, t, k, _⟩ := h
  exact lcM og σ H _ ⟨F, ρ, μ, _, R, S, t, fun d μ1 t1 F1 H1 v s1 R1 r1 => k _ μ1 t1 F1 H1 _ s1 R1 ((S.mono s1.ext).set i r1)⟩
end

/-! ### operators -/
section
variable {X : Cx} {K : PySem.W.Frag}
def dAdd : DR2 := fun x y μ Q => match x with
  | .int i => match y with
    | .int j => Q (.int (i + j)) μ
    | _ => False
  | .str i => match y with
    | .str j => i.length + j.length ≤ sizeLine ∧ Q (.str (i ++ j)) μ
    | _ => False
  | .tup xs => match y with
    | .tup ys => xs.length + ys.length ≤ sizeLine ∧ Q (.tup (xs ++ ys)) μ
    | _ => False
  | x => match lstD μ x, lstD μ y with
    | some xs, some ys => xs.length + ys.length ≤ sizeLine ∧ Q (.lst (xs ++ ys)) μ
    | _, _ => False
def rAdd (K : PySem.W.Frag) : R2 := fun x y H Q => (∃ i j, x = .int i ∧ y = .int j ∧ Q (.int (i + j)) H) ∨ ((∃ i j, x = .str i ∧ y = .str j ∧ i.length + j.length ≤ sizeLine ∧ Q (.str (i ++ j)) H) ∨ (rCatA K x y H Q ∨ rCat x y H Q))
theorem opr_add : OpR X (binaryOp .Add) (rAdd X.K) := OpR.or op_add (OpR.or op_add_str (OpR.or op_catA op_cat))
theorem lr_add : LR2 K dAdd (rAdd K) := fun F H μ x y dx dy Q' Q R rx ry t k => by
  have lists : ∀ xs ys, lstD μ dx = some xs → lstD μ dy = some ys → xs.length + ys.length ≤ sizeLine ∧ Q' (.lst (xs ++ ys)) μ → rAdd K x y H Q := fun xs ys ex ey t => by
    obtain ⟨a, vs, rfl, ha, r1⟩ := R.lst rx ex
    obtain ⟨b, ws, rfl, hb, r2⟩ := R.lst ry ey
    refine .inr (.inr (.inr ⟨a, b, vs, ws, rfl, rfl, ha, hb, by rw [← r1.length, ← r2.length]; exact t.1, fun q hq => ?_⟩))
    exact k _ μ t.2 _ _ _ (Stp.newS R hq) (R.newS hq) (.lst upd_same ((r1.append r2).mono (Ext.new (R.freeF hq))))
  have fall : ∀ {b : Prop}, (match lstD μ dx, lstD μ dy with
    | some xs, some ys => xs.length + ys.length ≤ sizeLine ∧ Q' (.lst (xs ++ ys)) μ
    | _, _ => False) → rAdd K x y H Q := fun {b} t => by
    cases e1 : lstD μ dx with
    | none => rw [e1] at t; exact False.elim t
    | some xs => cases e2 : lstD μ dy with
      | none => rw [e1, e2] at t; exact False.elim t
      | some ys => rw [e1, e2] at t; exact lists xs ys e1 e2 t
  cases dx with
  | int i => cases dy with
    | int j => cases rx; cases ry; exact .inl ⟨i, j, rfl, rfl, k _ μ t F H _ (Stp.refl _ _ _) R (.int _)⟩
    | _ => exact False.elim t
  | str i => cases dy with
    | str j => cases rx; cases ry; exact .inr (.inl ⟨i, j, rfl, rfl, t.1, k _ μ t.2 F H _ (Stp.refl _ _ _) R (.str _)⟩)
    | _ => exact False.elim t
  | tup xs => cases dy with
    | tup ys =>
      cases rx with
      | tup h1 r1 => cases ry with
        | tup h2 r2 =>
          refine .inr (.inr (.inl ⟨_, _, _, _, rfl, rfl, R.ext.sqT h1, R.ext.sqT h2, by rw [← r1.length, ← r2.length]; exact t.1, fun z => ?_, fun _ z => ?_, fun _ _ q hq => ?_⟩))
          · have e := r1.nil_iff.mpr z
            subst e
            exact k _ μ t.2 F H _ (Stp.refl _ _ _) R (.tup h2 r2)
          · have e := r2.nil_iff.mpr z
            subst e
            have t2 := t.2
            rw [List.append_nil] at t2
            exact k _ μ t2 F H _ (Stp.refl _ _ _) R (.tup h1 r1)
          · exact k _ μ t.2 _ _ _ (Stp.newS R hq) (R.newS hq) (.tup (.inl (.inl upd_same)) ((r1.append r2).mono (Ext.new (R.freeF hq))))
    | _ => exact False.elim t
  | lst xs => exact fall (b := True) t
  | ref a => exact fall (b := True) t
  | _ => exact fall (b := True) t
def dSub : DR2 := fun x y μ Q => match x with
  | .int i => match y with
    | .int j => Q (.int (i - j)) μ
    | _ => False
  | _ => False
theorem lr_ints {dr : DR2} {C : Int → Int → Prop} {gg : Int → Int → V} {ff : Int → Int → SD} (hf : ∀ i j, plain (ff i j) = some (gg i j)) (h : ∀ x y μ Q, dr x y μ Q → ∃ i j, x = .int i ∧ y = .int j ∧ C i j ∧ Q (ff i j) μ) : LR2 K dr (rI C gg) := fun F H μ x y dx dy Q' Q R rx ry t k => by
  obtain ⟨i, j, rfl, rfl, hC, t2⟩ := h _ _ _ _ t
  cases rx; cases ry
  exact ⟨i, j, rfl, rfl, hC, k _ μ t2 F H _ (Stp.refl _ _ _) R (RepS.plain (hf i j))⟩
theorem lr_ints0 {dr : DR2} {gg : Int → Int → V} {ff : Int → Int → SD} (hf : ∀ i j, plain (ff i j) = some (gg i j)) (h : ∀ x y μ Q, dr x y μ Q → ∃ i j, x = .int i ∧ y = .int j ∧ Q (ff i j) μ) : LR2 K dr (rI0 gg) := fun F H μ x y dx dy Q' Q R rx ry t k => by
  obtain ⟨i, j, rfl, rfl, t2⟩ := h _ _ _ _ t
  cases rx; cases ry
  exact ⟨i, j, rfl, rfl, k _ μ t2 F H _ (Stp.refl _ _ _) R (RepS.plain (hf i j))⟩
theorem lr_sub : LR2 K dSub (rI0 fun i j => .int (i - j)) := lr_ints0 (ff := fun i j => .int (i - j)) (fun _ _ => rfl) fun x y μ Q t => by
  cases x <;> cases y <;> first | exact False.elim t | exact ⟨_, _, rfl, rfl, t⟩
/-- x * y: two ints; a text and an int; a list and an int -/
def repS (x : Str) (n : Nat) : Str := ⟨((List.replicate n x.cps.toList).flatten).toArray⟩
theorem foldl_app (a : Array Nat) : ∀ (n : Nat) (acc : Array Nat), (List.replicate n a).foldl (· ++ ·) acc = (acc.toList ++ (List.replicate n a.toList).flatten).toArray
  | 0, acc => by simp
  | n + 1, acc => by
    rw [List.replicate_succ, List.foldl_cons, foldl_app a n, List.replicate_succ, List.flatten_cons]
    simp
theorem repS_eq (x : Str) (n : Nat) : (⟨(List.replicate n x.cps).foldl (· ++ ·) #[]⟩ : Str) = repS x n := by
  unfold repS
  rw [foldl_app]
  simp
theorem repS_length (x : Str) (n : Nat) : (repS x n).length = x.length * n := by
  show ((List.replicate n x.cps.toList).flatten).toArray.size = x.cps.size * n
  simp [Nat.mul_comm]
theorem op_mulS : OpR X (binaryOp .Mult) (fun x y H Q => ∃ s j, x = .str s ∧ y = .int j ∧ (0 ≤ j ∧ j ≤ 1000000 ∧ s.length * j.toNat ≤ sizeLine) ∧ Q (.str (repS s j.toNat)) H) := by
  intro pins st σ H x y v u Q I rx ry h
  obtain ⟨s, j, rfl, rfl, ⟨h0, h1, h2⟩, q⟩ := h
  obtain ⟨t, rfl⟩ := rx
  obtain ⟨t', rfl⟩ := ry
  refine P.mul_str ?_ (fun a b z => ?_) (fun a b => ?_) ?_
  · rw [decide_eq_false (by omega), decide_eq_false (by omega)]; rfl
  · have hl : (sizeLine : Int) ≤ (2 ^ 63 - 1) / 1000000 := by decide
    have hj : 0 < j := by omega
    have hs : (s.length : Int) * j ≤ sizeLine := by
      have e : ((s.length * j.toNat : Nat) : Int) = (s.length : Int) * j := by rw [Int.natCast_mul, Int.toNat_of_nonneg h0]
      rw [← e]; exact Int.ofNat_le.mpr h2
    have h3 : (s.length : Int) * 1 ≤ (s.length : Int) * j := Int.mul_le_mul_of_nonneg_left (by omega) (Int.natCast_nonneg _)
    have h5 : (2 ^ 63 - 1) / 1000000 ≤ (2 ^ 63 - 1) / j := by
      apply Int.le_ediv_of_mul_le hj
      have : ((2 ^ 63 - 1) / 1000000 : Int) * j ≤ ((2 ^ 63 - 1) / 1000000 : Int) * 1000000 := Int.mul_le_mul_of_nonneg_left h1 (by decide)
      exact Int.le_trans this (by decide)
    omega
  · unfold Builtin.Str.tooLong
    simpa using h2
  · split
    · rename_i hlt
      have e : j = 0 := by omega
      subst e
      exact ⟨by decide, ⟨.str _, H, I.tok _, ⟨_, rfl⟩, q⟩⟩
    · split
      · rename_i hn hy
        have e : repS s j.toNat = s := by
          simp only [Bool.or_eq_true, beq_iff_eq] at hy
          rcases hy with hy | hy
          · subst hy; unfold repS; simp
          · have : s.cps = #[] := by
              have : s.cps.size = 0 := hy
              exact Array.eq_empty_of_size_eq_zero this
            obtain ⟨c⟩ := s
            simp only at this
            subst this
            unfold repS; simp
        rw [e] at q
        exact ⟨.str _, H, I, ⟨_, rfl⟩, q⟩
      · rw [repS_eq]
        exact ⟨by rw [repS_length]; exact h2, ⟨.str _, H, I.tok _, ⟨_, rfl⟩, q⟩⟩
end
end DS
/-! DS6: comparisons, membership, subscripts, built-ins by value, list methods. -/
namespace DS
open PySem PySem.Spec PyProof.Rows L2
/-! ### data as PyData -/
mutual
def pdS : SD → Option PyData
  | .non => some .none
  | .bl b => some (.bool b)
  | .int i => some (.int i)
  | .str s => some (.str s)
  | .ref _ => none
  | .ty _ => none
  | .exc _ _ => none
  | .tup xs => match pdL xs with
    | some ds => some (.tuple ds)
    | none => none
  | .lst xs => match pdL xs with
    | some ds => some (.list ds)
    | none => none
  | .rol xs => match pdL xs with
    | some ds => some (.list ds)
    | none => none
  | .dic _ => none
def pdL : List SD → Option (List PyData)
  | [] => some []
  | d :: r => match pdS d, pdL r with
    | some x, some y => some (x :: y)
    | _, _ => none
end
/-- .. of a list that may change, too -/
def pd (μ : Mu) : SD → Option PyData
  | .ref a => match μ a with
    | some (.lst xs) => match pdL xs with
      | some ds => some (.list ds)
      | none => none
    | _ => none
  | d => pdS d
section
variable {K : PySem.W.Frag} {F H : Hp} {μ : Mu}
mutual
theorem RepS.dp (ex : Ext F H) (sub : ∀ a o, F a = some o → H a = some o) : ∀ {d : SD} {v : V} {p : PyData}, RepS K F d v → pdS d = some p → Dp K H v p
  | _, _, _, .non, e => by cases e; exact .non
  | _, _, _, .bl b, e => by cases e; exact .bl b
  | _, _, _, .int b, e => by cases e; exact .int b
  | _, _, _, .str b, e => by cases e; exact .str b
  | _, _, _, .ref _, e => by cases e
  | _, _, _, .ty _, e => by cases e
  | .tup ds, _, _, .tup h r, e => by
    unfold pdS at e
    cases q : pdL ds with
    | none => rw [q] at e; cases e
    | some ps => rw [q] at e; cases e; exact .tup (ex.sqT h) (RepL.dp ex sub r q)
  | .lst ds, _, _, .lst h r, e => by
    unfold pdS at e
    cases q : pdL ds with
    | none => rw [q] at e; cases e
    | some ps => rw [q] at e; cases e; exact .lst (SqL.of (sub _ _ h)) (RepL.dp ex sub r q)
  | .rol ds, _, _, .rol h r, e => by
    unfold pdS at e
    cases q : pdL ds with
    | none => rw [q] at e; cases e
    | some ps => rw [q] at e; cases e; exact .lst (ex.sqL h) (RepL.dp ex sub r q)
  | _, _, _, .dic _ _ _, e => by cases e
  | _, _, _, .exc0 _ _, e => by cases e
  | _, _, _, .exc _ _ _ _ _, e => by cases e
theorem RepL.dp (ex : Ext F H) (sub : ∀ a o, F a = some o → H a = some o) : ∀ {ds : List SD} {vs : List V} {ps : List PyData}, RepL K F ds vs → pdL ds = some ps → DpAll K H vs ps
  | _, _, _, .nil, e => by cases e; exact .nil
  | d :: ds, _, _, .cons h r, e => by
    unfold pdL at e
    cases q : pdS d with
    | none => rw [q] at e; cases e
    | some x => cases q2 : pdL ds with
      | none => rw [q, q2] at e; cases e
      | some y => rw [q, q2] at e; cases e; exact .cons (RepS.dp ex sub h q) (RepL.dp ex sub r q2)
end
theorem HReal.dp (R : HReal K F H μ) {d : SD} {v : V} {p : PyData} (r : RepS K F d v) (e : pd μ d = some p) : Dp K H v p := by
  cases r with
  | ref a =>
    unfold pd at e
    simp only at e
    cases q : μ a with
    | none => rw [q] at e; cases e
    | some m =>
      rw [q] at e
      obtain ⟨_, o, h, ro⟩ := R.mus a m q
      cases ro with
      | lst r =>
        rename_i ds vs
        cases q2 : pdL ds with
        | none => simp only [q2] at e; cases e
        | some ps => simp only [q2] at e; cases e; exact .lst (SqL.of h) (RepL.dp R.ext R.sub r q2)
      | _ => cases e
  | non => exact RepS.dp R.ext R.sub .non e
  | bl b => exact RepS.dp R.ext R.sub (.bl b) e
  | int b => exact RepS.dp R.ext R.sub (.int b) e
  | str b => exact RepS.dp R.ext R.sub (.str b) e
  | ty b => cases e
  | tup h r => exact RepS.dp R.ext R.sub (.tup h r) e
  | lst h r => exact RepS.dp R.ext R.sub (.lst h r) e
  | rol h r => exact RepS.dp R.ext R.sub (.rol h r) e
  | dic h q r => cases e
  | exc0 _ _ => cases e
  | exc _ _ _ _ _ => cases e
end
/-- x == y: none where it is not known -/
def eqD (μ : Mu) (x y : SD) : Option Bool := match x, y with
  | .str s, .str t => some (decide (s = t))
  | .int i, .int j => some (decide (i = j))
  | .bl i, .bl j => some (decide (i = j))
  | .non, .non => some true
  | .non, .str _ => some false
  | .str _, .non => some false
  | x, y => match pd μ x, pd μ y with
    | some p, some q => if SeqAt.shaped p = true ∧ SeqAt.shaped q = true then some (PyData.eqv p q) else none
    | _, _ => none
def dEq (neg : Bool) : DR2 := fun x y μ Q => match eqD μ x y with
  | some b => Q (.bl (neg != b)) μ
  | none => False
section
variable {X : Cx} {K : PySem.W.Frag}
def rEqA (K : PySem.W.Frag) : R2 := fun x y H Q => rEq x y H Q ∨ rEqD K x y H Q
def rNeA (K : PySem.W.Frag) : R2 := fun x y H Q => rNe x y H Q ∨ rNeD K x y H Q
theorem opr_eq (hu : X.A.units + 64 < cLine) : OpR X (compareOp .Eq) (rEqA X.K) := op_eq.or (op_eqD hu)
theorem opr_ne (hu : X.A.units + 64 < cLine) : OpR X (compareOp .NotEq) (rNeA X.K) := op_ne.or (op_neD hu)
theorem eqD_cases {μ : Mu} {x y : SD} {b : Bool} (h : eqD μ x y = some b) : (∃ v w, plain x = some v ∧ plain y = some w ∧ scal v w = true ∧ b = decide (v = w)) ∨ ∃ p q, pd μ x = some p ∧ pd μ y = some q ∧ SeqAt.shaped p = true ∧ SeqAt.shaped q = true ∧ b = PyData.eqv p q := by
  unfold eqD at h
  split at h
  · cases h; exact .inl ⟨_, _, rfl, rfl, rfl, by simp⟩
  · cases h; exact .inl ⟨_, _, rfl, rfl, rfl, by simp⟩
  · cases h; exact .inl ⟨_, _, rfl, rfl, rfl, by simp⟩
  · cases h; exact .inl ⟨_, _, rfl, rfl, rfl, by simp⟩
  · cases h; exact .inl ⟨_, _, rfl, rfl, rfl, by simp⟩
  · cases h; exact .inl ⟨_, _, rfl, rfl, rfl, by simp⟩
  · split at h
    · rename_i p q e1 e2
      split at h
      · rename_i hs
        cases h
        exact .inr ⟨p, q, e1, e2, hs.1, hs.2, rfl⟩
      · cases h
    · cases h
theorem lr_eq : LR2 K (dEq false) (rEqA K) := fun F H μ x y dx dy Q' Q R rx ry t k => by
  unfold dEq at t
  cases e : eqD μ dx dy with
  | none => rw [e] at t; exact False.elim t
  | some b =>
    rw [e] at t
    have t : Q' (.bl b) μ := by simpa using t
    rcases eqD_cases e with ⟨v, w, h1, h2, h3, rfl⟩ | ⟨p, q, h1, h2, h3, h4, rfl⟩
    · obtain rfl := rx.isPlain h1
      obtain rfl := ry.isPlain h2
      exact .inl ⟨h3, k _ μ t F H _ (Stp.refl _ _ _) R (.bl _)⟩
    · exact .inr ⟨p, q, R.dp rx h1, R.dp ry h2, h3, h4, k _ μ t F H _ (Stp.refl _ _ _) R (.bl _)⟩
theorem lr_ne : LR2 K (dEq true) (rNeA K) := fun F H μ x y dx dy Q' Q R rx ry t k => by
  unfold dEq at t
  cases e : eqD μ dx dy with
  | none => rw [e] at t; exact False.elim t
  | some b =>
    rw [e] at t
    have t : Q' (.bl (!b)) μ := by simpa using t
    rcases eqD_cases e with ⟨v, w, h1, h2, h3, rfl⟩ | ⟨p, q, h1, h2, h3, h4, rfl⟩
    · obtain rfl := rx.isPlain h1
      obtain rfl := ry.isPlain h2
      exact .inl ⟨h3, k _ μ t F H _ (Stp.refl _ _ _) R (.bl _)⟩
    · exact .inr ⟨p, q, R.dp rx h1, R.dp ry h2, h3, h4, k _ μ t F H _ (Stp.refl _ _ _) R (.bl _)⟩

/-! order -/
def dCmp (fi : Int → Int → Bool) (fs : List Nat → List Nat → Bool) : DR2 := fun x y μ Q => match x with
  | .int i => match y with
    | .int j => Q (.bl (fi i j)) μ
    | _ => False
  | .str s => match y with
    | .str t => Q (.bl (fs s.cps.toList t.cps.toList)) μ
    | _ => False
  | _ => False
def rCmp (fi : Int → Int → Bool) (fs : List Nat → List Nat → Bool) : R2 := fun x y H Q => (∃ i j, x = .int i ∧ y = .int j ∧ Q (.bl (fi i j)) H) ∨ ∃ i j : Str, x = .str i ∧ y = .str j ∧ Q (.bl (fs i.cps.toList j.cps.toList)) H
theorem lr_cmp {fi : Int → Int → Bool} {fs : List Nat → List Nat → Bool} : LR2 K (dCmp fi fs) (rCmp fi fs) := fun F H μ x y dx dy Q' Q R rx ry t k => by
  cases dx with
  | int i => cases dy with
    | int j => cases rx; cases ry; exact .inl ⟨i, j, rfl, rfl, k _ μ t F H _ (Stp.refl _ _ _) R (.bl _)⟩
    | _ => exact False.elim t
  | str i => cases dy with
    | str j => cases rx; cases ry; exact .inr ⟨i, j, rfl, rfl, k _ μ t F H _ (Stp.refl _ _ _) R (.bl _)⟩
    | _ => exact False.elim t
  | _ => exact False.elim t
abbrev dLt : DR2 := dCmp (fun i j => decide (i < j)) fun s t => decide (s < t)
theorem opr_lt : OpR X (compareOp .Lt) (rCmp (fun i j => decide (i < j)) fun s t => decide (s < t)) := op_lt.or op_lt_str
theorem lr_lt : LR2 K dLt (rCmp (fun i j => decide (i < j)) fun s t => decide (s < t)) := lr_cmp

/-! arithmetic, on -/
def rMul : R2 := fun x y H Q => rI IntMulOk (fun i j => .int (i * j)) x y H Q ∨ ((∃ s j, x = .str s ∧ y = .int j ∧ (0 ≤ j ∧ j ≤ 1000000 ∧ s.length * j.toNat ≤ sizeLine) ∧ Q (.str (repS s j.toNat)) H) ∨ rRep x y H Q)
theorem op_mulG : OpR X (binaryOp .Mult) (rI IntMulOk fun i j => .int (i * j)) := opI fun _ _ _ _ _ _ _ hc q => mul_int q hc
theorem opr_mul : OpR X (binaryOp .Mult) rMul := op_mulG.or (op_mulS.or op_rep)
def dMul : DR2 := fun x y μ Q => match y with
  | .int j => match x with
    | .int i => IntMulOk i j ∧ Q (.int (i * j)) μ
    | .str s => (0 ≤ j ∧ j ≤ 1000000 ∧ s.length * j.toNat ≤ sizeLine) ∧ Q (.str (repS s j.toNat)) μ
    | x => match lstD μ x with
      | some xs => (-(2 ^ 63) ≤ j ∧ j < 2 ^ 63 ∧ xs.length * j.toNat ≤ sizeLine) ∧ Q (.lst (List.replicate j.toNat xs).flatten) μ
      | none => False
  | _ => False
theorem RepL.rep {F : Hp} {ds : List SD} {vs : List V} (h : RepL K F ds vs) : ∀ n : Nat, RepL K F (List.replicate n ds).flatten (List.replicate n vs).flatten
  | 0 => .nil
  | n + 1 => by rw [List.replicate_succ, List.replicate_succ, List.flatten_cons, List.flatten_cons]; exact h.append (RepL.rep h n)
theorem lr_mul : LR2 K dMul rMul := fun F H μ x y dx dy Q' Q R rx ry t k => by
  cases dy with
  | int j =>
    cases ry
    have fall : (match lstD μ dx with
      | some xs => (-(2 ^ 63) ≤ j ∧ j < 2 ^ 63 ∧ xs.length * j.toNat ≤ sizeLine) ∧ Q' (.lst (List.replicate j.toNat xs).flatten) μ
      | none => False) → rMul x (.int j) H Q := fun t => by
      cases e : lstD μ dx with
      | none => rw [e] at t; exact False.elim t
      | some xs =>
        rw [e] at t
        obtain ⟨⟨h1, h2, h3⟩, t⟩ := t
        obtain ⟨a, vs, rfl, ha, r⟩ := R.lst rx e
        refine .inr (.inr ⟨a, j, vs, rfl, rfl, ha, h1, h2, by rw [← r.length]; exact h3, fun q hq => ?_⟩)
        exact k _ μ t _ _ _ (Stp.newS R hq) (R.newS hq) (.lst upd_same ((r.rep _).mono (Ext.new (R.freeF hq))))
    cases dx with
    | int i => cases rx; exact .inl ⟨i, j, rfl, rfl, t.1, k _ μ t.2 F H _ (Stp.refl _ _ _) R (.int _)⟩
    | str s => cases rx; exact .inr (.inl ⟨s, j, rfl, rfl, t.1, k _ μ t.2 F H _ (Stp.refl _ _ _) R (.str _)⟩)
    | lst xs => exact fall t
    | ref a => exact fall t
    | _ => exact fall t
  | _ => exact False.elim t
def dI2 (C : Int → Int → Prop) (f : Int → Int → Int) : DR2 := fun x y μ Q => match x with
  | .int i => match y with
    | .int j => C i j ∧ Q (.int (f i j)) μ
    | _ => False
  | _ => False
theorem lr_i2 {C : Int → Int → Prop} {f : Int → Int → Int} : LR2 K (dI2 C f) (rI C fun i j => .int (f i j)) := lr_ints (ff := fun i j => .int (f i j)) (fun _ _ => rfl) fun x y μ Q t => by
  cases x <;> cases y <;> first | exact False.elim t | exact ⟨_, _, rfl, rfl, t.1, t.2⟩
abbrev dMod : DR2 := dI2 (fun _ j => 0 < j) fun i j => i % j
abbrev dDiv : DR2 := dI2 CDivW fun i j => i / j
def CPowW (i j : Int) : Prop := 0 ≤ j ∧ (Builtin.Int.intBits i : Int) * j ≤ 2 ^ 27
theorem op_powW : OpR X (binaryOp .Pow) (rI CPowW fun i j => .int (i ^ j.toNat)) := opI fun _ _ _ _ _ _ _ hc q => pow_int hc.1 hc.2 q
abbrev dPow : DR2 := dI2 CPowW fun i j => i ^ j.toNat
end
/-- one operand -/
abbrev dUnI (f : Int → Int) (ta : DTE) : DTE := fun ρ μ Q => ta ρ μ fun x μ1 => match x with
  | .int i => Q (.int (f i)) μ1
  | _ => False
theorem de_neg {X : Cx} {a : Expr} {pos : Pos} {ta : DTE} (ha : DE X a ta) : DE X (.UnaryOp .USub a pos) (dUnI (fun i => -i) ta) := weakE (pe_un un_neg ha) fun σ H Q h => by
  obtain ⟨F, ρ, μ, Q', R, S, t, k⟩ := h
  refine ⟨F, ρ, μ, _, R, S, t, fun d μ1 t1 F1 H1 v s1 R1 r1 => ?_⟩
  cases r1 with
  | int i => exact ⟨i, rfl, k _ μ1 t1 F1 H1 _ s1 R1 (.int _)⟩
  | _ => exact False.elim t1

/-! ### membership -/
def eqA (a b : SD) : Bool := match plain a, plain b with
  | some v, some w => eqV v w
  | _, _ => false
def flatD (d : SD) : Bool := match plain d with
  | some v => flatV v
  | none => false
def inS (x : SD) (xs : List SD) : Bool := xs.any fun y => eqA y x
def dIn (neg : Bool) : DR2 := fun x y μ Q => match y with
  | .str t => match x with
    | .str s => match s.cps.toList with
      | [c] => Q (.bl (neg != decide (c ∈ t.cps.toList))) μ
      | _ => False
    | _ => False
  | y => match seqD μ y with
    | some xs => (flatD x = true ∧ xs.all flatD = true) ∧ Q (.bl (neg != inS x xs)) μ
    | none => False
section
variable {X : Cx} {K : PySem.W.Frag} {F : Hp}
theorem flatD_V {d : SD} {v : V} (r : RepS K F d v) (h : flatD d = true) : plain d = some v ∧ flatV v = true := by
  unfold flatD at h
  cases e : plain d with
  | none => rw [e] at h; cases h
  | some w =>
    rw [e] at h
    obtain rfl := r.isPlain e
    exact ⟨rfl, h⟩
theorem flatL_V : ∀ {ds : List SD} {vs : List V}, RepL K F ds vs → ds.all flatD = true → vs.all flatV = true ∧ ∀ {x : SD} {v : V}, plain x = some v → (ds.any fun y => eqA y x) = inV v vs
  | _, _, .nil, _ => ⟨rfl, fun _ => rfl⟩
  | d :: ds, _, .cons h r, e => by
    rw [List.all_cons, Bool.and_eq_true] at e
    obtain ⟨p, f⟩ := flatD_V h e.1
    obtain ⟨q1, q2⟩ := flatL_V r e.2
    refine ⟨by rw [List.all_cons, f, q1]; rfl, fun {x v} hx => ?_⟩
    show (eqA d x || (ds.any fun y => eqA y x)) = _
    rw [q2 hx]
    unfold eqA
    rw [p, hx]
    rfl
def rInA (K : PySem.W.Frag) (neg : Bool) : R2 := fun x y H Q => (∃ (c : Nat) (z : Str), x = .str ⟨#[c]⟩ ∧ y = .str z ∧ Q (.bl (neg != decide (c ∈ z.cps.toList))) H) ∨ rIn K neg x y H Q
theorem opr_in : OpR X (compareOp .In) (rInA X.K false) := by
  refine OpR.or (fun pins s σ H x y v u Q I rx ry h => ?_) op_in_seq
  obtain ⟨c, z, e1, e2, q⟩ := h
  exact op_in_sign pins s σ H x y v u Q I rx ry ⟨c, z, e1, e2, by simpa using q⟩
theorem opr_notIn : OpR X (compareOp .NotIn) (rInA X.K true) := by
  refine OpR.or (fun pins s σ H x y v u Q I rx ry h => ?_) op_notIn_seq
  obtain ⟨c, z, e1, e2, q⟩ := h
  exact op_notIn_sign pins s σ H x y v u Q I rx ry ⟨c, z, e1, e2, by simpa using q⟩
theorem one_sign {s : Str} {c : Nat} (h : s.cps.toList = [c]) : s = ⟨#[c]⟩ := by
  obtain ⟨a⟩ := s
  simp only at h
  congr 1
  exact Array.toList_inj.mp (by simpa using h)
theorem lr_in {neg : Bool} : LR2 K (dIn neg) (rInA K neg) := fun F H μ x y dx dy Q' Q R rx ry t k => by
  have fall : (match seqD μ dy with
    | some xs => (flatD dx = true ∧ xs.all flatD = true) ∧ Q' (.bl (neg != inS dx xs)) μ
    | none => False) → rInA K neg x y H Q := fun t => by
    cases e : seqD μ dy with
    | none => rw [e] at t; exact False.elim t
    | some xs =>
      rw [e] at t
      obtain ⟨⟨f1, f2⟩, t⟩ := t
      obtain ⟨a, vs, rfl, r, h3⟩ := R.seq' ry e
      obtain ⟨p, f⟩ := flatD_V rx f1
      obtain ⟨q1, q2⟩ := flatL_V r f2
      refine .inr ⟨a, vs, rfl, h3, f, q1, ?_⟩
      have e2 : inS dx xs = inV x vs := q2 p
      rw [e2] at t
      have e3 : (if neg = true then !inV x vs else inV x vs) = (neg != inV x vs) := by cases neg <;> simp
      rw [e3]
      exact k _ μ t F H _ (Stp.refl _ _ _) R (.bl _)
  cases dy with
  | str z =>
    cases ry
    cases dx with
    | str s =>
      cases rx
      unfold dIn at t
      simp only at t
      split at t
      · rename_i c hc
        have e := one_sign hc
        subst e
        exact .inl ⟨c, z, rfl, rfl, k _ μ t F H _ (Stp.refl _ _ _) R (.bl _)⟩
      · exact False.elim t
    | _ => exact False.elim t
  | _ => exact fall t
end

/-! ### subscripts, slices -/
def dIx : DR2 := fun x y μ Q => match y with
  | .int i => match x with
    | .str z => z.length ≤ sizeLine ∧ match atI z.cps.toList i with
      | some c => Q (.str ⟨#[c]⟩) μ
      | none => False
    | x => match seqD μ x with
      | some xs => match atI xs i with
        | some d => Q d μ
        | none => False
      | none => False
  | _ => False
section
variable {X : Cx} {K : PySem.W.Frag} {a b e : Expr} {pos p2 : Pos} {ta tb te : DTE} {lo hi : Option Expr}
theorem atI_rep {F : Hp} {ds : List SD} {vs : List V} {i : Int} {d : SD} (r : RepL K F ds vs) (h : atI ds i = some d) : ∃ v, atI vs i = some v ∧ RepS K F d v := by
  unfold atI at h ⊢
  rw [← r.length]
  cases q : ixN ds.length i with
  | none => rw [q] at h; cases h
  | some j =>
    rw [q] at h
    obtain ⟨v, h1, h2⟩ := r.get h
    exact ⟨v, h1, h2⟩
theorem lr_ix : LR2 K dIx (rIx K) := fun F H μ x y dx dy Q' Q R rx ry t k => by
  cases dy with
  | int i =>
    cases ry
    have fall : (match seqD μ dx with
      | some xs => match atI xs i with
        | some d => Q' d μ
        | none => False
      | none => False) → rIx K x (.int i) H Q := fun t => by
      cases e : seqD μ dx with
      | none => rw [e] at t; exact False.elim t
      | some xs =>
        rw [e] at t
        simp only at t
        cases e2 : atI xs i with
        | none => rw [e2] at t; exact False.elim t
        | some d =>
          rw [e2] at t
          obtain ⟨a, vs, rfl, r, h3⟩ := R.seq' rx e
          obtain ⟨v, h1, h2⟩ := atI_rep r e2
          rcases h3 with h3 | h3
          · exact .inl ⟨a, vs, i, v, rfl, rfl, h3, h1, k _ μ t F H _ (Stp.refl _ _ _) R h2⟩
          · exact .inr (.inl ⟨a, vs, i, v, rfl, rfl, h3, h1, k _ μ t F H _ (Stp.refl _ _ _) R h2⟩)
    cases dx with
    | str z =>
      cases rx
      obtain ⟨hz, t⟩ := (show z.length ≤ sizeLine ∧ _ from t)
      cases e2 : atI z.cps.toList i with
      | none => rw [e2] at t; exact False.elim t
      | some c => rw [e2] at t; exact .inr (.inr ⟨z, i, c, rfl, rfl, hz, e2, k _ μ t F H _ (Stp.refl _ _ _) R (.str _)⟩)
    | _ => exact fall t
  | _ => exact False.elim t
theorem de_ix (ha : DE X a ta) (hb : DE X b tb) (hs : PlainIx b) : DE X (.Subscript a b pos) (dOp dIx ta tb) := weakE (pe_ix ix_seq ha hb hs) (lift2 lr_ix)
abbrev DTO := Rho → Mu → (Option Int → Mu → Prop) → Prop
def LO (K : PySem.W.Frag) (t : DTO) : TO := fun σ H Q => ∃ F ρ μ Q', HReal K F H μ ∧ Slots K F σ ρ ∧ t ρ μ Q' ∧ ∀ o μ', Q' o μ' → ∀ F' H', Stp F H μ F' H' μ' → HReal K F' H' μ' → Q o H'
abbrev DO (X : Cx) (e : Option Expr) (t : DTO) : Prop := PO X e (LO X.K t)
abbrev dNoPart : DTO := fun _ μ Q => Q none μ
abbrev dPart (t : DTE) : DTO := fun ρ μ Q => t ρ μ fun d μ1 => match d with
  | .int i => Q (some i) μ1
  | _ => False
theorem do_none : DO X none dNoPart := ⟨fun pins s σ H Q I h => by
  obtain ⟨F, ρ, μ, Q', R, S, t, k⟩ := h
  exact po_none.run pins s σ H Q I (k _ μ t F H (Stp.refl _ _ _) R)⟩
theorem do_some (he : DE X e te) : DO X (some e) (dPart te) := ⟨fun pins s σ H Q I h => (po_some he).run pins s σ H Q I (by
  obtain ⟨F, ρ, μ, Q', R, S, t, k⟩ := h
  refine ⟨F, ρ, μ, _, R, S, t, fun d μ1 t1 F1 H1 v s1 R1 r1 => ?_⟩
  cases r1 with
  | int i => exact ⟨i, rfl, k _ μ1 t1 F1 H1 s1 R1⟩
  | _ => exact False.elim t1)⟩
def cutL {α : Type} (xs : List α) (lo hi : Option Int) : List α := (xs.drop (HT.sIx xs.length 0 lo)).take (HT.sIx xs.length xs.length hi - HT.sIx xs.length 0 lo)
theorem RepL.cutL {F : Hp} {ds : List SD} {vs : List V} (r : RepL K F ds vs) (lo hi : Option Int) : RepL K F (DS.cutL ds lo hi) (cutV vs lo hi) := by
  unfold DS.cutL cutV
  rw [r.length]
  exact (r.drop _).take _
theorem cut_all {α : Type} {xs : List α} {lo hi : Option Int} (h : HT.sIx xs.length 0 lo = 0 ∧ HT.sIx xs.length xs.length hi = xs.length) : cutL xs lo hi = xs := by
  unfold cutL
  rw [h.1, h.2]
  simp
/-- x[lo:hi] -/
def drSl (x : SD) (l u : Option Int) (μ3 : Mu) (Q : SD → Mu → Prop) : Prop := match x with
  | .str z => z.length ≤ sizeLine ∧ Q (.str (cutS z l u)) μ3
  | .tup xs => Q (.tup (cutL xs l u)) μ3
  | x => match seqD μ3 x with
    | some xs => Q (.lst (cutL xs l u)) μ3
    | none => False
abbrev dSl (te : DTE) (tl th : DTO) : DTE := fun ρ μ Q => te ρ μ fun x μ1 => tl ρ μ1 fun l μ2 => th ρ μ2 fun u μ3 => drSl x l u μ3 Q
def drSlM (x : SD) (l u : Option Int) (μ3 : Mu) (Q : SD → Mu → Prop) : Prop := match seqD μ3 x with
    | some xs => isTup x = false ∧ ∀ p, μ3 p = none → Q (.ref p) (up μ3 p (.lst (cutL xs l u)))
    | none => False
abbrev dSlM (te : DTE) (tl th : DTO) : DTE := fun ρ μ Q => te ρ μ fun x μ1 => tl ρ μ1 fun l μ2 => th ρ μ2 fun u μ3 => drSlM x l u μ3 Q
def rSlG (K : PySem.W.Frag) : V → Option Int → Option Int → Hp → VK → Prop := fun x lo hi H Q => rSlS x lo hi H Q ∨ (rSlA K x lo hi H Q ∨ rSlL K x lo hi H Q)
theorem slr : SlR X (rSlG X.K) := sl_str.or (sl_tupA.or sl_list)
theorem de_slice {tl th : DTO} (he : DE X e te) (hl : DO X lo tl) (hu : DO X hi th) : DE X (.Subscript e (.Slice lo hi none p2) pos) (dSl te tl th) := weakE (pe_slice slr he hl hu) fun σ H Q h => by
  obtain ⟨F, ρ, μ, Q', R, S, t, k⟩ := h
  refine ⟨F, ρ, μ, _, R, S, t, fun d μ1 t1 F1 H1 v s1 R1 r1 => ⟨F1, ρ, μ1, _, R1, S.mono s1.ext, t1, fun l μ2 t2 F2 H2 s2 R2 => ⟨F2, ρ, μ2, _, R2, (S.mono s1.ext).mono s2.ext, t2, fun u μ3 t3 F3 H3 s3 R3 => ?_⟩⟩⟩
  unfold drSl at t3
  have r3 := r1.mono (s2.trans s3).ext
  have s := (s1.trans s2).trans s3
  have fall : isTup d = false → (match seqD μ3 d with
    | some xs => Q' (.lst (cutL xs l u)) μ3
    | none => False) → rSlG X.K v l u H3 Q := fun ht t => by
    cases e : seqD μ3 d with
    | none => rw [e] at t; exact False.elim t
    | some xs =>
      rw [e] at t
      obtain ⟨a, vs, rfl, r, h3⟩ := R3.seq r3 e
      rcases h3 with ⟨_, h3⟩ | ⟨z, _⟩
      · exact .inr (.inr ⟨a, vs, rfl, h3, fun q hq => k _ μ3 t _ _ _ (s.trans (Stp.newS R3 hq)) (R3.newS hq) (.lst upd_same ((r.cutL l u).mono (Ext.new (R3.freeF hq))))⟩)
      · rw [ht] at z; cases z
  cases d with
  | str z => cases r3; exact .inl ⟨z, rfl, t3.1, k _ μ3 t3.2 F3 H3 _ s R3 (.str _)⟩
  | tup xs =>
    cases r3 with
    | tup h r =>
      refine .inr (.inl ⟨_, _, rfl, R3.ext.sqT h, fun hw => ?_, fun hw q hq => ?_⟩)
      · have t3' : Q' (.tup (cutL xs l u)) μ3 := t3
        rw [cut_all (by rw [r.length]; exact hw)] at t3'
        exact k _ μ3 t3' F3 H3 _ s R3 (.tup h r)
      · exact k _ μ3 t3 _ _ _ (s.trans (Stp.newS R3 hq)) (R3.newS hq) (.tup (.inl (.inl upd_same)) ((r.cutL l u).mono (Ext.new (R3.freeF hq))))
  | _ => exact fall rfl t3
theorem de_sliceM {tl th : DTO} (he : DE X e te) (hl : DO X lo tl) (hu : DO X hi th) : DE X (.Subscript e (.Slice lo hi none p2) pos) (dSlM te tl th) := weakE (pe_slice slr he hl hu) fun σ H Q h => by
  obtain ⟨F, ρ, μ, Q', R, S, t, k⟩ := h
  refine ⟨F, ρ, μ, _, R, S, t, fun d μ1 t1 F1 H1 v s1 R1 r1 => ⟨F1, ρ, μ1, _, R1, S.mono s1.ext, t1, fun l μ2 t2 F2 H2 s2 R2 => ⟨F2, ρ, μ2, _, R2, (S.mono s1.ext).mono s2.ext, t2, fun u μ3 t3 F3 H3 s3 R3 => ?_⟩⟩⟩
  unfold drSlM at t3
  have r3 := r1.mono (s2.trans s3).ext
  have s := (s1.trans s2).trans s3
  cases e : seqD μ3 d with
  | none => rw [e] at t3; exact False.elim t3
  | some xs =>
    rw [e] at t3
    obtain ⟨ht, t3⟩ := t3
    obtain ⟨a, vs, rfl, r, h3⟩ := R3.seq r3 e
    rcases h3 with ⟨_, h3⟩ | ⟨z, _⟩
    · exact .inr (.inr ⟨a, vs, rfl, h3, fun q hq => k _ _ (t3 q (R3.freeM hq)) _ _ _ (s.trans (Stp.newM R3 hq)) (R3.newM hq (.lst (r.cutL l u))) (.ref q)⟩)
    · rw [ht] at z; cases z
end
end DS
/-! DS7: built-ins by value, methods of lists, repr. -/
namespace DS
open PySem PySem.Spec PyProof.Rows L2
abbrev DRc := List SD → Mu → (SD → Mu → Prop) → Prop
def LRc (K : PySem.W.Frag) (dr : DRc) (r : List V → Hp → VK → Prop) : Prop := ∀ F H μ xs ds Q' Q, HReal K F H μ → RepL K F ds xs → dr ds μ Q' →
  (∀ d μ', Q' d μ' → ∀ F' H' v, Stp F H μ F' H' μ' → HReal K F' H' μ' → RepS K F' d v → Q v H') → r xs H Q
abbrev dCB (dr : DRc) (t : DTA) : DTE := fun ρ μ Q => t ρ μ fun ds μ1 => dr ds μ1 Q
section
variable {X : Cx} {K : PySem.W.Frag} {x : Str} {p pos apos cpos : Pos} {e o : Expr} {es : List Expr} {t : DTA} {to : DTE} {dr : DRc} {r : List V → Hp → VK → Prop} {id T : String} {name : Str}
theorem liftCB (hl : LRc K dr r) : ∀ σ H Q, LE K (dCB dr t) σ H Q → tCB r (LA K t) σ H Q := fun σ H Q h => by
  obtain ⟨F, ρ, μ, Q', R, S, t, k⟩ := h
  exact ⟨F, ρ, μ, _, R, S, t, fun ds μ1 t1 F1 H1 vs s1 R1 r1 => hl F1 H1 μ1 vs ds Q' Q R1 r1 t1 fun d μ' q F' H' v s R' r' => k d μ' q F' H' v (s1.trans s) R' r'⟩
theorem de_callB (hc : CallR X (.builtin id) r) (hl : LRc X.K dr r) (hg : Gl X x) (hm : X.mg x = none) (hv : bootBuiltins x = some (.builtin id)) (ha : DA X (e :: es) t) (hn : x ≠ "__name__" := by decide) (hdb : (x == ("__debug__" : Str)) = false := by decide)
    (he : starEach (e :: es) X.env = (false, eval e X.env) :: starEach es X.env := by rfl) (hpl : (backTo pos (starEach es X.env)).any (·.1) = false := by rfl) : DE X (.Call (.Name x p) (e :: es) [] pos) (dCB dr t) :=
  weakE (pe_callB hc hg hm hv ha hn hdb he hpl) (liftCB hl)
theorem de_callT (hc : CallR X (.type T) r) (hl : LRc X.K dr r) (hg : Gl X x) (hm : X.mg x = none) (hv : bootBuiltins x = some (.type T)) (ha : DA X (e :: es) t) (hn : x ≠ "__name__" := by decide) (hdb : (x == ("__debug__" : Str)) = false := by decide)
    (he : starEach (e :: es) X.env = (false, eval e X.env) :: starEach es X.env := by rfl) (hpl : (backTo pos (starEach es X.env)).any (·.1) = false := by rfl) : DE X (.Call (.Name x p) (e :: es) [] pos) (dCB dr t) :=
  weakE (pe_callTy hc hg hm hv ha hn hdb he hpl) (liftCB hl)

/-! len -/
def drLen : DRc := fun ds μ Q => match ds with
  | [d] => match d with
    | .str s => s.length ≤ sizeLine ∧ Q (.int s.length) μ
    | d => match seqD μ d with
      | some xs => Q (.int xs.length) μ
      | none => False
  | _ => False
def rLen (K : PySem.W.Frag) : List V → Hp → VK → Prop := fun xs H Q => (∃ p ys, xs = [.ref p] ∧ (SqL K H p ys ∨ SqT K H p ys) ∧ Q (.int ys.length) H) ∨ (∃ z, xs = [.str z] ∧ z.length ≤ sizeLine ∧ Q (.int z.length) H)
theorem cr_len : CallR X (.builtin "len") (rLen X.K) := call_len_seq.or call_len_str
theorem lc_len : LRc K drLen (rLen K) := fun F H μ xs ds Q' Q R r t k => by
  cases r with
  | nil => exact False.elim t
  | cons r1 r2 => cases r2 with
    | cons _ _ => exact False.elim t
    | nil =>
      rename_i d v
      have fall : (match seqD μ d with
        | some xs => Q' (.int xs.length) μ
        | none => False) → rLen K [v] H Q := fun t => by
        cases e : seqD μ d with
        | none => rw [e] at t; exact False.elim t
        | some xs =>
          rw [e] at t
          obtain ⟨a, vs, rfl, r, h3⟩ := R.seq' r1 e
          refine .inl ⟨a, vs, rfl, h3, ?_⟩
          rw [← r.length]
          exact k _ μ t F H _ (Stp.refl _ _ _) R (.int _)
      cases d with
      | str z => cases r1; exact .inr ⟨z, rfl, t.1, k _ μ t.2 F H _ (Stp.refl _ _ _) R (.int _)⟩
      | _ => exact fall t
/-! tuple(x), list(x) -/
def drTuple : DRc := fun ds μ Q => match ds with
  | [d] => match seqD μ d with
    | some xs => Q (.tup xs) μ
    | none => False
  | _ => False
def drList : DRc := fun ds μ Q => match ds with
  | [d] => match seqD μ d with
    | some xs => Q (.lst xs) μ
    | none => False
  | _ => False
def drListM : DRc := fun ds μ Q => match ds with
  | [d] => match seqD μ d with
    | some xs => ∀ p, μ p = none → Q (.ref p) (up μ p (.lst xs))
    | none => False
  | _ => False
theorem seq1 {dr : (SD → Mu → Prop) → List SD → SD → Mu → Prop} {rr : List V → Hp → VK → Prop}
    (h : ∀ F H μ d a vs xs Q' Q, HReal K F H μ → RepS K F d (.ref a) → RepL K F xs vs → ((isTup d = false ∧ SqL K H a vs) ∨ (isTup d = true ∧ SqT K H a vs)) → seqD μ d = some xs → dr Q' xs d μ →
      (∀ d μ', Q' d μ' → ∀ F' H' v, Stp F H μ F' H' μ' → HReal K F' H' μ' → RepS K F' d v → Q v H') → rr [.ref a] H Q) :
    LRc K (fun ds μ Q => match ds with
      | [d] => match seqD μ d with
        | some xs => dr Q xs d μ
        | none => False
      | _ => False) rr := fun F H μ xs ds Q' Q R r t k => by
  cases r with
  | nil => exact False.elim t
  | cons r1 r2 => cases r2 with
    | cons _ _ => exact False.elim t
    | nil =>
      rename_i d v
      cases e : seqD μ d with
      | none => simp only [e] at t
      | some xs =>
        simp only [e] at t
        obtain ⟨a, vs, rfl, r, h3⟩ := R.seq r1 e
        exact h F H μ d a vs xs Q' Q R r1 r h3 e t k
theorem lc_tuple : LRc K drTuple (fun xs H Q => ∃ p ys, xs = [.ref p] ∧ ((SqL K H p ys ∧ ∀ l, H l = none → Q (.ref l) (upd H l (.tup ys))) ∨ (SqT K H p ys ∧ Q (.ref p) H))) :=
  seq1 (dr := fun Q xs _ μ => Q (.tup xs) μ) fun F H μ d a vs xs Q' Q R rd r h3 e t k => by
    rcases h3 with ⟨_, h3⟩ | ⟨z, h3⟩
    · exact ⟨a, vs, rfl, .inl ⟨h3, fun q hq => k _ μ t _ _ _ (Stp.newS R hq) (R.newS hq) (.tup (.inl (.inl upd_same)) (r.mono (Ext.new (R.freeF hq))))⟩⟩
    · cases rd with
      | tup h q =>
        have e' : some xs = some _ := e.symm.trans rfl
        cases e
        exact ⟨a, _, rfl, .inr ⟨h3, k _ μ t F H _ (Stp.refl _ _ _) R (.tup h q)⟩⟩
      | _ => cases z
theorem lc_list : LRc K drList (fun xs H Q => ∃ p ys, xs = [.ref p] ∧ (SqL K H p ys ∨ SqT K H p ys) ∧ ∀ l, H l = none → Q (.ref l) (upd H l (.lst ys))) :=
  seq1 (dr := fun Q xs _ μ => Q (.lst xs) μ) fun F H μ d a vs xs Q' Q R rd r h3 e t k =>
    ⟨a, vs, rfl, h3.imp And.right And.right, fun q hq => k _ μ t _ _ _ (Stp.newS R hq) (R.newS hq) (.lst upd_same (r.mono (Ext.new (R.freeF hq))))⟩
theorem lc_listM : LRc K drListM (fun xs H Q => ∃ p ys, xs = [.ref p] ∧ (SqL K H p ys ∨ SqT K H p ys) ∧ ∀ l, H l = none → Q (.ref l) (upd H l (.lst ys))) :=
  seq1 (dr := fun Q xs _ μ => ∀ p, μ p = none → Q (.ref p) (up μ p (.lst xs))) fun F H μ d a vs xs Q' Q R rd r h3 e t k =>
    ⟨a, vs, rfl, h3.imp And.right And.right, fun q hq => k _ _ (t q (R.freeM hq)) _ _ _ (Stp.newM R hq) (R.newM hq (.lst r)) (.ref q)⟩
/-! abs, int, max, min of ints -/
def drI1 (f : Int → Int) : DRc := fun ds μ Q => match ds with
  | [.int i] => Q (.int (f i)) μ
  | _ => False
theorem lc_abs : LRc K (drI1 fun i => if i < 0 then -i else i) (fun xs H Q => ∃ i, xs = [.int i] ∧ Q (.int (if i < 0 then -i else i)) H) := fun F H μ xs ds Q' Q R r t k => by
  unfold drI1 at t
  split at t
  · cases r with
    | cons r1 r2 => cases r2; cases r1; exact ⟨_, rfl, k _ μ t F H _ (Stp.refl _ _ _) R (.int _)⟩
  · exact False.elim t
def drInt : DRc := fun ds μ Q => match ds with
  | [.int i] => Q (.int i) μ
  | [.bl b] => Q (.int (if b then 1 else 0)) μ
  | _ => False
theorem lc_int : LRc K drInt (fun xs H Q => (∃ i, xs = [.int i] ∧ Q (.int i) H) ∨ ∃ k, xs = [.bl k] ∧ Q (.int (if k then 1 else 0)) H) := fun F H μ xs ds Q' Q R r t k => by
  unfold drInt at t
  split at t
  · cases r with
    | cons r1 r2 => cases r2; cases r1; exact .inl ⟨_, rfl, k _ μ t F H _ (Stp.refl _ _ _) R (.int _)⟩
  · cases r with
    | cons r1 r2 => cases r2; cases r1; exact .inr ⟨_, rfl, k _ μ t F H _ (Stp.refl _ _ _) R (.int _)⟩
  · exact False.elim t
def drI2 (f : Int → Int → Int) : DRc := fun ds μ Q => match ds with
  | [.int i, .int j] => Q (.int (f i j)) μ
  | _ => False
theorem lc_i2 {f : Int → Int → Int} : LRc K (drI2 f) (fun xs H Q => ∃ i j, xs = [.int i, .int j] ∧ Q (.int (f i j)) H) := fun F H μ xs ds Q' Q R r t k => by
  unfold drI2 at t
  split at t
  · cases r with
    | cons r1 r2 => cases r1; cases r2 with
      | cons r2 r3 => cases r3; cases r2; exact ⟨_, _, rfl, k _ μ t F H _ (Stp.refl _ _ _) R (.int _)⟩
  · exact False.elim t
/-! all, any, sum of lists -/
def blsOf : List SD → Option (List Bool)
  | [] => some []
  | .bl b :: r => match blsOf r with
    | some bs => some (b :: bs)
    | none => none
  | _ :: _ => none
theorem blsOf_rep : ∀ {F : Hp} {ds : List SD} {vs : List V} {bs : List Bool}, RepL K F ds vs → blsOf ds = some bs → vs = bs.map V.bl
  | _, _, _, _, .nil, e => by cases e; rfl
  | _, d :: ds, _, _, .cons h r, e => by
    cases h with
    | bl b =>
      unfold blsOf at e
      cases q : blsOf ds with
      | none => rw [q] at e; cases e
      | some bs => rw [q] at e; cases e; rw [blsOf_rep r q]; rfl
    | _ => cases e
theorem blsOf_map (bs : List Bool) : blsOf (bs.map SD.bl) = some bs := by
  induction bs with
  | nil => rfl
  | cons b r ih => show (match blsOf (r.map SD.bl) with | some bs => some (b :: bs) | none => none) = _; rw [ih]
def drBls (f : List Bool → Bool) : DRc := fun ds μ Q => match ds with
  | [d] => match lstD μ d with
    | some xs => match blsOf xs with
      | some bs => Q (.bl (f bs)) μ
      | none => False
    | none => False
  | _ => False
theorem lc_bls {f : List Bool → Bool} : LRc K (drBls f) (fun vs H Q => ∃ (a : Addr) (bs : List Bool), vs = [V.ref a] ∧ SqL K H a (bs.map V.bl) ∧ Q (.bl (f bs)) H) := fun F H μ xs ds Q' Q R r t k => by
  cases r with
  | nil => exact False.elim t
  | cons r1 r2 => cases r2 with
    | cons _ _ => exact False.elim t
    | nil =>
      rename_i d v
      cases e : lstD μ d with
      | none => simp only [drBls, e] at t
      | some xs =>
        simp only [drBls, e] at t
        cases e2 : blsOf xs with
        | none => rw [e2] at t; exact False.elim t
        | some bs =>
          rw [e2] at t
          obtain ⟨a, vs, rfl, ha, r⟩ := R.lst r1 e
          rw [blsOf_rep r e2] at ha
          exact ⟨a, bs, rfl, SqL.of ha, k _ μ t F H _ (Stp.refl _ _ _) R (.bl _)⟩
theorem lc_all : LRc K (drBls fun bs => bs.all _root_.id) (rAll K) := lc_bls
theorem lc_any : LRc K (drBls fun bs => bs.any _root_.id) (rAny K) := lc_bls

/-! ### methods of lists -/
abbrev DRm := SD → List SD → Mu → (SD → Mu → Prop) → Prop
def LRm (K : PySem.W.Frag) (dr : DRm) (r : V → List V → Hp → VK → Prop) : Prop := ∀ F H μ x xs d ds Q' Q, HReal K F H μ → RepS K F d x → RepL K F ds xs → dr d ds μ Q' →
  (∀ d μ', Q' d μ' → ∀ F' H' v, Stp F H μ F' H' μ' → HReal K F' H' μ' → RepS K F' d v → Q v H') → r x xs H Q
/-- e.m(..) of a list -/
abbrev dLM (dr : DRm) (to : DTE) (t : DTA) : DTE := fun ρ μ Q => to ρ μ fun x μ1 => (lstD μ1 x).isSome = true ∧ t ρ μ1 fun xs μ2 => dr x xs μ2 Q
abbrev dLM0 (dr : DRm) (to : DTE) : DTE := fun ρ μ Q => to ρ μ fun x μ1 => (lstD μ1 x).isSome = true ∧ dr x [] μ1 Q
variable {rm : V → List V → Hp → VK → Prop} {drm : DRm}
theorem de_lm (pa : PlainAttrs "list") (slot : Slot "list" name id) (hty : typeOf (.builtin id) = pure (.type "method_descriptor")) (hm : MtR X id rm) (hl : LRm X.K drm rm) (ho : DE X o to) (ha : DA X (e :: es) t)
    (hbase : attributeBase o name X.env (eval o X.env) = eval o X.env := by rfl)
    (hfew : ((backTo cpos (starEach (e :: es) X.env)).all (fun x => !x.1) && (backToKw cpos (keywordEach [] X.env)).all (fun x => x.1.isSome)
      && decide ((e :: es).length + ([] : List Keyword).length + (if ([] : List Keyword).isEmpty then 0 else 1) < 30)) = true := by rfl)
    (hline : (apos.endLine == cpos.line) = true := by rfl) (hs : starEach (e :: es) X.env = (false, eval e X.env) :: starEach es X.env := by rfl) (hplain : (backTo cpos (starEach es X.env)).any (·.1) = false := by rfl) :
    DE X (.Call (.Attribute o name apos) (e :: es) [] cpos) (dLM drm to t) := weakE (pe_bm pa slot hty hm ho ha hbase hfew hline hs hplain) fun σ H Q h => by
  obtain ⟨F, ρ, μ, Q', R, S, t, k⟩ := h
  refine ⟨F, ρ, μ, _, R, S, t, fun d μ1 t1 F1 H1 v s1 R1 r1 => ?_⟩
  obtain ⟨h1, t1⟩ := t1
  obtain ⟨xs, hx⟩ := Option.isSome_iff_exists.mp h1
  obtain ⟨a, vs, rfl, ha, r⟩ := R1.lst r1 hx
  refine ⟨.inl ⟨rfl, vs, SqL.of ha⟩, F1, ρ, μ1, _, R1, S.mono s1.ext, t1, fun ds μ2 t2 F2 H2 ws s2 R2 r2 => ?_⟩
  exact hl F2 H2 μ2 _ ws d ds Q' Q R2 (r1.mono s2.ext) r2 t2 fun d μ' q F' H' v s R' r' => k d μ' q F' H' v ((s1.trans s2).trans s) R' r'
theorem de_lm0 (pa : PlainAttrs "list") (slot : Slot "list" name id) (hty : typeOf (.builtin id) = pure (.type "method_descriptor")) (hm : MtR X id rm) (hl : LRm X.K drm rm) (ho : DE X o to)
    (hbase : attributeBase o name X.env (eval o X.env) = eval o X.env := by rfl) (hline : (apos.endLine == cpos.line) = true := by rfl) :
    DE X (.Call (.Attribute o name apos) [] [] cpos) (dLM0 drm to) := weakE (pe_bm0 pa slot hty hm ho hbase hline) fun σ H Q h => by
  obtain ⟨F, ρ, μ, Q', R, S, t, k⟩ := h
  refine ⟨F, ρ, μ, _, R, S, t, fun d μ1 t1 F1 H1 v s1 R1 r1 => ?_⟩
  obtain ⟨h1, t1⟩ := t1
  obtain ⟨xs, hx⟩ := Option.isSome_iff_exists.mp h1
  obtain ⟨a, vs, rfl, ha, r⟩ := R1.lst r1 hx
  exact ⟨.inl ⟨rfl, vs, SqL.of ha⟩, hl F1 H1 μ1 _ [] d [] Q' Q R1 r1 .nil t1 fun d μ' q F' H' v s R' r' => k d μ' q F' H' v (s1.trans s) R' r'⟩
/-- the list at a, which may change -/
def mlst (μ : Mu) : SD → Option (Addr × List SD)
  | .ref a => match μ a with
    | some (.lst xs) => some (a, xs)
    | _ => none
  | _ => none
theorem HReal.mlst {F H : Hp} {μ : Mu} {d : SD} {v : V} {a : Addr} {xs : List SD} (R : HReal K F H μ) (r : RepS K F d v) (h : DS.mlst μ d = some (a, xs)) : v = .ref a ∧ μ a = some (.lst xs) ∧ ∃ vs, H a = some (.lst vs) ∧ RepL K F xs vs := by
  cases r with
  | ref b =>
    unfold DS.mlst at h
    simp only at h
    split at h
    · rename_i ys hy
      cases h
      obtain ⟨_, o, h, q⟩ := R.mus _ _ hy
      cases q with
      | lst q => exact ⟨rfl, hy, _, h, q⟩
    · cases h
  | _ => cases h
def dmAppend : DRm := fun d ds μ Q => match ds with
  | [y] => match mlst μ d with
    | some (a, xs) => xs.length < sizeLine ∧ Q .non (up μ a (.lst (xs ++ [y])))
    | none => False
  | _ => False
theorem lm_append : LRm K dmAppend rAppend := fun F H μ x xs d ds Q' Q R r rs t k => by
  cases rs with
  | nil => exact False.elim t
  | cons r1 r2 => cases r2 with
    | cons _ _ => exact False.elim t
    | nil =>
      rename_i y vy
      cases e : mlst μ d with
      | none => simp only [dmAppend, e] at t
      | some p =>
        obtain ⟨a, zs⟩ := p
        simp only [dmAppend, e] at t
        obtain ⟨rfl, hm, vs, ha, r⟩ := R.mlst r e
        exact ⟨a, vs, vy, rfl, rfl, ha, by rw [← r.length]; exact t.1, k _ _ t.2 F _ _ (Stp.put hm) (R.put hm (.lst (r.append (.one r1)))) .non⟩
def dmPop : DRm := fun d ds μ Q => match mlst μ d with
  | some (a, xs) => match xs[xs.length - 1]? with
    | some y => ds = [] ∧ Q y (up μ a (.lst xs.dropLast))
    | none => False
  | none => False
theorem lm_pop : LRm K dmPop rPop := fun F H μ x xs d ds Q' Q R r rs t k => by
  cases e : mlst μ d with
  | none => simp only [dmPop, e] at t
  | some p =>
    obtain ⟨a, zs⟩ := p
    simp only [dmPop, e] at t
    cases e2 : zs[zs.length - 1]? with
    | none => rw [e2] at t; exact False.elim t
    | some y =>
      rw [e2] at t
      obtain ⟨rfl, t⟩ := t
      cases rs
      obtain ⟨rfl, hm, vs, ha, r⟩ := R.mlst r e
      obtain ⟨v, h1, h2⟩ := r.get e2
      exact ⟨a, vs, v, rfl, rfl, ha, by rw [← r.length]; exact h1, k _ _ t F _ _ (Stp.put hm) (R.put hm (.lst r.dropLast)) h2⟩
def dmInsert : DRm := fun d ds μ Q => match ds with
  | [.int i, y] => match mlst μ d with
    | some (a, xs) => (xs.length < sizeLine ∧ 0 ≤ i ∧ i < 2 ^ 63) ∧ Q .non (up μ a (.lst (xs.take i.toNat ++ [y] ++ xs.drop i.toNat)))
    | none => False
  | _ => False
theorem lm_insert : LRm K dmInsert (fun x vs H Q => ∃ (l : Addr) (xs : List V) (i : Int) (y : V), x = .ref l ∧ vs = [.int i, y] ∧ H l = some (.lst xs) ∧ xs.length < sizeLine ∧ 0 ≤ i ∧ i < 2 ^ 63 ∧
    Q .non (upd H l (.lst (xs.take i.toNat ++ [y] ++ xs.drop i.toNat)))) := fun F H μ x xs d ds Q' Q R r rs t k => by
  unfold dmInsert at t
  split at t
  · rename_i i y
    cases rs with
    | cons r1 r2 => cases r1; cases r2 with
      | cons r2 r3 =>
        cases r3
        cases e : mlst μ d with
        | none => simp only [e] at t
        | some p =>
          obtain ⟨a, zs⟩ := p
          simp only [e] at t
          obtain ⟨⟨t1, t2, t3⟩, t⟩ := t
          obtain ⟨rfl, hm, vs, ha, r⟩ := R.mlst r e
          exact ⟨a, vs, i, _, rfl, rfl, ha, by rw [← r.length]; exact t1, t2, t3, k _ _ t F _ _ (Stp.put hm) (R.put hm (.lst (((r.take _).append (.one r2)).append (r.drop _)))) .non⟩
  · exact False.elim t
/-- extend by a list or a tuple -/
def rExtA (K : PySem.W.Frag) : V → List V → Hp → VK → Prop := fun x vs H Q => ∃ l b xs zs, x = .ref l ∧ vs = [.ref b] ∧ H l = some (.lst xs) ∧ (H b = some (.lst zs) ∨ SqT K H b zs) ∧ xs.length + zs.length ≤ sizeLine ∧ Q .non (upd H l (.lst (xs ++ zs)))
def dmExtend : DRm := fun d ds μ Q => match ds with
  | [y] => match mlst μ d with
    | some (a, xs) => (match y with
      | .tup ys => xs.length + ys.length ≤ sizeLine ∧ Q .non (up μ a (.lst (xs ++ ys)))
      | y => match lstD μ y with
        | some ys => xs.length + ys.length ≤ sizeLine ∧ Q .non (up μ a (.lst (xs ++ ys)))
        | none => False)
    | none => False
  | _ => False
theorem lm_extend : LRm K dmExtend (rExtA K) := fun F H μ x xs d ds Q' Q R r rs t k => by
  cases rs with
  | nil => exact False.elim t
  | cons r1 r2 => cases r2 with
    | cons _ _ => exact False.elim t
    | nil =>
      rename_i y vy
      cases e : mlst μ d with
      | none => simp only [dmExtend, e] at t
      | some p =>
        obtain ⟨a, zs⟩ := p
        simp only [dmExtend, e] at t
        obtain ⟨rfl, hm, vs, ha, r⟩ := R.mlst r e
        have fall : (match lstD μ y with
          | some ys => zs.length + ys.length ≤ sizeLine ∧ Q' .non (up μ a (.lst (zs ++ ys)))
          | none => False) → rExtA K (.ref a) [vy] H Q := fun t => by
          cases e2 : lstD μ y with
          | none => rw [e2] at t; exact False.elim t
          | some ys =>
            rw [e2] at t
            obtain ⟨b, ws, rfl, hb, rb⟩ := R.lst r1 e2
            exact ⟨a, b, vs, ws, rfl, rfl, ha, .inl hb, by rw [← r.length, ← rb.length]; exact t.1, k _ _ t.2 F _ _ (Stp.put hm) (R.put hm (.lst (r.append rb))) .non⟩
        cases y with
        | tup ys =>
          cases r1 with
          | tup h rb => exact ⟨a, _, vs, _, rfl, rfl, ha, .inr (R.ext.sqT h), by rw [← r.length, ← rb.length]; exact t.1, k _ _ t.2 F _ _ (Stp.put hm) (R.put hm (.lst (r.append rb))) .non⟩
        | _ => exact fall t
/-! x[i] = v of a list -/
def LSet (K : PySem.W.Frag) (ds : SD → SD → SD → Mu → (Mu → Prop) → Prop) (r : TSet) : Prop := ∀ F H μ o i v do_ di dv Q' Q, HReal K F H μ → RepS K F do_ o → RepS K F di i → RepS K F dv v → ds do_ di dv μ Q' →
  (∀ μ', Q' μ' → ∀ F' H', Stp F H μ F' H' μ' → HReal K F' H' μ' → Q H') → r o i v H Q
abbrev hSub (to ti : DTE) (t : SD → SD → SD → Mu → (Mu → Prop) → Prop) : DTG := fun v ρ μ Q => to ρ μ fun o μ1 => ti ρ μ1 fun i μ2 => t o i v μ2 fun μ3 => Q ρ μ3
theorem dg_sub {oe i : Expr} {to ti : DTE} {ts : SD → SD → SD → Mu → (Mu → Prop) → Prop} {rs : TSet} (ho : DE X oe to) (hi : DE X i ti) (hs : PSet X rs) (hl : LSet X.K ts rs)
    (ha : ∀ v, assign (.Subscript oe i pos) X.env v = (do
      let ov ← holding [v] (eval oe X.env)
      let iv ← holding [v, ov] (eval i X.env)
      standAt pos
      holding [v, ov, iv] (setItem ov iv v)
      release [v, ov, iv] []) := by intro _; rfl) : DG X (.Subscript oe i pos) (hSub to ti ts) := weakG (pg_sub ho hi hs ha) fun v σ H Q h => by
  obtain ⟨F, ρ, μ, d, Q', R, S, r, t, k⟩ := h
  refine ⟨F, ρ, μ, _, R, S, t, fun d1 μ1 t1 F1 H1 v1 s1 R1 r1 => ⟨F1, ρ, μ1, _, R1, S.mono s1.ext, t1, fun d2 μ2 t2 F2 H2 v2 s2 R2 r2 => ?_⟩⟩
  exact hl F2 H2 μ2 v1 v2 v d1 d2 d _ _ R2 (r1.mono s2.ext) r2 (r.mono (s1.trans s2).ext) t2 fun μ' q F' H' s R' => k ρ μ' q F' H' σ ((s1.trans s2).trans s) R' (S.mono ((s1.trans s2).trans s).ext)
def dsetL : SD → SD → SD → Mu → (Mu → Prop) → Prop := fun o i v μ Q => match i with
  | .int k => match mlst μ o with
    | some (a, xs) => match ixN xs.length k with
      | some j => Q (up μ a (.lst (xs.set j v)))
      | none => False
    | none => False
  | _ => False
theorem ls_list : LSet K dsetL rSetL := fun F H μ o i v do_ di dv Q' Q R ro ri rv t k => by
  cases di with
  | int n =>
    cases ri
    cases e : mlst μ do_ with
    | none => simp only [dsetL, e] at t
    | some p =>
      obtain ⟨a, xs⟩ := p
      simp only [dsetL, e] at t
      cases e2 : ixN xs.length n with
      | none => rw [e2] at t; exact False.elim t
      | some j =>
        rw [e2] at t
        obtain ⟨rfl, hm, vs, ha, r⟩ := R.mlst ro e
        exact ⟨a, vs, n, j, rfl, rfl, ha, by rw [← r.length]; exact e2, k _ t F _ (Stp.put hm) (R.put hm (.lst (r.set rv j)))⟩
  | _ => exact False.elim t
end

section
variable {X : Cx} {K : PySem.W.Frag}
theorem ext_tup {l : Addr} {items : Array Value} {n : Nat} {b : Addr} {items2 : Array Value} {n2 : Nat} {dd : Option Addr} {sl : Array (Option Value)} (hs0 : ¬(!items.isEmpty && Builtin.List.listTooLong (items.size + items2.size)) = true) (hs1 : items.size ≤ sizeLine) (hs2 : items.size + items2.size ≤ sizeLine + 1) :
    Meets (Builtin.«list.extend» ⟨[.ref l, .ref b], []⟩) (fun _ R s => s.heap.get? l = some { cls := .type "list", dict := none, data := .seq items n, slots := #[] } ∧ s.heap.get? b = some { cls := .type "tuple", dict := dd, data := .seq items2 n2, slots := sl } ∧ R (.ok (.ret Value.none)) { s with heap := s.heap.update l (Obj.mapSeq fun x => x ++ items2), toks := s.toks }) :=
  .of_wp fun prog w A R s h => by
    obtain ⟨hp, g, d, tk, os⟩ := s
    obtain ⟨hl, hb, h⟩ := h
    have f1 := AutoSeq1.idx_int
    have f2 := AutoSeq1.sub_tuple_tuple
    have f3 := AutoSeq1.sub_list_list
    have f4 := AutoSeq1.sub_tuple_list
    have f5 := AutoSeq1.sub_list_tuple
    have hz' : (items ++ items2).size ≤ sizeLine + 1 := by rw [Array.size_append]; exact hs2
    wp_walk using (wpAny_updateSeq hl rfl (hz := hs1) (_hz' := hz')), AutoSeq1.wpAny_loadPart' hl, AutoSeq1.wpAny_loadPart' hb
    exact ⟨_, rfl, h⟩
theorem mt_extT : MtR X "list.extend" (fun x vs H Q => ∃ l b xs zs, x = .ref l ∧ vs = [.ref b] ∧ H l = some (.lst xs) ∧ SqT X.K H b zs ∧ xs.length + zs.length ≤ sizeLine ∧ Q .non (upd H l (.lst (xs ++ zs)))) := by
  intro pins s σ H x vs v us Q I rx rv h
  obtain ⟨l, b, xs, zs, rfl, rfl, hH, hB, hz, q⟩ := h
  cases rx
  obtain ⟨u, rfl, ru⟩ := rv.one
  cases ru
  obtain ⟨z, its, n, r, hl, e⟩ := I.lstM hH
  obtain ⟨its2, r2, ht, _⟩ := I.tuple hB
  have hl2 := r2.length
  obtain ⟨⟨cls, dd, data, sl⟩, ho, hcls, n2, hdata⟩ := ht
  simp only at hcls hdata
  subst hcls hdata
  have fits : its.toArray.size + its2.toArray.size ≤ sizeLine := by simp only [List.size_toArray]; omega
  have short : ¬ (!its.toArray.isEmpty && Builtin.List.listTooLong (its.toArray.size + its2.toArray.size)) = true := by
    rw [notLongL fits, Bool.and_false]; exact Bool.false_ne_true
  refine call_meets F.slot_list_extend ⟨_, e, rfl⟩ F.entry_list_extend (F.args_list_extend_2 _ _) (ext_tup short (by simp only [List.size_toArray]; omega) (by omega)) ⟨e, ho, ?_⟩
  exact ⟨.non, _, I.lset (its' := its ++ its2) hH e (by simp) (r.append r2) (by rw [List.length_append]; omega), rfl, q⟩
theorem mt_extA : MtR X "list.extend" (rExtA X.K) := by
  intro pins s σ H x vs v us Q I rx rv h
  obtain ⟨l, b, xs, zs, e1, e2, hH, hB | hB, hz, q⟩ := h
  · exact mt_extend pins s σ H x vs v us Q I rx rv ⟨l, b, xs, zs, e1, e2, hH, hB, hz, q⟩
  · exact mt_extT pins s σ H x vs v us Q I rx rv ⟨l, b, xs, zs, e1, e2, hH, hB, hz, q⟩
end
end DS
/-! DS8: repr, keyword calls, dicts. -/
namespace DS
open PySem PySem.Spec PyProof.Rows L2
/-! ### repr -/
def rRepr (K : PySem.W.Frag) : List V → Hp → VK → Prop := fun xs H Q => ∃ x d, xs = [x] ∧ Dp K H x d ∧ (PyData.showable d = true ∧ d.shown.length ≤ sizeLine ∧ d.depth ≤ 64) ∧ Q (.str d.shown) H
section
variable {X : Cx} {K : PySem.W.Frag}
mutual
theorem Dp.noDict {H : Hp} : ∀ {v : V} {d : PyData}, Dp K H v d → d.hasDict = false
  | _, _, .non => rfl
  | _, _, .bl _ => rfl
  | _, _, .int _ => rfl
  | _, _, .str _ => rfl
  | _, _, .lst _ r => DpAll.noDict r
  | _, _, .tup _ r => DpAll.noDict r
theorem DpAll.noDict {H : Hp} : ∀ {vs : List V} {ds : List PyData}, DpAll K H vs ds → PyData.hasDictAll ds = false
  | _, _, .nil => rfl
  | _, _, .cons h r => by
    show (PyData.hasDict _ || PyData.hasDictAll _) = false
    rw [Dp.noDict h, DpAll.noDict r]; rfl
end
theorem cr_repr (hq : Quiet X.A) (hu : X.A.units + 66 < cLine) : CallR X (.builtin "repr") (rRepr X.K) := by
  intro pins s σ H xs us Q I r h
  obtain ⟨x, d, rfl, hd, ⟨h1, h2, h3⟩, q⟩ := h
  obtain ⟨u, rfl, rx⟩ := vals1 r
  obtain ⟨as, rd⟩ := Dp.reads I d x u hd rx
  have nd := Dp.noDict hd
  have hsm : d.hasDict = true → sysModules ∉ as := fun z => by rw [nd] at z; cases z
  cases hd with
  | non => obtain rfl := rx; exact P.repr_of_none ⟨.str _, H, I.tok _, ⟨_, rfl⟩, q⟩
  | bl b => obtain rfl := rx; exact P.repr_of_bool ⟨.str _, H, I.tok _, ⟨_, rfl⟩, q⟩
  | int i =>
    obtain ⟨t, rfl⟩ := rx
    exact P.repr_of_int (of_decide_eq_true (by simpa [PyData.showable] using h1)) ⟨.str _, H, I.tok _, ⟨_, rfl⟩, q⟩
  | str z =>
    obtain ⟨t, rfl⟩ := rx
    exact P.repr_of_str (hsz := h2) ⟨.str _, H, I.tok _, ⟨_, rfl⟩, q⟩
  | lst hl hr =>
    obtain rfl := rx
    refine repr_of_reads' rd h1 hsm hq (by omega) (fun _ _ e => e) (fun h' u tk hk => ?_) h2
    exact ⟨.str _, H, I.kept (h' := h') (t' := tk) hk, ⟨_, rfl⟩, q⟩
  | tup hl hr =>
    obtain rfl := rx
    refine repr_of_reads' rd h1 hsm hq (by omega) (fun _ _ e => e) (fun h' u tk hk => ?_) h2
    exact ⟨.str _, H, I.kept (h' := h') (t' := tk) hk, ⟨_, rfl⟩, q⟩
def drRepr : DRc := fun ds μ Q => match ds with
  | [d] => match pd μ d with
    | some p => (PyData.showable p = true ∧ p.shown.length ≤ sizeLine ∧ p.depth ≤ 64) ∧ Q (.str p.shown) μ
    | none => False
  | _ => False
theorem lc_repr : LRc K drRepr (rRepr K) := fun F H μ xs ds Q' Q R r t k => by
  cases r with
  | nil => exact False.elim t
  | cons r1 r2 => cases r2 with
    | cons _ _ => exact False.elim t
    | nil =>
      rename_i d v
      cases e : pd μ d with
      | none => simp only [drRepr, e] at t
      | some p =>
        simp only [drRepr, e] at t
        exact ⟨v, p, rfl, R.dp r1 e, t.1, k _ μ t.2 F H _ (Stp.refl _ _ _) R (.str _)⟩
theorem boot_repr : bootBuiltins "repr" = some (.builtin "repr") := by decide +kernel
end

/-! ### calls by keywords -/
def kwG {α : Type} (ix : List (Nat ⊕ Nat)) (np nk : Nat) (us ws : List α) : List α := if us.length = np ∧ ws.length = nk then ix.filterMap fun i => match i with
  | .inl i => us[i]?
  | .inr j => ws[j]?
  else []
theorem kwG_rel {α β : Type} {R : α → β → Prop} {ix : List (Nat ⊕ Nat)} {np nk : Nat} {us ws : List α} {us' ws' : List β} (h1 : Paired R us us') (h2 : Paired R ws ws')
    (get : ∀ {xs : List α} {ys : List β} (i : Nat), Paired R xs ys → (∃ a b, xs[i]? = some a ∧ ys[i]? = some b ∧ R a b) ∨ (xs[i]? = none ∧ ys[i]? = none)) : Paired R (kwG ix np nk us ws) (kwG ix np nk us' ws') := by
  unfold kwG
  rw [Paired.length h1, Paired.length h2]
  split
  · induction ix with
    | nil => exact .nil
    | cons i r ih =>
      simp only [List.filterMap_cons]
      cases i with
      | inl i =>
        rcases get i h1 with ⟨a, b, e1, e2, q⟩ | ⟨e1, e2⟩
        · simp only [e1, e2]; exact .cons q ih
        · simp only [e1, e2]; exact ih
      | inr i =>
        rcases get i h2 with ⟨a, b, e1, e2, q⟩ | ⟨e1, e2⟩
        · simp only [e1, e2]; exact .cons q ih
        · simp only [e1, e2]; exact ih
  · exact .nil
theorem paired_get {α β : Type} {R : α → β → Prop} : ∀ {xs : List α} {ys : List β} (i : Nat), Paired R xs ys → (∃ a b, xs[i]? = some a ∧ ys[i]? = some b ∧ R a b) ∨ (xs[i]? = none ∧ ys[i]? = none)
  | _, _, _, .nil => .inr ⟨by simp, by simp⟩
  | _, _, 0, .cons q _ => .inl ⟨_, _, rfl, rfl, q⟩
  | _, _, i + 1, .cons _ r => by
    have := paired_get i r
    simpa using this
theorem kbinds_of {K : PySem.W.Frag} {x qual : Str} {st : Stmt} {f : Addr} {fd : FuncData} {ps ks : List Str} {ix : List (Nat ⊕ Nat)} {np nk : Nat} (F : Fun K x qual st f fd)
    (h : ∀ (kV doc pm : Value) (an : Option Addr) (cdv ct : Value) (us ws : List Value), us.length = np → ws.length = nk → (kwG ix np nk us ws).length = ps.length →
      bindArgs (PySem.W.fnOf x qual (defArgs st) (defBody st) (defScope st) .none kV doc pm an cdv ct) ⟨us, ks.zip ws⟩ = pure (ps.zip (kwG ix np nk us ws))) (h0 : ps ≠ []) : KBinds K fd ps ks (kwG ix np nk) (kwG ix np nk) where
  to := fun s us ws X hl => by
    obtain ⟨oc, od, kV, doc, pm, an, cdv, ct, osl, rfl, _, _⟩ := F.ex
    by_cases hh : us.length = np ∧ ws.length = nk
    · exact .of_eq (h kV doc pm an cdv ct us ws hh.1 hh.2 hl)
    · exact absurd hl (by
        unfold kwG
        rw [if_neg hh]
        intro z
        exact h0 (List.eq_nil_of_length_eq_zero z.symm))
  rel := fun r1 r2 => kwG_rel r1 r2 paired_get
section
variable {X : Cx} {CX : CXT} {k : Nat} {f C : Addr} {fd : FuncData} {ps ks : List Str} {x m : Str} {p pos apos : Pos} {e o : Expr} {es : List Expr} {kws : List Keyword} {nm : Option Str} {kpos : Pos}
theorem pe_gk {g : List Value → List Value → List Value} {gV : List V → List V → List V} {sp : Sp} {E : XK} {t tk : TA} (F : FnG X.prog X.w X.K X.mg X.base CX k f fd ps sp) (hq : Quiet X.A) (hr : Room k X.A) (hg : Gl X x) (hm : X.mg x = some (.ref f)) (hk : PySem.W.keepIn X.K (.ref f) = true) (hb : KBinds X.K fd ps ks g gV) (hx : Passes CX X E)
    (ha : PA X (e :: es) t) (hkw : PK X kws tk) (hall : (backToKw pos (keywordEach kws X.env)).all (·.1.isSome) = true := by rfl) (hks : (backToKw pos (keywordEach kws X.env)).filterMap (·.1) = ks := by rfl)
    (hdb : (x == ("__debug__" : Str)) = false := by decide) (he : starEach (e :: es) X.env = (false, eval e X.env) :: starEach es X.env := by rfl)
    (hpl : ((backTo pos (starEach (e :: es) X.env)).any (·.1) || (backToKw pos (keywordEach kws X.env)).any (·.1.isNone)) = false := by rfl) : PE X (.Call (.Name x p) (e :: es) kws pos) (tCallK sp gV E t tk) :=
  ⟨fun pins s σ H Q I h => wpAny_Call_Name_kw (ld_glob I hg hm (PySem.W.callWith_KW (h₀ := X.base) I.ok.mod.kin hk hall (thn (ha.run pos pins s σ H _ I h) fun us s1 ⟨vs, H1, I1, r, q⟩ =>
    thn (hkw.run pos pins s1 σ H1 _ I1 q) fun ws s2 ⟨zs, H2, I2, rz, q2⟩ => ⟨I2.kIn, by rw [hks]; exact callk_g F hq hr hb hx I2 r rz q2⟩) hpl he) hdb)⟩
theorem pe_gk0 {g : List Value → List Value → List Value} {gV : List V → List V → List V} {sp : Sp} {E : XK} {tk : TA} (F : FnG X.prog X.w X.K X.mg X.base CX k f fd ps sp) (hq : Quiet X.A) (hr : Room k X.A) (hg : Gl X x) (hm : X.mg x = some (.ref f)) (hk : PySem.W.keepIn X.K (.ref f) = true) (hb : KBinds X.K fd ps ks g gV) (hx : Passes CX X E)
    (hkw : PK X kws tk) (hall : (backToKw pos (keywordEach kws X.env)).all (·.1.isSome) = true := by rfl) (hks : (backToKw pos (keywordEach kws X.env)).filterMap (·.1) = ks := by rfl)
    (hdb : (x == ("__debug__" : Str)) = false := by decide) (hpl : ((backToKw pos (keywordEach kws X.env)).any (·.1.isNone)) = false := by rfl) : PE X (.Call (.Name x p) [] kws pos) (tCallK sp gV E tNil tk) :=
  ⟨fun pins s σ H Q I h => wpAny_Call_Name_kw (ld_glob I hg hm (PySem.W.callWith_KW0 (h₀ := X.base) I.ok.mod.kin hk hall (
    thn (hkw.run pos pins s σ H _ I h) fun ws s2 ⟨zs, H2, I2, rz, q2⟩ => ⟨I2.kIn, by rw [hks]; exact callk_g (us := []) F hq hr hb hx I2 .nil rz q2⟩) (by show (_ || _) = false; rw [hpl]; rfl)) hdb)⟩
abbrev DK (X : Cx) (kws : List Keyword) (t : DTA) : Prop := PK X kws (LA X.K t)
theorem dk_nil : DK X [] dNil := ⟨fun ps pins s σ H Q I h => pk_nil.run ps pins s σ H Q I (by
  obtain ⟨F, ρ, μ, Q', R, S, t, k⟩ := h
  exact k [] μ t F H [] (Stp.refl F H μ) R .nil)⟩
theorem dk_cons {te : DTE} {t : DTA} (ha : DE X e te) (hr : DK X kws t) : DK X (⟨nm, e, kpos⟩ :: kws) (dCons te t) := ⟨fun ps pins s σ H Q I h => (pk_cons ha hr).run ps pins s σ H Q I (by
  obtain ⟨F, ρ, μ, Q', R, S, t, k⟩ := h
  refine ⟨F, ρ, μ, _, R, S, t, fun d1 μ1 t1 F1 H1 v1 s1 R1 r1 => ?_⟩
  exact ⟨F1, ρ, μ1, _, R1, S.mono s1.ext, t1, fun ds μ2 t2 F2 H2 vs s2 R2 r2 => k _ μ2 t2 F2 H2 _ (s1.trans s2) R2 (.cons (r1.mono s2.ext) r2)⟩)⟩
abbrev dCallK (sp : DSp) (ix : List (Nat ⊕ Nat)) (np nk : Nat) (t tk : DTA) : DTE := fun ρ μ Q => t ρ μ fun ds μ1 => tk ρ μ1 fun es μ2 => sp (kwG ix np nk ds es) μ2 Q fun _ _ _ => False
theorem RepL.paired {K : PySem.W.Frag} {F : Hp} : ∀ {ds : List SD} {vs : List V}, RepL K F ds vs → Paired (fun d v => RepS K F d v) ds vs
  | _, _, .nil => .nil
  | _, _, .cons h r => .cons h (RepL.paired r)
theorem RepL.ofPaired {K : PySem.W.Frag} {F : Hp} : ∀ {ds : List SD} {vs : List V}, Paired (fun d v => RepS K F d v) ds vs → RepL K F ds vs
  | _, _, .nil => .nil
  | _, _, .cons h r => .cons h (RepL.ofPaired r)
theorem de_callK {sp : DSp} {ix : List (Nat ⊕ Nat)} {np nk : Nat} {t tk : DTA} (F : FnG X.prog X.w X.K X.mg X.base CX k f fd ps (LSp X.K sp)) (hq : Quiet X.A) (hr : Room k X.A) (hg : Gl X x) (hm : X.mg x = some (.ref f)) (hk : PySem.W.keepIn X.K (.ref f) = true) (hb : KBinds X.K fd ps ks (kwG ix np nk) (kwG ix np nk)) (hx : Passes CX X E0)
    (ha : DA X (e :: es) t) (hkw : DK X kws tk) (hall : (backToKw pos (keywordEach kws X.env)).all (·.1.isSome) = true := by rfl) (hks : (backToKw pos (keywordEach kws X.env)).filterMap (·.1) = ks := by rfl)
    (hdb : (x == ("__debug__" : Str)) = false := by decide) (he : starEach (e :: es) X.env = (false, eval e X.env) :: starEach es X.env := by rfl)
    (hpl : ((backTo pos (starEach (e :: es) X.env)).any (·.1) || (backToKw pos (keywordEach kws X.env)).any (·.1.isNone)) = false := by rfl) : DE X (.Call (.Name x p) (e :: es) kws pos) (dCallK sp ix np nk t tk) :=
  weakE (pe_gk (E := E0) F hq hr hg hm hk hb hx ha hkw hall hks hdb he hpl) fun σ H Q h => by
    obtain ⟨F, ρ, μ, Q', R, S, t, k⟩ := h
    refine ⟨F, ρ, μ, _, R, S, t, fun ds μ1 t1 F1 H1 vs s1 R1 r1 => ⟨F1, ρ, μ1, _, R1, S.mono s1.ext, t1, fun es μ2 t2 F2 H2 ws s2 R2 r2 => ?_⟩⟩
    exact ⟨F2, μ2, _, Q', _, R2, RepL.ofPaired (kwG_rel (RepL.paired (r1.mono s2.ext)) (RepL.paired r2) paired_get), t2, fun d μ' q F' H' v s R' r' => k d μ' q F' H' v ((s1.trans s2).trans s) R' r', fun _ _ _ q => False.elim q⟩
theorem de_callK0 {sp : DSp} {ix : List (Nat ⊕ Nat)} {nk : Nat} {tk : DTA} (F : FnG X.prog X.w X.K X.mg X.base CX k f fd ps (LSp X.K sp)) (hq : Quiet X.A) (hr : Room k X.A) (hg : Gl X x) (hm : X.mg x = some (.ref f)) (hk : PySem.W.keepIn X.K (.ref f) = true) (hb : KBinds X.K fd ps ks (kwG ix 0 nk) (kwG ix 0 nk)) (hx : Passes CX X E0)
    (hkw : DK X kws tk) (hall : (backToKw pos (keywordEach kws X.env)).all (·.1.isSome) = true := by rfl) (hks : (backToKw pos (keywordEach kws X.env)).filterMap (·.1) = ks := by rfl)
    (hdb : (x == ("__debug__" : Str)) = false := by decide) (hpl : ((backToKw pos (keywordEach kws X.env)).any (·.1.isNone)) = false := by rfl) : DE X (.Call (.Name x p) [] kws pos) (dCallK sp ix 0 nk dNil tk) :=
  weakE (pe_gk0 (E := E0) F hq hr hg hm hk hb hx hkw hall hks hdb hpl) fun σ H Q h => by
    obtain ⟨F, ρ, μ, Q', R, S, t, k⟩ := h
    refine ⟨F, ρ, μ, _, R, S, t, fun es μ2 t2 F2 H2 ws s2 R2 r2 => ?_⟩
    exact ⟨F2, μ2, _, Q', _, R2, RepL.ofPaired (kwG_rel (us := []) .nil (RepL.paired r2) paired_get), t2, fun d μ' q F' H' v s R' r' => k d μ' q F' H' v (s2.trans s) R' r', fun _ _ _ q => False.elim q⟩
end

/-! ### dicts -/
section
variable {α : Type}
def valD (kvs : List (Key × α)) (k : Key) : Option α := (kvs.find? fun kv => decide (kv.1 = k)).map (·.2)
def putD (kvs : List (Key × α)) (k : Key) (v : α) : List (Key × α) :=
  if (kvs.any fun kv => decide (kv.1 = k)) = true then kvs.map (fun kv => if kv.1 = k then (kv.1, v) else kv) else kvs ++ [(k, v)]
end
def dicD (μ : Mu) : SD → Option (List (Key × SD))
  | .dic kvs => some kvs
  | .ref a => match μ a with
    | some (.dic kvs) => some kvs
    | some (.fdic kvs _) => some kvs
    | _ => none
  | _ => none
def keyD : SD → Option Key
  | .int i => some (.inl i)
  | .str s => some (.inr s)
  | _ => none
section
variable {X : Cx} {K : PySem.W.Frag} {F H : Hp} {μ : Mu}
theorem keyD_rep {d : SD} {v : V} {k : Key} (r : RepS K F d v) (h : keyD d = some k) : v = kV k := by
  cases r <;> simp [keyD] at h <;> subst h <;> rfl
structure RepK (K : PySem.W.Frag) (F : Hp) (ds : List (Key × SD)) (vs : List (Key × V)) : Prop where
  keys : vs.map (·.1) = ds.map (·.1)
  vals : RepL K F (ds.map (·.2)) (vs.map (·.2))
theorem RepK.len {ds : List (Key × SD)} {vs : List (Key × V)} (r : RepK K F ds vs) : ds.length = vs.length := by simpa using r.vals.length
theorem RepK.val : ∀ {ds : List (Key × SD)} {vs : List (Key × V)} (k : Key), RepK K F ds vs → (∃ d v, valD ds k = some d ∧ valV vs k = some v ∧ RepS K F d v) ∨ (valD ds k = none ∧ valV vs k = none)
  | [], [], _, _ => .inr ⟨rfl, rfl⟩
  | [], _ :: _, _, r => by have := r.keys; simp at this
  | _ :: _, [], _, r => by have := r.keys; simp at this
  | (a, d) :: ds, (b, v) :: vs, k, r => by
    have h1 := r.keys
    simp only [List.map_cons, List.cons.injEq] at h1
    obtain ⟨rfl, h1⟩ := h1
    have h2 := r.vals
    simp only [List.map_cons] at h2
    cases h2 with
    | cons q1 q2 =>
      by_cases hk : b = k
      · subst hk
        exact .inl ⟨d, v, by simp [valD], by simp [valV], q1⟩
      · have := RepK.val k ⟨h1, q2⟩
        have e1 : valD ((b, d) :: ds) k = valD ds k := by simp [valD, hk]
        have e2 : valV ((b, v) :: vs) k = valV vs k := by simp [valV, hk]
        rw [e1, e2]; exact this
theorem RepK.put {ds : List (Key × SD)} {vs : List (Key × V)} {d : SD} {v : V} (k : Key) (r : RepK K F ds vs) (q : RepS K F d v) : RepK K F (putD ds k d) (putK vs k v) := by
  have hany : (ds.any fun kv => decide (kv.1 = k)) = (vs.any fun kv => decide (kv.1 = k)) := by
    have e1 : (ds.any fun kv => decide (kv.1 = k)) = ((ds.map (·.1)).any fun x => decide (x = k)) := by rw [List.any_map]; rfl
    have e2 : (vs.any fun kv => decide (kv.1 = k)) = ((vs.map (·.1)).any fun x => decide (x = k)) := by rw [List.any_map]; rfl
    rw [e1, e2, r.keys]
  unfold putD putK
  rw [hany]
  split
  · have aux : ∀ {ds : List (Key × SD)} {vs : List (Key × V)}, RepK K F ds vs → RepK K F (ds.map (fun kv => if kv.1 = k then (kv.1, d) else kv)) (vs.map (fun kv => if kv.1 = k then (kv.1, v) else kv)) := by
      intro ds
      induction ds with
      | nil =>
        intro vs r
        have := r.keys
        cases vs with
        | nil => exact ⟨rfl, .nil⟩
        | cons _ _ => simp at this
      | cons a ds ih =>
        intro vs r
        cases vs with
        | nil => have := r.keys; simp at this
        | cons b vs =>
          obtain ⟨a1, a2⟩ := a
          obtain ⟨b1, b2⟩ := b
          have h1 := r.keys
          simp only [List.map_cons, List.cons.injEq] at h1
          obtain ⟨rfl, h1⟩ := h1
          have h2 := r.vals
          simp only [List.map_cons] at h2
          cases h2 with
          | cons q1 q2 =>
            have rest := ih ⟨h1, q2⟩
            by_cases hk : b1 = k
            · simp only [List.map_cons, if_pos hk]
              exact ⟨by simp only [List.map_cons]; rw [rest.keys], .cons q rest.vals⟩
            · simp only [List.map_cons, if_neg hk]
              exact ⟨by simp only [List.map_cons]; rw [rest.keys], .cons q1 rest.vals⟩
    exact aux r
  · exact ⟨by simp [r.keys], by simp only [List.map_append, List.map_cons, List.map_nil]; exact r.vals.append (.one q)⟩
theorem HReal.dic (R : HReal K F H μ) {d : SD} {v : V} {kvs : List (Key × SD)} (r : RepS K F d v) (e : dicD μ d = some kvs) : ∃ a vs, v = .ref a ∧ Rd H a (.dK vs) ∧ RepK K F kvs vs := by
  cases r with
  | dic h q r => cases e; exact ⟨_, _, rfl, R.ext.rd _ _ h, ⟨q, r⟩⟩
  | ref a =>
    unfold dicD at e
    simp only at e
    split at e
    · rename_i ys hy
      cases e
      obtain ⟨_, o, h, q⟩ := R.mus a _ hy
      cases q with
      | dic q r => exact ⟨a, _, rfl, .inl h, ⟨q, r⟩⟩
    · rename_i ys oo hy
      cases e
      obtain ⟨_, o, h, q⟩ := R.mus a _ hy
      cases q with
      | fdic q r => exact ⟨a, _, rfl, .inr ⟨_, h⟩, ⟨q, r⟩⟩
    · cases e
  | _ => cases e
variable {o i e value : Expr} {pos pos' apos cpos : Pos} {td ty tv tx : DTE}
def drGet (x y : SD) (μ2 : Mu) (Q : SD → Mu → Prop) : Prop := match dicD μ2 x, keyD y with
  | some kvs, some k => match valD kvs k with
    | some v => Q v μ2
    | none => False
  | _, _ => False
abbrev dDGet (td ty : DTE) : DTE := fun ρ μ Q => td ρ μ fun x μ1 => ty ρ μ1 fun y μ2 => drGet x y μ2 Q
theorem de_dget (hu : X.A.units + 1 < cLine) (ho : DE X o td) (hi : DE X i ty) (hs : NoSl i) : DE X (.Subscript o i pos) (dDGet td ty) := weakE (pe_dget hu ho hi hs) fun σ H Q h => by
  obtain ⟨F, ρ, μ, Q', R, S, t, k⟩ := h
  refine ⟨F, ρ, μ, _, R, S, t, fun x μ1 t1 F1 H1 v1 s1 R1 r1 => ⟨F1, ρ, μ1, _, R1, S.mono s1.ext, t1, fun y μ2 t2 F2 H2 v2 s2 R2 r2 => ?_⟩⟩
  unfold drGet at t2
  cases e1 : dicD μ2 x with
  | none => rw [e1] at t2; exact False.elim t2
  | some kvs => cases e2 : keyD y with
    | none => rw [e1, e2] at t2; exact False.elim t2
    | some key =>
      rw [e1, e2] at t2
      simp only at t2
      obtain ⟨a, vs, rfl, hd, rk⟩ := R2.dic (r1.mono s2.ext) e1
      rcases rk.val key with ⟨d, v, q1, q2, q3⟩ | ⟨q1, q2⟩
      · rw [q1] at t2
        exact ⟨a, v, rfl, .inl ⟨vs, key, hd, keyD_rep r2 e2, q2.symm⟩, k d μ2 t2 F2 H2 v (s1.trans s2) R2 q3⟩
      · rw [q1] at t2; exact False.elim t2
/-- d.get(k, x) -/
def drGet2 (x y z : SD) (μ3 : Mu) (Q : SD → Mu → Prop) : Prop := match dicD μ3 x, keyD y with
  | some kvs, some k => Q ((valD kvs k).getD z) μ3
  | _, _ => False
abbrev dDGet2 (td ty tx : DTE) : DTE := fun ρ μ Q => td ρ μ fun x μ1 => (dicD μ1 x).isSome = true ∧ ty ρ μ1 fun y μ2 => tx ρ μ2 fun z μ3 => drGet2 x y z μ3 Q
theorem de_dget2 (hu : X.A.units + 1 < cLine) (ho : DE X o td) (he : DE X i ty) (hf : DE X e tx) (m : M2 X o "get" apos i e cpos) : DE X (.Call (.Attribute o "get" apos) [i, e] [] cpos) (dDGet2 td ty tx) := weakE (pe_dget2 hu ho he hf m) fun σ H Q h => by
  obtain ⟨F, ρ, μ, Q', R, S, t, k⟩ := h
  refine ⟨F, ρ, μ, _, R, S, t, fun x μ1 t1 F1 H1 v1 s1 R1 r1 => ?_⟩
  obtain ⟨h1, t1⟩ := t1
  obtain ⟨kvs0, hk0⟩ := Option.isSome_iff_exists.mp h1
  obtain ⟨a, vs0, rfl, hd0, _⟩ := R1.dic r1 hk0
  refine ⟨a, rfl, .inl ⟨vs0, hd0⟩, F1, ρ, μ1, _, R1, S.mono s1.ext, t1, fun y μ2 t2 F2 H2 v2 s2 R2 r2 => ⟨F2, ρ, μ2, _, R2, (S.mono s1.ext).mono s2.ext, t2, fun z μ3 t3 F3 H3 v3 s3 R3 r3 => ?_⟩⟩
  unfold drGet2 at t3
  cases e1 : dicD μ3 x with
  | none => rw [e1] at t3; exact False.elim t3
  | some kvs => cases e2 : keyD y with
    | none => rw [e1, e2] at t3; exact False.elim t3
    | some key =>
      rw [e1, e2] at t3
      simp only at t3
      obtain ⟨a', vs, e3, hd, rk⟩ := R3.dic ((r1.mono s2.ext).mono s3.ext) e1
      cases e3
      have s := (s1.trans s2).trans s3
      rcases rk.val key with ⟨d, v, q1, q2, q3⟩ | ⟨q1, q2⟩
      · rw [q1] at t3
        exact ⟨some v, .inl ⟨vs, key, hd, keyD_rep (r2.mono s3.ext) e2, q2.symm⟩, k d μ3 t3 F3 H3 v s R3 q3⟩
      · rw [q1] at t3
        exact ⟨none, .inl ⟨vs, key, hd, keyD_rep (r2.mono s3.ext) e2, q2.symm⟩, k z μ3 t3 F3 H3 _ s R3 r3⟩
/-- k in d, k not in d -/
def drDIn (neg : Bool) (x y : SD) (μ2 : Mu) (Q : SD → Mu → Prop) : Prop := match dicD μ2 x, keyD y with
  | some kvs, some k => Q (.bl (neg != (valD kvs k).isSome)) μ2
  | _, _ => False
abbrev dDIn (neg : Bool) (ty td : DTE) : DTE := fun ρ μ Q => ty ρ μ fun y μ1 => td ρ μ1 fun x μ2 => drDIn neg x y μ2 Q
theorem lift_din {neg : Bool} {K : PySem.W.Frag} : ∀ σ H Q, LE K (dDIn neg ty td) σ H Q → LE K ty σ H fun y H1 => LE K td σ H1 fun x H2 => ∃ a o, x = .ref a ∧ DGet H2 a y o ∧ Q (.bl (neg != o.isSome)) H2 := fun σ H Q h => by
  obtain ⟨F, ρ, μ, Q', R, S, t, k⟩ := h
  refine ⟨F, ρ, μ, _, R, S, t, fun y μ1 t1 F1 H1 v1 s1 R1 r1 => ⟨F1, ρ, μ1, _, R1, S.mono s1.ext, t1, fun x μ2 t2 F2 H2 v2 s2 R2 r2 => ?_⟩⟩
  unfold drDIn at t2
  cases e1 : dicD μ2 x with
  | none => rw [e1] at t2; exact False.elim t2
  | some kvs => cases e2 : keyD y with
    | none => rw [e1, e2] at t2; exact False.elim t2
    | some key =>
      rw [e1, e2] at t2
      simp only at t2
      obtain ⟨a, vs, rfl, hd, rk⟩ := R2.dic r2 e1
      refine ⟨a, valV vs key, rfl, .inl ⟨vs, key, hd, keyD_rep (r1.mono s2.ext) e2, rfl⟩, ?_⟩
      have e3 : (valV vs key).isSome = (valD kvs key).isSome := by
        rcases rk.val key with ⟨d, v, q1, q2, q3⟩ | ⟨q1, q2⟩ <;> rw [q1, q2] <;> rfl
      rw [e3]
      exact k _ μ2 t2 F2 H2 _ (s1.trans s2) R2 (.bl _)
theorem de_din (hu : X.A.units + 1 < cLine) (hi : DE X i ty) (ho : DE X o td) (hm : behindInMarks .In o = false := by rfl) : DE X (.Compare i [.In] [o] pos) (dDIn false ty td) := weakE (pe_cmp (pc_din hu hi ho) (h1 := hm)) fun σ H Q h => by
  have := lift_din σ H Q h
  simpa [tDIn] using this
theorem de_dnotin (hu : X.A.units + 1 < cLine) (hi : DE X i ty) (ho : DE X o td) (hm : behindInMarks .NotIn o = false := by rfl) : DE X (.Compare i [.NotIn] [o] pos) (dDIn true ty td) := weakE (pe_cmp (pc_dnotin hu hi ho) (h1 := hm)) fun σ H Q h => by
  have := lift_din σ H Q h
  simpa [tDNotIn] using this
/-- d[k] = v -/
def mdic (μ : Mu) : SD → Option (Addr × List (Key × SD))
  | .ref a => match μ a with
    | some (.dic xs) => some (a, xs)
    | _ => none
  | _ => none
theorem HReal.mdic (R : HReal K F H μ) {d : SD} {v : V} {a : Addr} {xs : List (Key × SD)} (r : RepS K F d v) (h : DS.mdic μ d = some (a, xs)) : v = .ref a ∧ μ a = some (.dic xs) ∧ ∃ vs, H a = some (.dK vs) ∧ RepK K F xs vs := by
  cases r with
  | ref b =>
    unfold DS.mdic at h
    simp only at h
    split at h
    · rename_i ys hy
      cases h
      obtain ⟨_, o, h, q⟩ := R.mus _ _ hy
      cases q with
      | dic q r => exact ⟨rfl, hy, _, h, ⟨q, r⟩⟩
    · cases h
  | _ => cases h
def drPut (x y v : SD) (μ3 : Mu) (Q : Mu → Prop) : Prop := match mdic μ3 x, keyD y with
  | some (a, kvs), some k => kvs.length < sizeLine ∧ Q (up μ3 a (.dic (putD kvs k v)))
  | _, _ => False
abbrev dDPut (td ty tv : DTE) : DTS := fun D ρ μ => tv ρ μ fun v μ1 => td ρ μ1 fun x μ2 => ty ρ μ2 fun y μ3 => drPut x y v μ3 (D.nx ρ)
theorem ds_dput (hu : X.A.units + 1 < cLine) (ho : DE X o td) (hi : DE X i ty) (hv : DE X value tv) (hs : swapsWith value (some (.Subscript o i pos')) pos.line X.env = pure false) :
    DS_ X (.Assign [.Subscript o i pos'] value pos) (dDPut td ty tv) := weakS (ps_dput hu ho hi hv hs) fun D σ H h => by
  obtain ⟨F, ρ, μ, D', R, S, t, k, _⟩ := h
  refine ⟨F, ρ, μ, _, R, S, t, fun v μ1 t1 F1 H1 v1 s1 R1 r1 => ⟨F1, ρ, μ1, _, R1, S.mono s1.ext, t1, fun x μ2 t2 F2 H2 v2 s2 R2 r2 => ⟨F2, ρ, μ2, _, R2, (S.mono s1.ext).mono s2.ext, t2, fun y μ3 t3 F3 H3 v3 s3 R3 r3 => ?_⟩⟩⟩
  unfold drPut at t3
  cases e1 : mdic μ3 x with
  | none => rw [e1] at t3; exact False.elim t3
  | some pr => cases e2 : keyD y with
    | none => rw [e1, e2] at t3; exact False.elim t3
    | some key =>
      obtain ⟨a, kvs⟩ := pr
      rw [e1, e2] at t3
      simp only at t3
      obtain ⟨rfl, hm, vs, hH, rk⟩ := R3.mdic (r2.mono s3.ext) e1
      have rk2 := rk.put key (r1.mono (s2.trans s3).ext)
      refine ⟨a, _, rfl, .inl ⟨vs, key, hH, keyD_rep r3 e2, by rw [← rk.len]; exact t3.1, rfl⟩, ?_⟩
      exact k ρ _ t3.2 F3 _ σ (((s1.trans s2).trans s3).trans (Stp.put hm)) (R3.put hm (.dic rk2.keys rk2.vals)) (((S.mono s1.ext).mono s2.ext).mono s3.ext)
end
end DS
/-! DS9: backward slices, displays of dicts, walks over a dict. -/
namespace DS
open PySem PySem.Spec PyProof.Rows L2
/-! ### x[::-1] -/
section
variable {prog : Program} {w : World} {A : Around} {E : Value → Shared → Prop} {s : Shared}
theorem places_back (n : Nat) : Builtin.Slice.slicePlaces ((n : Int) - 1) (-1) (-1) = n := by
  unfold Builtin.Slice.slicePlaces
  rw [if_neg (by decide)]
  by_cases h : 0 < n
  · rw [if_pos (by omega), show ((n : Int) - 1 - -1 - 1) / (- -1) + 1 = n by rw [show (- -1 : Int) = 1 by decide, Int.ediv_one]; omega]
    exact Int.toNat_natCast n
  · obtain rfl : n = 0 := by omega
    rfl
theorem filterMap_some {α β : Type} {f : α → Option β} {g : α → β} : ∀ l : List α, (∀ k ∈ l, f k = some (g k)) → l.filterMap f = l.map g
  | [], _ => rfl
  | a :: r, h => by rw [List.filterMap_cons, h a List.mem_cons_self, List.map_cons, filterMap_some r fun k hk => h k (List.mem_cons_of_mem _ hk)]
theorem back_pick (xs : List Value) : ((List.range xs.length).filterMap fun (k : Nat) => xs.toArray[((xs.length : Int) - 1 + (k : Int) * -1).toNat]?).toArray = xs.reverse.toArray := by
  congr 1
  have e : ∀ k ∈ List.range xs.length, xs.toArray[((xs.length : Int) - 1 + (k : Int) * -1).toNat]? = some (xs.reverse.getD k .none) := fun k hk => by
    have hk := List.mem_range.mp hk
    have e1 : ((xs.length : Int) - 1 + (k : Int) * -1).toNat = xs.length - 1 - k := by omega
    rw [e1, List.getElem?_toArray, List.getD_eq_getElem?_getD, List.getElem?_reverse hk, List.getElem?_eq_getElem (by omega)]
    rfl
  rw [filterMap_some _ e]
  apply List.ext_getElem
  · simp
  · intro i h1 h2
    simp at h1
    simp [List.getD_eq_getElem?_getD, h1]
theorem applied_back {sl : Addr} {vl vu vs : Value} {n : Nat} {Q : Int × Int × Nat → Shared → Prop} (hs : s.heap.IsSliceOf sl vl vu vs) (pl : IsPart vl none) (pu : IsPart vu none) (ps : IsPart vs (some (-1)))
    (h : Q ((n : Int) - 1, -1, n) s) : wpAny (model prog w) A (Builtin.Slice.sliceApplied (.ref sl) (pure (n : Int))) Q E s := by
  obtain ⟨os, hos, hcs, hds⟩ := id hs
  unfold Builtin.Slice.sliceApplied Builtin.Slice.sliceFields
  refine wpAny_bind (wpAny_bind (wpAny_field hos hds (x := vl) rfl (wpAny_bind (wpAny_field hos hds (x := vu) rfl (wpAny_bind (wpAny_field hos hds (x := vs) rfl (wpAny_pure ?_)))))))
  refine wpAny_bind (HT.slicePart_ ps ?_)
  show wpAny _ _ (if ((-1 : Int) == 0) = true then _ else _) _ _ s
  rw [if_neg (by decide)]
  refine wpAny_bind (HT.slicePart_ pl (wpAny_bind (HT.slicePart_ pu (wpAny_bind (wpAny_pure ?_)))))
  show wpAny _ _ (pure ((n : Int) - 1, (-1 : Int), Builtin.Slice.slicePlaces ((n : Int) - 1) (-1) (-1))) _ _ s
  rw [places_back]
  exact wpAny_pure h
theorem tuple_back {t sl : Addr} {xs : List Value} {vl vu vs : Value} {Q : Value → Shared → Prop} (ht : IsTup s.heap t xs.toArray) (hs : s.heap.IsSliceOf sl vl vu vs) (pl : IsPart vl none) (pu : IsPart vu none) (ps : IsPart vs (some (-1)))
    (h : Q (.ref s.heap.objs.size) { s with heap := s.heap.push { cls := .type "tuple", data := .seq xs.reverse.toArray } }) (hsz : xs.length ≤ sizeLine) : wpAny (model prog w) A (getItem (.ref t) (.ref sl)) Q E s := by
  have fits : sizeOk (.seq xs.reverse.toArray) := by
    show xs.reverse.toArray.size ≤ sizeLine
    rw [List.size_toArray, List.length_reverse]; exact hsz
  obtain ⟨os, hos, hcs, hds⟩ := id hs
  have hTs : s.TypeIs (.ref sl) "slice" := ⟨os, hos, hcs⟩
  unfold getItem
  try with_reducible refine wpAny_holding ?_
  first | refine wpAny_bind (wpAny_pure ?_) | skip
  refine wpAny_bind (wpAny_sequenceKey ht.typeIs (by decide) ?_)
  refine wpAny_bind (wpAny_callSpecial?_slot (name := Str.ofString "__getitem__") ht.typeIs PyProof.Rows.slot_tuple_getitem (wpAny_call_entry PyProof.Rows.slot_tuple_getitem ht.typeIs entry_tuple_getitem ?_ (args_tuple_getitem _ _)))
  show wpAny _ _ (Builtin.Tuple.tupleItemsOf (.ref t) >>= _) _ _ s
  refine wpAny_bind (tupleItemsOf_ ht ?_)
  refine wpAny_bind (wpAny_typeOf hTs ?_)
  rw [if_pos (by decide)]
  have size_ : xs.toArray.size = xs.length := List.size_toArray
  rw [size_]
  refine wpAny_bind (applied_back hs pl pu ps ?_)
  have off : ¬ (((xs.length : Int) - 1 == 0 && (-1 : Int) == 1 && xs.length == xs.length) = true) := by
    rw [show ((-1 : Int) == 1) = false by decide]; simp
  show wpAny _ _ (if ((xs.length : Int) - 1 == 0 && (-1 : Int) == 1 && xs.length == xs.length) = true then _ else _) _ _ s
  rw [if_neg off, back_pick]
  first
    | exact wpAny_bind (m := Builtin.Tuple.tupleExact _) (wpAny_newObj_type (wpAny_pure ⟨_, rfl, wpAny_pure h⟩) fits)
    | exact wpAny_bind (m := Builtin.Tuple.tupleExact _) (wpAny_newObj_type (wpAny_bind (wpAny_pure (wpAny_pure ⟨_, rfl, wpAny_pure h⟩))) fits)
    | exact wpAny_bind (wpAny_bind (m := Builtin.Tuple.tupleExact _) (wpAny_newObj_type (wpAny_pure (wpAny_pure ⟨_, rfl, wpAny_pure h⟩)) fits))
    | exact wpAny_bind (wpAny_bind (m := Builtin.Tuple.tupleExact _) (wpAny_newObj_type (wpAny_pure ⟨_, rfl, wpAny_pure h⟩) fits))
end
section
variable {X : Cx} {K : PySem.W.Frag} {e o i : Expr} {pos p1 p2 p3 : Pos} {te td : DTE} {k1 : Nat}
def tRevA (K : PySem.W.Frag) (te : TE) : TE := fun σ H Q => te σ H fun x H1 => (∃ a xs, x = .ref a ∧ SqL K H1 a xs ∧ ∀ p, H1 p = none → Q (.ref p) (upd H1 p (.lst xs.reverse))) ∨ ∃ a xs, x = .ref a ∧ SqT K H1 a xs ∧ ∀ p, H1 p = none → Q (.ref p) (upd H1 p (.tup xs.reverse))
theorem pe_revA {te : TE} (he : PE X e te) : PE X (.Subscript e (.Slice none none (some (.UnaryOp .USub (.Constant (.int 1) k1 p1) p2)) p3) pos) (tRevA X.K te) := by
  refine ⟨fun pins s σ H Q I h => Subscript_ (thn (he.run pins s σ H _ I h) fun v s1 ⟨x, H1, I1, r1, q1⟩ => ?_)⟩
  have minus1 : PO X (some (.UnaryOp .USub (.Constant (.int 1) k1 p1) p2)) (tPart (tUn (rU fun i => .int (-i)) (tC (.int 1)))) := po_some (pe_un un_neg pe_int)
  refine wpAny_Slice (thn (po_none.run pins s1 σ H1 (fun o H2 => o = none ∧ H2 = H1) I1 ⟨rfl, rfl⟩) fun vl s2 ⟨l, H2, I2, pl, el, e2⟩ => ?_)
  subst el e2
  refine thn (po_none.run pins s2 σ H2 (fun o H3 => o = none ∧ H3 = H2) I2 ⟨rfl, rfl⟩) fun vu s3 ⟨u, H3, I3, pu, eu, e3⟩ => ?_
  subst eu e3
  refine thn (minus1.run pins s3 σ H3 (fun o H4 => o = some (-1) ∧ H4 = H3) I3 ⟨1, rfl, -1, rfl, rfl, rfl⟩) fun vs s4 ⟨o, H4, I4, ps, eo, e4⟩ => ?_
  subst eo e4
  have I5 : Inv X pins σ H4 { s4 with heap := s4.heap.push { cls := .type "slice", data := .fields #[vl, vu, vs] } } := I4.kept (t' := s4.toks) fun b ob q => Heap.get?_push_of_some _ q
  rcases q1 with ⟨a, xs, rfl, hx, q⟩ | ⟨a, xs, rfl, hx, q⟩
  · cases r1
    obtain ⟨its, r, ht, hz⟩ := I5.list hx
    have len := r.length
    show wpAny (model X.prog X.w) X.A (subscriptTail e (.Slice none none (some (.UnaryOp .USub (.Constant (.int 1) k1 p1) p2)) p3) (.ref a) (.ref s4.heap.objs.size)) (EP X pins σ Q) X.xe { s4 with heap := s4.heap.push { cls := .type "slice", data := .fields #[vl, vu, vs] } }
    refine tail_any (ops := [.ref a, .ref s4.heap.objs.size]) ht.isList.typeIs (PySem.slot_list_getitem.lookup) ?_ (by with_unfolding_all rfl)
    refine wpAny_getItem_list_slice ht.isList (Heap.IsSliceOf.new _ vl vu vs) pl pu ps (by decide) ?_ (by rw [List.size_toArray]; omega)
    rw [PySem.W.krv_pick]
    refine ⟨.ref _, _, I5.laid (t' := s4.toks) (o := .lst xs.reverse) (fun b ob q => Heap.get?_push_of_some _ q) (Nat.le_refl _) ?_, rfl, q _ (I5.hok.fresh (Nat.le_refl _))⟩
    exact ⟨by rw [List.length_reverse]; exact hz, _, 0, r.reverse, Heap.get?_push_size _ rfl⟩
  · cases r1
    obtain ⟨its, r, ht, hz⟩ := I5.tuple hx
    have len := r.length
    show wpAny (model X.prog X.w) X.A (subscriptTail e (.Slice none none (some (.UnaryOp .USub (.Constant (.int 1) k1 p1) p2)) p3) (.ref a) (.ref s4.heap.objs.size)) (EP X pins σ Q) X.xe { s4 with heap := s4.heap.push { cls := .type "slice", data := .fields #[vl, vu, vs] } }
    refine tail_any (ops := [.ref a, .ref s4.heap.objs.size]) ht.typeIs (PyProof.Rows.slot_tuple_getitem.lookup) ?_ (by with_unfolding_all rfl)
    refine tuple_back ht (Heap.IsSliceOf.new _ vl vu vs) pl pu ps ?_ (by omega)
    refine ⟨.ref _, _, I5.laid (t' := s4.toks) (o := .tup xs.reverse) (fun b ob q => Heap.get?_push_of_some _ q) (Nat.le_refl _) ?_, rfl, q _ (I5.hok.fresh (Nat.le_refl _))⟩
    exact ⟨by rw [List.length_reverse]; exact hz, _, r.reverse, _, Heap.get?_push_size _ rfl, rfl, 0, rfl⟩
def drRev (x : SD) (μ1 : Mu) (Q : SD → Mu → Prop) : Prop := match x with
  | .tup xs => Q (.tup xs.reverse) μ1
  | x => match seqD μ1 x with
    | some xs => Q (.lst xs.reverse) μ1
    | none => False
abbrev dRev (te : DTE) : DTE := fun ρ μ Q => te ρ μ fun x μ1 => drRev x μ1 Q
theorem de_rev (he : DE X e te) : DE X (.Subscript e (.Slice none none (some (.UnaryOp .USub (.Constant (.int 1) k1 p1) p2)) p3) pos) (dRev te) := weakE (pe_revA he) fun σ H Q h => by
  obtain ⟨F, ρ, μ, Q', R, S, t, k⟩ := h
  refine ⟨F, ρ, μ, _, R, S, t, fun d μ1 t1 F1 H1 v s1 R1 r1 => ?_⟩
  unfold drRev at t1
  have fall : isTup d = false → (match seqD μ1 d with
    | some xs => Q' (.lst xs.reverse) μ1
    | none => False) → _ := fun ht t => show (∃ a xs, v = .ref a ∧ SqL X.K H1 a xs ∧ ∀ p, H1 p = none → Q (.ref p) (upd H1 p (.lst xs.reverse))) ∨ ∃ a xs, v = .ref a ∧ SqT X.K H1 a xs ∧ ∀ p, H1 p = none → Q (.ref p) (upd H1 p (.tup xs.reverse)) by
    cases q : seqD μ1 d with
    | none => rw [q] at t; exact False.elim t
    | some xs =>
      rw [q] at t
      obtain ⟨a, vs, rfl, r, h3⟩ := R1.seq r1 q
      rcases h3 with ⟨_, h3⟩ | ⟨z, _⟩
      · exact .inl ⟨a, vs, rfl, h3, fun q hq => k _ μ1 t _ _ _ (s1.trans (Stp.newS R1 hq)) (R1.newS hq) (.lst upd_same (r.reverse.mono (Ext.new (R1.freeF hq))))⟩
      · rw [ht] at z; cases z
  cases d with
  | tup xs =>
    cases r1 with
    | tup h r => exact .inr ⟨_, _, rfl, R1.ext.sqT h, fun q hq => k _ μ1 t1 _ _ _ (s1.trans (Stp.newS R1 hq)) (R1.newS hq) (.tup (.inl (.inl upd_same)) (r.reverse.mono (Ext.new (R1.freeF hq))))⟩
  | _ => exact fall rfl t1

/-! ### displays of dicts -/
def dPairs : List (DTE × DTE) → Rho → Mu → (List (SD × SD) → Mu → Prop) → Prop
  | [], _, μ, Q => Q [] μ
  | (tk, tv) :: r, ρ, μ, Q => tk ρ μ fun x μ1 => tv ρ μ1 fun y μ2 => dPairs r ρ μ2 fun ps μ3 => Q ((x, y) :: ps) μ3
def keysD : List (SD × SD) → Option (List (Key × SD))
  | [] => some []
  | (x, y) :: r => match keyD x, keysD r with
    | some k, some ks => some ((k, y) :: ks)
    | _, _ => none
def mergeD (kvs more : List (Key × SD)) : List (Key × SD) := more.foldl (fun acc kv => putD acc kv.1 kv.2) kvs
/-- a display that will not change | may change -/
def dDispS (trs : List (DTE × DTE)) : DTE := fun ρ μ Q => dPairs trs ρ μ fun ps μ1 => match keysD ps with
  | some kvs => Q (.dic (mergeD [] kvs)) μ1
  | none => False
def dDispM (trs : List (DTE × DTE)) : DTE := fun ρ μ Q => dPairs trs ρ μ fun ps μ1 => match keysD ps with
  | some kvs => ∀ p, μ1 p = none → Q (.ref p) (up μ1 p (.dic (mergeD [] kvs)))
  | none => False
abbrev lifts (K : PySem.W.Frag) (trs : List (DTE × DTE)) : List (TE × TE) := trs.map fun t => (LE K t.1, LE K t.2)
abbrev DPs (X : Cx) (pos : Pos) (keys : List (Option Expr)) (values : List Expr) (trs : List (DTE × DTE)) : Prop := PPs X pos keys values (lifts X.K trs)
theorem dps_nil : DPs X pos [] [] [] := pps_nil
theorem dps_cons {k v : Expr} {ks : List (Option Expr)} {vs : List Expr} {tk tv : DTE} {trs : List (DTE × DTE)} (hk : DE X k tk) (hv : DE X v tv) (hr : DPs X pos ks vs trs) : DPs X pos (some k :: ks) (v :: vs) ((tk, tv) :: trs) := pps_cons hk hv hr
theorem liftPairs : ∀ (trs : List (DTE × DTE)) {σ : L2.St} {H F : Hp} {ρ : Rho} {μ : Mu} {Q : List (V × V) → Hp → Prop} {Q' : List (SD × SD) → Mu → Prop}, HReal K F H μ → Slots K F σ ρ → dPairs trs ρ μ Q' →
    (∀ ps μ', Q' ps μ' → ∀ F' H' vs, Stp F H μ F' H' μ' → HReal K F' H' μ' → vs.length = trs.length → Paired (fun (p : SD × SD) (q : V × V) => RepS K F' p.1 q.1 ∧ RepS K F' p.2 q.2) ps vs → Q vs H') → tPairs (lifts K trs) σ H Q
  | [], σ, H, F, ρ, μ, Q, Q', R, S, t, k => k [] μ t F H [] (Stp.refl _ _ _) R rfl .nil
  | (tk, tv) :: r, σ, H, F, ρ, μ, Q, Q', R, S, t, k => by
    refine ⟨F, ρ, μ, _, R, S, t, fun x μ1 t1 F1 H1 v1 s1 R1 r1 => ⟨F1, ρ, μ1, _, R1, S.mono s1.ext, t1, fun y μ2 t2 F2 H2 v2 s2 R2 r2 => ?_⟩⟩
    refine liftPairs r R2 ((S.mono s1.ext).mono s2.ext) t2 fun ps μ3 t3 F3 H3 vs s3 R3 hl3 r3 => ?_
    exact k _ μ3 t3 F3 H3 _ ((s1.trans s2).trans s3) R3 (by simp [hl3]) (.cons ⟨(r1.mono s2.ext).mono s3.ext, r2.mono s3.ext⟩ r3)
theorem keysD_rep {F : Hp} : ∀ {ps : List (SD × SD)} {vs : List (V × V)} {kvs : List (Key × SD)}, Paired (fun (p : SD × SD) (q : V × V) => RepS K F p.1 q.1 ∧ RepS K F p.2 q.2) ps vs → keysD ps = some kvs →
    ∃ ws : List (Key × V), vs = ws.map (fun kv => (kV kv.1, kv.2)) ∧ RepK K F kvs ws ∧ ws.length = vs.length
  | _, _, _, .nil, e => by cases e; exact ⟨[], rfl, ⟨rfl, .nil⟩, rfl⟩
  | (x, y) :: ps, (v, u) :: vs, _, .cons q r, e => by
    unfold keysD at e
    cases e1 : keyD x with
    | none => rw [e1] at e; cases e
    | some k => cases e2 : keysD ps with
      | none => rw [e1, e2] at e; cases e
      | some ks =>
        rw [e1, e2] at e
        cases e
        obtain ⟨ws, h1, h2, h3⟩ := keysD_rep r e2
        have hk : v = kV k := keyD_rep q.1 e1
        subst hk
        exact ⟨(k, u) :: ws, by rw [List.map_cons, ← h1], ⟨by simp [h2.keys], .cons q.2 h2.vals⟩, by simp [h3]⟩
theorem RepK.merge {F : Hp} : ∀ {more : List (Key × SD)} {mv : List (Key × V)} {kvs : List (Key × SD)} {vs : List (Key × V)}, RepK K F kvs vs → RepK K F more mv → RepK K F (mergeD kvs more) (mergeK vs mv)
  | [], [], _, _, r, _ => r
  | [], _ :: _, _, _, _, r => by have := r.keys; simp at this
  | _ :: _, [], _, _, _, r => by have := r.keys; simp at this
  | (a, d) :: more, (b, v) :: mv, kvs, vs, r, m => by
    have h1 := m.keys
    simp only [List.map_cons, List.cons.injEq] at h1
    obtain ⟨rfl, h1⟩ := h1
    have h2 := m.vals
    simp only [List.map_cons] at h2
    cases h2 with
    | cons q1 q2 =>
      show RepK K F (mergeD (putD kvs b d) more) (mergeK (putK vs b v) mv)
      exact RepK.merge (r.put b q1) ⟨h1, q2⟩
theorem liftDisp {trs : List (DTE × DTE)} {σ : L2.St} {H F : Hp} {ρ : Rho} {μ : Mu} {Q : VK} {Q' : List (SD × SD) → Mu → Prop} (h15 : trs.length ≤ 15) (R : HReal K F H μ) (S : Slots K F σ ρ) (t : dPairs trs ρ μ Q')
    (k : ∀ ps μ', Q' ps μ' → ∃ kvs, keysD ps = some kvs ∧ ∀ F' H' p ws, Stp F H μ F' H' μ' → HReal K F' H' μ' → F' p = none → μ' p = none → H' p = some (.dK ws) → RepK K F' (mergeD [] kvs) ws → (∀ a, H a ≠ none → F a = none → μ a = none → a ≠ p) → Q (.ref p) H') : tDisp (lifts K trs) σ H Q := by
  intro p hp
  have hF := R.freeF hp
  have hM := R.freeM hp
  refine liftPairs trs (R.aside (o := .dK []) hF hM) S t fun ps μ' t' F' H' vs s R' hl r => ?_
  · obtain ⟨kvs, e, k⟩ := k ps μ' t'
    obtain ⟨q1, q2, q3⟩ := s.fr p (by rw [upd_same]; exact fun z => nomatch z) hF hM
    obtain ⟨ws, h1, h2, h3⟩ := keysD_rep r e
    refine ⟨by rw [q1, upd_same], ws, h1, by rw [h3, hl]; exact h15, ?_⟩
    have ne : ∀ a, H a ≠ none → a ≠ p := fun a ha z => by subst z; exact ha hp
    refine k F' _ p (mergeK [] ws) ⟨s.ext, fun a a1 a2 a3 => ?_⟩ (R'.aside q2 q3) q2 q3 upd_same (RepK.merge ⟨rfl, .nil⟩ h2) fun a a1 _ _ => ne a a1
    have na := ne a a1
    obtain ⟨b1, b2, b3⟩ := s.fr a (by rw [upd_ne na]; exact a1) a2 a3
    exact ⟨by rw [upd_ne na, b1, upd_ne na], b2, b3⟩
theorem de_dispS {keys : List (Option Expr)} {values : List Expr} {trs : List (DTE × DTE)} (h : DPs X pos keys values trs) (hall : keys.all (·.isSome) = true) (hl : keys.length = values.length) (h0 : keys ≠ []) (h15 : keys.length ≤ 15) (ht : trs.length ≤ 15) : DE X (.Dict keys values pos) (dDispS trs) :=
  weakE (pe_disp h hall hl h0 h15) fun σ H Q h => by
    obtain ⟨F, ρ, μ, Q', R, S, t, k⟩ := h
    refine liftDisp ht R S t fun ps μ' t' => ?_
    cases e : keysD ps with
    | none => rw [e] at t'; exact False.elim t'
    | some kvs =>
      rw [e] at t'
      refine ⟨kvs, rfl, fun F' H' p ws s R' f m hp rk ne => ?_⟩
      have ex : Ext F' (upd F' p (.dK ws)) := Ext.new f
      refine k _ μ' t' (upd F' p (.dK ws)) H' (.ref p) ⟨s.ext.trans ex, fun a h1 h2 h3 => ?_⟩ (R'.adopt f m hp) (.dic (.inl upd_same) rk.keys (rk.vals.mono ex))
      obtain ⟨q1, q2, q3⟩ := s.fr a h1 h2 h3
      exact ⟨q1, by rw [upd_ne (ne a h1 h2 h3)]; exact q2, q3⟩
theorem de_dispM {keys : List (Option Expr)} {values : List Expr} {trs : List (DTE × DTE)} (h : DPs X pos keys values trs) (hall : keys.all (·.isSome) = true) (hl : keys.length = values.length) (h0 : keys ≠ []) (h15 : keys.length ≤ 15) (ht : trs.length ≤ 15) : DE X (.Dict keys values pos) (dDispM trs) :=
  weakE (pe_disp h hall hl h0 h15) fun σ H Q h => by
    obtain ⟨F, ρ, μ, Q', R, S, t, k⟩ := h
    refine liftDisp ht R S t fun ps μ' t' => ?_
    cases e : keysD ps with
    | none => rw [e] at t'; exact False.elim t'
    | some kvs =>
      rw [e] at t'
      refine ⟨kvs, rfl, fun F' H' p ws s R' f m hp rk ne => ?_⟩
      refine k _ _ (t' p m) F' H' (.ref p) ⟨s.ext, fun a h1 h2 h3 => ?_⟩ (R'.adoptM f hp (.dic rk.keys rk.vals)) (.ref p)
      obtain ⟨q1, q2, q3⟩ := s.fr a h1 h2 h3
      exact ⟨q1, q2, by rw [up_ne (ne a h1 h2 h3)]; exact q3⟩
/-- {} -/
abbrev dDict0M : DTE := fun _ μ Q => ∀ p, μ p = none → Q (.ref p) (up μ p (.dic []))
abbrev dDict0S : DTE := fun _ μ Q => Q (.dic []) μ
theorem de_dict0M : DE X (.Dict [] [] pos) dDict0M := weakE pe_dnewK fun σ H Q h => by
  obtain ⟨F, ρ, μ, Q', R, S, t, k⟩ := h
  exact fun p hp => k _ _ (t p (R.freeM hp)) _ _ _ (Stp.newM R hp) (R.newM hp (.dic rfl .nil)) (.ref p)
theorem de_dict0S : DE X (.Dict [] [] pos) dDict0S := weakE pe_dnewK fun σ H Q h => by
  obtain ⟨F, ρ, μ, Q', R, S, t, k⟩ := h
  exact fun p hp => k _ _ t _ _ _ (Stp.newS R hp) (R.newS hp) (.dic (.inl upd_same) rfl .nil)

/-! ### walks over a dict -/
/-- an expression that gives a dict, which is locked as it is from then on -/
def tLockA (H0 : Hp) (td : TE) : TE := fun σ H Q => td σ H fun x H1 => ∃ d kvs, x = .ref d ∧ ((H1 d = some (.dK kvs) ∧ ∀ od, (∀ o' u', H0 d ≠ some (.frz o' u')) → Q x (upd H1 d (.frz od (.dK kvs)))) ∨ ∃ od, H1 d = some (.frz od (.dK kvs)) ∧ Q x H1)
theorem pe_lockA {td : TE} (he : PE X e td) : PE X e (tLockA X.H_0 td) := ⟨fun pins s σ H Q I h => thn (he.run pins s σ H _ I h) fun v s1 ⟨x, H1, I1, r1, d, kvs, ex, q⟩ => by
  rcases q with ⟨hd, q⟩ | ⟨od, hd, q⟩
  · obtain ⟨od, I2⟩ := I1.lock hd trivial
    exact ⟨x, _, I2, r1, q od fun o' u' z => by rw [I1.base.frzs d o' u' z] at hd; cases hd⟩
  · exact ⟨x, H1, I1, r1, q⟩⟩
def Unl (H0 : Hp) (P : Hp → Prop) : Hp → Prop := fun H => P H ∨ ∃ d od u, H d = some (.frz od u) ∧ (∀ o' u', H0 d ≠ some (.frz o' u')) ∧ P (upd H d u)
def tUnl (H0 : Hp) (t : TS) : TS := fun D σ H => t { nx := fun σ => Unl H0 (D.nx σ), rt := fun v => Unl H0 (D.rt v), bk := fun σ => Unl H0 (D.bk σ), ct := fun σ => Unl H0 (D.ct σ) } σ H
theorem ps_unl {st : Stmt} {t : TS} (h : PS X st t) : PS X st (tUnl X.H_0 t) := ⟨fun pins s σ H D I q => thn (h.run pins s σ H _ I q) fun fl s1 q1 => by
  have go : ∀ {σ' : L2.St} {H' : Hp} {P : Hp → Prop}, Inv X pins σ' H' s1 → Unl X.H_0 P H' → ∃ H2, Inv X pins σ' H2 s1 ∧ P H2 := fun {σ' H' P} I1 q => by
    rcases q with q | ⟨d, od, u, h1, h2, q⟩
    · exact ⟨_, I1, q⟩
    · exact ⟨_, I1.unlock h1 h2, q⟩
  match fl, q1 with
  | .next, ⟨σ', H', I1, q⟩ => obtain ⟨H2, I2, q⟩ := go I1 q; exact ⟨σ', H2, I2, q⟩
  | .brk, ⟨σ', H', I1, q⟩ => obtain ⟨H2, I2, q⟩ := go I1 q; exact ⟨σ', H2, I2, q⟩
  | .cont, ⟨σ', H', I1, q⟩ => obtain ⟨H2, I2, q⟩ := go I1 q; exact ⟨σ', H2, I2, q⟩
  | .ret u, ⟨v, σ', H', I1, r, q⟩ => obtain ⟨H2, I2, q⟩ := go I1 q; exact ⟨v, σ', H2, I2, r, q⟩⟩
def keyS : Key → SD
  | .inl i => .int i
  | .inr x => .str x
theorem keyS_rep {F : Hp} (k : Key) : RepS K F (keyS k) (kV k) := by cases k <;> constructor
def itemsS (kvs : List (Key × SD)) : List SD := kvs.map fun kv => .tup [keyS kv.1, kv.2]
theorem RepK.get {F : Hp} {ds : List (Key × SD)} {vs : List (Key × V)} (r : RepK K F ds vs) {i : Nat} {k : Key} {v : V} (h : vs[i]? = some (k, v)) : ∃ d, ds[i]? = some (k, d) ∧ RepS K F d v := by
  have h1 : (vs.map (·.2))[i]? = some v := by rw [List.getElem?_map, h]; rfl
  obtain ⟨d, h2, h3⟩ := r.vals.getV h1
  have h4 : (ds.map (·.1))[i]? = some k := by rw [← r.keys, List.getElem?_map, h]; rfl
  rw [List.getElem?_map] at h2 h4
  cases e : ds[i]? with
  | none => rw [e] at h2; cases h2
  | some p =>
    rw [e] at h2 h4
    obtain ⟨a, b⟩ := p
    cases h2; cases h4
    exact ⟨_, rfl, h3⟩
theorem src_items {F0 H0 : Hp} {μ0 : Mu} {d : Addr} {od : Obj} {kvs : List (Key × SD)} {vs : List (Key × V)} (rk : RepK K F0 kvs vs) (h : ∀ (F H : Hp) (μ : Mu), Stp F0 H0 μ0 F H μ → H d = some (.frz od (.dK vs))) : Src K F0 H0 μ0 (Iti d od vs) (itemsS kvs) fun _ => True where
  go := fun i F H μ s R _ hi => ⟨h F H μ s, by rw [← rk.len]; simpa [itemsS] using hi⟩
  stop := fun F H μ s R _ => ⟨h F H μ s, by rw [← rk.len]; simp [itemsS]⟩
  yld := fun i F H μ x H' s R _ y e hd => by
    obtain ⟨T, k, v, h1, rfl, hT, rfl⟩ := y
    obtain ⟨dd, h2, h3⟩ := rk.get h1
    have : (itemsS kvs)[i]? = some (.tup [keyS k, dd]) := by simp [itemsS, h2]
    rw [this] at hd; cases hd
    have ex : Ext F (upd F T (.tup [kV k, v])) := Ext.new (R.freeF hT)
    exact ⟨_, Stp.newS R hT, R.newS hT, .tup (.inl (.inl upd_same)) (.cons (keyS_rep k) (.one ((h3.mono s.ext).mono ex)))⟩
/-- a walk over a written list of data -/
def dForL (ds : List SD) (g : DTG) (tb : DTS) : DTS := dFor (fun _ μ Q => Q ds (fun _ => True) μ) g tb
def dForItems (te : DTE) (g : DTG) (tb : DTS) : DTS := fun D ρ μ => te ρ μ fun d μ1 => match d with
  | .dic kvs => dForL (itemsS kvs) g tb D ρ μ1
  | .ref a => match μ1 a with
    | some (.dic kvs) => dForL (itemsS kvs) g tb { nx := fun ρ μ => D.nx ρ (up μ a (.dic kvs)), rt := fun d μ => D.rt d (up μ a (.dic kvs)), bk := fun ρ μ => D.bk ρ (up μ a (.dic kvs)), ct := fun ρ μ => D.ct ρ (up μ a (.dic kvs)) } ρ (rm μ1 a)
    | _ => False
  | _ => False
end
end DS
/-! DS10: a loop over the items of a dict that is data; returning a dict of lists. -/
namespace DS
open PySem PySem.Spec PyProof.Rows L2
/-- enough to read data -/
structure Ext0 (K : PySem.W.Frag) (F F' : Hp) : Prop where
  t : ∀ a xs, SqT K F a xs → SqT K F' a xs
  l : ∀ a xs, SqL K F a xs → SqL K F' a xs
  ls : ∀ a vs, F a = some (.lst vs) → F' a = some (.lst vs)
  d : ∀ a vs, Rd F a (.dK vs) → Rd F' a (.dK vs)
  st : ∀ a o, still o = true → F a = some o → F' a = some o
mutual
theorem RepS.mono0 {K : PySem.W.Frag} {F F' : Hp} (e : Ext0 K F F') : ∀ {d : SD} {v : V}, RepS K F d v → RepS K F' d v
  | _, _, .non => .non
  | _, _, .bl b => .bl b
  | _, _, .int i => .int i
  | _, _, .str x => .str x
  | _, _, .ref a => .ref a
  | _, _, .ty n => .ty n
  | _, _, .tup h r => .tup (e.t _ _ h) (RepL.mono0 e r)
  | _, _, .lst h r => .lst (e.ls _ _ h) (RepL.mono0 e r)
  | _, _, .rol h r => .rol (e.l _ _ h) (RepL.mono0 e r)
  | _, _, .dic h q r => .dic (e.d _ _ h) q (RepL.mono0 e r)
  | _, _, .exc0 h q => .exc0 h (e.st _ _ rfl q)
  | _, _, .exc h q p z r => .exc h (e.st _ _ rfl q) (e.st _ _ rfl p) z (RepL.mono0 e r)
theorem RepL.mono0 {K : PySem.W.Frag} {F F' : Hp} (e : Ext0 K F F') : ∀ {ds : List SD} {vs : List V}, RepL K F ds vs → RepL K F' ds vs
  | _, _, .nil => .nil
  | _, _, .cons h r => .cons (RepS.mono0 e h) (RepL.mono0 e r)
end
theorem RepO.mono0 {K : PySem.W.Frag} {F F' : Hp} (e : Ext0 K F F') {m : MO} {o : HO} (h : RepO K F m o) : RepO K F' m o := by
  cases h with
  | lst r => exact .lst (r.mono0 e)
  | dic q r => exact .dic q (r.mono0 e)
  | obj q r => exact .obj q (r.mono0 e)
  | fdic q r => exact .fdic q (r.mono0 e)
theorem Slots.mono0 {K : PySem.W.Frag} {F F' : Hp} {σ : L2.St} {ρ : Rho} (e : Ext0 K F F') (h : Slots K F σ ρ) : Slots K F' σ ρ := ⟨h.len, fun i d q => let ⟨v, a, b⟩ := h.at_ i d q; ⟨v, a, b.mono0 e⟩⟩
section
variable {K : PySem.W.Frag} {F H : Hp} {μ : Mu} {d : Addr} {od : Obj} {vs : List (Key × V)}
theorem ext_lock (h : F d = some (.dK vs)) : Ext F (upd F d (.frz od (.dK vs))) := by
  refine ⟨fun a u r => ?_, fun a us r => ?_, fun a o u r => ?_, fun a o hs r => ?_⟩
  · by_cases e : a = d
    · subst e
      rcases r with r | ⟨o, r⟩ <;> rw [h] at r <;> cases r
      exact .inr ⟨od, upd_same⟩
    · rcases r with r | ⟨o, r⟩
      · exact .inl (by rw [upd_ne e]; exact r)
      · exact .inr ⟨o, by rw [upd_ne e]; exact r⟩
  · have e : a ≠ d := fun e => by subst e; rw [h] at r; cases r
    rw [upd_ne e]; exact r
  · have e : a ≠ d := fun e => by subst e; rw [h] at r; cases r
    rw [upd_ne e]; exact r
  · have e : a ≠ d := fun e => by subst e; rw [h] at r; cases r; cases hs
    rw [upd_ne e]; exact r
theorem HReal.lockD (R : HReal K F H μ) (h : F d = some (.dK vs)) : HReal K (upd F d (.frz od (.dK vs))) (upd H d (.frz od (.dK vs))) μ ∧ Stp F H μ (upd F d (.frz od (.dK vs))) (upd H d (.frz od (.dK vs))) μ := by
  have nd : ∀ a, F a = none → a ≠ d := fun a q e => by subst e; rw [h] at q; cases q
  refine ⟨⟨fun a o q => ?_, fun a m q => ?_⟩, ⟨ext_lock h, fun a h1 h2 h3 => ?_⟩⟩
  · by_cases e : a = d
    · subst e; rw [upd_same] at q ⊢; exact q
    · rw [upd_ne e] at q ⊢; exact R.sub a o q
  · obtain ⟨z, o, q1, q2⟩ := R.mus a m q
    have e := nd a z
    exact ⟨by rw [upd_ne e]; exact z, o, by rw [upd_ne e]; exact q1, q2.mono (ext_lock h)⟩
  · have e := nd a h2
    exact ⟨by rw [upd_ne e], by rw [upd_ne e]; exact h2, h3⟩
theorem ext_unlock (h : F d = some (.frz od (.dK vs))) : Ext0 K F (upd F d (.dK vs)) := by
  have rd : ∀ a u, (∀ o u', u ≠ .frz o u') → Rd F a u → Rd (upd F d (.dK vs)) a u := fun a u hu r => by
    by_cases e : a = d
    · subst e
      rcases r with r | ⟨o, r⟩
      · rw [h] at r; cases r; exact (hu _ _ rfl).elim
      · rw [h] at r; cases r; exact .inl upd_same
    · rcases r with r | ⟨o, r⟩
      · exact .inl (by rw [upd_ne e]; exact r)
      · exact .inr ⟨o, by rw [upd_ne e]; exact r⟩
  refine ⟨fun a xs r => r.elim (fun r => .inl (rd a _ (fun _ _ z => by cases z) r)) .inr, fun a xs r => r.elim (fun r => .inl (rd a _ (fun _ _ z => by cases z) r)) .inr, fun a us r => ?_, fun a us r => rd a _ (fun _ _ z => by cases z) r, fun a o hs r => ?_⟩
  · have e : a ≠ d := fun e => by subst e; rw [h] at r; cases r
    rw [upd_ne e]; exact r
  · have e : a ≠ d := fun e => by subst e; rw [h] at r; cases r; cases hs
    rw [upd_ne e]; exact r
theorem HReal.unlockD (R : HReal K F H μ) (h : F d = some (.frz od (.dK vs))) : HReal K (upd F d (.dK vs)) (upd H d (.dK vs)) μ := by
  have nd : ∀ a, F a = none → a ≠ d := fun a q e => by subst e; rw [h] at q; cases q
  refine ⟨fun a o q => ?_, fun a m q => ?_⟩
  · by_cases e : a = d
    · subst e; rw [upd_same] at q ⊢; exact q
    · rw [upd_ne e] at q ⊢; exact R.sub a o q
  · obtain ⟨z, o, q1, q2⟩ := R.mus a m q
    have e := nd a z
    exact ⟨by rw [upd_ne e]; exact z, o, by rw [upd_ne e]; exact q1, q2.mono0 (ext_unlock h)⟩
theorem Stp.unlockD {F0 H0 : Hp} {μ0 μ' : Mu} (h : F0 d = some (.dK vs)) (s : Stp (upd F0 d (.frz od (.dK vs))) (upd H0 d (.frz od (.dK vs))) μ0 F H μ') : Stp F0 H0 μ0 (upd F d (.dK vs)) (upd H d (.dK vs)) μ' := by
  have hF : F d = some (.frz od (.dK vs)) := s.ext.fz d _ _ upd_same
  refine ⟨⟨fun a u r => ?_, fun a us r => ?_, fun a o u r => ?_, fun a o hs r => ?_⟩, fun a h1 h2 h3 => ?_⟩
  · by_cases e : a = d
    · subst e
      rcases r with r | ⟨o, r⟩ <;> rw [h] at r <;> cases r
      exact .inl upd_same
    · have := s.ext.rd a u (r.elim (fun r => .inl (by rw [upd_ne e]; exact r)) fun ⟨o, r⟩ => .inr ⟨o, by rw [upd_ne e]; exact r⟩)
      exact this.elim (fun r => .inl (by rw [upd_ne e]; exact r)) fun ⟨o, r⟩ => .inr ⟨o, by rw [upd_ne e]; exact r⟩
  · have e : a ≠ d := fun e => by subst e; rw [h] at r; cases r
    rw [upd_ne e]; exact s.ext.ls a us (by rw [upd_ne e]; exact r)
  · have e : a ≠ d := fun e => by subst e; rw [h] at r; cases r
    rw [upd_ne e]; exact s.ext.fz a o u (by rw [upd_ne e]; exact r)
  · have e : a ≠ d := fun e => by subst e; rw [h] at r; cases r; cases hs
    rw [upd_ne e]; exact s.ext.st a o hs (by rw [upd_ne e]; exact r)
  · have e : a ≠ d := fun e => by subst e; rw [h] at h2; cases h2
    obtain ⟨p, q, r⟩ := s.fr a (by rw [upd_ne e]; exact h1) (by rw [upd_ne e]; exact h2) h3
    rw [upd_ne e] at p
    exact ⟨by rw [upd_ne e]; exact p, by rw [upd_ne e]; exact q, r⟩
end
theorem src_items2 {K : PySem.W.Frag} {F0 H0 : Hp} {μ0 : Mu} {d : Addr} {od : Obj} {kvs : List (Key × SD)} {vs : List (Key × V)} (rk : RepK K F0 kvs vs) (h : F0 d = some (.frz od (.dK vs))) : Src K F0 H0 μ0 (Iti d od vs) (itemsS kvs) fun _ => True where
  go := fun i F H μ s R _ hi => ⟨R.sub _ _ (s.ext.fz d _ _ h), by rw [← rk.len]; simpa [itemsS] using hi⟩
  stop := fun F H μ s R _ => ⟨R.sub _ _ (s.ext.fz d _ _ h), by rw [← rk.len]; simp [itemsS]⟩
  yld := fun i F H μ x H' s R _ y e hd => by
    obtain ⟨T, k, v, h1, rfl, hT, rfl⟩ := y
    obtain ⟨dd, h2, h3⟩ := rk.get h1
    have : (itemsS kvs)[i]? = some (.tup [keyS k, dd]) := by simp [itemsS, h2]
    rw [this] at hd; cases hd
    have ex : Ext F (upd F T (.tup [kV k, v])) := Ext.new (R.freeF hT)
    exact ⟨_, Stp.newS R hT, R.newS hT, .tup (.inl (.inl upd_same)) (.cons (keyS_rep k) (.one ((h3.mono s.ext).mono ex)))⟩
/-- the inside of a for loop, lifted -/
theorem for_core {K : PySem.W.Frag} {g : DTG} {tb : DTS} {D : Ends} {D' : DEnds} {F1 H1 : Hp} {μ1 : Mu} {σ0 : L2.St} {ρ0 : Rho} {J : It} {ds : List SD} {ok : Mu → Prop} (R1 : HReal K F1 H1 μ1) (S1 : Slots K F1 σ0 ρ0) (src : Src K F1 H1 μ1 J ds ok)
    (t : ∃ W : Nat → Rho → Mu → Prop, W 0 ρ0 μ1 ∧ (∀ i ρ μ, i ≤ ds.length → W i ρ μ → ok μ) ∧ (∀ i d ρ μ, ds[i]? = some d → W i ρ μ → g d ρ μ fun ρ2 μ2 => tb { D' with nx := W (i + 1), ct := W (i + 1), bk := D'.nx } ρ2 μ2) ∧ ∀ ρ μ, W ds.length ρ μ → D'.nx ρ μ)
    (k : ∀ ρ' μ', D'.nx ρ' μ' → ∀ F' H' σ', Stp F1 H1 μ1 F' H' μ' → HReal K F' H' μ' → Slots K F' σ' ρ' → D.nx σ' H')
    (k2 : ∀ d μ', D'.rt d μ' → ∀ F' H' v, Stp F1 H1 μ1 F' H' μ' → HReal K F' H' μ' → RepS K F' d v → D.rt v H') :
    ∃ W : Nat → Nat → L2.St → Hp → Prop, (∃ m, W 0 m σ0 H1) ∧ ∀ i m σ H, W i m σ H →
  (J.stop i H ∧ D.nx σ H) ∨ (J.go i H ∧ ∃ N : L2.St → Hp → Prop, (∀ σ' H', N σ' H' → ∃ m', m' < m ∧ W (i + 1) m' σ' H') ∧ ∀ x H', J.yld i H x H' → LG K g x σ H' fun σ2 H2 => LS K tb { D with nx := N, ct := N, bk := D.nx } σ2 H2) := by
  obtain ⟨W, w0, hok, turn, fin⟩ := t
  refine ⟨fun i m σ' H' => i + m = ds.length ∧ ∃ F ρ μ, Stp F1 H1 μ1 F H' μ ∧ HReal K F H' μ ∧ Slots K F σ' ρ ∧ W i ρ μ, ⟨ds.length, by omega, F1, ρ0, μ1, Stp.refl _ _ _, R1, S1, w0⟩, ?_⟩
  rintro i m σ' H' ⟨him, F, ρ, μ, s, R, S, w⟩
  have hle : i ≤ ds.length := by omega
  by_cases hi : i < ds.length
  · refine .inr ⟨src.go i F H' μ s R (hok i ρ μ hle w) hi, fun σ2 H2 => ∃ F ρ μ, Stp F1 H1 μ1 F H2 μ ∧ HReal K F H2 μ ∧ Slots K F σ2 ρ ∧ W (i + 1) ρ μ, ?_, ?_⟩
    · rintro σ2 H2 ⟨F', ρ', μ', s', R', S', w'⟩
      exact ⟨ds.length - (i + 1), by omega, by omega, F', ρ', μ', s', R', S', w'⟩
    · intro x H2 y
      obtain ⟨F', s', R', r'⟩ := src.yld i F H' μ x H2 s R (hok i ρ μ hle w) y _ (List.getElem?_eq_getElem hi)
      refine ⟨F', ρ, μ, _, _, R', S.mono s'.ext, r', turn i _ ρ μ (List.getElem?_eq_getElem hi) w, fun ρ2 μ2 t2 F2 H3 σ2 s2 R2 S2 => ?_⟩
      refine ⟨F2, ρ2, μ2, _, R2, S2, t2, ?_, ?_, ?_, ?_⟩
      · exact fun ρ' μ' q F'' H'' σ'' s'' R'' S'' => ⟨F'', ρ', μ', ((s.trans s').trans s2).trans s'', R'', S'', q⟩
      · exact fun d μ' q F'' H'' v s'' R'' r'' => k2 d μ' q F'' H'' v (((s.trans s').trans s2).trans s'') R'' r''
      · exact fun ρ' μ' q F'' H'' σ'' s'' R'' S'' => k ρ' μ' q F'' H'' σ'' (((s.trans s').trans s2).trans s'') R'' S''
      · exact fun ρ' μ' q F'' H'' σ'' s'' R'' S'' => ⟨F'', ρ', μ', ((s.trans s').trans s2).trans s'', R'', S'', q⟩
  · have e : i = ds.length := by omega
    subst e
    exact .inl ⟨src.stop F H' μ s R (hok _ ρ μ hle w), k ρ μ (fin ρ μ w) F H' σ' s R S⟩
/-- the items of a dict that is data -/
def dForD (te : DTE) (g : DTG) (tb : DTS) : DTS := fun D ρ μ => te ρ μ fun d μ1 => match d with
  | .dic kvs => ∃ W : Nat → Rho → Mu → Prop, W 0 ρ μ1 ∧ (∀ i d ρ μ, (itemsS kvs)[i]? = some d → W i ρ μ → g d ρ μ fun ρ2 μ2 => tb { D with nx := W (i + 1), ct := W (i + 1), bk := D.nx } ρ2 μ2) ∧ ∀ ρ μ, W kvs.length ρ μ → D.nx ρ μ
  | _ => False
section
variable {X : Cx} {e : Expr} {elts : List Expr} {kk : Nat} {tpos pos apos cpos : Pos} {body : List Stmt}
theorem ds_forItems {te : DTE} {g : DTG} {tb : DTS} (hp : PassesOwn (model X.prog X.w) X.A X.env X.xe) (hc : X.calm = true) (he : DE X e te) (hg : DG X (.Tuple elts kk tpos) g) (hb : DSs X body tb)
    (hbase : attributeBase e "items" X.env (eval e X.env) = eval e X.env := by rfl) (hline : (apos.endLine == cpos.line) = true := by rfl)
    (hs : ∀ x, foldedSetIterable (.Call (.Attribute e "items" apos) [] [] cpos) X.env x = pure x := by intro _; rfl) :
    DS_ X (.For (.Tuple elts kk tpos) (.Call (.Attribute e "items" apos) [] [] cpos) body [] pos) (dForD te g tb) := weakS (ps_unl (ps_for hp hc (pi_items (pe_lockA he) hbase hline) hg hb hs)) fun D σ H h => by
  obtain ⟨F0, ρ0, μ0, D', R0, S0, t, k, k2, k3, k4⟩ := h
  refine ⟨F0, ρ0, μ0, _, R0, S0, t, fun d μ1 t1 F1 H1 v s1 R1 r1 => ?_⟩
  cases r1 with
  | dic hd hk hv =>
    rename_i a ds vs
    obtain ⟨W, w0, turn, fin⟩ := t1
    have fin' : ∀ ρ μ, W (itemsS ds).length ρ μ → D'.nx ρ μ := by
      rw [show (itemsS ds).length = ds.length by simp [itemsS]]; exact fin
    have rk : RepK X.K F1 ds vs := ⟨hk, hv⟩
    refine ⟨a, vs, rfl, ?_⟩
    rcases hd with hd | ⟨od, hd⟩
    · refine .inl ⟨R1.sub _ _ hd, fun od h0 => ?_⟩
      obtain ⟨R2, s2⟩ := R1.lockD (od := od) hd
      refine ⟨a, od, vs, rfl, upd_same, ?_⟩
      refine for_core R2 ((S0.mono s1.ext).mono s2.ext) (src_items2 (od := od) ⟨rk.keys, rk.vals.mono s2.ext⟩ upd_same) ⟨W, w0, fun _ _ _ _ _ => trivial, turn, fin'⟩ ?_ ?_
      · intro ρ' μ' q F' H' σ' s R S
        have hF : F' a = some (.frz od (.dK vs)) := s.ext.fz a _ _ upd_same
        exact .inr ⟨a, od, _, R.sub _ _ hF, h0, k ρ' μ' q _ _ σ' (s1.trans (Stp.unlockD hd s)) (R.unlockD hF) (S.mono0 (ext_unlock hF))⟩
      · intro d μ' q F' H' v s R r
        have hF : F' a = some (.frz od (.dK vs)) := s.ext.fz a _ _ upd_same
        exact .inr ⟨a, od, _, R.sub _ _ hF, h0, k2 d μ' q _ _ v (s1.trans (Stp.unlockD hd s)) (R.unlockD hF) (r.mono0 (ext_unlock hF))⟩
    · refine .inr ⟨od, R1.sub _ _ hd, ?_⟩
      refine ⟨a, od, vs, rfl, R1.sub _ _ hd, ?_⟩
      refine for_core R1 (S0.mono s1.ext) (src_items2 (od := od) rk hd) ⟨W, w0, fun _ _ _ _ _ => trivial, turn, fin'⟩ ?_ ?_
      · exact fun ρ' μ' q F' H' σ' s R S => .inl (k ρ' μ' q F' H' σ' (s1.trans s) R S)
      · exact fun d μ' q F' H' v s R r => .inl (k2 d μ' q F' H' v (s1.trans s) R r)
  | _ => exact t1.elim
end
/-! ### freezing a dict with its lists -/
def fz1 (μ : Mu) : SD → SD
  | .ref b => match μ b with
    | some (.lst xs) => .lst xs
    | _ => .ref b
  | d => d
def lstRefs (μ : Mu) (ds : List SD) : List Addr := ds.filterMap fun d => match d with
  | .ref b => match μ b with
    | some (.lst _) => some b
    | _ => none
  | _ => none
def rmL (μ : Mu) (bs : List Addr) : Mu := fun b => if b ∈ bs then none else μ b
theorem rmL_nil (μ : Mu) : rmL μ [] = μ := by funext b; simp [rmL]
theorem rmL_cons (μ : Mu) (a : Addr) (bs : List Addr) : rmL μ (a :: bs) = rmL (rm μ a) bs := by
  funext b; unfold rmL rm; by_cases h : b = a <;> by_cases h2 : b ∈ bs <;> simp [h, h2]
section
variable {K : PySem.W.Frag}
theorem freezeL : ∀ (bs : List Addr) {F H : Hp} {μ : Mu}, HReal K F H μ → (∀ b ∈ bs, ∀ m, μ b = some m → ∃ xs, m = .lst xs) → ∃ F', HReal K F' H (rmL μ bs) ∧ Stp F H μ F' H (rmL μ bs) ∧ ∀ b ∈ bs, ∀ xs, μ b = some (.lst xs) → RepS K F' (.lst xs) (.ref b)
  | [], F, H, μ, R, _ => ⟨F, by rw [rmL_nil]; exact R, by rw [rmL_nil]; exact Stp.refl _ _ _, fun b hb => by cases hb⟩
  | a :: bs, F, H, μ, R, h => by
    rw [rmL_cons]
    have go : ∃ F1, HReal K F1 H (rm μ a) ∧ Stp F H μ F1 H (rm μ a) ∧ ∀ xs, μ a = some (.lst xs) → RepS K F1 (.lst xs) (.ref a) := by
      cases e : μ a with
      | none =>
        have : rm μ a = μ := by funext b; unfold rm; split
                                · rename_i q; rw [q, e]
                                · rfl
        rw [this]; exact ⟨F, R, Stp.refl _ _ _, fun _ z => by cases z⟩
      | some m =>
        obtain ⟨xs, rfl⟩ := h a (List.mem_cons_self ..) m e
        obtain ⟨vs, _, _, R1, s1, r⟩ := R.freeze e
        exact ⟨_, R1, s1, fun _ z => by cases z; exact r⟩
    obtain ⟨F1, R1, s1, r1⟩ := go
    obtain ⟨F2, R2, s2, r2⟩ := freezeL bs R1 fun b hb m q => h b (List.mem_cons_of_mem _ hb) m (by
      unfold rm at q; split at q
      · cases q
      · exact q)
    refine ⟨F2, R2, s1.trans s2, fun b hb xs q => ?_⟩
    by_cases e : b = a
    · subst e; exact (r1 xs q).mono s2.ext
    · rcases List.mem_cons.mp hb with hb | hb
      · exact (e hb).elim
      · exact r2 b hb xs (by rw [rm_ne e]; exact q)
theorem mem_lstRefs {μ : Mu} {ds : List SD} {b : Addr} : b ∈ lstRefs μ ds → ∃ xs, μ b = some (.lst xs) := by
  intro h
  obtain ⟨d, _, e⟩ := List.mem_filterMap.mp h
  cases d <;> simp at e
  split at e
  · rename_i xs q; simp at e; subst e; exact ⟨xs, q⟩
  · cases e
theorem lstRefs_mem {μ : Mu} {ds : List SD} {b : Addr} {xs : List SD} (h : SD.ref b ∈ ds) (e : μ b = some (.lst xs)) : b ∈ lstRefs μ ds := List.mem_filterMap.mpr ⟨_, h, by simp [e]⟩
theorem rep_fz1 {F F' : Hp} {μ : Mu} (ex : Ext F F') : ∀ {ds : List SD} {vs : List V}, (∀ b xs, SD.ref b ∈ ds → μ b = some (.lst xs) → RepS K F' (.lst xs) (.ref b)) → RepL K F ds vs → RepL K F' (ds.map (fz1 μ)) vs
  | _, _, _, .nil => .nil
  | d :: ds, _, h, .cons q r => by
    refine .cons ?_ (rep_fz1 ex (fun b xs hb e => h b xs (List.mem_cons_of_mem _ hb) e) r)
    cases q with
    | ref b =>
      cases e : μ b with
      | none => rw [show fz1 μ (.ref b) = .ref b by simp only [fz1, e]]; exact .ref b
      | some m =>
        cases m with
        | lst xs => rw [show fz1 μ (.ref b) = .lst xs by simp only [fz1, e]]; exact h b xs (List.mem_cons_self ..) e
        | dic xs => rw [show fz1 μ (.ref b) = .ref b by simp only [fz1, e]]; exact .ref b
        | obj C xs => rw [show fz1 μ (.ref b) = .ref b by simp only [fz1, e]]; exact .ref b
        | fdic xs o => rw [show fz1 μ (.ref b) = .ref b by simp only [fz1, e]]; exact .ref b
    | non => exact .non
    | bl => exact .bl _
    | int => exact .int _
    | str => exact .str _
    | ty => exact .ty _
    | tup a b => exact (RepS.tup a b).mono ex
    | lst a b => exact (RepS.lst a b).mono ex
    | rol a b => exact (RepS.rol a b).mono ex
    | dic a b c => exact (RepS.dic a b c).mono ex
    | exc0 a b => exact (RepS.exc0 a b).mono ex
    | exc a b c z r => exact (RepS.exc a b c z r).mono ex
end
def fzD (μ : Mu) (kvs : List (Key × SD)) : List (Key × SD) := kvs.map fun kv => (kv.1, fz1 μ kv.2)
def frzD : (SD → Mu → Prop) → SD → Mu → Prop := fun Q d μ => match d with
  | .ref a => match μ a with
    | some (.dic kvs) => Q (.dic (fzD μ kvs)) (rm (rmL μ (lstRefs μ (kvs.map (·.2)))) a)
    | _ => False
  | _ => False
abbrev dRetFD (te : DTE) : DTS := fun D ρ μ => te ρ μ (frzD D.rt)
section
variable {X : Cx} {e : Expr} {pos : Pos}
theorem ds_retFD {te : DTE} (he : DE X e te) : DS_ X (.Return (some e) pos) (dRetFD te) := weakS (ps_ret he) fun D σ H h => by
  obtain ⟨F, ρ, μ, D', R, S, t, k, k2, k3, k4⟩ := h
  refine ⟨F, ρ, μ, _, R, S, t, fun d μ1 q F1 H1 v s R1 r => ?_⟩
  unfold frzD at q
  split at q
  · rename_i a
    split at q
    · rename_i kvs hm
      cases r
      obtain ⟨F2, R2, s2, r2⟩ := freezeL (lstRefs μ1 (kvs.map (·.2))) R1 fun b hb m e => by
        obtain ⟨xs, z⟩ := mem_lstRefs hb
        rw [z] at e; cases e; exact ⟨xs, rfl⟩
      have ha : rmL μ1 (lstRefs μ1 (kvs.map (·.2))) a = some (.dic kvs) := by
        unfold rmL; rw [if_neg, hm]
        intro hb; obtain ⟨xs, z⟩ := mem_lstRefs hb
        rw [hm] at z; cases z
      obtain ⟨hF, o, hH, ro⟩ := R1.mus a _ hm
      obtain ⟨vs, hH2, R3, s3, r3⟩ := R2.freezeD ha
      cases ro with
      | dic qk qr =>
        rename_i vs'
        rw [hH] at hH2; cases hH2
        refine k2 _ _ q _ H1 _ ((s.trans s2).trans s3) R3 (.dic (.inl upd_same) (by rw [qk]; simp [fzD]) ?_)
        have := rep_fz1 (F' := upd F2 a (.dK vs)) (μ := μ1) (s2.ext.trans s3.ext) (ds := kvs.map (·.2)) (fun b xs hb e => (r2 b (lstRefs_mem hb e) xs e).mono s3.ext) qr
        rw [List.map_map] at this
        rw [fzD, List.map_map]
        exact this
    · exact q.elim
  · exact q.elim
end
end DS
/-! DS11: is None, isinstance of built-in types, the remaining comparisons; a def with all that is known of it. -/
namespace DS
open PySem PySem.Spec PyProof.Rows L2
section
variable {X : Cx} {K : PySem.W.Frag} {a : Expr} {pos pos' : Pos} {j : Nat} {ta : DTE}
def isNon : SD → Bool
  | .non => true
  | _ => false
theorem isNon_rep {F : Hp} {d : SD} {v : V} (r : RepS K F d v) : decide (v = .non) = isNon d := by
  cases r <;> simp [isNon]
abbrev dIsN (ta : DTE) : DTE := fun ρ μ Q => ta ρ μ fun x μ1 => Q (.bl (isNon x)) μ1
abbrev dNotN (ta : DTE) : DTE := fun ρ μ Q => ta ρ μ fun x μ1 => Q (.bl (!isNon x)) μ1
theorem de_isN {j pos'} (ha : DE X a ta) : DE X (.Compare a [.Is] [.Constant .none j pos'] pos) (dIsN ta) := weakE (pe_cmp (pc_isN ha) rfl) fun σ H Q h => by
  obtain ⟨F, ρ, μ, Q', R, S, t, k⟩ := h
  exact ⟨F, ρ, μ, _, R, S, t, fun d μ1 t1 F1 H1 v s1 R1 r1 => k _ μ1 t1 F1 H1 _ s1 R1 (by rw [isNon_rep r1]; exact .bl _)⟩
theorem de_notN {j pos'} (ha : DE X a ta) : DE X (.Compare a [.IsNot] [.Constant .none j pos'] pos) (dNotN ta) := weakE (pe_cmp (pc_notN ha) rfl) fun σ H Q h => by
  obtain ⟨F, ρ, μ, Q', R, S, t, k⟩ := h
  exact ⟨F, ρ, μ, _, R, S, t, fun d μ1 t1 F1 H1 v s1 R1 r1 => k _ μ1 t1 F1 H1 _ s1 R1 (by rw [isNon_rep r1]; exact .bl _)⟩
theorem dt_isN {j pos'} (ha : DE X a ta) : DT X (.Compare a [.Is] [.Constant .none j pos'] pos) (dTest (dIsN ta)) := weakT (pt_cmp (pc_isN ha) rfl) fun σ H Q h => by
  obtain ⟨F, ρ, μ, Q', R, S, t, k⟩ := h
  exact ⟨F, ρ, μ, _, R, S, t, fun d μ1 t1 F1 H1 v s1 R1 r1 => ⟨_, by rw [isNon_rep r1], k _ μ1 t1 F1 H1 s1 R1⟩⟩
theorem dt_notN {j pos'} (ha : DE X a ta) : DT X (.Compare a [.IsNot] [.Constant .none j pos'] pos) (dTest (dNotN ta)) := weakT (pt_cmp (pc_notN ha) rfl) fun σ H Q h => by
  obtain ⟨F, ρ, μ, Q', R, S, t, k⟩ := h
  exact ⟨F, ρ, μ, _, R, S, t, fun d μ1 t1 F1 H1 v s1 R1 r1 => ⟨_, by rw [isNon_rep r1], k _ μ1 t1 F1 H1 s1 R1⟩⟩
abbrev dGt : DR2 := dCmp (fun i j => decide (j < i)) fun s t => decide (t < s)
theorem opr_gt : OpR X (compareOp .Gt) (rCmp (fun i j => decide (j < i)) fun s t => decide (t < s)) := op_gt.or op_gt_str
abbrev dLe : DR2 := dCmp (fun i j => decide (i ≤ j)) fun s t => !decide (t < s)
theorem opr_le : OpR X (compareOp .LtE) (rCmp (fun i j => decide (i ≤ j)) fun s t => !decide (t < s)) := op_le.or op_le_str
abbrev dGe : DR2 := dCmp (fun i j => decide (j ≤ i)) fun s t => !decide (s < t)
theorem opr_ge : OpR X (compareOp .GtE) (rCmp (fun i j => decide (j ≤ i)) fun s t => !decide (s < t)) := op_ge.or op_ge_str
def tyD (μ : Mu) : SD → Option String
  | .non => some "NoneType"
  | .bl _ => some "bool"
  | .int _ => some "int"
  | .str _ => some "str"
  | .tup _ => some "tuple"
  | .lst _ => some "list"
  | .rol _ => some "list"
  | .dic _ => some "dict"
  | .ref a => match μ a with
    | some (.lst _) => some "list"
    | some (.dic _) => some "dict"
    | _ => none
  | .ty _ => none
  | .exc _ _ => none
theorem HReal.ty {F H : Hp} {μ : Mu} (R : HReal K F H μ) {d : SD} {v : V} {t : String} (r : RepS K F d v) (h : tyD μ d = some t) : TyX K H v (.type t) := by
  cases r with
  | non => cases h; exact .base .non
  | bl b => cases h; exact .base (.bl b)
  | int i => cases h; exact .base (.int i)
  | str x => cases h; exact .base (.str x)
  | ty n => cases h
  | tup q _ =>
    cases h
    rcases R.ext.sqT q with (q | ⟨o, q⟩) | ⟨o, its, n, q, c, _⟩
    · exact .base (.tup q)
    · exact .fTuple q
    · exact .kTuple q c
  | lst q _ => cases h; exact .base (.lst (R.ext.ls _ _ q))
  | rol q _ =>
    cases h
    rcases R.ext.sqL q with (q | ⟨o, q⟩) | ⟨o, its, n, q, c, _⟩
    · exact .base (.lst q)
    · exact .base (.frz q)
    · exact .kList q c
  | dic q _ _ =>
    cases h
    rcases R.ext.rd _ _ q with q | ⟨o, q⟩
    · exact .base (.dK q)
    · exact .fDict q
  | ref a =>
    simp only [tyD] at h
    split at h
    · rename_i xs e
      cases h
      obtain ⟨_, o, q, ro⟩ := R.mus a _ e
      cases ro; exact .base (.lst q)
    · rename_i xs e
      cases h
      obtain ⟨_, o, q, ro⟩ := R.mus a _ e
      cases ro; exact .base (.dK q)
    · cases h
  | exc0 _ _ => cases h
  | exc _ _ _ _ _ => cases h
def isiB (μ : Mu) (d : SD) (n : String) : Option Bool := match tyD μ d with
  | some t => kitB t n
  | none => none
def drIsi : DRc := fun ds μ Q => match ds with
  | [d, .ty n] => match isiB μ d n with
    | some b => Q (.bl b) μ
    | none => False
  | _ => False
theorem lc_isi : LRc K drIsi (rIsi K) := fun F H μ xs ds Q' Q R r t k => by
  unfold drIsi at t
  split at t
  · rename_i d n
    cases r with
    | cons r1 r2 => cases r2 with
      | cons r2 r3 =>
        cases r2; cases r3
        split at t
        · rename_i b e
          unfold isiB at e
          split at e
          · rename_i T eT
            exact ⟨_, _, _, _, b, rfl, .ty n, R.ty r1 eT, kit_ty e, k _ _ t _ _ _ (Stp.refl _ _ _) R (.bl b)⟩
          · cases e
        · exact t.elim
  · exact t.elim
/-- the name of a built-in type -/
theorem de_ty {x : Str} {T : String} {p : Pos} (hg : Gl X x) (hm : X.mg x = none) (hv : bootBuiltins x = some (.type T)) (hn : x ≠ "__name__" := by decide) (hd : (x == ("__debug__" : Str)) = false := by decide) : DE X (.Name x p) (dC (.ty T)) :=
  liftC (t := tC (.ty T)) (pe_bltn hg hm hv (show RelV (.ty T) (Value.type T) from rfl) hn hd) rfl
end
/-- a def that stands in the written part -/
structure Def (K : PySem.W.Frag) (mg : Str → Option Value) (x : Str) (st : Stmt) (ps : List Str) where
  f : Addr
  fd : FuncData
  F : Fun K x x st f fd
  m : mg x = some (.ref f)
  b : Binds K fd ps []
section
variable {X : Cx} {k n : Nat} {x : Str} {st : Stmt} {ps ks : List Str} {sp : DSp} {p pos : Pos} {e : Expr} {es : List Expr} {kws : List Keyword} {t tk : DTA}
abbrev FnD (P : Program) (w : World) (base : Heap) {K : PySem.W.Frag} {mg : Str → Option Value} {x : Str} {st : Stmt} {ps : List Str} (D : Def K mg x st ps) (k : Nat) (sp : DSp) : Prop := FnG P w K mg base CX0 k D.f D.fd ps (LSp K sp)
theorem Room.le {A : Around} (h : Room n A) (hk : k ≤ n) : Room k A := h.mono hk
theorem de_def {D : Def X.K X.mg x st ps} (F : FnD X.prog X.w X.base D k sp) (hq : Quiet X.A) (hr : Room n X.A) (ha : DA X (e :: es) t) (hk : k ≤ n := by omega) (hg : Gl X x := by rfl)
    (hdb : (x == ("__debug__" : Str)) = false := by decide) (he : starEach (e :: es) X.env = (false, eval e X.env) :: starEach es X.env := by rfl) (hpl : (backTo pos (starEach es X.env)).any (·.1) = false := by rfl) :
    DE X (.Call (.Name x p) (e :: es) [] pos) (dCall sp [] t) := de_call F hq (hr.mono hk) hg D.m D.F.kp D.b pass0 ha hdb he hpl
theorem de_def0 {D : Def X.K X.mg x st ps} (F : FnD X.prog X.w X.base D k sp) (hq : Quiet X.A) (hr : Room n X.A) (hk : k ≤ n := by omega) (hg : Gl X x := by rfl)
    (hdb : (x == ("__debug__" : Str)) = false := by decide) : DE X (.Call (.Name x p) [] [] pos) (dCall sp [] dNil) := de_call0 F hq (hr.mono hk) hg D.m D.F.kp D.b pass0 hdb
theorem de_defK {D : Def X.K X.mg x st ps} {ix : List (Nat ⊕ Nat)} {np nk : Nat} (F : FnD X.prog X.w X.base D k sp) (hq : Quiet X.A) (hr : Room n X.A) (hb : KBinds X.K D.fd ps ks (kwG ix np nk) (kwG ix np nk))
    (ha : DA X (e :: es) t) (hkw : DK X kws tk) (hk : k ≤ n := by omega) (hg : Gl X x := by rfl) (hall : (backToKw pos (keywordEach kws X.env)).all (·.1.isSome) = true := by rfl) (hks : (backToKw pos (keywordEach kws X.env)).filterMap (·.1) = ks := by rfl)
    (hdb : (x == ("__debug__" : Str)) = false := by decide) (he : starEach (e :: es) X.env = (false, eval e X.env) :: starEach es X.env := by rfl)
    (hpl : ((backTo pos (starEach (e :: es) X.env)).any (·.1) || (backToKw pos (keywordEach kws X.env)).any (·.1.isNone)) = false := by rfl) : DE X (.Call (.Name x p) (e :: es) kws pos) (dCallK sp ix np nk t tk) :=
  de_callK F hq (hr.mono hk) hg D.m D.F.kp hb pass0 ha hkw hall hks hdb he hpl
theorem de_defK0 {D : Def X.K X.mg x st ps} {ix : List (Nat ⊕ Nat)} {nk : Nat} (F : FnD X.prog X.w X.base D k sp) (hq : Quiet X.A) (hr : Room n X.A) (hb : KBinds X.K D.fd ps ks (kwG ix 0 nk) (kwG ix 0 nk))
    (hkw : DK X kws tk) (hk : k ≤ n := by omega) (hg : Gl X x := by rfl) (hall : (backToKw pos (keywordEach kws X.env)).all (·.1.isSome) = true := by rfl) (hks : (backToKw pos (keywordEach kws X.env)).filterMap (·.1) = ks := by rfl)
    (hdb : (x == ("__debug__" : Str)) = false := by decide) (hpl : ((backToKw pos (keywordEach kws X.env)).any (·.1.isNone)) = false := by rfl) : DE X (.Call (.Name x p) [] kws pos) (dCallK sp ix 0 nk dNil tk) :=
  de_callK0 F hq (hr.mono hk) hg D.m D.F.kp hb pass0 hkw hall hks hdb hpl
theorem dv (i : Nat) {x : Str} {pos : Pos} (hN : X.N[i]? = some x := by rfl) (hv : Vis X.env.scope x := by first | exact Or.inl rfl | exact Or.inr (Or.inl rfl) | exact Or.inr (Or.inr rfl)) (hd : (x == ("__debug__" : Str)) = false := by decide)
    (hcd : (x == ("__classdict__" : Str)) = false := by decide) : DE X (.Name x pos) (dVar i) := de_var hN hv hd hcd
end
theorem bt_len : bootBuiltins "len" = some (.builtin "len") := by decide +kernel
theorem bt_repr : bootBuiltins "repr" = some (.builtin "repr") := by decide +kernel
theorem bt_abs : bootBuiltins "abs" = some (.builtin "abs") := by decide +kernel
theorem bt_min : bootBuiltins "min" = some (.builtin "min") := by decide +kernel
theorem bt_max : bootBuiltins "max" = some (.builtin "max") := by decide +kernel
theorem bt_all : bootBuiltins "all" = some (.builtin "all") := by decide +kernel
theorem bt_any : bootBuiltins "any" = some (.builtin "any") := by decide +kernel
theorem bt_isinstance : bootBuiltins "isinstance" = some (.builtin "isinstance") := by decide +kernel
theorem bt_sorted : bootBuiltins "sorted" = some (.builtin "sorted") := by decide +kernel
theorem bt_sum : bootBuiltins "sum" = some (.builtin "sum") := by decide +kernel
theorem bt_int : bootBuiltins "int" = some (.type "int") := by decide +kernel
theorem bt_bool : bootBuiltins "bool" = some (.type "bool") := by decide +kernel
theorem bt_str : bootBuiltins "str" = some (.type "str") := by decide +kernel
theorem bt_list : bootBuiltins "list" = some (.type "list") := by decide +kernel
theorem bt_dict : bootBuiltins "dict" = some (.type "dict") := by decide +kernel
theorem bt_tuple : bootBuiltins "tuple" = some (.type "tuple") := by decide +kernel
theorem bt_set : bootBuiltins "set" = some (.type "set") := by decide +kernel
theorem bt_range : bootBuiltins "range" = some (.type "range") := by decide +kernel
theorem bt_enumerate : bootBuiltins "enumerate" = some (.type "enumerate") := by decide +kernel
theorem bt_zip : bootBuiltins "zip" = some (.type "zip") := by decide +kernel
theorem bt_float : bootBuiltins "float" = some (.type "float") := by decide +kernel
theorem bt_bytes : bootBuiltins "bytes" = some (.type "bytes") := by decide +kernel
end DS
/-! DS12: short forms for printed walks. -/
namespace DS
open PySem PySem.Spec PyProof.Rows L2
section
variable {X : Cx} {o e i a b : Expr} {es : List Expr} {apos cpos p pos : Pos} {to te ti td ty : DTE} {t : DTA} {k : Nat}
theorem de_append (ho : DE X o to) (ha : DE X e te) (hs : starEach [e] X.env = (false, eval e X.env) :: starEach [] X.env := by rfl) (hbase : attributeBase o "append" X.env (eval o X.env) = eval o X.env := by rfl)
    (hfew : ((backTo cpos (starEach [e] X.env)).all (fun x => !x.1) && (backToKw cpos (keywordEach [] X.env)).all (fun x => x.1.isSome) && decide (([e] : List Expr).length + ([] : List Keyword).length + (if ([] : List Keyword).isEmpty then 0 else 1) < 30)) = true := by rfl)
    (hline : (apos.endLine == cpos.line) = true := by rfl) (hplain : (backTo cpos (starEach [] X.env)).any (·.1) = false := by rfl) :
    DE X (.Call (.Attribute o "append" apos) [e] [] cpos) (dLM dmAppend to (dCons te dNil)) := de_lm F.plainAttrs_list F.slot_list_append F.type_list_append mt_append lm_append ho (da_cons ha da_nil hs) hbase hfew hline hs hplain
theorem de_extend (ho : DE X o to) (ha : DE X e te) (hs : starEach [e] X.env = (false, eval e X.env) :: starEach [] X.env := by rfl) (hbase : attributeBase o "extend" X.env (eval o X.env) = eval o X.env := by rfl)
    (hfew : ((backTo cpos (starEach [e] X.env)).all (fun x => !x.1) && (backToKw cpos (keywordEach [] X.env)).all (fun x => x.1.isSome) && decide (([e] : List Expr).length + ([] : List Keyword).length + (if ([] : List Keyword).isEmpty then 0 else 1) < 30)) = true := by rfl)
    (hline : (apos.endLine == cpos.line) = true := by rfl) (hplain : (backTo cpos (starEach [] X.env)).any (·.1) = false := by rfl) :
    DE X (.Call (.Attribute o "extend" apos) [e] [] cpos) (dLM dmExtend to (dCons te dNil)) := de_lm F.plainAttrs_list F.slot_list_extend F.type_list_extend mt_extA lm_extend ho (da_cons ha da_nil hs) hbase hfew hline hs hplain
theorem de_insert (ho : DE X o to) (hi : DE X i ti) (ha : DE X e te) (hs : starEach [i, e] X.env = (false, eval i X.env) :: starEach [e] X.env := by rfl) (hs2 : starEach [e] X.env = (false, eval e X.env) :: starEach [] X.env := by rfl) (hbase : attributeBase o "insert" X.env (eval o X.env) = eval o X.env := by rfl)
    (hfew : ((backTo cpos (starEach [i, e] X.env)).all (fun x => !x.1) && (backToKw cpos (keywordEach [] X.env)).all (fun x => x.1.isSome) && decide (([i, e] : List Expr).length + ([] : List Keyword).length + (if ([] : List Keyword).isEmpty then 0 else 1) < 30)) = true := by rfl)
    (hline : (apos.endLine == cpos.line) = true := by rfl) (hplain : (backTo cpos (starEach [e] X.env)).any (·.1) = false := by rfl) :
    DE X (.Call (.Attribute o "insert" apos) [i, e] [] cpos) (dLM dmInsert to (dCons ti (dCons te dNil))) := de_lm F.plainAttrs_list F.slot_list_insert F.type_list_insert mt_insert lm_insert ho (da_cons hi (da_cons ha da_nil hs2) hs) hbase hfew hline hs hplain
theorem de_pop (ho : DE X o to) (hbase : attributeBase o "pop" X.env (eval o X.env) = eval o X.env := by rfl) (hline : (apos.endLine == cpos.line) = true := by rfl) :
    DE X (.Call (.Attribute o "pop" apos) [] [] cpos) (dLM0 dmPop to) := de_lm0 F.plainAttrs_list F.slot_list_pop F.type_list_pop mt_pop lm_pop ho hbase hline
theorem dt_din (hu : X.A.units + 1 < cLine) (hi : DE X i ty) (ho : DE X o td) (hm : behindInMarks .In o = false := by with_unfolding_all rfl) : DT X (.Compare i [.In] [o] pos) (dTest (dDIn false ty td)) := weakT (pt_cmp (pc_din hu hi ho) hm) fun σ H Q h => by
  obtain ⟨F, ρ, μ, Q', R, S, t, k⟩ := h
  have := lift_din (neg := false) σ H (fun x H' => ∃ c, x = V.bl c ∧ Q c H') ⟨F, ρ, μ, _, R, S, t, fun d μ' q F' H' v s R' r' => ?_⟩
  · simpa [tB, tDIn] using this
  cases r' with
  | bl b => exact ⟨b, rfl, k b μ' q F' H' s R'⟩
  | _ => exact q.elim
theorem dt_dnotin (hu : X.A.units + 1 < cLine) (hi : DE X i ty) (ho : DE X o td) (hm : behindInMarks .NotIn o = false := by with_unfolding_all rfl) : DT X (.Compare i [.NotIn] [o] pos) (dTest (dDIn true ty td)) := weakT (pt_cmp (pc_dnotin hu hi ho) hm) fun σ H Q h => by
  obtain ⟨F, ρ, μ, Q', R, S, t, k⟩ := h
  have := lift_din (neg := true) σ H (fun x H' => ∃ c, x = V.bl c ∧ Q c H') ⟨F, ρ, μ, _, R, S, t, fun d μ' q F' H' v s R' r' => ?_⟩
  · simpa [tB, tDNotIn] using this
  cases r' with
  | bl b => exact ⟨b, rfl, k b μ' q F' H' s R'⟩
  | _ => exact q.elim
end
theorem len_of {sp : DSp} {n : Nat} (h : ∀ ds μ Q E, sp ds μ Q E → ds.length = n) {ps : List Str} (e : ps.length = n := by rfl) : ∀ ds μ Q E, sp ds μ Q E → ds.length = ps.length := fun ds μ Q E q => (h ds μ Q E q).trans e.symm
theorem unit64 {A : Around} {k : Nat} (h : Room k A) : A.units + 64 < cLine := by have := h.un; omega
theorem unit66 {A : Around} {k : Nat} (h : Room k A) : A.units + 66 < cLine := by have := h.un; omega
/-- the script is handed in -/
theorem law_start {K : PySem.W.Frag} {H : Hp} {a : Addr} {ns : List Int} {sp : DSp} (hS : SqL K H a (ns.map V.int)) (h : ∀ μ, sp [.rol (ns.map SD.int)] μ (fun d _ => d = .bl true) (fun _ _ _ => False)) : LSp K sp [.ref a] H (fun v _ => v = .bl true) fun _ _ _ => False :=
  ⟨H, fun _ => none, [.rol (ns.map SD.int)], _, _, ⟨fun _ _ e => e, fun _ _ e => by cases e⟩, .one (.rol hS (RepL.ofInts ns)), h _, fun d μ' q F' H' v s R r => by subst q; cases r; rfl, fun _ _ _ q => q.elim⟩
end DS
/-! DS13: loops over a dict that may change otherwise, text methods, constants of the module. -/
namespace DS
open PySem PySem.Spec PyProof.Rows L2
section
variable {K : PySem.W.Frag} {F0 H0 : Hp} {μ0 : Mu} {a : Addr} {od : Obj} {kvs : List (Key × SD)} {vs : List (Key × V)}
theorem fdic_at {F H : Hp} {μ : Mu} {o : HO} (R : HReal K F H μ) (h : μ a = some (.fdic kvs o)) : H a = some o ∧ ∃ ob vs, o = .frz ob (.dK vs) ∧ RepK K F kvs vs := by
  obtain ⟨_, o', e, r⟩ := R.mus a _ h
  cases r with
  | fdic q r => exact ⟨e, _, _, rfl, ⟨q, r⟩⟩
theorem src_itemsM (rk : RepK K F0 kvs vs) : Src K F0 H0 μ0 (Iti a od vs) (itemsS kvs) fun μ => μ a = some (.fdic kvs (.frz od (.dK vs))) where
  go := fun i F H μ s R h hi => ⟨(fdic_at R h).1, by rw [← rk.len]; simpa [itemsS] using hi⟩
  stop := fun F H μ s R h => ⟨(fdic_at R h).1, by rw [← rk.len]; simp [itemsS]⟩
  yld := fun i F H μ x H' s R _ y e hd => by
    obtain ⟨T, k, v, h1, rfl, hT, rfl⟩ := y
    obtain ⟨dd, h2, h3⟩ := rk.get h1
    have : (itemsS kvs)[i]? = some (.tup [keyS k, dd]) := by simp [itemsS, h2]
    rw [this] at hd; cases hd
    have ex : Ext F (upd F T (.tup [kV k, v])) := Ext.new (R.freeF hT)
    exact ⟨_, Stp.newS R hT, R.newS hT, .tup (.inl (.inl upd_same)) (.cons (keyS_rep k) (.one ((h3.mono s.ext).mono ex)))⟩
def keysS (kvs : List (Key × SD)) : List SD := kvs.map fun kv => keyS kv.1
theorem src_keysM (rk : RepK K F0 kvs vs) : Src K F0 H0 μ0 (Itk a od vs) (keysS kvs) fun μ => μ a = some (.fdic kvs (.frz od (.dK vs))) where
  go := fun i F H μ s R h hi => ⟨(fdic_at R h).1, by rw [← rk.len]; simpa [keysS] using hi⟩
  stop := fun F H μ s R h => ⟨(fdic_at R h).1, by rw [← rk.len]; simp [keysS]⟩
  yld := fun i F H μ x H' s R _ y e hd => by
    obtain ⟨rfl, k, v, h1, rfl⟩ := y
    obtain ⟨dd, h2, h3⟩ := rk.get h1
    have : (keysS kvs)[i]? = some (keyS k) := by simp [keysS, h2]
    rw [this] at hd; cases hd
    exact ⟨F, Stp.refl _ _ _, R, keyS_rep k⟩
end
/-- a loop over (the items of) a dict in memory -/
def dForM (items : List (Key × SD) → List SD) (te : DTE) (g : DTG) (tb : DTS) : DTS := fun D ρ μ => te ρ μ fun d μ1 => match d with
  | .ref a => match μ1 a with
    | some (.dic kvs) => ∀ o, ∃ W : Nat → Rho → Mu → Prop, W 0 ρ (up μ1 a (.fdic kvs o)) ∧ (∀ i ρ μ, i ≤ (items kvs).length → W i ρ μ → μ a = some (.fdic kvs o)) ∧
      (∀ i d ρ μ, (items kvs)[i]? = some d → W i ρ μ → g d ρ μ fun ρ2 μ2 => tb { nx := W (i + 1), ct := W (i + 1), bk := fun ρ μ => μ a = some (.fdic kvs o) ∧ D.nx ρ (up μ a (.dic kvs)), rt := fun d μ => μ a = some (.fdic kvs o) ∧ D.rt d (up μ a (.dic kvs)) } ρ2 μ2) ∧
      ∀ ρ μ, W (items kvs).length ρ μ → D.nx ρ (up μ a (.dic kvs))
    | _ => False
  | _ => False
section
variable {X : Cx} {e tg : Expr} {pos : Pos}
theorem lift_forM {items : List (Key × SD) → List SD} {mk : Addr → Obj → List (Key × V) → It} {g : DTG} {tb : DTS} {te : DTE} {K : PySem.W.Frag} {H_0 : Hp} {P : V → Hp → (It → Hp → Prop) → Prop} (hP : ∀ d o kvs H R, H d = some (.frz o (.dK kvs)) → R (mk d o kvs) H → P (.ref d) H R)
    (src : ∀ {F0 H0 : Hp} {μ0 : Mu} {a : Addr} {od : Obj} {kvs : List (Key × SD)} {vs : List (Key × V)}, RepK K F0 kvs vs → Src K F0 H0 μ0 (mk a od vs) (items kvs) fun μ => μ a = some (.fdic kvs (.frz od (.dK vs)))) :
    ∀ D σ H, LS K (dForM items te g tb) D σ H → tUnl H_0 (tFor (fun σ H R => tLockA H_0 (LE K te) σ H fun x H1 => P x H1 R) (LG K g) (LS K tb)) D σ H := fun D σ H h => by
  obtain ⟨F0, ρ0, μ0, D', R0, S0, t, k, k2, k3, k4⟩ := h
  refine ⟨F0, ρ0, μ0, _, R0, S0, t, fun d μ1 t1 F1 H1 v s1 R1 r1 => ?_⟩
  cases r1 with
  | ref a =>
    simp only at t1
    split at t1
    · rename_i kvs hm
      obtain ⟨hF, o, hH, ro⟩ := R1.mus a _ hm
      cases ro with
      | dic q r =>
        rename_i vs
        refine ⟨a, vs, rfl, .inl ⟨hH, fun od h0 => ?_⟩⟩
        obtain ⟨W, w0, hok, turn, fin⟩ := t1 (.frz od (.dK vs))
        have rk : RepK K F1 kvs vs := ⟨q, r⟩
        have R2 : HReal K F1 (upd H1 a (.frz od (.dK vs))) (up μ1 a (.fdic kvs (.frz od (.dK vs)))) := R1.put hm (.fdic q r)
        have s2 : Stp F1 H1 μ1 F1 (upd H1 a (.frz od (.dK vs))) (up μ1 a (.fdic kvs (.frz od (.dK vs)))) := Stp.put hm
        refine hP a od vs _ _ upd_same ?_
        have back : ∀ {F' H' : Hp} {μ' : Mu}, HReal K F' H' μ' → μ' a = some (.fdic kvs (.frz od (.dK vs))) → H' a = some (.frz od (.dK vs)) ∧ HReal K F' (upd H' a (.dK vs)) (up μ' a (.dic kvs)) ∧ Stp F' H' μ' F' (upd H' a (.dK vs)) (up μ' a (.dic kvs)) := fun R' e => by
          obtain ⟨h1, ob, vs', e2, rk'⟩ := fdic_at R' e
          cases e2
          exact ⟨h1, R'.put e (.dic rk'.keys rk'.vals), Stp.put e⟩
        refine for_core (D' := { nx := fun ρ μ => μ a = some (.fdic kvs (.frz od (.dK vs))) ∧ D'.nx ρ (up μ a (.dic kvs)), rt := fun d μ => μ a = some (.fdic kvs (.frz od (.dK vs))) ∧ D'.rt d (up μ a (.dic kvs)) }) R2 ((S0.mono s1.ext).mono s2.ext) (src rk) ⟨W, w0, hok, turn, fun ρ μ w => ⟨hok _ ρ μ (Nat.le_refl _) w, fin ρ μ w⟩⟩ ?_ ?_
        · rintro ρ' μ' ⟨e, qn⟩ F' H' σ' s R S
          obtain ⟨h1, R3, s3⟩ := back R e
          exact .inr ⟨a, od, _, h1, h0, k ρ' _ qn F' _ σ' (((s1.trans s2).trans s).trans s3) R3 S⟩
        · rintro d μ' ⟨e, qn⟩ F' H' v s R r
          obtain ⟨h1, R3, s3⟩ := back R e
          exact .inr ⟨a, od, _, h1, h0, k2 d _ qn F' _ v (((s1.trans s2).trans s).trans s3) R3 r⟩
    · exact t1.elim
  | _ => exact t1.elim
theorem ds_forKeysM {body : List Stmt} {te : DTE} {g : DTG} {tb : DTS} (hp : PassesOwn (model X.prog X.w) X.A X.env X.xe) (hc : X.calm = true) (he : DE X e te) (hg : DG X tg g) (hb : DSs X body tb) (hs : ∀ x, foldedSetIterable e X.env x = pure x := by intro _; rfl) :
    DS_ X (.For tg e body [] pos) (dForM keysS te g tb) := weakS (ps_unl (ps_for hp hc (pi_keys (pe_lockA he)) hg hb hs)) (lift_forM (mk := Itk) (fun d o kvs H R h r => ⟨d, o, rfl, .inl ⟨kvs, h, r⟩⟩) fun rk => src_keysM rk)
theorem ds_forItemsM {body : List Stmt} {elts : List Expr} {kk : Nat} {tpos apos cpos : Pos} {te : DTE} {g : DTG} {tb : DTS} (hp : PassesOwn (model X.prog X.w) X.A X.env X.xe) (hc : X.calm = true) (he : DE X e te) (hg : DG X (.Tuple elts kk tpos) g) (hb : DSs X body tb)
    (hbase : attributeBase e "items" X.env (eval e X.env) = eval e X.env := by rfl) (hline : (apos.endLine == cpos.line) = true := by rfl)
    (hs : ∀ x, foldedSetIterable (.Call (.Attribute e "items" apos) [] [] cpos) X.env x = pure x := by intro _; rfl) :
    DS_ X (.For (.Tuple elts kk tpos) (.Call (.Attribute e "items" apos) [] [] cpos) body [] pos) (dForM itemsS te g tb) := weakS (ps_unl (ps_for hp hc (pi_items (pe_lockA he) hbase hline) hg hb hs)) (lift_forM (mk := Iti) (fun d o kvs H R h r => ⟨d, o, kvs, rfl, h, r⟩) fun rk => src_itemsM rk)
/-- texts of a list or tuple -/
def strsOf : List SD → Option (List Str)
  | [] => some []
  | .str s :: r => match strsOf r with
    | some l => some (s :: l)
    | none => none
  | _ :: _ => none
theorem strsOf_rep : ∀ {F : Hp} {K : PySem.W.Frag} {ds : List SD} {vs : List V} {l : List Str}, RepL K F ds vs → strsOf ds = some l → vs = l.map V.str
  | _, _, [], _, _, .nil, e => by cases e; rfl
  | _, _, d :: ds, _, l, .cons q r, e => by
    cases d with
    | str s =>
      unfold strsOf at e
      cases e2 : strsOf ds with
      | none => rw [e2] at e; cases e
      | some l2 => rw [e2] at e; cases e; cases q; rw [strsOf_rep r e2]; rfl
    | _ => cases e
theorem strsOf_map (l : List Str) : strsOf (l.map SD.str) = some l := by
  induction l with
  | nil => rfl
  | cons a r ih => rw [List.map_cons, strsOf, ih]
def drJoin (x y : SD) (μ : Mu) (Q : SD → Mu → Prop) : Prop := match x with
  | .str a => match seqD μ y with
    | some ds => match strsOf ds with
      | some ys => (ys.map (·.length)).sum + ys.length * a.length ≤ 16777216 ∧ Q (.str (Txt.join a ys)) μ
      | none => False
    | none => False
  | _ => False
def isStr : SD → Bool
  | .str _ => true
  | _ => false
abbrev dJoin (to te : DTE) : DTE := fun ρ μ Q => to ρ μ fun x μ1 => isStr x = true ∧ te ρ μ1 fun y μ2 => drJoin x y μ2 Q
theorem de_join {o e : Expr} {to te : DTE} {apos pos : Pos} (ho : DE X o to) (he : DE X e te) (hs : starEach [e] X.env = [(false, eval e X.env)] := by rfl) (hbase : attributeBase o "join" X.env (eval o X.env) = eval o X.env := by rfl) (hline : (apos.endLine == pos.line) = true := by rfl) :
    DE X (.Call (.Attribute o "join" apos) [e] [] pos) (dJoin to te) := weakE (pe_join ho he hs hbase hline) fun σ H Q h => by
  obtain ⟨F, ρ, μ, Q', R, S, t, k⟩ := h
  refine ⟨F, ρ, μ, _, R, S, t, fun d μ1 t1 F1 H1 v s1 R1 r1 => ?_⟩
  obtain ⟨hst, t1⟩ := t1
  cases d with
  | str a =>
    cases r1
    refine ⟨⟨a, rfl⟩, F1, ρ, μ1, _, R1, S.mono s1.ext, t1, fun y μ2 t2 F2 H2 w s2 R2 r2 => ?_⟩
    unfold drJoin at t2
    simp only at t2
    split at t2
    · rename_i ds e
      split at t2
      · rename_i ys e2
        obtain ⟨p, vs, rfl, rl, hq⟩ := R2.seq' r2 e
        obtain rfl := strsOf_rep rl e2
        exact ⟨a, p, ys, rfl, rfl, hq, t2.1, k _ _ t2.2 F2 H2 _ (s1.trans s2) R2 (.str _)⟩
      · exact t2.elim
    · exact t2.elim
  | _ => cases hst
/-- a text that the module has named -/
theorem de_gstr {x : Str} {y : Str} {p : Pos} (h : ∃ t, X.mg x = some (.str y t)) (hg : Gl X x := by rfl) (hd : (x == ("__debug__" : Str)) = false := by decide) : DE X (.Name x p) (dC (.str y)) := by
  obtain ⟨t, h⟩ := h
  exact liftC (t := tC (.str y)) (pe_glob hg h (show RelV (.str y) (Value.str y t) from ⟨t, rfl⟩) hd) rfl
theorem de_gint {x : Str} {i : Int} {p : Pos} (h : ∃ t, X.mg x = some (.int i t)) (hg : Gl X x := by rfl) (hd : (x == ("__debug__" : Str)) = false := by decide) : DE X (.Name x p) (dC (.int i)) := by
  obtain ⟨t, h⟩ := h
  exact liftC (t := tC (.int i)) (pe_glob hg h (show RelV (.int i) (Value.int i t) from ⟨t, rfl⟩) hd) rfl
end
end DS
/-! DS14: sets of texts: made of a list or tuple, told by who is in. -/
namespace DS
open PySem PySem.Spec PyProof.Rows L2
/-- u: the different ones of l -/
structure Dist {α : Type} (l u : List α) : Prop where
  nd : u.Nodup
  mem : ∀ k, k ∈ u ↔ k ∈ l
theorem Dist.nil {α : Type} {l : List α} : Dist (l.take 0) [] := ⟨List.nodup_nil, fun k => by simp⟩
theorem strsAre_len {vs : List Value} {ns : List Str} (h : StrsAre vs ns) : vs.length = ns.length := by
  induction h with
  | nil => rfl
  | cons k t r ih => exact congrArg (· + 1) ih
theorem strsAre_at {vs : List Value} {ns : List Str} (h : StrsAre vs ns) : ∀ (i : Nat) (v : Value), vs[i]? = some v → ∃ (k : Str) (t : Tok), ns[i]? = some k ∧ v = Value.str k t := by
  induction h with
  | nil => intro i v e; simp at e
  | cons k t r ih =>
    intro i v e
    cases i with
    | zero => simp at e; subst e; exact ⟨_, _, rfl, rfl⟩
    | succ i =>
      obtain ⟨k', t', a, b⟩ := ih i v (by simpa using e)
      exact ⟨k', t', by simpa using a, b⟩
abbrev eset (w : World) : Obj := { cls := .type "set", dict := none, data := .set #[] 0 (.fresh 0 0 (!w.params.followText "set-order")) }
/-- the set at a: who is in is in ns, as many as u has -/
def TxSet (P : Program) (w : World) (h : Heap) (a : Addr) (ns u : List Str) : Prop := h.SetOf (strKind P w) a (fun j => decide (j ∈ ns)) u.length
section
variable {P : Program} {w : World} {A : Around} {E : Value → Shared → Prop} {s : Shared}
theorem txSet_new {h : Heap} {a : Addr} {ns : List Str} (ho : h.get? a = some (eset w)) : TxSet P w h a (ns.take 0) [] :=
  ⟨_, #[], 0, _, ho, ⟨rfl, rfl, rfl⟩, rfl, (fun e he => by simp at he), (fun k => by simp), (by decide), (by rfl), rfl⟩
theorem TxSet.keep {h h' : Heap} {a : Addr} {ns u : List Str} (R : TxSet P w h a ns u) (k : ∀ o, h.get? a = some o → h'.get? a = some o) : TxSet P w h' a ns u := by
  obtain ⟨o, es, ep, t, ho, r⟩ := R
  exact ⟨o, es, ep, t, k o ho, r⟩
theorem set_update_strs {I : Addr} {fp wr : List Addr} {G : Array GenState → Array GenState → Prop} {n : Nat} {Pv : Nat → Value → Prop} {St : Nat → Shared → Prop} {R : Result → Shared → Prop}
    (W : WalksS P w A.in1 I fp wr G n Pv St) (S : Addr) (apart : S ∉ fp) (ns : List Str) (hn : n = ns.length) (hb : ns.length + 1 < scanBound) (vals : ∀ i v, Pv i v → ∃ k t, ns[i]? = some k ∧ v = .str k t) :
    ∀ (m i : Nat) (s : Shared), n - i = m → i ≤ n → St i s → (∃ u, Dist (ns.take i) u ∧ u.length ≤ i ∧ TxSet P w s.heap S (ns.take i) u) →
      (∀ s' u, Moved (S :: wr) G s s' → Dist ns u → TxSet P w s'.heap S ns u → R (.ok (.ret .none)) s') →
      codeAny (model P w) A (.builtin "set.update.loop" ⟨[Value.ref S, Value.ref I], []⟩) R s := by
  have notW : S ∉ wr := fun h => apart (W.sub S h)
  have more : ∀ b ∈ wr, b ∈ S :: wr := fun b hb => List.mem_cons_of_mem S hb
  intro m
  induction m with
  | zero =>
    intro i s hm hi st ⟨u, hd, hu, hS⟩ hR
    obtain rfl : i = n := by omega
    refine codeAny_builtin F.entry_set_update_loop ?_
    rw [Around.under_plainId F.plain_set_update_loop _]
    show wpAny (model P w) A.in1 (pyNext (.ref I) >>= _) _ _ s
    refine wpAny_bind (W.done s _ _ st fun s' hm => ?_)
    show wpAny (model P w) A.in1 (ret Value.none) _ _ s'
    have e : ns.take i = ns := List.take_of_length_le (by omega)
    rw [e] at hS hd
    exact wpAny_pure (hR s' u (hm.mono more) hd (hS.keep fun o e => hm.heap S o notW e))
  | succ m ih =>
    intro i s hm hi st ⟨u, hd, hu, hS⟩ hR
    have hlt : i < n := by omega
    refine codeAny_builtin F.entry_set_update_loop ?_
    rw [Around.under_plainId F.plain_set_update_loop _]
    show wpAny (model P w) A.in1 (pyNext (.ref I) >>= _) _ _ s
    refine wpAny_bind (W.item i s _ _ hlt st fun v s' hP st' hm => ?_)
    obtain ⟨z, t, hz, rfl⟩ := vals i v hP
    have hS' : TxSet P w s'.heap S (ns.take i) u := hS.keep fun o e => hm.heap S o notW e
    show wpAny (model P w) A.in1 (holding [Value.str z t] (setAdd S (.str z t)) >>= _) _ _ s'
    refine wpAny_bind (wpAny_holding ?_)
    unfold setAdd
    refine wpAny_holding ?_
    refine wpAny_bind ((strKind P w).pyHash (k := z) (strKind_is P w z t) ?_)
    refine wpAny_setAddHashed_of (knd := strKind P w) (s := { s' with toks := s'.toks + 1 }) (strKind_is P w z t) rfl hS' (by omega) fun h' hsb hS2 => ?_
    have tk : ns.take (i + 1) = ns.take i ++ [z] := by rw [List.take_add_one, hz]; rfl
    have S3 : ∃ u', Dist (ns.take (i + 1)) u' ∧ u'.length ≤ i + 1 ∧ TxSet P w h' S (ns.take (i + 1)) u' := by
      have ef : (fun k' => decide (k' ∈ ns.take i) || decide (k' = z)) = fun k' => decide (k' ∈ ns.take (i + 1)) := by
        funext k'; rw [tk]; simp
      by_cases hin : z ∈ ns.take i
      · refine ⟨u, ⟨hd.nd, fun k => ?_⟩, by omega, ?_⟩
        · rw [tk, hd.mem k]; simp; intro e; subst e; exact hin
        · rw [if_pos (decide_eq_true hin)] at hS2
          unfold TxSet; rw [← ef]; exact hS2
      · have hzu : z ∉ u := fun q => hin ((hd.mem z).mp q)
        refine ⟨u ++ [z], ⟨?_, fun k => ?_⟩, by simp; omega, ?_⟩
        · rw [List.nodup_append]
          exact ⟨hd.nd, by simp, fun a ha b hb e => by have := List.mem_singleton.mp hb; subst this; subst e; exact hzu ha⟩
        · rw [tk]; simp [hd.mem k]
        · rw [if_neg (by simpa using hin)] at hS2
          unfold TxSet; rw [← ef, List.length_append]; exact hS2
    refine wpAny_pure ⟨plainId_quiet F.plain_set_update_loop _, ih (i + 1) _ (by omega) hlt (W.frame _ s' _ _ st' (Nat.le_succ _) fun b hb o e => ?_) S3 fun s2 u2 hm2 hd2 hS4 => ?_⟩
    · rw [hsb.2 b (fun h : b = S => apart (by rw [← h]; exact hb))]; exact e
    · refine hR s2 u2 (Moved.trans W.gtrans ((hm.mono more).then_heap (Nat.le_succ _) fun b o hb e => ?_) hm2) hd2 hS4
      rw [hsb.2 b (fun h : b = S => hb (by rw [h]; exact List.mem_cons_self))]; exact e

set_option maxHeartbeats 8000000 in
theorem set_of_list {l : Addr} {items : Array Value} (ns : List Str) {Q : Value → Shared → Prop} (hh : A.handled = none) (hl : s.heap.IsList l items) (hit : StrsAre items.toList ns) (hb : ns.length + 1 < scanBound)
    (h : ∀ (h' : Heap) (tk : Nat) (u : List Str), Dist ns u → TxSet P w h' s.heap.objs.size ns u → (∀ b o, s.heap.get? b = some o → h'.get? b = some o) → Q (.ref s.heap.objs.size) { s with heap := h', toks := tk }) :
    wpAny (model P w) A (call (.type "set") [.ref l]) Q E s := by
  have hisz : items.size = ns.length := by
    have q := strsAre_len hit
    rw [Array.length_toList] at q
    exact q
  obtain ⟨cc, tl, hmro⟩ := F.called_set.mro
  have hmadeBy := F.called_set.made
  have hsubOf := F.called_set.sub
  refine wpAny_call (codeAny_of_tree ?tree)
  case tree =>
   show wpAny (model P w) A.in1 (callAny (.type "set") ⟨[.ref l], []⟩) _ _ s
   refine wpAny_pure ⟨Code.quiet_builtin ⟨[Value.type "set", .ref l], []⟩ (by decide +kernel), codeAny_builtin F.entry_type_call ?under⟩
   case under =>
    rw [Around.under_plain (weight_type_call_type "set" [Value.ref l] ([] : List (Str × Value))) rfl]
    have notType := F.called_set.notType
    have canMake := F.called_set.canCreate
    have checked := F.typeCall_set_1 (Value.ref l)
    repeat (any_goals (first | assumption | wp_step))
    refine codeAny_mono (code_set_led1 (Value.ref l) (E := E) (Q₁ := fun obj t => obj = .ref s.heap.objs.size ∧ t = { s with heap := s.heap.push (eset w) }) ⟨rfl, rfl⟩) fun r t hr => ?_
    cases r with
    | error e => exact hr
    | ok fl =>
     cases fl with
     | ret obj =>
      obtain ⟨rfl, rfl⟩ := hr
      have hS : (s.heap.push (eset w)).get? s.heap.objs.size = some (eset w) := Heap.get?_push_size _ rfl
      have hT : Shared.TypeIs { s with heap := s.heap.push (eset w) } (.ref s.heap.objs.size) "set" := ⟨eset w, hS, rfl⟩
      have initLook := F.called_set.init.lookup
      have initBind := F.called_set.init.bind (Value.ref s.heap.objs.size)
      repeat (any_goals (first | assumption | wp_step))
      refine codeAny_mono (codeAny_call_builtin (R := wants (fun r t2 => r = .none ∧ ∃ h' tk u, t2 = { s with heap := h', toks := tk } ∧ Dist ns u ∧ TxSet P w h' s.heap.objs.size ns u ∧
          (∀ b o, s.heap.get? b = some o → h'.get? b = some o)) E) F.called_set.init.plain F.entry_set_init (check_set_init_1 hT ?_)) fun r2 t2 hr2 => ?_
      · obtain ⟨ol, hol, hcl, nl, hdl⟩ := hl
        obtain ⟨ocls, odict, odata, oslots⟩ := ol
        simp only at hcl hdl
        subst hcl; subst hdl
        have hol2 : (s.heap.push (eset w)).get? l = some { cls := .type "list", dict := odict, data := .seq items nl, slots := oslots } := Heap.get?_push_of_some (eset w) hol
        have noSet := F.sub_list_set
        have noFrozen := F.sub_list_frozenset
        have noDict : (Value.type "list" == Value.type "dict") = false := by decide
        have hl1 : (s.heap.push (eset w)).IsList l items := ⟨_, hol2, rfl, nl, rfl⟩
        unfold Builtin.«set.__init__» noKeywords Builtin.Frozenset.updateFrom
        generalize hPI : pyIter = walked
        wp_walk
        subst hPI
        refine wpAny_pyIter_list hl1 (wpAny_bind (wpAny_runValue ?_))
        have hlS : l < s.heap.objs.size := Heap.lt_size hol
        have calm3 : A.in1.in1.in1.handled = none := by simp [hh]
        have hz1 : (s.heap.push (eset w)).objs.size = s.heap.objs.size + 1 := Heap.size_push ..
        have apartI : l ≠ (s.heap.push (eset w)).objs.size := by rw [hz1]; exact Nat.ne_of_lt (Nat.lt_succ_of_lt hlS)
        have apartS : s.heap.objs.size ∉ [(s.heap.push (eset w)).objs.size, l] := by
          rw [hz1]; intro z
          rcases List.mem_cons.mp z with z | z
          · exact absurd z (Nat.ne_of_lt (Nat.lt_succ_self _))
          · exact absurd (List.mem_singleton.mp z) (Nat.ne_of_gt hlS)
        have vals : ∀ (i : Nat) (v : Value), items[i]? = some v → ∃ k t, ns[i]? = some k ∧ v = .str k t := fun i v hv => strsAre_at hit i v (by rw [Array.getElem?_toList]; exact hv)
        refine set_update_strs ((Walks.list calm3 _ l apartI items).toS) s.heap.objs.size
          apartS ns hisz hb vals (items.size - 0) 0 _ (by omega) (Nat.zero_le _)
          ⟨⟨_, Heap.get?_push_size _ rfl, rfl, rfl⟩, (hl1.push _)⟩ ⟨[], Dist.nil, Nat.le_refl _, txSet_new (Heap.get?_push_of_some _ hS)⟩ ?done
        case done =>
          intro s' u hm hd hS'
          obtain ⟨h', g2, d', tk', os'⟩ := s'
          have eg : g2 = s.gens := hm.gens
          have ed : d' = s.drawn := hm.drawn
          have eo : os' = s.os := hm.os
          subst eg; subst ed; subst eo
          show wpAny _ _ _ _ _ _
          refine wpAny_pure ?_
          show wpAny _ _ (ret Value.none) _ _ _
          refine wpAny_pure ⟨rfl, h', tk', u, rfl, hd, hS', fun b o e => ?_⟩
          have b0 : b < s.heap.objs.size := Heap.lt_size e
          refine hm.heap b o (fun z => ?_) (Heap.get?_push_of_some _ (Heap.get?_push_of_some _ e))
          rcases List.mem_cons.mp z with z | z
          · exact absurd z (Nat.ne_of_lt b0)
          · have z := List.mem_singleton.mp z
            rw [hz1] at z
            exact absurd z (Nat.ne_of_lt (Nat.lt_succ_of_lt b0))
      · cases r2 with
        | error e => exact hr2
        | ok fl2 =>
          cases fl2 with
          | ret r =>
            obtain ⟨rfl, h', tk, u, rfl, hd, hS', hk'⟩ := hr2
            repeat (any_goals (first | assumption | wp_step))
            exact h h' tk u hd hS' hk'
          | next => exact hr2.elim
          | brk => exact hr2.elim
          | cont => exact hr2.elim
     | next => exact hr.elim
     | brk => exact hr.elim
     | cont => exact hr.elim
end
/-! ### len(set(xs)) -/
def tLenSetS (K : PySem.W.Frag) (ta : TE) : TE := fun σ H Q => ta σ H fun x H1 => ∃ (l : Addr) (ns : List Str), x = .ref l ∧ SqL K H1 l (ns.map V.str) ∧ ns.length ≤ 4000 ∧ ∀ u, Dist ns u → Q (.int (u.length : Nat)) H1
theorem pe_lenSetS {X : Cx} {a : Expr} {ta : TE} {p p2 q pos : Pos} (hg : Gl X "len") (hm : X.mg "len" = none) (hg2 : Gl X "set") (hm2 : X.mg "set" = none) (ha : PE X a ta) (hc : X.calm = true := by rfl)
    (na : starEach [a] X.env = (false, eval a X.env) :: starEach [] X.env := by rfl) : PE X (.Call (.Name "len" p) [.Call (.Name "set" p2) [a] [] q] [] pos) (tLenSetS X.K ta) := by
  refine ⟨fun pins s σ H Q I h => Call_ (ld_blt I hg hm boot_len ?_)⟩
  refine PyProof.Rows.callWith_builtin1 (PyProof.Rows.args_cons ?_ rfl) rfl rfl
  refine Call_ (ld_blt I hg2 hm2 boot_set (PyProof.Rows.callWith_type1 (PyProof.Rows.args_cons ?_ na) na rfl))
  refine thn (ha.run pins s σ H _ I h) fun v s1 ⟨x, H1, I1, r1, q1⟩ => PyProof.Rows.args_nil ?_
  obtain ⟨l, ns, rfl, hq, hl, q1⟩ := q1
  cases r1
  have fin : ∀ (h' : Heap) (tk : Nat) (u : List Str), Dist ns u → TxSet X.prog X.w h' s1.heap.objs.size ns u → (∀ b o, s1.heap.get? b = some o → h'.get? b = some o) →
      wpAny (model X.prog X.w) X.A (spliced (backTo pos (starEach [] X.env))) (fun vs s₂ => wpAny (model X.prog X.w) X.A (call (.builtin "len") (Value.ref s1.heap.objs.size :: vs)) (EP X pins σ Q) X.xe s₂) X.xe { s1 with heap := h', toks := tk } := fun h' tk u hd hS hk => by
    refine PyProof.Rows.args_nil ?_
    obtain ⟨o, es, ep, t, ho, hex, hda, _, _, hb, hf, hn⟩ := hS
    have I2 : Inv X pins σ H1 { s1 with heap := h', toks := tk } := I1.kept fun b o e => hk b o e
    exact call_len_set ho hex hda hf (by unfold scanBound at hb; omega) ⟨.int u.length, H1, I2.tok _, ⟨_, by rw [hn]⟩, q1 u hd⟩
  obtain ⟨its, r, pl, hz⟩ := I1.list hq
  exact set_of_list ns (I1.ok.hd hc) pl.isList (by simpa using strsAre_of r) (by unfold scanBound; omega) fun h' tk u hd hS hk => fin h' tk u hd hS hk
/-- len(set(e)), e a list of texts -/
def drLenSet (x : SD) (μ : Mu) (Q : SD → Mu → Prop) : Prop := match lstD μ x with
  | some xs => match strsOf xs with
    | some ns => ns.length ≤ 4000 ∧ ∀ u, Dist ns u → Q (.int (u.length : Nat)) μ
    | none => False
  | none => False
abbrev dLenSet (te : DTE) : DTE := fun ρ μ Q => te ρ μ fun x μ1 => drLenSet x μ1 Q
theorem de_lenSet {X : Cx} {a : Expr} {ta : DTE} {p p2 q pos : Pos} (hg : Gl X "len") (hm : X.mg "len" = none) (hg2 : Gl X "set") (hm2 : X.mg "set" = none) (ha : DE X a ta) (hc : X.calm = true := by rfl)
    (na : starEach [a] X.env = (false, eval a X.env) :: starEach [] X.env := by rfl) : DE X (.Call (.Name "len" p) [.Call (.Name "set" p2) [a] [] q] [] pos) (dLenSet ta) := weakE (pe_lenSetS hg hm hg2 hm2 ha hc na) fun σ H Q h => by
  obtain ⟨F, ρ, μ, Q', R, S, t, k⟩ := h
  refine ⟨F, ρ, μ, _, R, S, t, fun d μ1 t1 F1 H1 v s1 R1 r1 => ?_⟩
  unfold drLenSet at t1
  cases e : lstD μ1 d with
  | none => rw [e] at t1; exact t1.elim
  | some xs =>
    rw [e] at t1
    simp only at t1
    cases e2 : strsOf xs with
    | none => rw [e2] at t1; exact t1.elim
    | some ns =>
      rw [e2] at t1
      simp only at t1
      obtain ⟨a, vs, h1, h3, h2⟩ := R1.lst r1 e
      obtain rfl := strsOf_rep h2 e2
      exact ⟨a, ns, h1, SqL.of h3, t1.1, fun u hd => k _ _ (t1.2 u hd) F1 H1 _ s1 R1 (.int _)⟩
end DS
/-! DS15: truth values among ints, str(x), upper, texts turned round, max and min of lists. -/
namespace DS
open PySem PySem.Spec PyProof.Rows L2
section
variable {X : Cx} {K : PySem.W.Frag}
def b2d (b : Bool) : Int := if b = true then 1 else 0
/-- x + y, x - y of ints, one of which may be a truth value -/
def dIB (f : Int → Int → Int) : DR2 := fun x y μ Q => match x with
  | .int i => match y with
    | .int j => Q (.int (f i j)) μ
    | .bl b => Q (.int (f i (b2d b))) μ
    | _ => False
  | .bl b => match y with
    | .int j => Q (.int (f (b2d b) j)) μ
    | _ => False
  | _ => False
def rIB (f : Int → Int → Int) : R2 := fun x y H Q => (∃ i j, x = .int i ∧ y = .int j ∧ Q (.int (f i j)) H) ∨ (∃ i b, x = .int i ∧ y = .bl b ∧ Q (.int (f i (b2d b))) H) ∨ ∃ b j, x = .bl b ∧ y = .int j ∧ Q (.int (f (b2d b) j)) H
theorem opr_addB : OpR X (binaryOp .Add) (rIB fun i j => i + j) := by
  intro pins s σ H x y v u Q I rx ry h
  rcases h with ⟨i, j, rfl, rfl, q⟩ | ⟨i, b, rfl, rfl, q⟩ | ⟨b, j, rfl, rfl, q⟩
  · exact op_add pins s σ H _ _ v u Q I rx ry ⟨i, j, rfl, rfl, q⟩
  · obtain ⟨t, rfl⟩ := rx; cases ry; exact add_int_bool ⟨.int _, H, I.tok _, ⟨_, rfl⟩, q⟩
  · obtain ⟨t, rfl⟩ := ry; cases rx; exact PySem.IntBool.add_bool_int ⟨.int _, H, I.tok _, ⟨_, rfl⟩, q⟩
theorem opr_subB : OpR X (binaryOp .Sub) (rIB fun i j => i - j) := by
  intro pins s σ H x y v u Q I rx ry h
  rcases h with ⟨i, j, rfl, rfl, q⟩ | ⟨i, b, rfl, rfl, q⟩ | ⟨b, j, rfl, rfl, q⟩
  · exact op_sub pins s σ H _ _ v u Q I rx ry ⟨i, j, rfl, rfl, q⟩
  · obtain ⟨t, rfl⟩ := rx; cases ry; exact PySem.IntBool.sub_int_bool ⟨.int _, H, I.tok _, ⟨_, rfl⟩, q⟩
  · obtain ⟨t, rfl⟩ := ry; cases rx; exact PySem.IntBool.sub_bool_int ⟨.int _, H, I.tok _, ⟨_, rfl⟩, q⟩
theorem lr_IB {f : Int → Int → Int} : LR2 K (dIB f) (rIB f) := fun F H μ x y dx dy Q' Q R rx ry t k => by
  cases dx with
  | int i => cases dy with
    | int j => cases rx; cases ry; exact .inl ⟨i, j, rfl, rfl, k _ μ t F H _ (Stp.refl _ _ _) R (.int _)⟩
    | bl b => cases rx; cases ry; exact .inr (.inl ⟨i, b, rfl, rfl, k _ μ t F H _ (Stp.refl _ _ _) R (.int _)⟩)
    | _ => exact False.elim t
  | bl b => cases dy with
    | int j => cases rx; cases ry; exact .inr (.inr ⟨b, j, rfl, rfl, k _ μ t F H _ (Stp.refl _ _ _) R (.int _)⟩)
    | _ => exact False.elim t
  | _ => exact False.elim t
/-- str(x) of an int or a truth value -/
def drStr : DRc := fun ds μ Q => match ds with
  | [.int i] => i.natAbs.log2 < 1920 ∧ Q (.str (toString i)) μ
  | [.bl b] => Q (.str (if b then "True" else "False")) μ
  | _ => False
theorem call_str_bl : CallR X (.type "str") (fun xs H Q => ∃ b, xs = [.bl b] ∧ Q (.str (if b then "True" else "False")) H) := by
  intro pins s σ H xs us Q I r h
  obtain ⟨b, rfl, q⟩ := h
  obtain ⟨u, rfl, r1⟩ := vals1 r
  cases r1
  exact PySem.P.str_of_bool ⟨.str _, H, I.tok _, ⟨_, rfl⟩, q⟩
def rStrOf : List V → Hp → VK → Prop := fun xs H Q => (∃ i, xs = [.int i] ∧ i.natAbs.log2 < 1920 ∧ Q (.str (toString i)) H) ∨ ∃ b, xs = [.bl b] ∧ Q (.str (if b then "True" else "False")) H
theorem cr_strOf : CallR X (.type "str") rStrOf := call_str_int.or call_str_bl
theorem lc_strOf : LRc K drStr rStrOf := fun F H μ xs ds Q' Q R r t k => by
  unfold drStr at t
  split at t
  · cases r with
    | cons r1 r2 => cases r2; cases r1; exact .inl ⟨_, rfl, t.1, k _ μ t.2 F H _ (Stp.refl _ _ _) R (.str _)⟩
  · cases r with
    | cons r1 r2 => cases r2; cases r1; exact .inr ⟨_, rfl, k _ μ t F H _ (Stp.refl _ _ _) R (.str _)⟩
  · exact False.elim t
/-- max(xs), min(xs) of a list of ints -/
def intsOf : List SD → Option (List Int)
  | [] => some []
  | .int s :: r => match intsOf r with
    | some l => some (s :: l)
    | none => none
  | _ :: _ => none
theorem intsOf_rep : ∀ {F : Hp} {K : PySem.W.Frag} {ds : List SD} {vs : List V} {l : List Int}, RepL K F ds vs → intsOf ds = some l → vs = l.map V.int
  | _, _, [], _, _, .nil, e => by cases e; rfl
  | _, _, d :: ds, _, l, .cons q r, e => by
    cases d with
    | int s =>
      unfold intsOf at e
      cases e2 : intsOf ds with
      | none => rw [e2] at e; cases e
      | some l2 => rw [e2] at e; cases e; cases q; rw [intsOf_rep r e2]; rfl
    | _ => cases e
theorem intsOf_map (l : List Int) : intsOf (l.map SD.int) = some l := by
  induction l with
  | nil => rfl
  | cons a r ih => rw [List.map_cons, intsOf, ih]
def drMost (P : Int → Int → Prop) : DRc := fun ds μ Q => match ds with
  | [d] => match lstD μ d with
    | some xs => match intsOf xs with
      | some ns => 0 < ns.length ∧ ∀ m, m ∈ ns → (∀ y, y ∈ ns → P y m) → Q (.int m) μ
      | none => False
    | none => False
  | _ => False
theorem lc_most {P : Int → Int → Prop} : LRc K (drMost P) (fun vs H Q => ∃ (a : Addr) (ns : List Int), vs = [V.ref a] ∧ SqL K H a (ns.map V.int) ∧ 0 < ns.length ∧ ∀ m, m ∈ ns → (∀ y, y ∈ ns → P y m) → Q (.int m) H) := fun F H μ xs ds Q' Q R r t k => by
  cases r with
  | nil => exact False.elim t
  | cons r1 r2 => cases r2 with
    | cons _ _ => exact False.elim t
    | nil =>
      rename_i d v
      unfold drMost at t
      simp only at t
      cases e : lstD μ d with
      | none => rw [e] at t; exact False.elim t
      | some xs =>
        rw [e] at t
        simp only at t
        cases e2 : intsOf xs with
        | none => rw [e2] at t; exact False.elim t
        | some ns =>
          rw [e2] at t
          obtain ⟨a, vs, rfl, ha, r⟩ := R.lst r1 e
          obtain rfl := intsOf_rep r e2
          exact ⟨a, ns, rfl, SqL.of ha, t.1, fun m h1 h2 => k _ μ (t.2 m h1 h2) F H _ (Stp.refl _ _ _) R (.int _)⟩
theorem lc_max1 : LRc K (drMost fun y m => y ≤ m) (rMax K) := lc_most
theorem lc_min1 : LRc K (drMost fun y m => m ≤ y) (rMin K) := lc_most
/-- s.upper() -/
abbrev dUpper (to : DTE) : DTE := fun ρ μ Q => to ρ μ fun x μ1 => match x with
  | .str a => a.length ≤ 5592405 ∧ Q (.str (Txt.upper a)) μ1
  | _ => False
theorem de_upper {o : Expr} {to : DTE} {apos pos : Pos} (ho : DE X o to) (hbase : attributeBase o "upper" X.env (eval o X.env) = eval o X.env := by rfl) (hline : (apos.endLine == pos.line) = true := by rfl) :
    DE X (.Call (.Attribute o "upper" apos) [] [] pos) (dUpper to) := weakE (pe_upper ho hbase hline) fun σ H Q h => by
  obtain ⟨F, ρ, μ, Q', R, S, t, k⟩ := h
  refine ⟨F, ρ, μ, _, R, S, t, fun d μ1 t1 F1 H1 v s1 R1 r1 => ?_⟩
  cases d with
  | str a => cases r1; exact ⟨⟨a, rfl⟩, a, rfl, rfl, t1.1, k _ μ1 t1.2 F1 H1 _ s1 R1 (.str _)⟩
  | _ => exact False.elim t1
/-- x[::-1] of a text (some text of its signs, no longer), a list or a tuple -/
def tRevX (K : PySem.W.Frag) (te : TE) : TE := fun σ H Q => te σ H fun x H1 => (∃ z : Str, x = .str z ∧ z.length ≤ sizeLine ∧ ∀ t : Str, t.length ≤ z.length → (∀ c ∈ t.cps.toList, c ∈ z.cps.toList) → Q (.str t) H1) ∨
  (∃ a xs, x = .ref a ∧ SqL K H1 a xs ∧ ∀ p, H1 p = none → Q (.ref p) (upd H1 p (.lst xs.reverse))) ∨ ∃ a xs, x = .ref a ∧ SqT K H1 a xs ∧ ∀ p, H1 p = none → Q (.ref p) (upd H1 p (.tup xs.reverse))
theorem slice_signs (z : Str) (l u st : Option (Int × Tok)) : ∀ c ∈ (⟨((slicePicked z l u st).filterMap (z.cps[·]?)).toArray⟩ : Str).cps.toList, c ∈ z.cps.toList := by
  intro c hc
  have hc : c ∈ (slicePicked z l u st).filterMap (z.cps[·]?) := by simpa using hc
  obtain ⟨i, _, hi⟩ := List.mem_filterMap.mp hc
  exact List.mem_of_getElem? (by rw [Array.getElem?_toList]; exact hi)
abbrev backE (e : Expr) (k1 : Nat) (p1 p2 p3 : Pos) : Expr := .Slice none none (some (.UnaryOp .USub (.Constant (.int 1) k1 p1) p2)) p3
theorem pe_revX {e : Expr} {te : TE} {pos p1 p2 p3 : Pos} {k1 : Nat} (he : PE X e te) : PE X (.Subscript e (.Slice none none (some (.UnaryOp .USub (.Constant (.int 1) k1 p1) p2)) p3) pos) (tRevX X.K te) := by
  refine ⟨fun pins s σ H Q I h => Subscript_ (thn (he.run pins s σ H _ I h) fun v s1 ⟨x, H1, I1, r1, q1⟩ => ?_)⟩
  have back : PO X (some (.UnaryOp .USub (.Constant (.int 1) k1 p1) p2)) (tPart (tUn (rU fun i => .int (-i)) (tC (.int 1)))) := po_some (pe_un un_neg pe_int)
  refine wpAny_Slice (thn (po_none.run pins s1 σ H1 (fun o G => o = none ∧ G = H1) I1 ⟨rfl, rfl⟩) fun vl s2 ⟨l, H2, I2, pl, el, e2⟩ => ?_)
  subst el e2
  refine thn (po_none.run pins s2 σ H2 (fun o G => o = none ∧ G = H2) I2 ⟨rfl, rfl⟩) fun vu s3 ⟨u, H3, I3, pu, eu, e3⟩ => ?_
  subst eu e3
  refine thn (back.run pins s3 σ H3 (fun o G => o = some (-1) ∧ G = H3) I3 ⟨1, rfl, -1, rfl, rfl, rfl⟩) fun vs s4 ⟨o, H4, I4, ps, eo, e4⟩ => ?_
  subst eo e4
  have I5 : Inv X pins σ H4 { s4 with heap := s4.heap.push { cls := .type "slice", data := .fields #[vl, vu, vs] } } := I4.kept (t' := s4.toks) fun b ob w => Heap.get?_push_of_some _ w
  rcases q1 with ⟨z, rfl, hz, q⟩ | ⟨a, xs, rfl, hx, q⟩ | ⟨a, xs, rfl, hx, q⟩
  · obtain ⟨t, rfl⟩ := r1
    obtain ⟨l0, rfl, el⟩ := IsPart.raw pl
    obtain ⟨u0, rfl, eu⟩ := IsPart.raw pu
    obtain ⟨st, rfl, est⟩ := IsPart.raw ps
    show wpAny (model X.prog X.w) X.A (subscriptTail e (backE e k1 p1 p2 p3) (.str z t) (.ref s4.heap.objs.size)) (EP X pins σ Q) X.xe { s4 with heap := s4.heap.push { cls := .type "slice", data := .fields #[partValue l0, partValue u0, partValue st] } }
    refine tail_any (ops := [.ref s4.heap.objs.size, .str z t]) (typeIs_str _ z t) (F.slot_str_getitem.lookup) ?_ (by with_unfolding_all rfl)
    cases st with
    | none => cases est
    | some st =>
      have e1 : st.1 = -1 := Option.some.inj est
      refine wpAny_getItem_str_slice (l := l0) (u := u0) (st := some st) ⟨_, Heap.get?_push_size _ rfl, rfl, rfl⟩ (by simp [e1]) ?_
      have off : (((some st).map (·.1)).getD 1 == 1 && (slicePicked z l0 u0 (some st)).length == z.length) = false := by simp [e1]
      unfold sliceMade
      rw [off]
      have len : (⟨((slicePicked z l0 u0 (some st)).filterMap (z.cps[·]?)).toArray⟩ : Str).length ≤ z.length := by
        have := Txt.sliceBy_le z l0 u0 st (by rw [e1]; decide)
        unfold Txt.sliceBy at this
        rw [off] at this
        exact this
      exact ⟨Nat.le_trans len hz, .str _, H4, I5.tok _, ⟨_, rfl⟩, q _ len (slice_signs z l0 u0 (some st))⟩
  · cases r1
    obtain ⟨its, r, ht, hz⟩ := I5.list hx
    have len := r.length
    show wpAny (model X.prog X.w) X.A (subscriptTail e (backE e k1 p1 p2 p3) (.ref a) (.ref s4.heap.objs.size)) (EP X pins σ Q) X.xe { s4 with heap := s4.heap.push { cls := .type "slice", data := .fields #[vl, vu, vs] } }
    refine tail_any (ops := [.ref a, .ref s4.heap.objs.size]) ht.isList.typeIs (PySem.slot_list_getitem.lookup) ?_ (by with_unfolding_all rfl)
    refine wpAny_getItem_list_slice ht.isList (Heap.IsSliceOf.new _ vl vu vs) pl pu ps (by decide) ?_ (by rw [List.size_toArray]; omega)
    rw [PySem.W.krv_pick]
    refine ⟨.ref _, _, I5.laid (t' := s4.toks) (o := .lst xs.reverse) (fun b ob w => Heap.get?_push_of_some _ w) (Nat.le_refl _) ?_, rfl, q _ (I5.hok.fresh (Nat.le_refl _))⟩
    exact ⟨by rw [List.length_reverse]; exact hz, _, 0, r.reverse, Heap.get?_push_size _ rfl⟩
  · cases r1
    obtain ⟨its, r, ht, hz⟩ := I5.tuple hx
    have len := r.length
    show wpAny (model X.prog X.w) X.A (subscriptTail e (backE e k1 p1 p2 p3) (.ref a) (.ref s4.heap.objs.size)) (EP X pins σ Q) X.xe { s4 with heap := s4.heap.push { cls := .type "slice", data := .fields #[vl, vu, vs] } }
    refine tail_any (ops := [.ref a, .ref s4.heap.objs.size]) ht.typeIs (PyProof.Rows.slot_tuple_getitem.lookup) ?_ (by with_unfolding_all rfl)
    refine tuple_back ht (Heap.IsSliceOf.new _ vl vu vs) pl pu ps ?_ (by omega)
    refine ⟨.ref _, _, I5.laid (t' := s4.toks) (o := .tup xs.reverse) (fun b ob w => Heap.get?_push_of_some _ w) (Nat.le_refl _) ?_, rfl, q _ (I5.hok.fresh (Nat.le_refl _))⟩
    exact ⟨by rw [List.length_reverse]; exact hz, _, r.reverse, _, Heap.get?_push_size _ rfl, rfl, 0, rfl⟩
def drRevX (x : SD) (μ1 : Mu) (Q : SD → Mu → Prop) : Prop := match x with
  | .str z => z.length ≤ sizeLine ∧ ∀ t : Str, t.length ≤ z.length → (∀ c ∈ t.cps.toList, c ∈ z.cps.toList) → Q (.str t) μ1
  | .tup xs => Q (.tup xs.reverse) μ1
  | .lst xs => Q (.lst xs.reverse) μ1
  | _ => False
abbrev dRevX (te : DTE) : DTE := fun ρ μ Q => te ρ μ fun x μ1 => drRevX x μ1 Q
theorem de_revX {e : Expr} {te : DTE} {pos p1 p2 p3 : Pos} {k1 : Nat} (he : DE X e te) : DE X (.Subscript e (.Slice none none (some (.UnaryOp .USub (.Constant (.int 1) k1 p1) p2)) p3) pos) (dRevX te) := weakE (pe_revX he) fun σ H Q h => by
  obtain ⟨F, ρ, μ, Q', R, S, t, k⟩ := h
  refine ⟨F, ρ, μ, _, R, S, t, fun d μ1 t1 F1 H1 v s1 R1 r1 => ?_⟩
  cases d with
  | str z => cases r1; exact .inl ⟨z, rfl, t1.1, fun y h1 h2 => k _ μ1 (t1.2 y h1 h2) F1 H1 _ s1 R1 (.str _)⟩
  | tup xs =>
    cases r1 with
    | tup h r => exact .inr (.inr ⟨_, _, rfl, R1.ext.sqT h, fun q hq => k _ μ1 t1 _ _ _ (s1.trans (Stp.newS R1 hq)) (R1.newS hq) (.tup (.inl (.inl upd_same)) (r.reverse.mono (Ext.new (R1.freeF hq))))⟩)
  | lst xs =>
    cases r1 with
    | lst h r => exact .inr (.inl ⟨_, _, rfl, SqL.of (R1.sub _ _ h), fun q hq => k _ μ1 t1 _ _ _ (s1.trans (Stp.newS R1 hq)) (R1.newS hq) (.lst upd_same (r.reverse.mono (Ext.new (R1.freeF hq))))⟩)
  | _ => exact False.elim t1
/-- xs + ys, a new list that may change -/
def dAddM : DR2 := fun x y μ Q => match lstD μ x, lstD μ y with
  | some xs, some ys => xs.length + ys.length ≤ sizeLine ∧ ∀ p, μ p = none → Q (.ref p) (up μ p (.lst (xs ++ ys)))
  | _, _ => False
theorem lr_addM : LR2 K dAddM rCat := fun F H μ x y dx dy Q' Q R rx ry t k => by
  unfold dAddM at t
  cases e1 : lstD μ dx with
  | none => rw [e1] at t; exact False.elim t
  | some xs => cases e2 : lstD μ dy with
    | none => rw [e1, e2] at t; exact False.elim t
    | some ys =>
      rw [e1, e2] at t
      obtain ⟨a, vs, rfl, ha, r1⟩ := R.lst rx e1
      obtain ⟨b, ws, rfl, hb, r2⟩ := R.lst ry e2
      refine ⟨a, b, vs, ws, rfl, rfl, ha, hb, by rw [← r1.length, ← r2.length]; exact t.1, fun q hq => ?_⟩
      exact k _ _ (t.2 q (R.freeM hq)) _ _ _ (Stp.newM R hq) (R.newM hq (.lst (r1.append r2))) (.ref q)
/-! chains as tests -/
theorem lift_chain {r r' : R2} {dr dr' : DR2} {ta tb tc : DTE} (hl : LR2 K dr r) (hl' : LR2 K dr' r') : ∀ σ H Q, LE K (dChain dr dr' ta tb tc) σ H Q → tChain r r' (LE K ta) (LE K tb) (LE K tc) σ H Q := fun σ H Q h => by
  obtain ⟨F, ρ, μ, Q', R, S, t, k⟩ := h
  refine ⟨F, ρ, μ, _, R, S, t, fun d1 μ1 t1 F1 H1 v1 s1 R1 r1 => ?_⟩
  refine ⟨F1, ρ, μ1, _, R1, S.mono s1.ext, t1, fun d2 μ2 t2 F2 H2 v2 s2 R2 r2 => ?_⟩
  refine hl F2 H2 μ2 v1 v2 d1 d2 _ _ R2 (r1.mono s2.ext) r2 t2 fun d3 μ3 t3 F3 H3 v3 s3 R3 r3 => ?_
  cases r3 with
  | bl z =>
    refine ⟨z, rfl, ?_⟩
    cases z with
    | true =>
      refine ⟨F3, ρ, μ3, _, R3, S.mono ((s1.trans s2).trans s3).ext, t3, fun d4 μ4 t4 F4 H4 v4 s4 R4 r4 => ?_⟩
      exact hl' F4 H4 μ4 v2 v4 d2 d4 Q' Q R4 (r2.mono (s3.trans s4).ext) r4 t4 fun d μ' q F' H' v s R' r' => k d μ' q F' H' v ((((s1.trans s2).trans s3).trans s4).trans s) R' r'
    | false => exact k _ μ3 t3 F3 H3 _ ((s1.trans s2).trans s3) R3 (.bl false)
  | _ => exact t3.elim
theorem dt_chain {op op' : CmpOp} {r r' : R2} {dr dr' : DR2} {ta tb tc : DTE} {a b c : Expr} {pos : Pos} (ho : OpR X (compareOp op) r) (hl : LR2 X.K dr r) (ho' : OpR X (compareOp op') r') (hl' : LR2 X.K dr' r') (ha : DE X a ta) (hb : DE X b tb) (hc : DE X c tc) (hm : lastMarks [op, op'] [b, c] = false := by rfl) :
    DT X (.Compare a [op, op'] [b, c] pos) (dTest (dChain dr dr' ta tb tc)) := weakT (pt_chain ho ho' ha hb hc hm) fun σ H Q h => by
  obtain ⟨F, ρ, μ, Q', R, S, t, k⟩ := h
  refine lift_chain hl hl' σ H _ ⟨F, ρ, μ, _, R, S, t, fun d μ' q F' H' v s R' r' => ?_⟩
  cases r' with
  | bl b => exact ⟨b, rfl, k b μ' q F' H' s R'⟩
  | _ => exact q.elim
end
end DS
/-! DS16: repr of data with {} in it; == with (). -/
namespace DS
open PySem PySem.Spec PyProof.Rows L2
/-! ### values as data -/
mutual
/-- the value shows as the datum; empty dicts among it stand at no place of the machine's own -/
inductive Shw (h : Heap) : Value → PyData → Prop
  | non : Shw h .none .none
  | bl (b : Bool) : Shw h (.bool b) (.bool b)
  | int (i : Int) (t : Tok) : Shw h (.int i t) (.int i)
  | str (x : Str) (t : Tok) : Shw h (.str x t) (.str x)
  | lst {a : Addr} {o : Obj} {vs : Array Value} {n : Nat} {xs : List PyData} : h.get? a = some o → o.cls = .type "list" → o.data = .seq vs n → ShwL h vs.toList xs → Shw h (.ref a) (.list xs)
  | tup {a : Addr} {o : Obj} {vs : Array Value} {n : Nat} {xs : List PyData} : h.get? a = some o → o.cls = .type "tuple" → o.data = .seq vs n → ShwL h vs.toList xs → Shw h (.ref a) (.tuple xs)
  | dic {a : Addr} {o : Obj} {n : Nat} : (a == sysModules) = false → h.get? a = some o → o.cls = .type "dict" → o.data = .dict #[] n → Shw h (.ref a) (.dict [])
inductive ShwL (h : Heap) : List Value → List PyData → Prop
  | nil : ShwL h [] []
  | cons {v : Value} {vs : List Value} {d : PyData} {ds : List PyData} : Shw h v d → ShwL h vs ds → ShwL h (v :: vs) (d :: ds)
end
mutual
theorem Shw.reads {h : Heap} : ∀ {v : Value} {d : PyData}, Shw h v d → ∃ as, Reads h v d as
  | _, _, .non => ⟨_, .none⟩
  | _, _, .bl b => ⟨_, .bool b⟩
  | _, _, .int i t => ⟨_, .int i t⟩
  | _, _, .str x t => ⟨_, .str x t⟩
  | _, _, .lst a b c r => let ⟨_, q⟩ := ShwL.reads r; ⟨_, .list a b c q⟩
  | _, _, .tup a b c r => let ⟨_, q⟩ := ShwL.reads r; ⟨_, .tuple a b c q⟩
  | _, _, .dic _ a b c => ⟨_, .dict (kvs := []) a b c .nil .nil⟩
theorem ShwL.reads {h : Heap} : ∀ {vs : List Value} {ds : List PyData}, ShwL h vs ds → ∃ as, ReadsAll h vs ds as
  | _, _, .nil => ⟨_, .nil⟩
  | _, _, .cons h r => let ⟨_, p⟩ := Shw.reads h; let ⟨_, q⟩ := ShwL.reads r; ⟨_, .cons p q⟩
end
section
variable {prog : Program} {w : World} {h₀ : Heap}
theorem dict0_shown : (PyData.dict []).shown = dictText [] := by simp only [PyData.shown, PyData.shownKv]
mutual
theorem Shw.K : ∀ {v : Value} {d : PyData}, Shw h₀ v d → d.showable = true → d.shown.length ≤ sizeLine → ∃ bs, ReadAtMost h₀ d.depth bs ∧ ReprK prog w bs h₀ d.depth v d.shown
  | _, _, .non, hs, hz => ReprK.of_reads Reads.none hs (fun z => by simp [PyData.hasDict] at z) hz
  | _, _, .bl b, hs, hz => ReprK.of_reads (Reads.bool b) hs (fun z => by simp [PyData.hasDict] at z) hz
  | _, _, .int i t, hs, hz => ReprK.of_reads (Reads.int i t) hs (fun z => by simp [PyData.hasDict] at z) hz
  | _, _, .str x t, hs, hz => ReprK.of_reads (Reads.str x t) hs (fun z => by simp [PyData.hasDict] at z) hz
  | _, _, .lst (a := a) (vs := vs) (xs := xs) h1 h2 h3 h4, hs, hz => by
    have fits : (listText (PyData.shownAll xs)).length ≤ sizeLine := by simpa only [PyData.shown] using hz
    obtain ⟨bs, hb, hk⟩ := ShwL.K h4 (by simpa [PyData.showable] using hs) fun t ht => Nat.le_trans (listText_mem_le ht) fits
    obtain ⟨as, q⟩ := ShwL.reads h4
    have r : Reads h₀ (.ref a) (.list xs) (a :: as) := .list h1 h2 h3 q
    have apart : a ∉ bs := not_mem_of_deeper r (by simp only [PyData.depth]; omega) hb
    refine ⟨a :: bs, ReadAtMost.cons r (by simp only [PyData.depth]; omega) hb, ?_⟩
    simp only [PyData.depth, PyData.shown]
    obtain ⟨l⟩ := vs
    cases l with
    | nil =>
      have e : ShwL h₀ [] xs := h4
      cases e
      simp only [PyData.shownAll, listText_nil]
      exact ReprK.listEmpty h1 h2 h3
    | cons x l => exact ReprK.list h1 h2 h3 apart (by simpa using hk.length_eq) fun i y e => hk.item i y (by simpa using e)
  | _, _, .tup (a := a) (xs := xs) h1 h2 h3 h4, hs, hz => by
    have fits : (tupleText (PyData.shownAll xs)).length ≤ sizeLine := by simpa only [PyData.shown] using hz
    obtain ⟨bs, hb, hk⟩ := ShwL.K h4 (by simpa [PyData.showable] using hs) fun t ht => Nat.le_trans (tupleText_mem_le ht) fits
    obtain ⟨as, q⟩ := ShwL.reads h4
    have r : Reads h₀ (.ref a) (.tuple xs) as := .tuple h1 h2 h3 q
    have apart : a ∉ bs := not_mem_of_deeper r (by simp only [PyData.depth]; omega) hb
    refine ⟨a :: bs, ReadAtMost.cons r (by simp only [PyData.depth]; omega) hb, ?_⟩
    simp only [PyData.depth, PyData.shown]
    exact ReprK.tuple h1 h2 h3 apart hk
  | _, _, .dic (a := a) h0 h1 h2 h3, hs, hz => by
    have r : Reads h₀ (.ref a) (.dict []) _ := .dict (kvs := []) h1 h2 h3 .nil .nil
    refine ⟨[a], fun b hb => ⟨_, _, List.mem_singleton.mp hb ▸ r, Nat.le_refl _⟩, ?_⟩
    rw [dict0_shown]
    exact ReprK.dict h1 h2 h3 h0 (List.not_mem_nil) .nil
theorem ShwL.K : ∀ {vs : List Value} {ds : List PyData}, ShwL h₀ vs ds → PyData.showableAll ds = true → (∀ t ∈ PyData.shownAll ds, t.length ≤ sizeLine) →
    ∃ bs, ReadAtMost h₀ (PyData.depthAll ds) bs ∧ ReprAllK prog w bs h₀ (PyData.depthAll ds) vs (PyData.shownAll ds)
  | _, _, .nil, _, _ => ⟨[], (fun _ h => nomatch h), by simp only [PyData.shownAll]; exact .nil⟩
  | _, _, .cons (d := d) (ds := ds) r rs, hs, hz => by
    have both : d.showable = true ∧ PyData.showableAll ds = true := by simpa [PyData.showableAll] using hs
    obtain ⟨b1, hb1, k1⟩ := Shw.K r both.1 (hz _ (by simp only [PyData.shownAll]; exact List.mem_cons_self ..))
    obtain ⟨b2, hb2, k2⟩ := ShwL.K rs both.2 fun t ht => hz t (by simp only [PyData.shownAll]; exact List.mem_cons_of_mem _ ht)
    refine ⟨b1 ++ b2, ?_, ?_⟩
    · simp only [PyData.depthAll]
      exact (hb1.mono (Nat.le_max_left _ _)).append (hb2.mono (Nat.le_max_right _ _))
    · simp only [PyData.depthAll, PyData.shownAll]
      exact .cons ((k1.more fun b hb => List.mem_append_left b2 hb).level_le (Nat.le_max_left _ _)) (k2.more_le (fun b hb => List.mem_append_right b1 hb) (Nat.le_max_right _ _))
end
theorem Shw.by {a : Addr} {d : PyData} (r : Shw h₀ (.ref a) d) (hs : d.showable = true) (hz : d.shown.length ≤ sizeLine) : ∃ T idr, ShowsBy prog w h₀ a d T idr := by
  cases r with
  | lst h1 h2 h3 h4 =>
    rename_i o vs n xs
    have fits : (listText (PyData.shownAll xs)).length ≤ sizeLine := by simpa only [PyData.shown] using hz
    obtain ⟨bs, hb, hk⟩ := ShwL.K (prog := prog) (w := w) h4 (by simpa [PyData.showable] using hs) fun t ht => Nat.le_trans (listText_mem_le ht) fits
    obtain ⟨as, q⟩ := ShwL.reads h4
    have apart : a ∉ bs := not_mem_of_deeper (.list h1 h2 h3 q) (by simp only [PyData.depth]; omega) hb
    refine ⟨"list", "list.__repr__", F.slot_list_repr.toG, F.slot_list_str, F.slot_list_format, fun s keep => ⟨o, keep _ _ h1, h2⟩, fun A E s Q hg hu keep hQ => ?_⟩
    simp only [PyData.depth] at hu
    simp only [PyData.shown] at hQ
    obtain ⟨l⟩ := vs
    cases l with
    | nil =>
      have e : ShwL h₀ [] xs := h4
      cases e
      simp only [PyData.shownAll, listText_nil] at hQ
      exact call_list_repr_empty ⟨o, keep _ _ h1, h2⟩ (keep _ _ h1) h3 (hQ s.heap _ _ fun _ _ e => e)
    | cons x l => exact call_list_reprK h1 h2 h3 apart (by simpa using hk.length_eq) (fun i y e => hk.item i y (by simpa using e)) hg (fun b _ => Clear.nil b) hu keep hQ fits
  | tup h1 h2 h3 h4 =>
    rename_i o vs n xs
    have fits : (tupleText (PyData.shownAll xs)).length ≤ sizeLine := by simpa only [PyData.shown] using hz
    obtain ⟨bs, hb, hk⟩ := ShwL.K (prog := prog) (w := w) h4 (by simpa [PyData.showable] using hs) fun t ht => Nat.le_trans (tupleText_mem_le ht) fits
    obtain ⟨as, q⟩ := ShwL.reads h4
    have apart : a ∉ bs := not_mem_of_deeper (.tuple h1 h2 h3 q) (by simp only [PyData.depth]; omega) hb
    refine ⟨"tuple", "tuple.__repr__", F.slot_tuple_repr, F.slot_tuple_str, F.slot_tuple_format, fun s keep => ⟨o, keep _ _ h1, h2⟩, fun A E s Q hg hu keep hQ => ?_⟩
    simp only [PyData.depth] at hu
    simp only [PyData.shown] at hQ
    exact call_tuple_reprK h1 h2 h3 apart hk hg (fun b _ => Clear.nil b) hu keep hQ fits
  | dic h0 h1 h2 h3 =>
    rename_i o n
    refine ⟨"dict", "dict.__repr__", F.slot_dict_repr, F.slot_dict_str, F.slot_dict_format, fun s keep => ⟨o, keep _ _ h1, h2⟩, fun A E s Q hg hu keep hQ => ?_⟩
    rw [dict0_shown] at hQ hz
    simp only [PyData.depth] at hu
    exact call_dict_reprK h1 h2 h3 h0 (List.not_mem_nil) .nil hg (fun b _ => Clear.nil b) hu keep hQ hz
end
/-! ### over the layer -/
mutual
inductive Dq (K : PySem.W.Frag) (H : Hp) : V → PyData → Prop
  | non : Dq K H .non .none
  | bl (b : Bool) : Dq K H (.bl b) (.bool b)
  | int (i : Int) : Dq K H (.int i) (.int i)
  | str (x : Str) : Dq K H (.str x) (.str x)
  | lst {a : Addr} {xs : List V} {ds : List PyData} : SqL K H a xs → DqL K H xs ds → Dq K H (.ref a) (.list ds)
  | tup {a : Addr} {xs : List V} {ds : List PyData} : SqT K H a xs → DqL K H xs ds → Dq K H (.ref a) (.tuple ds)
  | dic {a : Addr} : Rd H a (.dK []) → Dq K H (.ref a) (.dict [])
inductive DqL (K : PySem.W.Frag) (H : Hp) : List V → List PyData → Prop
  | nil : DqL K H [] []
  | cons {v : V} {vs : List V} {d : PyData} {ds : List PyData} : Dq K H v d → DqL K H vs ds → DqL K H (v :: vs) (d :: ds)
end
section
variable {X : Cx} {K : PySem.W.Frag} {pins : List (Addr × Obj)} {σ : L2.St} {H : Hp} {s : Shared}
mutual
theorem Dq.shw (I : Inv X pins σ H s) : ∀ {v : V} {d : PyData} {u : Value}, Dq X.K H v d → RelV v u → Shw s.heap u d
  | _, _, u, .non, r => by cases r; exact .non
  | _, _, u, .bl b, r => by cases r; exact .bl b
  | _, _, u, .int i, r => by obtain ⟨t, rfl⟩ := r; exact .int i t
  | _, _, u, .str x, r => by obtain ⟨t, rfl⟩ := r; exact .str x t
  | _, _, u, .lst hs ha, r => by
    cases r
    obtain ⟨its, rv, ⟨o, n, ho, hc, _, hd⟩, _⟩ := I.list hs
    exact .lst ho hc hd (DqL.shw I ha rv)
  | _, _, u, .tup hs ha, r => by
    cases r
    obtain ⟨its, rv, ⟨o, ho, hc, n, hd⟩, _⟩ := I.tuple hs
    exact .tup ho hc hd (DqL.shw I ha rv)
  | _, _, u, .dic e, r => by
    cases r
    obtain ⟨_, h0, vs, rel, o, es, ep, ho, hex, hd, _, hp, _⟩ := dk_rd I.hok e
    cases rel
    have e0 : es.toList = [] := by
      generalize es.toList = l at hp
      cases hp; rfl
    have : es = #[] := by
      cases es
      simp at e0; subst e0; rfl
    subst this
    exact .dic h0 ho hex.1 hd
theorem DqL.shw (I : Inv X pins σ H s) : ∀ {vs : List V} {ds : List PyData} {us : List Value}, DqL X.K H vs ds → Vals vs us → ShwL s.heap us ds
  | _, _, _, .nil, .nil => .nil
  | _, _, _, .cons h r, .cons q t => .cons (Dq.shw I h q) (DqL.shw I r t)
end
def rReprQ (K : PySem.W.Frag) : List V → Hp → VK → Prop := fun xs H Q => ∃ x d, xs = [x] ∧ Dq K H x d ∧ (PyData.showable d = true ∧ d.shown.length ≤ sizeLine ∧ d.depth ≤ 64) ∧ Q (.str d.shown) H
theorem cr_reprQ (hq : Quiet X.A) (hu : X.A.units + 66 < cLine) : CallR X (.builtin "repr") (rReprQ X.K) := by
  intro pins s σ H xs us Q I r h
  obtain ⟨x, d, rfl, hd, ⟨h1, h2, h3⟩, q⟩ := h
  obtain ⟨u, rfl, rx⟩ := vals1 r
  have far : ∀ a, u = .ref a → wpAny (model X.prog X.w) X.A (call (.builtin "repr") [u]) (EP X pins σ Q) X.xe s := fun a e => by
    subst e
    obtain ⟨T, idr, S⟩ := Shw.by (prog := X.prog) (w := X.w) (Dq.shw I hd rx) h1 h2
    have keep : ∀ b o, s.heap.get? b = some o → s.heap.get? b = some o := fun _ _ e => e
    refine call_repr_slot (by omega) (S.typeIs s keep) S.slotRepr (S.call X.A.in1 X.xe s _ hq (by show X.A.units + 1 + d.depth < cLine; omega) keep fun h' t tk hk => ⟨_, _, rfl, ?_⟩)
    exact ⟨.str _, H, I.kept (h' := h') (t' := tk) hk, ⟨_, rfl⟩, q⟩
  cases hd with
  | non => obtain rfl := rx; exact P.repr_of_none ⟨.str _, H, I.tok _, ⟨_, rfl⟩, q⟩
  | bl b => obtain rfl := rx; exact P.repr_of_bool ⟨.str _, H, I.tok _, ⟨_, rfl⟩, q⟩
  | int i =>
    obtain ⟨t, rfl⟩ := rx
    exact P.repr_of_int (of_decide_eq_true (by simpa [PyData.showable] using h1)) ⟨.str _, H, I.tok _, ⟨_, rfl⟩, q⟩
  | str z =>
    obtain ⟨t, rfl⟩ := rx
    exact P.repr_of_str (hsz := h2) ⟨.str _, H, I.tok _, ⟨_, rfl⟩, q⟩
  | lst hl hr => exact far _ rx
  | tup hl hr => exact far _ rx
  | dic e => exact far _ rx
end
/-! ### data of trees -/
mutual
def pqS : SD → Option PyData
  | .non => some .none
  | .bl b => some (.bool b)
  | .int i => some (.int i)
  | .str s => some (.str s)
  | .ref _ => none
  | .ty _ => none
  | .exc _ _ => none
  | .tup xs => match pqL xs with
    | some ds => some (.tuple ds)
    | none => none
  | .lst xs => match pqL xs with
    | some ds => some (.list ds)
    | none => none
  | .rol xs => match pqL xs with
    | some ds => some (.list ds)
    | none => none
  | .dic [] => some (.dict [])
  | .dic (_ :: _) => none
def pqL : List SD → Option (List PyData)
  | [] => some []
  | d :: r => match pqS d, pqL r with
    | some x, some y => some (x :: y)
    | _, _ => none
end
def pq (μ : Mu) : SD → Option PyData
  | .ref a => match μ a with
    | some (.lst xs) => match pqL xs with
      | some ds => some (.list ds)
      | none => none
    | _ => none
  | d => pqS d
section
variable {K : PySem.W.Frag} {F H : Hp} {μ : Mu}
mutual
theorem RepS.dq (ex : Ext F H) (sub : ∀ a o, F a = some o → H a = some o) : ∀ {d : SD} {v : V} {p : PyData}, RepS K F d v → pqS d = some p → Dq K H v p
  | _, _, _, .non, e => by cases e; exact .non
  | _, _, _, .bl b, e => by cases e; exact .bl b
  | _, _, _, .int b, e => by cases e; exact .int b
  | _, _, _, .str b, e => by cases e; exact .str b
  | _, _, _, .ref _, e => by cases e
  | _, _, _, .ty _, e => by cases e
  | .tup ds, _, _, .tup h r, e => by
    unfold pqS at e
    cases q : pqL ds with
    | none => rw [q] at e; cases e
    | some ps => rw [q] at e; cases e; exact .tup (ex.sqT h) (RepL.dq ex sub r q)
  | .lst ds, _, _, .lst h r, e => by
    unfold pqS at e
    cases q : pqL ds with
    | none => rw [q] at e; cases e
    | some ps => rw [q] at e; cases e; exact .lst (SqL.of (sub _ _ h)) (RepL.dq ex sub r q)
  | .rol ds, _, _, .rol h r, e => by
    unfold pqS at e
    cases q : pqL ds with
    | none => rw [q] at e; cases e
    | some ps => rw [q] at e; cases e; exact .lst (ex.sqL h) (RepL.dq ex sub r q)
  | .dic [], _, _, .dic h q r, e => by
    unfold pqS at e
    cases e
    have : ∀ vs : List (Key × V), vs.map (·.1) = ([] : List (Key × SD)).map (·.1) → vs = [] := fun vs hv => by simpa using hv
    have e2 := this _ q
    subst e2
    exact .dic (ex.rd _ _ h)
  | .dic (_ :: _), _, _, .dic _ _ _, e => by unfold pqS at e; cases e
  | _, _, _, .exc0 _ _, e => by unfold pqS at e; cases e
  | _, _, _, .exc _ _ _ _ _, e => by unfold pqS at e; cases e
theorem RepL.dq (ex : Ext F H) (sub : ∀ a o, F a = some o → H a = some o) : ∀ {ds : List SD} {vs : List V} {ps : List PyData}, RepL K F ds vs → pqL ds = some ps → DqL K H vs ps
  | _, _, _, .nil, e => by unfold pqL at e; cases e; exact .nil
  | d :: ds, _, _, .cons h r, e => by
    unfold pqL at e
    cases q : pqS d with
    | none => rw [q] at e; cases e
    | some x => cases q2 : pqL ds with
      | none => rw [q, q2] at e; cases e
      | some y => rw [q, q2] at e; cases e; exact .cons (RepS.dq ex sub h q) (RepL.dq ex sub r q2)
end
theorem HReal.dq (R : HReal K F H μ) {d : SD} {v : V} {p : PyData} (r : RepS K F d v) (e : pq μ d = some p) : Dq K H v p := by
  cases r with
  | ref a =>
    unfold pq at e
    simp only at e
    cases q : μ a with
    | none => rw [q] at e; cases e
    | some m =>
      rw [q] at e
      obtain ⟨_, o, h, ro⟩ := R.mus a m q
      cases ro with
      | lst r =>
        rename_i ds vs
        cases q2 : pqL ds with
        | none => simp only [q2] at e; cases e
        | some ps => simp only [q2] at e; cases e; exact .lst (SqL.of h) (RepL.dq R.ext R.sub r q2)
      | _ => cases e
  | non => exact RepS.dq R.ext R.sub .non e
  | bl b => exact RepS.dq R.ext R.sub (.bl b) e
  | int b => exact RepS.dq R.ext R.sub (.int b) e
  | str b => exact RepS.dq R.ext R.sub (.str b) e
  | ty b => cases e
  | tup h r => exact RepS.dq R.ext R.sub (.tup h r) e
  | lst h r => exact RepS.dq R.ext R.sub (.lst h r) e
  | rol h r => exact RepS.dq R.ext R.sub (.rol h r) e
  | dic h q r => exact RepS.dq R.ext R.sub (.dic h q r) e
  | exc0 _ _ => cases e
  | exc _ _ _ _ _ => cases e
def drReprQ : DRc := fun ds μ Q => match ds with
  | [d] => match pq μ d with
    | some p => (PyData.showable p = true ∧ p.shown.length ≤ sizeLine ∧ p.depth ≤ 64) ∧ Q (.str p.shown) μ
    | none => False
  | _ => False
theorem lc_reprQ : LRc K drReprQ (rReprQ K) := fun F H μ xs ds Q' Q R r t k => by
  cases r with
  | nil => exact False.elim t
  | cons r1 r2 => cases r2 with
    | cons _ _ => exact False.elim t
    | nil =>
      rename_i d v
      cases e : pq μ d with
      | none => simp only [drReprQ, e] at t
      | some p =>
        simp only [drReprQ, e] at t
        exact ⟨v, p, rfl, R.dq r1 e, t.1, k _ μ t.2 F H _ (Stp.refl _ _ _) R (.str _)⟩
end
/-! ### x == (), x != () of tuples -/
section
variable {X : Cx} {K : PySem.W.Frag}
def rT0 (K : PySem.W.Frag) (neg : Bool) : R2 := fun x y H Q => ∃ a b xs, x = .ref a ∧ y = .ref b ∧ SqT K H a xs ∧ SqT K H b [] ∧ Q (.bl (neg != xs.isEmpty)) H
theorem size_vals {xs : List V} {its : List Value} (r : Vals xs its) : (its.toArray.size == (#[] : Array Value).size) = xs.isEmpty := by
  cases r <;> simp
theorem opr_eqT0 (hu : X.A.units + 64 < cLine) : OpR X (compareOp .Eq) (rT0 X.K false) := by
  intro pins s σ H x y v u Q I rx ry h
  obtain ⟨a, b, xs, rfl, rfl, ha, hb, q⟩ := h
  cases rx; cases ry
  obtain ⟨its, r, ht, _⟩ := I.tuple ha
  obtain ⟨its2, r2, ht2, _⟩ := I.tuple hb
  cases r2
  refine SeqAt.eq_tupleAt (e := fun _ => true) (show s.heap.IsTuple a its.toArray from ht) (show s.heap.IsTuple b #[] from ht2) (by omega) (fun j _ h2 => absurd h2 (Nat.not_lt_zero _)) ?_
  refine ⟨.bl _, H, I, rfl, ?_⟩
  rw [size_vals r]
  simpa using q
theorem opr_neT0 (hu : X.A.units + 64 < cLine) : OpR X (compareOp .NotEq) (rT0 X.K true) := by
  intro pins s σ H x y v u Q I rx ry h
  obtain ⟨a, b, xs, rfl, rfl, ha, hb, q⟩ := h
  cases rx; cases ry
  obtain ⟨its, r, ht, _⟩ := I.tuple ha
  obtain ⟨its2, r2, ht2, _⟩ := I.tuple hb
  cases r2
  refine SeqAt.RcNeAt.tuples (e := fun _ => true) (show s.heap.IsTuple a its.toArray from ht) (show s.heap.IsTuple b #[] from ht2) (by omega) (fun j _ h2 => absurd h2 (Nat.not_lt_zero _)) X.prog X.w X.xe _ ?_
  refine ⟨.bl _, H, I, rfl, ?_⟩
  rw [size_vals r]
  simpa using q
def dT0 (neg : Bool) : DR2 := fun x y μ Q => match x with
  | .tup xs => match y with
    | .tup [] => Q (.bl (neg != xs.isEmpty)) μ
    | _ => False
  | _ => False
theorem lr_T0 {neg : Bool} : LR2 K (dT0 neg) (rT0 K neg) := fun F H μ x y dx dy Q' Q R rx ry t k => by
  cases dx with
  | tup xs => cases dy with
    | tup ys => cases ys with
      | nil =>
        cases rx with
        | tup h1 r1 => cases ry with
          | tup h2 r2 =>
            cases r2
            refine ⟨_, _, _, rfl, rfl, R.ext.sqT h1, R.ext.sqT h2, ?_⟩
            exact k _ μ t F H _ (Stp.refl _ _ _) R (by
              have : ∀ vs : List V, RepL K F xs vs → xs.isEmpty = vs.isEmpty := fun vs q => by cases q <;> rfl
              rw [this _ r1]; exact .bl _)
      | cons _ _ => exact False.elim t
    | _ => exact False.elim t
  | _ => exact False.elim t
end
end DS
/-! DS17: == [], != [] of lists of anything. -/
namespace DS
open PySem PySem.Spec PyProof.Rows L2
section
variable {X : Cx} {K : PySem.W.Frag}
def rL0 (K : PySem.W.Frag) (neg : Bool) : R2 := fun x y H Q => ∃ a b xs, x = .ref a ∧ y = .ref b ∧ SqL K H a xs ∧ SqL K H b [] ∧ Q (.bl (neg != xs.isEmpty)) H
theorem opr_eqL0 (hu : X.A.units + 64 < cLine) : OpR X (compareOp .Eq) (rL0 X.K false) := by
  intro pins s σ H x y v u Q I rx ry h
  obtain ⟨a, b, xs, rfl, rfl, ha, hb, q⟩ := h
  cases rx; cases ry
  obtain ⟨its, r, ht, _⟩ := I.list ha
  obtain ⟨its2, r2, ht2, _⟩ := I.list hb
  cases r2
  have l1 : s.heap.IsList a its.toArray := ht.isList
  have l2 : s.heap.IsList b #[] := ht2.isList
  cases r with
  | nil => exact SeqAt.eq_listAt (e := fun _ => true) l1 l2 rfl (by omega) (fun j _ h2 => absurd h2 (Nat.not_lt_zero _)) ⟨.bl _, H, I, rfl, q⟩
  | cons _ _ => exact SeqAt.eq_list_lengthsAt l1 l2 (by simp) (by omega) ⟨.bl _, H, I, rfl, q⟩
theorem opr_neL0 (hu : X.A.units + 64 < cLine) : OpR X (compareOp .NotEq) (rL0 X.K true) := by
  intro pins s σ H x y v u Q I rx ry h
  obtain ⟨a, b, xs, rfl, rfl, ha, hb, q⟩ := h
  cases rx; cases ry
  obtain ⟨its, r, ht, _⟩ := I.list ha
  obtain ⟨its2, r2, ht2, _⟩ := I.list hb
  cases r2
  have l1 : s.heap.IsList a its.toArray := ht.isList
  have l2 : s.heap.IsList b #[] := ht2.isList
  cases r with
  | nil => exact SeqAt.RcNeAt.lists (e := fun _ => true) l1 l2 rfl (by omega) (fun j _ h2 => absurd h2 (Nat.not_lt_zero _)) X.prog X.w X.xe _ ⟨.bl _, H, I, rfl, q⟩
  | cons _ _ => exact SeqAt.RcNeAt.lists_lengths l1 l2 (by simp) (by omega) X.prog X.w X.xe _ ⟨.bl _, H, I, rfl, q⟩
def dL0 (neg : Bool) : DR2 := fun x y μ Q => match lstD μ x, lstD μ y with
  | some xs, some [] => Q (.bl (neg != xs.isEmpty)) μ
  | _, _ => False
theorem lr_L0 {neg : Bool} : LR2 K (dL0 neg) (rL0 K neg) := fun F H μ x y dx dy Q' Q R rx ry t k => by
  unfold dL0 at t
  cases e1 : lstD μ dx with
  | none => rw [e1] at t; exact False.elim t
  | some xs => cases e2 : lstD μ dy with
    | none => rw [e1, e2] at t; exact False.elim t
    | some ys => cases ys with
      | cons _ _ => rw [e1, e2] at t; exact False.elim t
      | nil =>
        rw [e1, e2] at t
        obtain ⟨a, vs, rfl, ha, r1⟩ := R.lst rx e1
        obtain ⟨b, ws, rfl, hb, r2⟩ := R.lst ry e2
        cases r2
        refine ⟨a, b, vs, rfl, rfl, SqL.of ha, SqL.of hb, ?_⟩
        have : xs.isEmpty = vs.isEmpty := by cases r1 <;> rfl
        exact k _ μ t F H _ (Stp.refl _ _ _) R (by rw [this]; exact .bl _)
end
end DS
/-! DS18: errors of own classes, made by a call with keywords: type.__call__, walked. -/
namespace PySem.DSX
open PySem PySem.W PySem.Calls PyProof.Rows PySem.HandSPX
section
variable {prog : Program} {w : World} {A : Around} {h : Heap} {g : Array GenState} {d : Drawn} {t : Nat} {os : OsState} {T newId initId : String} {tl bmT : List Value}
variable {nm qn : Str} {C N : Addr} {bs : List Value} {hd : Bool} {sn : List Str} {sub : List Value} {ab : Bool} {col : Option Bool} {dd : Option Addr} {k0 k1 k2 k3 k5 : Option Value} {kw : List (Str × Value)}
/-- T.__new__(C, k = v, ..) is let in -/
theorem newK_in {M : Model} {E : Value → Shared → Prop} (hC : h.get? C = some (excClassObj nm qn C N bs tl hd sn sub ab col dd k0 k1 k2 k3 k5 newId)) (F : ExcBaseFacts T newId initId bmT) (same : ∀ X : String, tl.contains (.type X) = bmT.contains (.type X)) {Q : Unit → Shared → Prop}
    (hq : Q () ⟨h, g, d, t, os⟩) : wpAny M A (checkBuiltinCall newId ⟨[.ref C], kw⟩) Q E ⟨h, g, d, t, os⟩ := by
  have star := F.noStar
  have isT : (Value.ref C :: tl).contains (.type T) = true := by
    rw [List.contains_cons, same, F.hasB]
    exact Bool.or_true _
  simp only [checkBuiltinCall, F.newKind, F.newSplit, F.newRow]
  repeat (first
    | refine wpAny_loadPart_at hC ?_
    | (refine wpAny_isSubtype_exc hC ?_
       rw [isT])
    | refine wpAny_staticBase_exc hC ?_
    | refine wpAny_madeBy_exc hC ?_
    | simp only [bne_self_eq_false, Bool.false_eq_true, if_false]
    | wp_step)
  exact hq
/-- .. and lays the object -/
theorem newK {R : Result → Shared → Prop} (hC : h.get? C = some (excClassObj nm qn C N bs tl hd sn sub ab col dd k0 k1 k2 k3 k5 newId)) (F : ExcBaseFacts T newId initId bmT) (same : ∀ X : String, tl.contains (.type X) = bmT.contains (.type X))
    (hq : R (.ok (.ret (.ref (h.objs.size + 1)))) ⟨(h.push (kdv_tup [])).push (excO C h.objs.size), g, d, t, os⟩) : codeAny (model prog w) A (.builtin newId ⟨[.ref C], kw⟩) R ⟨h, g, d, t, os⟩ := by
  have ends := F.ends
  have mem : ∀ (X : String) (b : Bool), bmT.contains (.type X) = b → (Value.ref C :: tl).contains (.type X) = b := fun X b e => by
    rw [List.contains_cons, same, e]
    cases b <;> rfl
  have m1 := mem _ _ F.hasB
  have m2 := mem _ _ F.noAttr
  have m3 := mem _ _ F.noName
  refine codeAny_builtinAt F.entry ?_
  unfold Builtin.«BaseException.__new__»
  refine wpAt_bind ?_
  show wpAt _ _ _ (stack >>= _) _ _ _
  refine wpAt_bind (wpAt_stack fun p below => wpAt_of_wpAny ?_)
  wp_walk
  refine wpAt_of_wpAny ?_
  rw [F.owner]
  repeat (first
    | with_reducible refine wpAny_madeHere_exc F.canon hC ?_
    | with_reducible refine wpAny_loadPart_at hC ?_
    | (with_reducible refine wpAny_isSubtype_exc hC ?_
       first | rw [m1] | rw [m2] | rw [m3])
    | wp_step)
  show R _ _
  rw [Heap.size_push]
  exact hq
/-- type.__call__(C, k = v, ..): the object, then C's own __init__ with the keywords -/
theorem typeK {E : Value → Shared → Prop} {fI : Addr} {Q : Fin → Shared → Prop} (hC : h.get? C = some (excClassObj nm qn C N bs tl hd sn sub ab col dd k0 k1 k2 k3 k5 newId)) (F : ExcBaseFacts T newId initId bmT) (same : ∀ X : String, tl.contains (.type X) = bmT.contains (.type X))
    (li : Looks (model prog w) h (typeLookup (.ref C) "__init__") (some (.ref fI))) (lb : ∀ self, Looks (model prog w) h (bindSpecial (.ref fI) self) (.ref fI, [self]))
    (hq : codeAny (model prog w) A (.call (.ref fI) ⟨[.ref (h.objs.size + 1)], kw⟩) (fun r s' => match r with
      | .ok (.ret v) => v = .none ∧ Q (.done (.ret (.ref (h.objs.size + 1)))) s'
      | .ok _ => False
      | .error e => E e s') ⟨(h.push (kdv_tup [])).push (excO C h.objs.size), g, d, t, os⟩) : wpAny (model prog w) A (Builtin.«type.__call__» ⟨[.ref C], kw⟩) Q E ⟨h, g, d, t, os⟩ := by
  have kept : ∀ b o, h.get? b = some o → ((h.push (kdv_tup [])).push (excO C h.objs.size)).get? b = some o := fun b o e => Heap.get?_push_of_some _ (Heap.get?_push_of_some _ e)
  have hC' := kept _ _ hC
  have hO : ((h.push (kdv_tup [])).push (excO C h.objs.size)).get? (h.objs.size + 1) = some (excO C h.objs.size) := by heap_get
  have own : (Value.ref C :: tl).contains (.ref C) = true := by simp
  have li' := li.keeps kept
  have lb' := (lb (.ref (h.objs.size + 1))).keeps kept
  repeat (first
    | with_reducible refine wpAny_loadPart_at hC ?_
    | with_reducible refine wpAny_madeBy_exc hC ?_
    | wp_step)
  refine codeAny_call_builtin_code (Code.quiet_builtin _ F.quiet) (newK_in hC F same ?_)
  refine newK hC F same ?_
  show wpAny _ _ _ _ _ _
  unfold isInstance
  repeat (first
    | with_reducible refine wpAny_loadPart_at hO ?_
    | (with_reducible refine wpAny_isSubtype_exc hC' ?_
       rw [own])
    | wp_step)
  show wpAny _ _ (typeLookup (.ref C) _) _ _ _
  refine li'.at ?_
  refine wpAny_holding (wpAny_bind (lb'.at ?_))
  refine wpAny_bind (wpAny_call (codeAny_mono hq fun r s' z => ?_))
  match r, z with
  | .error _, z => exact z
  | .ok .next, z => exact z.elim
  | .ok .brk, z => exact z.elim
  | .ok .cont, z => exact z.elim
  | .ok (.ret _), z =>
    obtain ⟨rfl, z⟩ := z
    first
      | exact wpAny_pure (wpAny_pure z)
      | (wp_walk; exact z)
theorem typeK_in {M : Model} {E : Value → Shared → Prop} (hC : h.get? C = some (excClassObj nm qn C N bs tl hd sn sub ab col dd k0 k1 k2 k3 k5 newId)) {Q : Unit → Shared → Prop} (hq : Q () ⟨h, g, d, t, os⟩) : wpAny M A (checkBuiltinCall "type.__call__" ⟨[.ref C], kw⟩) Q E ⟨h, g, d, t, os⟩ := by
  have ty : (⟨h, g, d, t, os⟩ : Shared).TypeIs (.ref C) "type" := ⟨_, hC, rfl⟩
  have c3 := tc_sub
  simp only [checkBuiltinCall, tc_kind, tc_split]
  repeat (any_goals (first
    | assumption
    | with_reducible refine wpAny_loadPart_at hC ?_
    | with_reducible refine wpAny_onRaise ?_
    | with_reducible refine wpAny_map ?_
    | wp_step))
theorem callK {R : Result → Shared → Prop} {fI : Addr} (hC : h.get? C = some (excClassObj nm qn C N bs tl hd sn sub ab col dd k0 k1 k2 k3 k5 newId)) (F : ExcBaseFacts T newId initId bmT) (same : ∀ X : String, tl.contains (.type X) = bmT.contains (.type X))
    (li : Looks (model prog w) h (typeLookup (.ref C) "__init__") (some (.ref fI))) (lb : ∀ self, Looks (model prog w) h (bindSpecial (.ref fI) self) (.ref fI, [self]))
    (hq : codeAny (model prog w) (A.under (.builtin "type.__call__" ⟨[.ref C], kw⟩)) (.call (.ref fI) ⟨[.ref (h.objs.size + 1)], kw⟩) (InitBack (h.objs.size + 1) R) ⟨(h.push (kdv_tup [])).push (excO C h.objs.size), g, d, t, os⟩) :
    codeAny (model prog w) A (.call (.ref C) ⟨[], kw⟩) R ⟨h, g, d, t, os⟩ := by
  have ty : (⟨h, g, d, t, os⟩ : Shared).TypeIs (.ref C) "type" := ⟨_, hC, rfl⟩
  have c1 := tc_lookup
  have c2 := tc_bind (.ref C)
  refine codeAny_of_tree ?_
  show wpAny _ _ (callAny (.ref C) _) _ _ _
  repeat (any_goals (first
    | assumption
    | with_reducible refine wpAny_loadPart_at hC ?_
    | wp_step))
  refine ⟨rfl, ?_⟩
  refine codeAny_call_builtin_at (Code.quiet_builtin _ (by decide +kernel)) entry_typeCall (typeK_in hC (typeK hC F same li lb (codeAny_mono hq fun r s' z => ?_)))
  match r, z with
  | .error _, z => exact z
  | .ok .next, z => exact z
  | .ok .brk, z => exact z
  | .ok .cont, z => exact z
  | .ok (.ret _), z => exact z
end
end PySem.DSX
/-! DS19: errors of own classes as values: made, asked for their class, their field read. -/
namespace DS
open PySem PySem.Spec PyProof.Rows L2
/-- an own __init__ of an error's class: B.__init__(self, y); self.f = y -/
def spI (C : Addr) (f : Str) : Sp := fun vs H Q _ => ∃ (a : Addr) (y : V), vs = [.ref a, y] ∧ H a = some (exo a C none) ∧ ∀ dx, H dx = none → dx ≠ a → Q .non (upd (upd H dx (exd dx [(f, y)])) a (exo a C (some dx)))
/-- all that is known of an error's class with an __init__ of its own -/
structure XDef (K : PySem.W.Frag) (mg : Str → Option Value) (x f p qual : Str) (st : Stmt) where
  C : Addr
  fI : Addr
  fd : FuncData
  F : Fun K "__init__" qual st fI fd
  m : mg x = some (.ref C)
  o : OexC K C
  ini : PySem.W.findIn K (.ref C) "__init__" = some (some (.ref fI))
  fn : PySem.W.typeIn K (.ref fI) = some (.type "function")
  b : Binds K fd ["self", p] []
  kb : KBinds K fd ["self", p] [p] (kwG [.inl 0, .inr 0] 1 1) (kwG [.inl 0, .inr 0] 1 1)
  xk : XcK K x C [f]
abbrev XIni (P : Program) (w : World) (base : Heap) {K : PySem.W.Frag} {mg : Str → Option Value} {x f p qual : Str} {st : Stmt} (D : XDef K mg x f p qual st) (k : Nat) : Prop := FnG P w K mg base CX0 k D.fI D.fd ["self", p] (spI D.C f)
/-- what is known of the class whose __init__ is asked -/
structure XBase (K : PySem.W.Frag) (mg : Str → Option Value) (x : Str) where
  C : Addr
  m : mg x = some (.ref C)
  sp : PySem.W.specialIn K (.ref C) "__getattribute__" = some (some (.builtin "type.__getattribute__"))
  rd : PySem.W.readsIn K C (.type "type") = true
  at_ : PySem.W.findCls K (.ref C) (.type "type") "__init__" = some (.val (.builtin "ValueError.__init__"))
section
variable {X : Cx} {pins : List (Addr × Obj)} {σ : L2.St} {H1 : Hp} {s2 s' : Shared} {a C : Addr} {f : Str} {y : V} {u : Value} {Q : VK}
/-- the error is made: from now on it stays as it is -/
theorem xmk_fin (I : Inv X pins σ (upd H1 a (exo a C none)) s2) (na : H1 a = none)
    (z : CE X.stack X.prog X.w (upd H1 a (exo a C none)) s2 (fun v H2 => v = .non ∧ ∃ dx, H1 dx = none ∧ dx ≠ a ∧ H2 = upd (upd (upd H1 a (exo a C none)) dx (exd dx [(f, y)])) a (exo a C (some dx))) u s')
    (h : ∀ dx, H1 dx = none → dx ≠ a → Q (.ref a) (upd (upd H1 dx (.xd [(f, y)])) a (exq a C (some dx)))) : u = .none ∧ EP X pins σ Q (.ref a) s' := by
  obtain ⟨v, H2, I3, rv, ev, dx, n, ne, rfl⟩ := I.after z
  subst ev
  refine ⟨rv, ?_⟩
  have hd : upd (upd (upd H1 a (exo a C none)) dx (exd dx [(f, y)])) a (exo a C (some dx)) dx = some (exd dx [(f, y)]) := by rw [upd_ne ne, upd_same]
  obtain ⟨mA, hn, rel⟩ := exd_at I3.hok hd
  have J1 := I3.write (t' := s'.toks) (h' := s'.heap) (x := dx) (e := dx) (o := .xd [(f, y)]) (by rw [hd]; exact True.intro) (.inl rfl) (fun _ _ _ e => e) (let ⟨o, _, _, e, _⟩ := hn; ⟨o, e⟩) ⟨mA, hn, rel⟩
  have ha : upd (upd (upd (upd H1 a (exo a C none)) dx (exd dx [(f, y)])) a (exo a C (some dx))) dx (.xd [(f, y)]) a = some (exo a C (some dx)) := by rw [upd_ne (Ne.symm ne), upd_same]
  obtain ⟨t1, ho⟩ := exo_at J1.hok ha
  have J2 := J1.write (t' := s'.toks) (h' := s'.heap) (x := a) (e := a) (o := exq a C (some dx)) (by rw [ha]; exact True.intro) (.inl rfl) (fun _ _ _ e => e) ⟨_, ho⟩
    ⟨⟨_, _, ho, ⟨rfl, rfl⟩, rfl⟩, ⟨_, ho⟩, fun _ _ ⟨oe, vs, e1, e2, e3⟩ k => ⟨oe, vs, k _ e1, e2, e3⟩⟩
  have e : upd (upd (upd (upd (upd H1 a (exo a C none)) dx (exd dx [(f, y)])) a (exo a C (some dx))) dx (.xd [(f, y)])) a (exq a C (some dx)) = upd (upd H1 dx (.xd [(f, y)])) a (exq a C (some dx)) := by
    funext b
    by_cases h1 : b = a
    · rw [h1, upd_same, upd_same]
    · rw [upd_ne h1, upd_ne h1]
      by_cases h2 : b = dx
      · rw [h2, upd_same, upd_same]
      · rw [upd_ne h2, upd_ne h2, upd_ne h1, upd_ne h2, upd_ne h1]
  rw [e] at J2
  exact ⟨V.ref a, _, J2, rfl, h dx n ne⟩
end
def tXmk (C : Addr) (f : Str) (te : TE) : TE := fun σ H Q => te σ H fun y H1 => ∀ a dx, H1 a = none → H1 dx = none → dx ≠ a → Q (.ref a) (upd (upd H1 dx (.xd [(f, y)])) a (exq a C (some dx)))
section
variable {X : Cx} {x f q qual : Str} {st : Stmt} {k : Nat} {e : Expr} {te : TE} {p pos kpos : Pos}
theorem xmk_go {D : XDef X.K X.mg x f q qual st} (F : XIni X.prog X.w X.base D k) (hq : Quiet X.A) (hr : Room (k + 1) X.A) {pins : List (Addr × Obj)} {σ : L2.St} {H1 : Hp} {s1 : Shared} {y : V} {u : Value} {Q : VK} (I : Inv X pins σ H1 s1) (r : RelV y u)
    (h : ∀ a dx, H1 a = none → H1 dx = none → dx ≠ a → Q (.ref a) (upd (upd H1 dx (.xd [(f, y)])) a (exq a D.C (some dx)))) (us : List Value) (kw : List (Str × Value)) (hus : (us = [u] ∧ kw = []) ∨ (us = [] ∧ kw = ([q] : List Str).zip [u])) :
    wpAny (model X.prog X.w) X.A (call (.ref D.C) us kw) (EP X pins σ Q) X.xe s1 := by
  obtain ⟨nm, qn, N, bs, bm, sn, sub, ab, col, dd, k0, k1, k2, k3, k5, hC, hbm⟩ := D.o.cls
  obtain ⟨hp, g, dr, tk, os⟩ := s1
  have old : ∀ b o, hp.get? b = some o → ((hp.push (PySem.W.kdv_tup us)).push (PySem.HandSPX.excO D.C hp.objs.size)).get? b = some o := fun b o e => Heap.get?_push_of_some _ (Heap.get?_push_of_some _ e)
  have new : ((hp.push (PySem.W.kdv_tup us)).push (PySem.HandSPX.excO D.C hp.objs.size)).get? (hp.objs.size + 1) = some (PySem.HandSPX.excO D.C hp.objs.size) := by heap_get
  have na : H1 (hp.objs.size + 1) = none := I.hok.fresh (Nat.le_succ _)
  have J := I.laid (t' := tk) (a := hp.objs.size + 1) (o := exo (hp.objs.size + 1) D.C none) (h' := (hp.push (PySem.W.kdv_tup us)).push (PySem.HandSPX.excO D.C hp.objs.size)) old (Nat.le_succ _) (exo_ok new)
  have want : spI D.C f [.ref (hp.objs.size + 1), y] (upd H1 (hp.objs.size + 1) (exo (hp.objs.size + 1) D.C none))
      (fun v H2 => v = .non ∧ ∃ dx, H1 dx = none ∧ dx ≠ hp.objs.size + 1 ∧ H2 = upd (upd (upd H1 (hp.objs.size + 1) (exo (hp.objs.size + 1) D.C none)) dx (exd dx [(f, y)])) (hp.objs.size + 1) (exo (hp.objs.size + 1) D.C (some dx))) E0 :=
    ⟨_, y, rfl, upd_same, fun dx n ne => ⟨rfl, dx, by rw [upd_ne ne] at n; exact n, ne, rfl⟩⟩
  have vals : Vals [V.ref (hp.objs.size + 1), y] [Value.ref (hp.objs.size + 1), u] := .cons rfl (.cons r .nil)
  have binds : BindsTo ⟨(hp.push (PySem.W.kdv_tup us)).push (PySem.HandSPX.excO D.C hp.objs.size), g, dr, tk, os⟩ D.fd ⟨.ref (hp.objs.size + 1) :: us, kw⟩ ((["self", q] : List Str).zip [.ref (hp.objs.size + 1), u]) := by
    rcases hus with ⟨rfl, rfl⟩ | ⟨rfl, rfl⟩
    · exact D.b _ [_, _] J.kIn rfl
    · exact D.kb.to _ [_] [_] J.kIn rfl
  have go := F.go (X.A.under (.builtin "type.__call__" ⟨.ref D.C :: us, kw⟩)) X.stack _ _ _ _ _ _ E0 (quiet_make hq D.C us kw) (hr.make D.C us kw) (J.env0.make D.C us kw) binds vals want
  have back : codeAny (model X.prog X.w) X.A (.call (.ref D.C) ⟨us, kw⟩) (fun r s' => match r with
      | .ok (.ret u) => EP X pins σ Q u s'
      | .ok _ => False
      | .error e => X.xe e s') ⟨hp, g, dr, tk, os⟩ := by
    have fin : codeAny (model X.prog X.w) (X.A.under (.builtin "type.__call__" ⟨.ref D.C :: us, kw⟩)) (.call (.ref D.fI) ⟨.ref (hp.objs.size + 1) :: us, kw⟩) (PySem.W.InitBack (hp.objs.size + 1) (fun r s' => match r with
      | .ok (.ret u) => EP X pins σ Q u s'
      | .ok _ => False
      | .error e => X.xe e s')) ⟨(hp.push (PySem.W.kdv_tup us)).push (PySem.HandSPX.excO D.C hp.objs.size), g, dr, tk, os⟩ := by
      refine codeAny_mono go fun r s' z => ?_
      match r, z with
      | .error _, z => exact False.elim z
      | .ok .next, z => exact False.elim z
      | .ok .brk, z => exact False.elim z
      | .ok .cont, z => exact False.elim z
      | .ok (.ret u), z => exact xmk_fin J na z fun dx n ne => h _ dx na n ne
    have look := PySem.W.looks_findIn (M := model X.prog X.w) I.kIn D.ini
    have same := fun Y : String => PySem.HandSPX.refsVE_contains Y bm hbm
    have bnd := fun self => PySem.W.bind_fn (M := model X.prog X.w) I.kIn self D.fn
    rcases hus with ⟨rfl, rfl⟩ | ⟨rfl, rfl⟩
    · exact PySem.HandSPX.call_own PySem.F.excBase_ValueError same (I.kIn _ _ hC) look bnd (by show 1 ≤ sizeLine; decide) fin
    · exact PySem.DSX.callK (I.kIn _ _ hC) PySem.F.excBase_ValueError same look bnd fin
  refine wpAny_call (codeAny_mono back fun r s' z => ?_)
  match r, z with
  | .error _, z => exact z
  | .ok .next, z => exact z
  | .ok .brk, z => exact z
  | .ok .cont, z => exact z
  | .ok (.ret _), z => exact z
end
section
variable {X : Cx} {x f q qual B : Str} {st : Stmt} {k n : Nat} {e : Expr} {es : List Expr} {te : TE} {t : TA} {p p1 p2 p3 p4 p5 p6 p7 p8 p9 p10 pos kpos : Pos}
/-- B.__init__(e, ..), B an own class of errors -/
theorem pe_bini (D : XBase X.K X.mg B) (hg : Gl X B) (ha : PA X (e :: es) t) (hdb : (B == ("__debug__" : Str)) = false) {pl : Sem Bool}
    (hc : eval (.Call (.Attribute (.Name B p1) "__init__" p2) (e :: es) [] pos) X.env = (do
      let ov ← eval (.Name B p1) X.env
      standAt p2.atName
      let (f, first) ← holding [ov] (getMethod ov "__init__" pl)
      callWith pos f first (backTo pos (starEach (e :: es) X.env)) (backToKw pos (keywordEach [] X.env))))
    (he : starEach (e :: es) X.env = (false, eval e X.env) :: starEach es X.env := by rfl) (hpl : (backTo pos (starEach es X.env)).any (·.1) = false := by rfl) :
    PE X (.Call (.Attribute (.Name B p1) "__init__" p2) (e :: es) [] pos) (tVeI X.K t) := by
  refine ⟨fun pins s σ H Q I h => ?_⟩
  refine PySem.W.methodCall_KW (ld_glob I hg D.m ?_ hdb) hc
  refine PySem.W.method_cls I.kIn D.sp (PySem.W.cls_value I.kIn D.rd D.at_ (by decide +kernel) ?_)
  show wpAny _ _ (callWith pos (Value.builtin "ValueError.__init__") [] (backTo pos (starEach (e :: es) X.env)) []) _ _ _
  refine PyProof.Rows.callWith_method1 (thn (ha.run pos pins _ σ H _ (I.tok _) h) fun us s1 ⟨vs, H1, I1, r1, a, C, ws, ev, hl, T, ea, q⟩ => ?_) he hpl
  subst ev
  match us, r1 with
  | _ :: us, .cons r0 r1 =>
    cases r0
    exact oinit_ok T I1 ea (by rw [← r1.length, sizeLine_eq]; omega) fun s' J => ⟨.non, H1, J, rfl, q⟩
/-- self.f = y behind it: the whole __init__ -/
theorem xini_ok {P : Program} {w : World} {K : PySem.W.Frag} {mg : Str → Option Value} {base : Heap} (D : XDef K mg x f q qual st) (Z : XBase K mg B) (S : FnScope ["self", q] ["self", q] (defScope st))
    (hb : defBody st = [.Expr (.Call (.Attribute (.Name B p1) "__init__" p2) [.Name "self" p3, .Name q p4] [] p5) p6, .Assign [.Attribute (.Name "self" p7) f p8] (.Name q p9) p10])
    (hg : (defScope st).names.lookup B = some .globalImplicit) (v0 : Vis (defScope st) "self") (v1 : Vis (defScope st) q) (hdb : (B == ("__debug__" : Str)) = false) (hq1 : (q == ("__debug__" : Str)) = false) (hq2 : (q == ("__classdict__" : Str)) = false)
    (hc : ∀ (L : Addr) (cdv : Value), ∃ pl : Sem Bool, eval (.Call (.Attribute (.Name B p1) "__init__" p2) [.Name "self" p3, .Name q p4] [] p5) (envOfC qual (defScope st) L D.fI cdv) = (do
      let ov ← eval (.Name B p1) (envOfC qual (defScope st) L D.fI cdv)
      standAt p2.atName
      let (f, first) ← holding [ov] (getMethod ov "__init__" pl)
      callWith p5 f first (backTo p5 (starEach [.Name "self" p3, .Name q p4] (envOfC qual (defScope st) L D.fI cdv))) (backToKw p5 (keywordEach [] (envOfC qual (defScope st) L D.fI cdv))))) : XIni P w base D 2 := by
  obtain ⟨oc, od, kV, doc, pm, an, cdv, ct, osl, e, lk, hcd⟩ := D.F.ex
  unfold XIni
  rw [e] at lk ⊢
  refine fnG_of lk hcd S (fun vs H Q E h => by obtain ⟨_, _, rfl, _⟩ := h; rfl) fun A outer s H vs Q E quiet room want => ?_
  obtain ⟨a, y, rfl, ea, k⟩ := want
  obtain ⟨pl, hpl⟩ := hc s.heap.objs.size cdv
  refine ⟨_, by
    rw [hb]
    exact pss_cons (ps_expr (pe_bini (t := tCons (tVar 0) (tCons (tVar 1) tNil)) Z hg (pa_cons (pe_var (i := 0) rfl v0) (pa_cons (pe_var (i := 1) rfl v1 hq1 hq2) pa_nil)) hdb hpl)) (pss_one (ps_ost (pe_var (i := 0) rfl v0) (pe_var (i := 1) rfl v1 hq1 hq2))), ?_⟩
  exact ⟨.ref a, rfl, y, rfl, a, D.C, [y], rfl, (by show 1 ≤ 1000; decide), D.o, ea, y, rfl, .ref a, rfl, a, D.C, rfl, D.o, D.xk.no f (List.mem_cons_self ..), .inl ⟨ea, k⟩⟩
theorem pe_xmk {D : XDef X.K X.mg x f q qual st} (F : XIni X.prog X.w X.base D k) (hq : Quiet X.A) (hr : Room n X.A) (ha : PE X e te) (hk : k + 1 ≤ n := by omega) (hg : Gl X x := by rfl) (hdb : (x == ("__debug__" : Str)) = false := by decide)
    (he : starEach [e] X.env = (false, eval e X.env) :: starEach [] X.env := by rfl) : PE X (.Call (.Name x p) [e] [] pos) (tXmk D.C f te) := by
  refine ⟨fun pins s σ H Q I h => ?_⟩
  refine wpAny_Call_Name_kw (ld_glob I hg D.m ?_ hdb)
  refine PySem.W.callWith_K (h₀ := X.base) I.ok.mod.kin D.o.kC (thn ((pa_cons ha pa_nil he).run pos pins s σ H (fun vs H1 => match vs with | [y] => ∀ a dx, H1 a = none → H1 dx = none → dx ≠ a → Q (.ref a) (upd (upd H1 dx (.xd [(f, y)])) a (exq a D.C (some dx))) | _ => False) I h) fun us s1 z => ?_) he (by rfl)
  obtain ⟨vs, H1, I1, r1, q1⟩ := z
  match vs, us, r1, q1 with
  | [y], [u], .cons r0 .nil, q1 => exact ⟨I1.kIn, xmk_go F hq (hr.mono hk) I1 r0 q1 [u] [] (.inl ⟨rfl, rfl⟩)⟩
  | [], _, _, q1 => exact q1.elim
  | _ :: _ :: _, _, _, q1 => exact q1.elim
theorem pe_xmkK {D : XDef X.K X.mg x f q qual st} {kws : List Keyword} {tk : TA} (F : XIni X.prog X.w X.base D k) (hq : Quiet X.A) (hr : Room n X.A) (hkw : PK X kws tk) (hk : k + 1 ≤ n := by omega) (hg : Gl X x := by rfl) (hdb : (x == ("__debug__" : Str)) = false := by decide)
    (hall : (backToKw pos (keywordEach kws X.env)).all (·.1.isSome) = true := by rfl) (hks : (backToKw pos (keywordEach kws X.env)).filterMap (·.1) = [q] := by rfl) (hpl : ((backToKw pos (keywordEach kws X.env)).any (·.1.isNone)) = false := by rfl) :
    PE X (.Call (.Name x p) [] kws pos) (fun σ H Q => tk σ H fun vs H1 => match vs with | [y] => ∀ a dx, H1 a = none → H1 dx = none → dx ≠ a → Q (.ref a) (upd (upd H1 dx (.xd [(f, y)])) a (exq a D.C (some dx))) | _ => False) := by
  refine ⟨fun pins s σ H Q I h => ?_⟩
  refine wpAny_Call_Name_kw (ld_glob I hg D.m ?_ hdb)
  refine PySem.W.callWith_KW0 (h₀ := X.base) I.ok.mod.kin D.o.kC hall (thn (hkw.run pos pins s σ H _ I h) fun ws s1 z => ?_) (by show (_ || _) = false; rw [hpl]; rfl)
  obtain ⟨vs, H1, I1, r1, q1⟩ := z
  rw [hks]
  match vs, ws, r1, q1 with
  | [y], [u], .cons r0 .nil, q1 => exact ⟨I1.kIn, xmk_go F hq (hr.mono hk) I1 r0 q1 [] _ (.inr ⟨rfl, rfl⟩)⟩
  | [], _, _, q1 => exact q1.elim
  | _ :: _ :: _, _, _, q1 => exact q1.elim
end
/-- C(e): the error with its field -/
abbrev dXmk (x f : Str) (te : DTE) : DTE := fun ρ μ Q => te ρ μ fun d μ1 => Q (.exc x [(f, d)]) μ1
def dXmkK (x f : Str) (t : DTA) : DTE := fun ρ μ Q => t ρ μ fun ds μ1 => match ds with
  | [d] => Q (.exc x [(f, d)]) μ1
  | _ => False
/-- a class of errors without an __init__ of its own -/
structure XDef0 (K : PySem.W.Frag) (mg : Str → Option Value) (x : Str) where
  C : Addr
  m : mg x = some (.ref C)
  ex : PySem.W.excIn K C [.type "ValueError", .type "Exception", .type "BaseException", .type "object"] "ValueError.__new__" = true
  kC : PySem.W.keepIn K (.ref C) = true
  xk : XcK K x C []
section
variable {X : Cx} {x f q qual : Str} {st : Stmt} {k n : Nat} {e : Expr} {te : DTE} {t : DTA} {p pos kpos : Pos}
theorem rep_xmk {K : PySem.W.Frag} {F1 H1 : Hp} {μ1 : Mu} {x f : Str} {C a dx : Addr} {d : SD} {v : V} (c : XcK K x C [f]) (R1 : HReal K F1 H1 μ1) (r1 : RepS K F1 d v) (na : H1 a = none) (nd : H1 dx = none) (ne : dx ≠ a) :
    ∃ F2, Stp F1 H1 μ1 F2 (upd (upd H1 dx (.xd [(f, v)])) a (exq a C (some dx))) μ1 ∧ HReal K F2 (upd (upd H1 dx (.xd [(f, v)])) a (exq a C (some dx))) μ1 ∧ RepS K F2 (.exc x [(f, d)]) (.ref a) := by
  have n2 : upd H1 dx (.xd [(f, v)]) a = none := by rw [upd_ne (Ne.symm ne)]; exact na
  have RA := R1.newS (o := .xd [(f, v)]) nd
  have SA := Stp.newS R1 (o := .xd [(f, v)]) nd
  refine ⟨_, SA.trans (Stp.newS RA (o := exq a C (some dx)) n2), RA.newS n2, ?_⟩
  exact .exc (ds := [(f, d)]) (vs := [(f, v)]) c upd_same (by rw [upd_ne ne, upd_same]) rfl (RepL.one ((r1.mono SA.ext).mono (Stp.newS RA (o := exq a C (some dx)) n2).ext))
theorem de_xmk {D : XDef X.K X.mg x f q qual st} (F : XIni X.prog X.w X.base D k) (hq : Quiet X.A) (hr : Room n X.A) (ha : DE X e te) (hk : k + 1 ≤ n := by omega) (hg : Gl X x := by rfl) (hdb : (x == ("__debug__" : Str)) = false := by decide)
    (he : starEach [e] X.env = (false, eval e X.env) :: starEach [] X.env := by rfl) : DE X (.Call (.Name x p) [e] [] pos) (dXmk x f te) := weakE (pe_xmk F hq hr ha hk hg hdb he) fun σ H Q h => by
  obtain ⟨F, ρ, μ, Q', R, S, t, k⟩ := h
  refine ⟨F, ρ, μ, _, R, S, t, fun d μ1 t1 F1 H1 v s1 R1 r1 a dx na nd ne => ?_⟩
  obtain ⟨F2, s2, R2, r2⟩ := rep_xmk D.xk R1 r1 na nd ne
  exact k _ μ1 t1 F2 _ _ (s1.trans s2) R2 r2
theorem de_xmkK {D : XDef X.K X.mg x f q qual st} {kws : List Keyword} (F : XIni X.prog X.w X.base D k) (hq : Quiet X.A) (hr : Room n X.A) (ha : DK X kws t) (hk : k + 1 ≤ n := by omega) (hg : Gl X x := by rfl) (hdb : (x == ("__debug__" : Str)) = false := by decide)
    (hall : (backToKw pos (keywordEach kws X.env)).all (·.1.isSome) = true := by rfl) (hks : (backToKw pos (keywordEach kws X.env)).filterMap (·.1) = [q] := by rfl) (hpl : ((backToKw pos (keywordEach kws X.env)).any (·.1.isNone)) = false := by rfl) :
    DE X (.Call (.Name x p) [] kws pos) (dXmkK x f t) := weakE (pe_xmkK F hq hr ha hk hg hdb hall hks hpl) fun σ H Q h => by
  obtain ⟨F, ρ, μ, Q', R, S, t, k⟩ := h
  refine ⟨F, ρ, μ, _, R, S, t, fun ds μ1 t1 F1 H1 vs s1 R1 r1 => ?_⟩
  match ds, vs, r1, t1 with
  | [d], [v], .cons r1 .nil, t1 =>
    intro a dx na nd ne
    obtain ⟨F2, s2, R2, r2⟩ := rep_xmk D.xk R1 r1 na nd ne
    exact k _ μ1 t1 F2 _ _ (s1.trans s2) R2 r2
  | [], _, _, t1 => exact t1.elim
  | _ :: _ :: _, _, _, t1 => exact t1.elim
theorem de_xmk0 {D : XDef0 X.K X.mg x} (hg : Gl X x := by rfl) (hdb : (x == ("__debug__" : Str)) = false := by decide) : DE X (.Call (.Name x p) [] [] pos) (dC (.exc x [])) := by
  refine ⟨fun pins s σ H Q I h => ?_⟩
  obtain ⟨F, ρ, μ, Q', R, S, t, k⟩ := h
  refine wpAny_Call_Name_kw (ld_glob I hg D.m ?_ hdb)
  refine PySem.W.callWith_K0 I.kIn D.kC ?_
  show wpAny _ _ (call (.ref D.C) []) _ _ _
  obtain ⟨bm, N, nm, qn, bs, hdct, sn, sub, ab, col, dd, k0, k1, k2, k3, k5, mN, hC, hN, hni, T⟩ := exc_obj I.kIn D.ex
  refine wpAny_call_exc_subT PySem.F.excBase_ValueError T hC hN hni (fun h' a hm => ?_) (by show 0 ≤ sizeLine; exact Nat.zero_le _)
  have n : H a = none := I.hok.gone hm.new
  obtain ⟨tt, ht, _, _⟩ := hm.there
  exact ⟨V.ref a, upd H a (exq a D.C none), I.laidN hm.keeps hm.new n ⟨⟨_, _, ht, ⟨rfl, rfl⟩, rfl⟩, ⟨_, ht⟩, fun _ _ ⟨oe, vs, e1, e2, e3⟩ kk => ⟨oe, vs, kk _ e1, e2, e3⟩⟩, rfl,
    k _ μ t _ _ _ (Stp.newS R n) (R.newS n) (.exc0 D.xk upd_same)⟩
end
/-! ### isinstance -/
def rX (K : PySem.W.Frag) (c : V) (cv : Value) : List V → Hp → VK → Prop := fun xs H Q => ∃ (a C : Addr) (od : Option Addr) (b : Bool) (x : Str) (fs : List Str), xs = [.ref a, c] ∧ H a = some (exq a C od) ∧ (∀ d, od = some d → ∃ vs, H d = some (.xd vs)) ∧ XcK K x C fs ∧ PySem.W.kitOne K (.ref C) cv = some b ∧ Q (.bl b) H
section
variable {X : Cx} {c : V} {cv : Value}
theorem call_x (hcv : ∀ u, RelV c u → u = cv) : CallR X (.builtin "isinstance") (rX X.K c cv) := by
  intro pins s σ H xs us Q I r h
  obtain ⟨a, C, od, b, x, fs, rfl, ea, ed, T, e, q⟩ := h
  match us, r with
  | [_, u], .cons r0 (.cons r1 .nil) =>
    cases r0
    have eu := hcv _ r1
    subst eu
    obtain ⟨⟨oe, vs, e1, ⟨z1, z2⟩, e3⟩, _, _⟩ := I.hok a _ ea
    have cls : (PySem.W.clsIn X.K C).isSome = true := by
      obtain ⟨cd, hc, _⟩ := PySem.W.any_some T.hd
      rw [hc]; rfl
    have no : PySem.W.notCls oe = true := by unfold PySem.W.notCls; rw [e3] <;> rfl
    have at_ : ∃ o : Option Obj, PySem.W.InstAt s.heap a oe C o := by
      cases q2 : od with
      | none => exact ⟨none, e1, z1, no, by rw [z2, q2]; exact True.intro⟩
      | some d =>
        obtain ⟨ws, hd⟩ := ed d q2
        have hx : ObjOk X.prog X.w H s.heap d (.xd ws) := I.hok d _ hd
        obtain ⟨mA, ⟨o, es, ep, ho, _⟩, _⟩ := hx
        exact ⟨some o, e1, z1, no, by rw [z2, q2]; exact ho⟩
    obtain ⟨o, J⟩ := at_
    exact PySem.W.kia_one (PySem.W.kitx_exc cls T.ga T.gg T.sub T.cl T.sp T.tk T.mro) I.kIn J e (fun z => nomatch z) fun tk => ⟨.bl b, H, I.kept (t' := tk) fun _ _ z => z, rfl, q⟩
end
/-- isinstance(an error, one class): kx says what for the class named -/
def isQ (kx : Str → Option Bool) (Q : SD → Mu → Prop) : SD → Mu → Prop := fun d μ => match d with
  | .exc x _ => (match kx x with
    | some b => Q (.bl b) μ
    | none => False)
  | _ => False
abbrev dIsX (kx : Str → Option Bool) (te : DTE) : DTE := fun ρ μ Q => te ρ μ (isQ kx Q)
section
variable {X : Cx} {x f : Str} {C : Addr} {e : Expr} {te : DTE} {p p2 pos : Pos} {kx : Str → Option Bool} {T : String}
theorem isx_go {c : SD} {v : V} {cv : Value} {Q' : SD → Mu → Prop} {Q : VK} {K : PySem.W.Frag} {F H : Hp} {μ : Mu} (hc : plain c = some v) (hk : ∀ x b C, kx x = some b → PySem.W.nsIn K mainGlobals x = some (some (.ref C)) → PySem.W.kitOne K (.ref C) cv = some b) {d : SD} {w : V} (R : HReal K F H μ) (r1 : RepS K F d w) (t : isQ kx Q' d μ)
    (k : ∀ d' μ', Q' d' μ' → ∀ F' H' v, Stp F H μ F' H' μ' → HReal K F' H' μ' → RepS K F' d' v → Q v H') : rX K v cv [w, v] H Q := by
  unfold isQ at t
  cases r1 with
  | exc0 T q =>
    simp only at t
    split at t
    · rename_i b e
      exact ⟨_, _, none, b, _, [], rfl, R.sub _ _ q, fun _ z => (by cases z), T, hk _ _ _ e T.at_, k _ _ t _ _ _ (Stp.refl _ _ _) R (.bl b)⟩
    · exact t.elim
  | exc T q q2 z r3 =>
    simp only at t
    split at t
    · rename_i b e
      exact ⟨_, _, some _, b, _, _, rfl, R.sub _ _ q, fun d z => (by cases z; exact ⟨_, R.sub _ _ q2⟩), T, hk _ _ _ e T.at_, k _ _ t _ _ _ (Stp.refl _ _ _) R (.bl b)⟩
    · exact t.elim
  | _ => exact t.elim
theorem isx_lift {c : SD} {v : V} {cv : Value} (hc : plain c = some v) (hk : ∀ x b C, kx x = some b → PySem.W.nsIn X.K mainGlobals x = some (some (.ref C)) → PySem.W.kitOne X.K (.ref C) cv = some b) (σ : L2.St) (H : Hp) (Q : VK) (h : LE X.K (dIsX kx te) σ H Q) :
    LA X.K (dCons te (dCons (dC c) dNil)) σ H (fun xs H1 => rX X.K v cv xs H1 Q) := by
  obtain ⟨F, ρ, μ, Q', R, S, t, k⟩ := h
  refine ⟨F, ρ, μ, fun ds μ1 => match ds with
    | [d, c'] => c' = c ∧ isQ kx Q' d μ1
    | _ => False, R, S, ?_, fun ds μ1 t1 F1 H1 vs s1 R1 r1 => ?_⟩
  · have mono : (fun (d : SD) (μ1 : Mu) => c = c ∧ isQ kx Q' d μ1) = isQ kx Q' := by
      funext d μ1
      exact propext ⟨fun z => z.2, fun z => ⟨rfl, z⟩⟩
    show te ρ μ (fun d μ1 => c = c ∧ isQ kx Q' d μ1)
    rw [mono]
    exact t
  · match ds, vs, r1, t1 with
    | [d, c'], [w, w'], .cons ra (.cons rb .nil), t2 =>
      have t3 : c' = c ∧ isQ kx Q' d μ1 := t2
      have ew : w' = v := by
        rw [t3.1] at rb
        exact rb.isPlain hc
      rw [ew]
      exact isx_go hc hk R1 ra t3.2 fun d' μ' q F' H' v' s R' r' => k d' μ' q F' H' v' (s1.trans s) R' r'
    | [], _, _, t1 => exact t1.elim
    | [_], _, _, t1 => exact t1.elim
    | _ :: _ :: _ :: _, _, _, t1 => exact t1.elim
theorem de_isX {D : Addr} (ha : DE X e te) (hI : Gl X "isinstance") (zI : X.mg "isinstance" = none) (hg : Gl X x) (hm : X.mg x = some (.ref D)) (hk : ∀ y b C, kx y = some b → PySem.W.nsIn X.K mainGlobals y = some (some (.ref C)) → PySem.W.kitOne X.K (.ref C) (.ref D) = some b)
    (hdb : (x == ("__debug__" : Str)) = false := by decide) (he : starEach [e, .Name x p2] X.env = (false, eval e X.env) :: starEach [.Name x p2] X.env := by rfl) (he2 : starEach [.Name x p2] X.env = (false, eval (.Name x p2) X.env) :: starEach [] X.env := by rfl)
    (hpl : (backTo pos (starEach [.Name x p2] X.env)).any (·.1) = false := by rfl) : DE X (.Call (.Name "isinstance" p) [e, .Name x p2] [] pos) (dIsX kx te) :=
  weakE (pe_callB (call_x (c := .ref D) (cv := .ref D) fun u r => r) hI zI bt_isinstance (da_cons ha (da_cons (de_glob (d := .ref D) (v := .ref D) hg hm rfl rfl hdb) da_nil he2) he) (by decide) (by decide) he hpl) (isx_lift (v := .ref D) rfl hk)
theorem de_isXT (ha : DE X e te) (hI : Gl X "isinstance") (zI : X.mg "isinstance" = none) (hg : Gl X x) (hm : X.mg x = none) (hv : bootBuiltins x = some (.type T)) (hk : ∀ y b C, kx y = some b → PySem.W.nsIn X.K mainGlobals y = some (some (.ref C)) → PySem.W.kitOne X.K (.ref C) (.type T) = some b)
    (hdb : (x == ("__debug__" : Str)) = false := by decide) (hn : x ≠ "__name__" := by decide) (he : starEach [e, .Name x p2] X.env = (false, eval e X.env) :: starEach [.Name x p2] X.env := by rfl) (he2 : starEach [.Name x p2] X.env = (false, eval (.Name x p2) X.env) :: starEach [] X.env := by rfl)
    (hpl : (backTo pos (starEach [.Name x p2] X.env)).any (·.1) = false := by rfl) : DE X (.Call (.Name "isinstance" p) [e, .Name x p2] [] pos) (dIsX kx te) :=
  weakE (pe_callB (call_x (c := .ty T) (cv := .type T) fun u r => r) hI zI bt_isinstance (da_cons ha (da_cons (de_ty hg hm hv hn hdb) da_nil he2) he) (by decide) (by decide) he hpl) (isx_lift (v := .ty T) rfl hk)
end
/-! ### the field of an error -/
def tXfl (K : PySem.W.Frag) (f : Str) (te : TE) : TE := fun σ H Q => te σ H fun x H1 => ∃ (a C dx : Addr) (fs : List (Str × V)) (v : V) (y : Str) (ns : List Str), x = .ref a ∧ H1 a = some (exq a C (some dx)) ∧ H1 dx = some (.xd fs) ∧ fs.lookup f = some v ∧ XcK K y C ns ∧ f ∈ ns ∧ Q v H1
def dFld (f : Str) (te : DTE) : DTE := fun ρ μ Q => te ρ μ fun d μ1 => match d with
  | .exc _ fs => (match fs.lookup f with
    | some v => Q v μ1
    | none => False)
  | _ => False
theorem fld_at {K : PySem.W.Frag} {F : Hp} {f : Str} {d : SD} : ∀ {ds : List (Str × SD)} {vs : List (Str × V)}, vs.map (·.1) = ds.map (·.1) → RepL K F (ds.map (·.2)) (vs.map (·.2)) → ds.lookup f = some d → ∃ v, vs.lookup f = some v ∧ RepS K F d v ∧ f ∈ ds.map (·.1)
  | [], _, _, _, h => by cases h
  | (g, e) :: ds, [], h, _, _ => by simp at h
  | (g, e) :: ds, (g', w) :: vs, h, .cons r rs, hl => by
    simp only [List.map_cons, List.cons.injEq] at h
    obtain ⟨rfl, h⟩ := h
    simp only [List.lookup_cons] at hl ⊢
    split at hl
    · rename_i z
      cases hl
      exact ⟨w, rfl, r, by rw [beq_iff_eq.mp z]; exact List.mem_cons_self ..⟩
    · obtain ⟨v, a, b, c⟩ := fld_at h rs hl
      exact ⟨v, a, b, List.mem_cons_of_mem _ c⟩
section
variable {X : Cx} {f : Str} {e : Expr} {te : TE} {td : DTE} {pos : Pos}
theorem pe_xfl (he : PE X e te) (hb : attributeBase e f X.env (eval e X.env) = eval e X.env := by rfl) : PE X (.Attribute e f pos) (tXfl X.K f te) := by
  refine ⟨fun pins s σ H Q I h => attr_of hb (thn (he.run pins s σ H _ I h) fun u s1 z => ?_)⟩
  obtain ⟨x, H1, I1, rx, a, C, dx, fs, v, y, ns, rfl, ea, ed, l, T, hf, q⟩ := z
  cases rx
  obtain ⟨⟨oe, vs, e1, ⟨z1, z2⟩, e3⟩, _, _⟩ := I1.hok a _ ea
  have hx : ObjOk X.prog X.w H1 s1.heap dx (.xd fs) := I1.hok dx _ ed
  obtain ⟨mA, hns, hr⟩ := hx
  obtain ⟨o, ho, hl⟩ := lookIn_ns hns
  obtain ⟨u, hu, ru⟩ := RelO.some_of (v := v) (o := mA f) (by rw [← l]; exact hr f)
  have J : PySem.W.InstAt s1.heap a oe C (some o) := ⟨e1, z1, by unfold PySem.W.notCls; rw [e3] <;> rfl, by rw [z2]; exact ho⟩
  exact PySem.HandSPX.exc_get I1.kIn J T.ga T.gg T.sub (PySem.W.findObj_own T.hd (T.no f hf) rfl (by rw [hl, hu])) (handed_of ru) ⟨v, H1, I1.tok _, ru, q⟩
theorem de_fld (he : DE X e td) (hb : attributeBase e f X.env (eval e X.env) = eval e X.env := by rfl) : DE X (.Attribute e f pos) (dFld f td) := weakE (pe_xfl he hb) fun σ H Q h => by
  obtain ⟨F, ρ, μ, Q', R, S, t, k⟩ := h
  refine ⟨F, ρ, μ, _, R, S, t, fun d μ1 t1 F1 H1 v s1 R1 r1 => ?_⟩
  cases r1 with
  | exc0 T q => exact t1.elim
  | exc T q q2 z r3 =>
    simp only at t1
    split at t1
    · rename_i w e
      obtain ⟨v, l, r, m⟩ := fld_at z r3 e
      exact ⟨_, _, _, _, v, _, _, rfl, R1.sub _ _ q, R1.sub _ _ q2, l, T, m, k _ μ1 t1 F1 H1 v s1 R1 r⟩
    · exact t1.elim
  | _ => exact t1.elim
end
end DS
/-! DS20: what must be known of the classes of errors, asked of the written part. -/
namespace DS
open PySem PySem.Spec PyProof.Rows L2
def inCls : Stmt → List Stmt
  | .ClassDef (body := b) .. => b
  | _ => []
/-- the plain facts of a class of errors (C the class, fI its own __init__, f its field) -/
structure XF (K : PySem.W.Frag) (C : Addr) : Prop where
  sa : PySem.W.findIn K (.ref C) "__setattr__" = some (some (.builtin "object.__setattr__"))
  ex : PySem.W.subIn K (.ref C) (.type "BaseException") = some true
  ty : PySem.W.typeIn K (.ref C) = some (.type "type")
  kc : PySem.W.keepIn K (.ref C) = true
  ga : PySem.W.findIn K (.ref C) "__getattribute__" = some (some (.builtin "BaseException.__getattribute__"))
  gg : PySem.W.findIn K (.ref C) "__getattr__" = some none
  hd : PySem.W.hasDictIn K C = true
  cl : PySem.W.findIn K (.ref C) "__class__" = some (some (.builtin "object.__class__"))
  sp : PySem.W.specialIn K (.builtin "object.__class__") "__get__" = some (some (.builtin "getset_descriptor.__get__"))
  tk : PySem.W.takesIn K (.builtin "object.__class__") = some true
  mro : PySem.W.mroIn K C (.type "object") = some true
/-- the class object: its name, address and the classes behind it -/
def XRow (K : PySem.W.Frag) (r : Str × Addr × List Value) : Prop := PySem.W.nsIn K mainGlobals r.1 = some (some (.ref r.2.1)) ∧ PySem.HandSPX.refsVE r.2.2 = true ∧
  ∃ nm q N bs sn sub ab col dd k0 k1 k2 k3 k5, K.lookup r.2.1 = some (excClassObj nm q r.2.1 N bs r.2.2 true sn sub ab col dd k0 k1 k2 k3 k5 "ValueError.__new__")
section
variable {K : PySem.W.Frag} {mg : Str → Option Value} {h : Heap} {x f : Str} {C fI D : Addr} {bm : List Value}
theorem XF.xck (F : XF K C) (a : PySem.W.nsIn K mainGlobals x = some (some (.ref C))) {fs : List Str} (no : ∀ f ∈ fs, PySem.W.findIn K (.ref C) f = some none) : XcK K x C fs := ⟨a, F.ga, F.gg, F.ex, F.hd, F.cl, F.sp, F.tk, F.mro, no⟩
theorem XF.oex (F : XF K C) (r : XRow K (x, C, bm)) : OexC K C := ⟨let ⟨_, v, nm, q, N, bs, sn, sub, ab, col, dd, k0, k1, k2, k3, k5, e⟩ := r; ⟨nm, q, N, bs, bm, sn, sub, ab, col, dd, k0, k1, k2, k3, k5, e, v⟩, F.sa, F.ex, F.ty, F.kc⟩
theorem xrow_cls {r : Str × Addr × List Value} (h : XRow K r) : ∃ cd, PySem.W.clsIn K r.2.1 = some cd ∧ cd.mro = .ref r.2.1 :: r.2.2 := by
  obtain ⟨_, _, nm, q, N, bs, sn, sub, ab, col, dd, k0, k1, k2, k3, k5, e⟩ := h
  refine ⟨_, by unfold PySem.W.clsIn; rw [e], rfl⟩
theorem xrow_mro {r : Str × Addr × List Value} (h : XRow K r) (b : Value) : PySem.W.mroIn K r.2.1 b = some ((Value.ref r.2.1 :: r.2.2).contains b) := by
  obtain ⟨cd, e, m⟩ := xrow_cls h
  unfold PySem.W.mroIn
  rw [e, Option.bind_some, m]
  rfl
/-- kX names c y: what isinstance says of an error of the class y asked for c -/
def kX (names : List Str) (c y : Str) : Option Bool := if y ∈ names then some (y == c || c == "KeyedError" || c == "ValueError") else none
theorem kit_row {r : Str × Addr × List Value} (h : XRow K r) (hD : (PySem.W.clsIn K D).isSome = true) (tD : PySem.W.typeIn K (.ref D) = some (.type "type")) : PySem.W.kitOne K (.ref r.2.1) (.ref D) = some (r.2.1 == D || r.2.2.contains (.ref D)) := by
  unfold PySem.W.kitOne
  by_cases e : r.2.1 = D
  · rw [if_pos (by rw [e]; exact beq_self_eq_true _), e]
    simp
  · rw [if_neg (by intro z; exact e (Value.ref.inj (beq_iff_eq.mp z)))]
    unfold PySem.W.kitCls
    dsimp only
    rw [hD, tD]
    show PySem.W.mroIn K r.2.1 (.ref D) = _
    rw [xrow_mro h, List.contains_cons]
    have : (Value.ref D == Value.ref r.2.1) = false := by
      rw [beq_eq_false_iff_ne]
      intro z
      exact e (Value.ref.inj z).symm
    rw [this, Bool.false_or]
    have : (r.2.1 == D) = false := by rw [beq_eq_false_iff_ne]; exact e
    rw [this, Bool.false_or]
def kitQ (rows : List (Str × Addr × List Value)) (c : Str) (D : Addr) : Bool := rows.all fun r => (r.2.1 == D || r.2.2.contains (.ref D)) == (r.1 == c || c == "KeyedError" || c == "ValueError")
theorem bt_ValueError : bootBuiltins "ValueError" = some (.type "ValueError") := by decide +kernel
theorem kit_ok {rows : List (Str × Addr × List Value)} {c : Str} (q : kitQ rows c D = true) (h : ∀ r ∈ rows, XRow K r) (hD : (PySem.W.clsIn K D).isSome = true) (tD : PySem.W.typeIn K (.ref D) = some (.type "type")) (y : Str) (b : Bool) (C : Addr) (e : kX (rows.map (·.1)) c y = some b)
    (a : PySem.W.nsIn K mainGlobals y = some (some (.ref C))) : PySem.W.kitOne K (.ref C) (.ref D) = some b := by
  unfold kX at e
  split at e
  · rename_i hm
    obtain ⟨r, hr, rfl⟩ := List.mem_map.mp hm
    have hx := h r hr
    obtain rfl : r.2.1 = C := by
      have z := hx.1.symm.trans a
      cases z; rfl
    rw [kit_row hx hD tD]
    have z := List.all_eq_true.mp q r hr
    rw [beq_iff_eq.mp z, e]
  · cases e
theorem kit_ve {rows : List (Str × Addr × List Value)} (h : ∀ r ∈ rows, XRow K r) (y : Str) (b : Bool) (C : Addr) (e : kX (rows.map (·.1)) "ValueError" y = some b)
    (a : PySem.W.nsIn K mainGlobals y = some (some (.ref C))) : PySem.W.kitOne K (.ref C) (.type "ValueError") = some b := by
  unfold kX at e
  split at e
  · rename_i hm
    obtain ⟨r, hr, rfl⟩ := List.mem_map.mp hm
    have hx := h r hr
    obtain rfl : r.2.1 = C := by
      have z := hx.1.symm.trans a
      cases z; rfl
    unfold PySem.W.kitOne
    rw [if_neg (by intro z; cases beq_iff_eq.mp z)]
    unfold PySem.W.kitCls
    dsimp only
    have km : PySem.W.kitMeta "ValueError" = true := by decide +kernel
    rw [if_pos km]
    show PySem.W.mroIn K r.2.1 _ = _
    rw [xrow_mro hx, List.contains_cons, PySem.HandSPX.refsVE_contains "ValueError" _ hx.2.1, ← e]
    simp
  · cases e
end
end DS
/-! MD: plain data with bounds (for ==, repr), memory that only grows. -/
namespace MA
open PySem PySem.Spec PyProof.Rows L2 DS
structure Good (d : SD) (p : PyData) (D B : Nat) : Prop where
  e : pdS d = some p
  cl : p.canLay0 = true
  dp : p.depth ≤ D
  sh : p.showable = true
  ls : p.leavesShort 13 = true
  bk : p.bulk ≤ B
structure GoodL (ds : List SD) (ps : List PyData) (D B : Nat) : Prop where
  e : pdL ds = some ps
  cl : PyData.canLayAll0 ps = true
  dp : PyData.depthAll ps ≤ D
  sh : PyData.showableAll ps = true
  ls : PyData.leavesShortAll 13 ps = true
  bk : PyData.bulkAll ps ≤ B
theorem Good.mono {d p D B D' B'} (g : Good d p D B) (h1 : D ≤ D') (h2 : B ≤ B') : Good d p D' B' := ⟨g.e, g.cl, Nat.le_trans g.dp h1, g.sh, g.ls, Nat.le_trans g.bk h2⟩
theorem GoodL.mono {d p D B D' B'} (g : GoodL d p D B) (h1 : D ≤ D') (h2 : B ≤ B') : GoodL d p D' B' := ⟨g.e, g.cl, Nat.le_trans g.dp h1, g.sh, g.ls, Nat.le_trans g.bk h2⟩
theorem Good.non : Good .non .none 0 0 := ⟨rfl, by simp [PyData.canLay0], by simp [PyData.depth], by simp [PyData.showable], by simp [PyData.leavesShort], by simp [PyData.bulk]⟩
theorem Good.bl (b : Bool) : Good (.bl b) (.bool b) 0 0 := ⟨rfl, by simp [PyData.canLay0], by simp [PyData.depth], by simp [PyData.showable], by simp [PyData.leavesShort], by simp [PyData.bulk]⟩
theorem Good.str {x : Str} (h : PyData.strOk x = true) : Good (.str x) (.str x) 0 x.cps.size := by
  refine ⟨rfl, by simp [PyData.canLay0, h], by simp [PyData.depth], by simp [PyData.showable], ?_, by simp [PyData.bulk]⟩
  unfold PyData.leavesShort
  rw [List.all_eq_true]
  intro c hc
  have := (Array.all_eq_true_iff_forall_mem.mp h) c (by simpa using hc)
  simp at this ⊢
  omega
theorem GoodL.nil : GoodL [] [] 0 0 := ⟨rfl, by simp [PyData.canLayAll0], by simp [PyData.depthAll], by simp [PyData.showableAll], by simp [PyData.leavesShortAll], by simp [PyData.bulkAll]⟩
theorem GoodL.cons {d ds p ps D B C} (g : Good d p D B) (h : GoodL ds ps D C) : GoodL (d :: ds) (p :: ps) D (B + 1 + C) := by
  refine ⟨by rw [pdL, g.e, h.e], by simp [PyData.canLayAll0, g.cl, h.cl], ?_, by simp [PyData.showableAll, g.sh, h.sh], by simp [PyData.leavesShortAll, g.ls, h.ls], ?_⟩
  · have := g.dp; have := h.dp; rw [PyData.depthAll]; omega
  · have := g.bk; have := h.bk; rw [PyData.bulkAll]; omega
theorem Good.tup {ds ps D B} (h : GoodL ds ps D B) : Good (.tup ds) (.tuple ps) (D + 1) B :=
  ⟨by rw [pdS, h.e], by simp [PyData.canLay0, h.cl], by rw [PyData.depth]; exact Nat.succ_le_succ h.dp, by simp [PyData.showable, h.sh], by simp [PyData.leavesShort, h.ls], by rw [PyData.bulk]; exact h.bk⟩
theorem Good.lst {ds ps D B} (h : GoodL ds ps D B) : Good (.lst ds) (.list ps) (D + 1) B :=
  ⟨by rw [pdS, h.e], by simp [PyData.canLay0, h.cl], by rw [PyData.depth]; exact Nat.succ_le_succ h.dp, by simp [PyData.showable, h.sh], by simp [PyData.leavesShort, h.ls], by rw [PyData.bulk]; exact h.bk⟩
theorem GoodL.append {D B C} : ∀ {ds ps es qs}, GoodL ds ps D B → GoodL es qs D C → GoodL (ds ++ es) (ps ++ qs) D (B + C)
  | [], _, _, _, g, h => by
    have e := g.e; rw [pdL] at e; cases e
    exact h.mono (Nat.le_refl _) (by omega)
  | d :: ds, ps0, es, qs, g, h => by
    have e := g.e
    rw [pdL] at e
    split at e
    · rename_i p ps e1 e2
      cases e
      have cl := g.cl; have sh := g.sh; have ls := g.ls; have dp := g.dp; have bk := g.bk
      simp only [PyData.canLayAll0, Bool.and_eq_true] at cl
      simp only [PyData.showableAll, Bool.and_eq_true] at sh
      simp only [PyData.leavesShortAll, Bool.and_eq_true] at ls
      rw [PyData.depthAll] at dp
      rw [PyData.bulkAll] at bk
      have g1 : Good d p D p.bulk := ⟨e1, cl.1, by omega, sh.1, ls.1, Nat.le_refl _⟩
      have g2 : GoodL ds ps D (PyData.bulkAll ps) := ⟨e2, cl.2, by omega, sh.2, ls.2, Nat.le_refl _⟩
      exact (GoodL.cons g1 (GoodL.append g2 h)).mono (Nat.le_refl _) (by omega)
    · cases e
/-- each of so many good ones -/
theorem GoodL.of {D B} : ∀ {ds : List SD}, (∀ d ∈ ds, ∃ p, Good d p D B) → ∃ ps, GoodL ds ps D (ds.length * (B + 1))
  | [], _ => ⟨[], GoodL.nil.mono (Nat.zero_le _) (Nat.zero_le _)⟩
  | d :: ds, h => by
    obtain ⟨p, g⟩ := h d (List.mem_cons_self ..)
    obtain ⟨ps, gs⟩ := GoodL.of fun x hx => h x (List.mem_cons_of_mem _ hx)
    exact ⟨p :: ps, (GoodL.cons g gs).mono (Nat.le_refl _) (by rw [List.length_cons, Nat.add_mul]; omega)⟩
theorem Good.shaped {d p D B} (g : Good d p D B) (h : D ≤ 64) : SeqAt.shaped p = true := by
  unfold SeqAt.shaped
  rw [g.cl, Bool.true_and, decide_eq_true_eq]
  exact Nat.le_trans g.dp h
theorem Good.notref {d p D B} (g : Good d p D B) (μ : Mu) : pd μ d = some p := by
  have e := g.e
  cases d <;> first | exact e | (simp [pdS] at e)
theorem Good.repr {d p D B μ} {Q : SD → Mu → Prop} (g : Good d p D B) (h1 : D ≤ 64) (h2 : B ≤ 2 ^ 20) (q : Q (.str p.shown) μ) : drRepr [d] μ Q := by
  unfold drRepr
  simp only [g.notref μ]
  exact ⟨⟨g.sh, PyData.shown_fits_bulk (B := 13) (by decide) (by decide) g.ls (Nat.le_trans g.bk h2), Nat.le_trans g.dp h1⟩, q⟩
theorem eq_nil {μ : Mu} {a : Addr} {xs ps D B} (h : μ a = some (.lst xs)) (g : GoodL xs ps D B) (hD : D < 64) : eqD μ (.ref a) (.lst []) = some (decide (xs = [])) := by
  have e1 : pd μ (.ref a) = some (.list ps) := by simp [pd, h, g.e]
  have e2 : pd μ (.lst []) = some (.list []) := by simp [pd, pdS, pdL]
  have s1 : SeqAt.shaped (.list ps) = true := by
    unfold SeqAt.shaped
    rw [PyData.depth, PyData.canLay0, g.cl, Bool.true_and, decide_eq_true_eq]
    have := g.dp; omega
  have s2 : SeqAt.shaped (.list []) = true := by decide
  show (match pd μ (.ref a), pd μ (.lst []) with
    | some p, some q => if SeqAt.shaped p = true ∧ SeqAt.shaped q = true then some (PyData.eqv p q) else none
    | _, _ => none) = _
  rw [e1, e2]
  show (if SeqAt.shaped (.list ps) = true ∧ SeqAt.shaped (.list []) = true then some (PyData.eqv (.list ps) (.list [])) else none) = _
  rw [if_pos ⟨s1, s2⟩, PyData.eqv]
  have e := g.e
  cases xs with
  | nil => rw [pdL] at e; cases e; rfl
  | cons x xs =>
    rw [pdL] at e
    split at e
    · cases e; rfl
    · cases e
/-! dicts -/
section
variable {α : Type} {k k' : Key} {v : α}
theorem valD_nil : valD ([] : List (Key × α)) k = none := rfl
theorem valD_cons {kv : Key × α} {r : List (Key × α)} : valD (kv :: r) k = if kv.1 = k then some kv.2 else valD r k := by
  unfold valD
  rw [List.find?_cons]
  by_cases h : kv.1 = k
  · simp [h]
  · simp [h]
theorem valD_append {xs ys : List (Key × α)} : valD (xs ++ ys) k = (valD xs k).or (valD ys k) := by
  induction xs with
  | nil => simp [valD_nil]
  | cons x r ih => rw [List.cons_append, valD_cons, valD_cons, ih]; split <;> simp
theorem valD_map {kvs : List (Key × α)} (h : (kvs.any fun kv => decide (kv.1 = k)) = true) : valD (kvs.map fun kv => if kv.1 = k then (kv.1, v) else kv) k' = if k = k' then some v else valD kvs k' := by
  induction kvs with
  | nil => simp at h
  | cons x r ih =>
    rw [List.map_cons, valD_cons, valD_cons]
    by_cases h1 : x.1 = k
    · rw [if_pos h1]
      by_cases h2 : k = k'
      · subst h2; simp [h1]
      · have h3 : x.1 ≠ k' := fun e => h2 (h1.symm.trans e)
        rw [if_neg h3, if_neg h3, if_neg h2]
        by_cases h4 : (r.any fun kv => decide (kv.1 = k)) = true
        · rw [ih h4, if_neg h2]
        · have : (r.map fun kv => if kv.1 = k then (kv.1, v) else kv) = r := by
            refine (List.map_congr_left fun y hy => ?_).trans (List.map_id _)
            rw [if_neg, id]
            intro e; exact h4 (List.any_eq_true.mpr ⟨y, hy, by simpa using e⟩)
          rw [this]
    · rw [if_neg h1]
      have h4 : (r.any fun kv => decide (kv.1 = k)) = true := by simpa [h1] using h
      rw [ih h4]
      by_cases h2 : k = k'
      · subst h2; simp [h1]
      · simp [h2]
theorem valD_put {kvs : List (Key × α)} : valD (putD kvs k v) k' = if k = k' then some v else valD kvs k' := by
  unfold putD
  split
  · rename_i h; exact valD_map h
  · rename_i h
    rw [valD_append, valD_cons, valD_nil]
    by_cases e : k = k'
    · subst e
      have : valD kvs k = none := by
        unfold valD
        rw [List.find?_eq_none.mpr, Option.map_none]
        intro x hx e; exact h (List.any_eq_true.mpr ⟨x, hx, e⟩)
      simp [this]
    · simp [e]
theorem putD_length {kvs : List (Key × α)} : (putD kvs k v).length ≤ kvs.length + 1 := by
  unfold putD
  split
  · simp
  · simp
end
/-! memory that only grows -/
def Le (μ μ' : Mu) : Prop := ∀ a m, μ a = some m → μ' a = some m
theorem Le.refl (μ : Mu) : Le μ μ := fun _ _ h => h
theorem Le.trans {μ μ1 μ2 : Mu} (h : Le μ μ1) (k : Le μ1 μ2) : Le μ μ2 := fun a m e => k a m (h a m e)
theorem Le.up {μ0 μ : Mu} {p : Addr} {m : MO} (h : Le μ0 μ) (hp : μ0 p = none) : Le μ0 (up μ p m) := fun a n e => by
  have : a ≠ p := fun z => by subst z; rw [hp] at e; cases e
  rw [up_ne this]; exact h a n e
theorem Le.rm {μ0 μ : Mu} {p : Addr} (h : Le μ0 μ) (hp : μ0 p = none) : Le μ0 (rm μ p) := fun a n e => by
  have : a ≠ p := fun z => by subst z; rw [hp] at e; cases e
  rw [rm_ne this]; exact h a n e
theorem Le.none {μ0 μ : Mu} {p : Addr} (h : Le μ0 μ) (hp : μ p = none) : μ0 p = none := by
  cases e : μ0 p with
  | none => rfl
  | some m => rw [h p m e] at hp; cases hp
/-- all but what stands at h stays -/
def LeX (h : Addr) (μ μ' : Mu) : Prop := ∀ a m, a ≠ h → μ a = some m → μ' a = some m
theorem LeX.refl (h : Addr) (μ : Mu) : LeX h μ μ := fun _ _ _ e => e
theorem Le.x {μ μ' : Mu} (h : Addr) (l : Le μ μ') : LeX h μ μ' := fun a m _ e => l a m e
theorem LeX.trans {h : Addr} {μ μ1 μ2 : Mu} (a : LeX h μ μ1) (b : LeX h μ1 μ2) : LeX h μ μ2 := fun x m n e => b x m n (a x m n e)
theorem LeX.put {h : Addr} {μ0 μ : Mu} {m : MO} (l : LeX h μ0 μ) : LeX h μ0 (up μ h m) := fun a n z e => by rw [up_ne z]; exact l a n z e
theorem LeX.up {h p : Addr} {μ0 μ : Mu} {m : MO} (l : LeX h μ0 μ) (hp : μ0 p = none) : LeX h μ0 (up μ p m) := fun a n z e => by
  have : a ≠ p := fun z => by subst z; rw [hp] at e; cases e
  rw [up_ne this]; exact l a n z e
theorem LeX.rm {h p : Addr} {μ0 μ : Mu} (l : LeX h μ0 μ) (hp : μ0 p = none) : LeX h μ0 (rm μ p) := fun a n z e => by
  have : a ≠ p := fun z => by subst z; rw [hp] at e; cases e
  rw [rm_ne this]; exact l a n z e
end MA
/-! MT: trees of keyed elements. -/
namespace MA
open PySem PySem.Spec PyProof.Rows L2 DS
inductive T where
  | node (k : Str) (cs : List T)
def T.key : T → Str
  | .node k _ => k
def T.kids : T → List T
  | .node _ cs => cs
mutual
def enc : T → SD
  | .node k cs => .tup [.str k, .tup (encL cs)]
def encL : List T → List SD
  | [] => []
  | t :: r => enc t :: encL r
end
mutual
def pre : T → List Str
  | .node k cs => k :: preL cs
def preL : List T → List Str
  | [] => []
  | t :: r => pre t ++ preL r
end
mutual
def dep : T → Nat
  | .node _ cs => depL cs + 1
def depL : List T → Nat
  | [] => 0
  | t :: r => max (dep t) (depL r)
end
theorem encL_map : ∀ ts : List T, encL ts = ts.map enc
  | [] => by rw [encL]; rfl
  | t :: r => by rw [encL, encL_map r]; rfl
theorem encL_append (a b : List T) : encL (a ++ b) = encL a ++ encL b := by simp [encL_map]
theorem encL_reverse (a : List T) : encL a.reverse = (encL a).reverse := by simp [encL_map]
theorem encL_length (a : List T) : (encL a).length = a.length := by simp [encL_map]
theorem encL_nil_iff {a : List T} : encL a = [] ↔ a = [] := by simp [encL_map]
theorem preL_append : ∀ a b : List T, preL (a ++ b) = preL a ++ preL b
  | [], b => by rw [List.nil_append, preL]; rfl
  | t :: r, b => by rw [List.cons_append, preL, preL, preL_append r b, List.append_assoc]
theorem preL_mem {ts : List T} {k : Str} : k ∈ preL ts ↔ ∃ t ∈ ts, k ∈ pre t := by
  induction ts with
  | nil => simp [preL]
  | cons t r ih => rw [preL, List.mem_append, ih]; simp
theorem preL_reverse_len (a : List T) : (preL a.reverse).length = (preL a).length := by
  induction a with
  | nil => rfl
  | cons t r ih => rw [List.reverse_cons, preL_append, List.length_append, ih, preL, preL, preL, List.length_append]; simp; omega
theorem depL_mem {ts : List T} {t : T} (h : t ∈ ts) : dep t ≤ depL ts := by
  induction ts with
  | nil => cases h
  | cons u r ih =>
    rw [depL]
    rcases List.mem_cons.mp h with rfl | h
    · exact Nat.le_max_left _ _
    · exact Nat.le_trans (ih h) (Nat.le_max_right _ _)
theorem depL_le {ts : List T} {n : Nat} (h : ∀ t ∈ ts, dep t ≤ n) : depL ts ≤ n := by
  induction ts with
  | nil => rw [depL]; exact Nat.zero_le _
  | cons u r ih => rw [depL]; exact Nat.max_le.mpr ⟨h u (List.mem_cons_self ..), ih fun t ht => h t (List.mem_cons_of_mem _ ht)⟩
theorem key_mem (t : T) : t.key ∈ pre t := by cases t; rw [pre]; exact List.mem_cons_self ..
theorem preL_sub {ts : List T} {t : T} (h : t ∈ ts) : ∀ k ∈ pre t, k ∈ preL ts := fun k hk => preL_mem.mpr ⟨t, h, hk⟩
theorem preL_len {ts : List T} {t : T} (h : t ∈ ts) : (pre t).length ≤ (preL ts).length := by
  induction ts with
  | nil => cases h
  | cons u r ih =>
    rw [preL, List.length_append]
    rcases List.mem_cons.mp h with rfl | h
    · omega
    · have := ih h; omega
theorem pre_pos (t : T) : 0 < (pre t).length := by cases t; rw [pre]; simp
theorem len_le_preL : ∀ ts : List T, ts.length ≤ (preL ts).length
  | [] => by simp
  | t :: r => by have := pre_pos t; have := len_le_preL r; rw [preL, List.length_append, List.length_cons]; omega
def KeyOk (k : Str) : Prop := PyData.strOk k = true ∧ k.cps.size ≤ 61
structure TOk (t : T) : Prop where
  len : (pre t).length ≤ 1000
  dep : dep t ≤ 30
  keys : ∀ k ∈ pre t, KeyOk k
/-! trees are good data -/
mutual
theorem enc_good : ∀ t : T, (∀ k ∈ pre t, KeyOk k) → ∃ p, Good (enc t) p (2 * dep t) (64 * (pre t).length - 1)
  | .node k cs, h => by
    rw [pre] at h
    obtain ⟨ps, gs⟩ := encL_good cs fun x hx => h x (List.mem_cons_of_mem _ hx)
    obtain ⟨k1, k2⟩ := h k (List.mem_cons_self ..)
    rw [enc, dep, pre]
    have g1 := Good.tup gs
    have g2 := GoodL.cons (g1.mono (Nat.le_refl _) (Nat.le_refl _)) (GoodL.nil.mono (Nat.zero_le _) (Nat.le_refl _))
    have g3 := GoodL.cons ((Good.str k1).mono (Nat.zero_le _) (Nat.le_refl _)) g2
    refine ⟨_, (Good.tup g3).mono (by omega) ?_⟩
    rw [List.length_cons]; omega
theorem encL_good : ∀ ts : List T, (∀ k ∈ preL ts, KeyOk k) → ∃ ps, GoodL (encL ts) ps (2 * depL ts) (64 * (preL ts).length)
  | [], _ => ⟨[], GoodL.nil.mono (Nat.zero_le _) (Nat.zero_le _)⟩
  | t :: r, h => by
    rw [preL] at h
    obtain ⟨p, g⟩ := enc_good t fun x hx => h x (List.mem_append_left _ hx)
    obtain ⟨ps, gs⟩ := encL_good r fun x hx => h x (List.mem_append_right _ hx)
    have := pre_pos t
    refine ⟨p :: ps, ?_⟩
    rw [encL, depL, preL]
    refine (GoodL.cons (g.mono (by omega) (Nat.le_refl _)) (gs.mono (by omega) (Nat.le_refl _))).mono (Nat.le_refl _) ?_
    rw [List.length_append]; omega
end
theorem TOk.good {t : T} (h : TOk t) : ∃ p, Good (enc t) p 60 64000 := by
  obtain ⟨p, g⟩ := enc_good t h.keys
  have := h.len; have := h.dep
  exact ⟨p, g.mono (by omega) (by omega)⟩
/-! which children, which parent -/
mutual
def Fits (f : Str → List Str) : T → Prop
  | .node k cs => f k = cs.map T.key ∧ FitsL f cs
def FitsL (f : Str → List Str) : List T → Prop
  | [] => True
  | t :: r => Fits f t ∧ FitsL f r
end
theorem FitsL_mem {f : Str → List Str} {ts : List T} : FitsL f ts ↔ ∀ t ∈ ts, Fits f t := by
  induction ts with
  | nil => simp [FitsL]
  | cons u r ih => rw [FitsL, ih]; simp
/-- par is the parent by f, wherever t has a key -/
structure Par (f : Str → List Str) (par : Str → Option Str) (t : T) : Prop where
  fits : Fits f t
  kid : ∀ k ∈ pre t, ∀ c ∈ f k, par c = some k
  root : par t.key = none
def optS : Option Str → SD
  | none => .non
  | some k => .str k
end MA
/-! MR: what the readings of the common expressions ask. -/
namespace MA
open PySem PySem.Spec PyProof.Rows L2 DS
section
variable {ρ : Rho} {μ : Mu} {i : Nat} {a : Addr} {d x y : SD} {xs ys : List SD} {Q : SD → Mu → Prop} {te ti tb : DTE}
theorem r_var (h : ρ[i]? = some (some d)) (q : Q d μ) : dVar i ρ μ Q := by unfold dVar; rw [h]; exact q
theorem isSome_ref (m : μ a = some (.lst xs)) : (lstD μ (.ref a)).isSome = true := by simp [lstD, m]
theorem dm_pop (m : μ a = some (.lst (xs ++ [y]))) (q : Q y (up μ a (.lst xs))) : dmPop (.ref a) [] μ Q := by
  unfold dmPop
  have e : mlst μ (.ref a) = some (a, xs ++ [y]) := by simp [mlst, m]
  have e2 : (xs ++ [y])[(xs ++ [y]).length - 1]? = some y := by simp
  simp only [e, e2, List.dropLast_concat]
  exact ⟨trivial, q⟩
theorem dm_append (m : μ a = some (.lst xs)) (l : xs.length < sizeLine) (q : Q .non (up μ a (.lst (xs ++ [y])))) : dmAppend (.ref a) [y] μ Q := by
  unfold dmAppend
  have e : mlst μ (.ref a) = some (a, xs) := by simp [mlst, m]
  simp only [e]
  exact ⟨l, q⟩
theorem dm_extendT (m : μ a = some (.lst xs)) (l : xs.length + ys.length ≤ sizeLine) (q : Q .non (up μ a (.lst (xs ++ ys)))) : dmExtend (.ref a) [.tup ys] μ Q := by
  unfold dmExtend
  have e : mlst μ (.ref a) = some (a, xs) := by simp [mlst, m]
  simp only [e]
  exact ⟨l, q⟩
theorem dm_extendL (m : μ a = some (.lst xs)) (l : xs.length + ys.length ≤ sizeLine) (q : Q .non (up μ a (.lst (xs ++ ys)))) : dmExtend (.ref a) [.lst ys] μ Q := by
  unfold dmExtend
  have e : mlst μ (.ref a) = some (a, xs) := by simp [mlst, m]
  simp only [e]
  exact ⟨l, q⟩
theorem dm_extendR {b : Addr} (m : μ a = some (.lst xs)) (mb : μ b = some (.lst ys)) (l : xs.length + ys.length ≤ sizeLine) (q : Q .non (up μ a (.lst (xs ++ ys)))) : dmExtend (.ref a) [.ref b] μ Q := by
  unfold dmExtend
  have e : mlst μ (.ref a) = some (a, xs) := by simp [mlst, m]
  simp only [e]
  simp only [lstD, mb]
  exact ⟨l, q⟩
theorem dm_insert {k : Int} (m : μ a = some (.lst xs)) (l : xs.length < sizeLine) (h0 : 0 ≤ k) (h1 : k < 2 ^ 63) (q : Q .non (up μ a (.lst (xs.take k.toNat ++ [y] ++ xs.drop k.toNat)))) : dmInsert (.ref a) [.int k, y] μ Q := by
  unfold dmInsert
  have e : mlst μ (.ref a) = some (a, xs) := by simp [mlst, m]
  simp only [e]
  exact ⟨⟨l, h0, h1⟩, q⟩
theorem eq_nilR {ps D B neg} (m : μ a = some (.lst xs)) (g : GoodL xs ps D B) (hD : D < 64) (k : Q (.bl (neg != decide (xs = []))) μ) : dEq neg (.ref a) (.lst []) μ Q := by
  unfold dEq
  simp only [eq_nil m g hD]
  exact k
theorem rev_T (q : Q (.tup xs.reverse) μ) : drRev (.tup xs) μ Q := q
theorem rev_L (q : Q (.lst xs.reverse) μ) : drRev (.lst xs) μ Q := q
theorem rev_R (m : μ a = some (.lst xs)) (q : Q (.lst xs.reverse) μ) : drRev (.ref a) μ Q := by
  unfold drRev; simp only [seqD, m]; exact q
theorem dr_tupleT (q : Q (.tup xs) μ) : drTuple [.tup xs] μ Q := q
theorem dr_tupleL (q : Q (.tup xs) μ) : drTuple [.lst xs] μ Q := q
theorem dr_tupleR (m : μ a = some (.lst xs)) (q : Q (.tup xs) μ) : drTuple [.ref a] μ Q := by
  unfold drTuple; simp only [seqD, m]; exact q
theorem ix_at {k : Int} (e : seqD μ x = some xs) (hs : ∀ z, x ≠ .str z) (h : atI xs k = some d) (q : Q d μ) : dIx x (.int k) μ Q := by
  unfold dIx
  cases x with
  | str z => exact (hs z rfl).elim
  | _ => simp only [e, h]; exact q
theorem ix_tup {k : Int} (h : atI xs k = some d) (q : Q d μ) : dIx (.tup xs) (.int k) μ Q := ix_at rfl (fun _ z => by cases z) h q
theorem ix_lst {k : Int} (h : atI xs k = some d) (q : Q d μ) : dIx (.lst xs) (.int k) μ Q := ix_at rfl (fun _ z => by cases z) h q
theorem ix_rol {k : Int} (h : atI xs k = some d) (q : Q d μ) : dIx (.rol xs) (.int k) μ Q := ix_at rfl (fun _ z => by cases z) h q
theorem ix_ref {k : Int} (m : μ a = some (.lst xs)) (h : atI xs k = some d) (q : Q d μ) : dIx (.ref a) (.int k) μ Q := ix_at (by simp [seqD, m]) (fun _ z => by cases z) h q
theorem put_ok {kvs : List (Key × SD)} {k : Key} {v : SD} {R : Mu → Prop} (m : μ a = some (.dic kvs)) (hk : keyD y = some k) (l : kvs.length < sizeLine) (q : R (up μ a (.dic (putD kvs k v)))) : drPut (.ref a) y v μ R := by
  unfold drPut
  have e : mdic μ (.ref a) = some (a, kvs) := by simp [mdic, m]
  simp only [e, hk]
  exact ⟨l, q⟩
theorem get_ok {kvs : List (Key × SD)} {k : Key} {v : SD} (m : dicD μ x = some kvs) (hk : keyD y = some k) (h : valD kvs k = some v) (q : Q v μ) : drGet x y μ Q := by
  unfold drGet; simp only [m, hk, h]; exact q
theorem get2_ok {kvs : List (Key × SD)} {k : Key} {z : SD} (m : dicD μ x = some kvs) (hk : keyD y = some k) (q : Q ((valD kvs k).getD z) μ) : drGet2 x y z μ Q := by
  unfold drGet2; simp only [m, hk]; exact q
theorem din_ok {kvs : List (Key × SD)} {k : Key} {neg : Bool} (m : dicD μ x = some kvs) (hk : keyD y = some k) (q : Q (.bl (neg != (valD kvs k).isSome)) μ) : drDIn neg x y μ Q := by
  unfold drDIn; simp only [m, hk]; exact q
theorem dicD_ref {kvs : List (Key × SD)} (m : μ a = some (.dic kvs)) : dicD μ (.ref a) = some kvs := by simp [dicD, m]
/-- for x in t, t a tuple -/
theorem for_T {g : DTG} {tb : DTS} {D : DEnds} (h : ρ[i]? = some (some (.tup xs))) (k : ∃ W : Nat → Rho → Mu → Prop, W 0 ρ μ ∧ (∀ i d ρ μ, xs[i]? = some d → W i ρ μ → g d ρ μ fun ρ2 μ2 => tb { D with nx := W (i + 1), ct := W (i + 1), bk := D.nx } ρ2 μ2) ∧ ∀ ρ μ, W xs.length ρ μ → D.nx ρ μ) : dFor (jSeq (dVar i)) g tb D ρ μ := by
  obtain ⟨W, h0, hs, hf⟩ := k
  unfold dFor
  refine r_var h ?_
  exact ⟨W, h0, fun _ _ _ _ _ => rfl, hs, hf⟩
theorem for_L {g : DTG} {tb : DTS} {D : DEnds} (h : ρ[i]? = some (some (.lst xs))) (k : ∃ W : Nat → Rho → Mu → Prop, W 0 ρ μ ∧ (∀ i d ρ μ, xs[i]? = some d → W i ρ μ → g d ρ μ fun ρ2 μ2 => tb { D with nx := W (i + 1), ct := W (i + 1), bk := D.nx } ρ2 μ2) ∧ ∀ ρ μ, W xs.length ρ μ → D.nx ρ μ) : dFor (jSeq (dVar i)) g tb D ρ μ := by
  obtain ⟨W, h0, hs, hf⟩ := k
  unfold dFor
  refine r_var h ?_
  exact ⟨W, h0, fun _ _ _ _ _ => rfl, hs, hf⟩
theorem ifT {c : Bool} {A B : Prop} (hc : c = true) (h : A) : if c = true then A else B := by rw [if_pos hc]; exact h
theorem ifF {c : Bool} {A B : Prop} (hc : c = false) (h : B) : if c = true then A else B := by rw [if_neg (by rw [hc]; exact Bool.false_ne_true)]; exact h
theorem lt_line {n m : Nat} (h : n ≤ m) (h2 : m ≤ 1000000) : n < sizeLine := by rw [sizeLine_eq]; omega
theorem le_line {n m : Nat} (h : n ≤ m) (h2 : m ≤ 1000000) : n ≤ sizeLine := by rw [sizeLine_eq]; omega
/-- a comprehension that changes nothing -/
theorem lc_pure {ds zs : List SD} {ok : Mu → Prop} {j : Nat} {R : List SD → Mu → Prop} (hok : ok μ) (hl : ds.length ≤ 1000000) (hy : zs.length = ds.length) (el : ∀ (i : Nat) (d y : SD), ds[i]? = some d → zs[i]? = some y → ∀ R : SD → Mu → Prop, R y μ → te ((wipeR ρ [j]).set j (some d)) μ R) (q : R zs μ) :
    ds.length ≤ sizeLine ∧ ∃ W : Nat → List SD → Mu → Prop, W 0 [] μ ∧ (∀ i acc μ', i ≤ ds.length → W i acc μ' → ok μ') ∧ (∀ i d acc μ', ds[i]? = some d → W i acc μ' → hName j d (wipeR ρ [j]) μ' fun ρ2 μ2 => dYes ρ2 μ2 fun b μ3 => if b = true then te ρ2 μ3 fun y μ4 => W (i+1) (acc ++ [y]) μ4 else W (i+1) acc μ3) ∧ ∀ acc μ', W ds.length acc μ' → R acc μ' := by
  refine ⟨le_line hl (Nat.le_refl _), fun i acc μ' => acc = zs.take i ∧ μ' = μ, ⟨rfl, rfl⟩, ?_, ?_, ?_⟩
  · rintro i acc μ' _ ⟨_, rfl⟩; exact hok
  · rintro i d acc μ' hd ⟨rfl, rfl⟩
    have hi := (List.getElem?_eq_some_iff.mp hd).1
    have hz : zs[i]? = some zs[i] := List.getElem?_eq_getElem (by omega)
    refine ifT rfl (el i d _ hd hz _ ⟨?_, rfl⟩)
    rw [List.take_succ, hz]; rfl
  · rintro acc μ' ⟨rfl, rfl⟩
    rw [List.take_of_length_le (by omega)]; exact q
theorem isi_of {n t : String} {b : Bool} (ht : tyD μ d = some t) (hb : kitB t n = some b) (q : Q (.bl b) μ) : drIsi [d, .ty n] μ Q := by
  unfold drIsi
  have : isiB μ d n = some b := by unfold isiB; simp only [ht, hb]
  simp only [this]; exact q
theorem kit_str_str : kitB "str" "str" = some true := by decide +kernel
theorem inS_sts {o : Str} {l : List Str} : inS (.str o) (l.map SD.str) = decide (o ∈ l) := by
  unfold inS
  rw [Bool.eq_iff_iff, List.any_eq_true, decide_eq_true_eq]
  constructor
  · rintro ⟨x, hx, e⟩
    obtain ⟨y, hy, rfl⟩ := List.mem_map.mp hx
    have : y = o := by simpa [eqA, DS.plain, eqV] using e
    subst this; exact hy
  · intro h
    exact ⟨.str o, List.mem_map.mpr ⟨o, h, rfl⟩, by simp [eqA, DS.plain, eqV]⟩
theorem flat_sts {l : List Str} : (l.map SD.str).all flatD = true := by
  rw [List.all_eq_true]
  intro x hx
  obtain ⟨y, hy, rfl⟩ := List.mem_map.mp hx
  rfl
theorem in_sts {neg : Bool} {o : Str} {l : List Str} (e : seqD μ y = some (l.map SD.str)) (hs : ∀ z, y ≠ .str z) (q : Q (.bl (neg != decide (o ∈ l))) μ) : dIn neg (.str o) y μ Q := by
  unfold dIn
  cases y with
  | str z => exact (hs z rfl).elim
  | _ => simp only [e]; exact ⟨⟨rfl, flat_sts⟩, by rw [inS_sts]; exact q⟩
variable {m n : Int}
theorem i_add (q : Q (.int (m + n)) μ) : dAdd (.int m) (.int n) μ Q := q
theorem i_sub (q : Q (.int (m - n)) μ) : dSub (.int m) (.int n) μ Q := q
theorem i_mul (h : IntMulOk m n) (q : Q (.int (m * n)) μ) : dMul (.int m) (.int n) μ Q := ⟨h, q⟩
theorem i_mod (h : 0 < n) (q : Q (.int (m % n)) μ) : dMod (.int m) (.int n) μ Q := ⟨h, q⟩
theorem i_div (h : CDivW m n) (q : Q (.int (m / n)) μ) : dDiv (.int m) (.int n) μ Q := ⟨h, q⟩
theorem i_pow (h : CPowW m n) (q : Q (.int (m ^ n.toNat)) μ) : dPow (.int m) (.int n) μ Q := ⟨h, q⟩
theorem i_lt (q : Q (.bl (decide (m < n))) μ) : dLt (.int m) (.int n) μ Q := q
theorem i_gt (q : Q (.bl (decide (n < m))) μ) : dGt (.int m) (.int n) μ Q := q
theorem i_le (q : Q (.bl (decide (m ≤ n))) μ) : dLe (.int m) (.int n) μ Q := q
theorem i_ge (q : Q (.bl (decide (n ≤ m))) μ) : dGe (.int m) (.int n) μ Q := q
theorem s_add {u v : Str} (h : u.length + v.length ≤ sizeLine) (q : Q (.str (u ++ v)) μ) : dAdd (.str u) (.str v) μ Q := ⟨h, q⟩
theorem s_mul {u : Str} (h : (0 ≤ n ∧ n ≤ 1000000 ∧ u.length * n.toNat ≤ sizeLine)) (q : Q (.str (repS u n.toNat)) μ) : dMul (.str u) (.int n) μ Q := ⟨h, q⟩
theorem l_add (h : xs.length + ys.length ≤ sizeLine) (q : Q (.lst (xs ++ ys)) μ) : dAdd (.lst xs) (.lst ys) μ Q := by
  unfold dAdd; exact ⟨h, q⟩
theorem l_mul (h : (-(2 ^ 63) ≤ n ∧ n < 2 ^ 63 ∧ xs.length * n.toNat ≤ sizeLine)) (q : Q (.lst (List.replicate n.toNat xs).flatten) μ) : dMul (.lst xs) (.int n) μ Q := by
  unfold dMul; exact ⟨h, q⟩
theorem l_len (q : Q (.int xs.length) μ) : drLen [.lst xs] μ Q := q
theorem l_lenR (hm : μ a = some (.lst xs)) (q : Q (.int xs.length) μ) : drLen [.ref a] μ Q := by
  unfold drLen; simp only [seqD, hm]; exact q
theorem l_lenT (q : Q (.int xs.length) μ) : drLen [.tup xs] μ Q := q
theorem l_lenO (q : Q (.int xs.length) μ) : drLen [.rol xs] μ Q := q
theorem l_lenS {u : Str} (h : u.length ≤ sizeLine) (q : Q (.int u.length) μ) : drLen [.str u] μ Q := ⟨h, q⟩
theorem ix_str {u : Str} {k : Int} {c : Nat} (h : u.length ≤ sizeLine) (e : atI u.cps.toList k = some c) (q : Q (.str ⟨#[c]⟩) μ) : dIx (.str u) (.int k) μ Q := by
  unfold dIx; simp only [e]; exact ⟨h, q⟩
/-- for i in range(n) -/
theorem for_R {n : Nat} {g : DTG} {tb : DTS} {D : DEnds} (h : ρ[i]? = some (some (.int n))) (hn : n ≤ 1000000) (k : ∃ W : Nat → Rho → Mu → Prop, W 0 ρ μ ∧ (∀ (j : Nat) ρ μ, j < n → W j ρ μ → g (.int j) ρ μ fun ρ2 μ2 => tb { D with nx := W (j + 1), ct := W (j + 1), bk := D.nx } ρ2 μ2) ∧ ∀ ρ μ, W n ρ μ → D.nx ρ μ) : dFor (jRng1 (dCons (dVar i) dNil)) g tb D ρ μ := by
  obtain ⟨W, h0, hs, hf⟩ := k
  unfold dFor
  refine r_var h ?_
  refine ⟨⟨by omega, by omega⟩, W, h0, fun _ _ _ _ _ => trivial, ?_, ?_⟩
  · intro j d ρ μ hd w
    simp only [Int.toNat_natCast] at hd
    rw [List.getElem?_map] at hd
    cases e : (List.range n)[j]? with
    | none => rw [e] at hd; cases hd
    | some x =>
      rw [e] at hd; cases hd
      obtain ⟨h1, h2⟩ := List.getElem?_eq_some_iff.mp e
      rw [List.getElem_range] at h2; subst h2
      exact hs j ρ μ (by simpa using h1) w
  · intro ρ μ w
    exact hf ρ μ (by simpa using w)
theorem sl_L {l u : Option Int} (q : Q (.lst (cutL xs l u)) μ) : drSl (.lst xs) l u μ Q := q
theorem sl_T {l u : Option Int} (q : Q (.tup (cutL xs l u)) μ) : drSl (.tup xs) l u μ Q := q
theorem mem_cutL {α : Type} {xs : List α} {l u : Option Int} {x : α} (h : x ∈ cutL xs l u) : x ∈ xs := by
  unfold cutL at h; exact List.mem_of_mem_drop (List.mem_of_mem_take h)
theorem cutL_from {α : Type} (xs : List α) (k : Nat) : cutL xs (some k) none = xs.drop k := by
  unfold cutL
  rw [HT.sIx_nat, HT.sIx_none]
  by_cases h : k ≤ xs.length
  · rw [Nat.min_eq_left h, List.take_of_length_le (by simp)]
  · rw [Nat.min_eq_right (by omega), List.drop_of_length_le (Nat.le_refl _), List.drop_of_length_le (by omega)]; simp
theorem cutL_to {α : Type} (xs : List α) (k : Nat) : cutL xs none (some k) = xs.take k := by
  unfold cutL
  rw [HT.sIx_nat, HT.sIx_none]
  simp
theorem valD_mapk {α : Type} {ks : List Str} {g : Str → α} {k : Str} : valD (ks.map fun k => ((Sum.inr k : Key), g k)) (.inr k) = if k ∈ ks then some (g k) else none := by
  induction ks with
  | nil => simp [valD_nil]
  | cons x r ih =>
    rw [List.map_cons, valD_cons, ih]
    by_cases h : x = k
    · subst h; simp
    · have : ¬ ((Sum.inr x : Key) = Sum.inr k) := fun z => h (by cases z; rfl)
      rw [if_neg this]
      by_cases h2 : k ∈ r
      · rw [if_pos h2, if_pos (List.mem_cons_of_mem _ h2)]
      · rw [if_neg h2, if_neg (by simp [Ne.symm h, h2])]
theorem putD_mapk {α : Type} {ks : List Str} {g : Str → α} {x : Str} {v : α} (h : x ∉ ks) : putD (ks.map fun k => ((Sum.inr k : Key), g k)) (.inr x) v = (ks.map fun k => ((Sum.inr k : Key), g k)) ++ [(.inr x, v)] := by
  unfold putD
  rw [if_neg]
  intro z
  rw [List.any_map] at z
  obtain ⟨k, hk, e⟩ := List.any_eq_true.mp z
  simp at e
  exact h (e ▸ hk)
theorem up_none {p : Addr} {o : MO} (h : up μ a o p = none) : p ≠ a ∧ μ p = none := by
  by_cases e : p = a
  · subst e; rw [up_same] at h; cases h
  · rw [up_ne e] at h; exact ⟨e, h⟩
theorem enums_at {k : Nat} {d : SD} (h : (enums xs)[k]? = some d) : ∃ y, xs[k]? = some y ∧ d = .tup [.int k, y] := by
  unfold enums at h
  rw [List.getElem?_mapIdx] at h
  cases e : xs[k]? with
  | none => rw [e] at h; cases h
  | some y => rw [e] at h; cases h; exact ⟨y, rfl, rfl⟩
theorem mul_okS {m n : Int} (h : -1000000 ≤ m ∧ m ≤ 1000000) (h2 : -1000000 ≤ n ∧ n ≤ 1000000) : IntMulOk m n := CMulW.ok (by
  have a : ∀ i : Int, -1000000 ≤ i ∧ i ≤ 1000000 → i.natAbs.log2 < 20 := fun i hi => by
    by_cases e : i.natAbs = 0
    · rw [e]; decide
    · exact (Nat.log2_lt e).mpr (by omega)
  have := a m h; have := a n h2; unfold CMulW; omega)
end
end MA
/-! MK1: keys_of, parents_by_key, children_by_key. -/
namespace LK
open PySem PySem.Spec PyProof.Rows L2 DS MA
def sts (ks : List Str) : List SD := ks.map SD.str
def sp_keys_of : DSp := fun ds μ Q _ => ∃ t, ds = [enc t] ∧ TOk t ∧ ∀ μ', Le μ μ' → Q (.tup (sts (pre t))) μ'
theorem len_keys_of : ∀ ds μ Q E, sp_keys_of ds μ Q E → ds.length = 1 := by rintro ds μ Q E ⟨t, rfl, _⟩; rfl
def t_keys_of : DTS := (dSeq (dPar 1 2 (dCons (dLstM dNil) (dCons (dLstM (dCons (dVar 0) dNil)) dNil)))
    (dSeq (dWhile (dTest (dOp (dEq true) (dVar 2) (dLst dNil))) (dSeq (dAsg (dLM0 dmPop (dVar 2)) (hTup 2 (hCons (hName 3) (hCons (hName 4) hNil))))
    (dSeq (dDrop (dLM dmAppend (dVar 1) (dCons (dVar 3) dNil)))
    (dDrop (dLM dmExtend (dVar 2) (dCons (dRev (dVar 4)) dNil))))))
    (dRet (dCB drTuple (dCons (dVar 1) dNil)))))
theorem read_keys_of : ∀ ds μ Q E, sp_keys_of ds μ Q E → t_keys_of { nx := fun _ μ' => Q .non μ', rt := Q } (begin_ ["tree", "found", "waiting", "key", "children"] ds) μ := by
  rintro ds μ Q E ⟨t, rfl, ok, q⟩
  refine ⟨by decide, fun p hp => ⟨(by show 1 ≤ sizeLine; decide), fun w hw => ?_⟩⟩
  have hpw : p ≠ w := fun e => by subst e; rw [up_same] at hw; cases hw
  rw [up_ne (Ne.symm hpw)] at hw
  refine ⟨fun m ρ μ' => ∃ ts done a b, ρ = [some (enc t), some (.ref p), some (.ref w), a, b] ∧ Le μ μ' ∧ μ' p = some (.lst (sts done)) ∧ μ' w = some (.lst (encL ts)) ∧ m = (preL ts).length ∧ done ++ preL ts.reverse = pre t ∧ (∀ t ∈ ts, dep t ≤ 30), ?_, ?_⟩
  · refine ⟨_, [t], [], none, none, rfl, ((Le.refl μ).up hp).up hw, by rw [up_ne hpw, up_same]; rfl, by rw [up_same]; simp [encL], rfl, by simp [preL], by simpa using ok.dep⟩
  · rintro m ρ μ1 ⟨ts, done, a, b, rfl, le, hp1, hw1, rfl, e, hd⟩
    obtain ⟨gp, g⟩ := encL_good ts (fun k hk => ok.keys k (by rw [← e]; exact List.mem_append_right _ (by rw [preL_mem] at hk ⊢; simpa using hk)))
    have hd' := depL_le hd
    refine r_var rfl ?_
    refine ⟨Nat.zero_le _, ?_⟩
    refine eq_nilR hw1 g (by omega) ?_
    rcases List.eq_nil_or_concat ts with rfl | ⟨ts', t', rfl⟩
    · refine ifF rfl ?_
      refine dr_tupleR hp1 ?_
      have : done = pre t := by simpa [preL] using e
      subst this
      exact q μ1 le
    · obtain ⟨k, cs⟩ := t'
      rw [List.concat_eq_append] at *
      rw [encL_append] at hw1
      refine ifT (by simp [encL_append, encL]) ⟨_, fun _ _ h => h, ?_⟩
      dsimp only
      refine r_var rfl ⟨isSome_ref hw1, ?_⟩
      refine dm_pop hw1 ?_
      refine ⟨rfl, rfl, ?_⟩
      dsimp only
      have e1 : done ++ (k :: (preL cs ++ preL ts'.reverse)) = pre t := by simpa [preL, preL_append, pre] using e
      have hl : done.length + (preL cs).length + 1 ≤ 1000 := by
        have := congrArg List.length e1; have := ok.len; simp at *; omega
      have hl2 : ts'.length + cs.length ≤ 1000 := by
        have h1 := congrArg List.length e1; have := ok.len; have := len_le_preL cs; have := len_le_preL ts'
        have := preL_reverse_len ts'; simp at h1; omega
      refine r_var rfl ⟨isSome_ref (by rw [up_ne hpw]; exact hp1), ?_⟩
      refine r_var rfl ?_
      refine dm_append (by rw [up_ne hpw]; exact hp1) (lt_line (m := 1000) (by simp [sts]; omega) (by omega)) ?_
      dsimp only
      refine r_var rfl ⟨isSome_ref (by rw [up_ne (Ne.symm hpw), up_same]), ?_⟩
      refine r_var rfl ?_
      refine rev_T ?_
      refine dm_extendT (by rw [up_ne (Ne.symm hpw), up_same]) (le_line (m := 1000) (by simp [encL_length]; omega) (by omega)) ?_
      refine ⟨_, ?_, ts' ++ cs.reverse, done ++ [k], _, _, rfl, ?_, ?_, ?_, rfl, ?_, ?_⟩
      · have := preL_reverse_len cs
        simp [preL_append, preL, pre]; omega
      · exact ((le.up hw).up hp).up hw
      · rw [up_ne hpw, up_same]; simp [sts]
      · rw [up_same, encL_append, encL_reverse]
      · rw [← e1]; simp [preL_append]
      · intro t' h'
        rcases List.mem_append.mp h' with h' | h'
        · exact hd t' (List.mem_append_left _ h')
        · have h1 := hd _ (List.mem_append_right _ (List.mem_singleton.mpr rfl))
          have h2 := depL_mem (List.mem_reverse.mp h')
          rw [dep] at h1; omega
end LK
/-! MU: ways upwards, subtrees. -/
namespace LK
open PySem PySem.Spec PyProof.Rows L2 DS MA
/-- from k upwards -/
inductive Up (par : Str → Option Str) : Str → List Str → Prop where
  | root {k : Str} (h : par k = none) : Up par k [k]
  | step {k p : Str} {l : List Str} (h : par k = some p) (r : Up par p l) : Up par k (k :: l)
theorem Up.head {par : Str → Option Str} {k : Str} {l : List Str} (h : Up par k l) : ∃ r, l = k :: r := by cases h <;> exact ⟨_, rfl⟩
theorem Up.uniq {par : Str → Option Str} {k : Str} {l l' : List Str} (h : Up par k l) : Up par k l' → l = l' := by
  induction h generalizing l' with
  | root h => intro q; cases q with
    | root => rfl
    | step h2 _ => rw [h] at h2; cases h2
  | step h r ih => intro q; cases q with
    | root h2 => rw [h] at h2; cases h2
    | step h2 r2 => rw [h] at h2; cases h2; rw [ih r2]
/-- s is t, or inside it -/
inductive Sub : T → T → Prop where
  | refl (t : T) : Sub t t
  | kid {s c : T} {k : Str} {cs : List T} (h : c ∈ cs) (r : Sub s c) : Sub s (.node k cs)
theorem Sub.pre {s t : T} (h : Sub s t) : ∀ k ∈ pre s, k ∈ MA.pre t := by
  induction h with
  | refl => exact fun _ h => h
  | kid h r ih => intro k hk; rw [MA.pre]; exact List.mem_cons_of_mem _ (preL_sub h _ (ih k hk))
theorem Sub.len {s t : T} (h : Sub s t) : (MA.pre s).length ≤ (MA.pre t).length := by
  induction h with
  | refl => exact Nat.le_refl _
  | kid h r ih => rw [MA.pre, List.length_cons]; have := preL_len h; omega
theorem Sub.dep {s t : T} (h : Sub s t) : MA.dep s ≤ MA.dep t := by
  induction h with
  | refl => exact Nat.le_refl _
  | kid h r ih => rw [MA.dep]; have := depL_mem h; omega
theorem Sub.fits {f : Str → List Str} {s t : T} (h : Sub s t) : Fits f t → Fits f s := by
  induction h with
  | refl => exact fun h => h
  | kid h r ih => intro q; rw [Fits] at q; exact ih (FitsL_mem.mp q.2 _ h)
end LK
/-! MK2: children_by_key, parents_by_key. -/
namespace LK
open PySem PySem.Spec PyProof.Rows L2 DS MA
def sp_children_by_key : DSp := fun ds μ Q _ => ∃ t f, ds = [enc t] ∧ TOk t ∧ Fits f t ∧ ∀ μ' kvs, Le μ μ' → kvs.length ≤ 1000 → (∀ k, valD kvs (.inr k) = if k ∈ pre t then some (.tup (sts (f k))) else none) → Q (.dic kvs) μ'
theorem len_children_by_key : ∀ ds μ Q E, sp_children_by_key ds μ Q E → ds.length = 1 := by rintro ds μ Q E ⟨t, f, rfl, _⟩; rfl
def t_children_by_key : DTS := (dSeq (dPar 1 2 (dCons dDict0M (dCons (dLstM (dCons (dVar 0) dNil)) dNil)))
    (dSeq (dWhile (dTest (dOp (dEq true) (dVar 2) (dLst dNil))) (dSeq (dAsg (dLM0 dmPop (dVar 2)) (hTup 2 (hCons (hName 3) (hCons (hName 4) hNil))))
    (dSeq (dDPut (dVar 1) (dVar 3) (dCB drTuple (dCons (dLcS (jSeq (dVar 4)) (hName 5) dYes (dOp dIx (dVar 5) (dC (.int 0))) [5]) dNil)))
    (dDrop (dLM dmExtend (dVar 2) (dCons (dVar 4) dNil))))))
    (dRetF (dVar 1))))
theorem lc_keys {ρ : Rho} {μ : Mu} {cs : List T} {i j : Nat} {Q : SD → Mu → Prop} (h : ρ[i]? = some (some (.tup (encL cs)))) (hj : j < ρ.length) (hl : cs.length ≤ 1000) (q : Q (.lst (sts (cs.map T.key))) μ) :
    dLcS (jSeq (dVar i)) (hName j) dYes (dOp dIx (dVar j) (dC (.int 0))) [j] ρ μ Q := by
  unfold dLcS dLc
  refine r_var h ?_
  show (encL cs).length ≤ sizeLine ∧ _
  refine ⟨le_line (m := 1000) (by rw [encL_length]; exact hl) (by omega), fun i acc μ' => acc = sts ((cs.take i).map T.key) ∧ μ' = μ, ⟨rfl, rfl⟩, fun _ _ _ _ _ => rfl, ?_, ?_⟩
  · rintro i d acc μ' hd ⟨rfl, rfl⟩
    rw [encL_map, List.getElem?_map] at hd
    cases e : cs[i]? with
    | none => rw [e] at hd; cases hd
    | some c =>
      rw [e] at hd; cases hd
      refine ifT rfl ?_
      refine r_var (d := enc c) (by rw [List.getElem?_set_self (by simpa [wipeR] using hj)]) ?_
      obtain ⟨k, ds⟩ := c
      rw [enc]
      refine ix_tup (d := .str k) rfl ⟨?_, rfl⟩
      rw [List.take_succ, e]; simp [sts, T.key]
  · rintro acc μ' ⟨rfl, rfl⟩
    rw [List.take_of_length_le (by rw [encL_length]; exact Nat.le_refl _)]; exact q
theorem read_children_by_key : ∀ ds μ Q E, sp_children_by_key ds μ Q E → t_children_by_key { nx := fun _ μ' => Q .non μ', rt := Q } (begin_ ["tree", "found", "waiting", "key", "children", "child"] ds) μ := by
  rintro ds μ Q E ⟨t, f, rfl, ok, fit, q⟩
  refine fun p hp => ⟨(by show 1 ≤ sizeLine; decide), fun w hw => ?_⟩
  have hpw : p ≠ w := fun e => by subst e; rw [up_same] at hw; cases hw
  rw [up_ne (Ne.symm hpw)] at hw
  refine ⟨fun m ρ μ' => ∃ (ts : List T) (done : List Str) (kvs : List (Key × SD)) (a b : Option SD), ρ = [some (enc t), some (.ref p), some (.ref w), a, b, none] ∧ Le μ μ' ∧ μ' p = some (.dic kvs) ∧ μ' w = some (.lst (encL ts)) ∧ m = (preL ts).length ∧ (∀ k, k ∈ pre t ↔ k ∈ done ∨ k ∈ preL ts) ∧ done.length + (preL ts).length = (pre t).length ∧ kvs.length ≤ done.length ∧ (∀ k, valD kvs (.inr k) = if k ∈ done then some (.tup (sts (f k))) else none) ∧ (∀ t ∈ ts, dep t ≤ 30) ∧ FitsL f ts, ?_, ?_⟩
  · refine ⟨_, [t], [], [], none, none, rfl, ((Le.refl μ).up hp).up hw, by rw [up_ne hpw, up_same], by rw [up_same]; simp [encL], rfl, by simp [preL], by simp [preL], by simp, by simp [valD_nil], by simpa using ok.dep, ⟨fit, trivial⟩⟩
  · rintro m ρ μ1 ⟨ts, done, kvs, a, b, rfl, le, hp1, hw1, rfl, e, el, hk, hv, hd, hf⟩
    obtain ⟨gp, g⟩ := encL_good ts (fun k hk => ok.keys k ((e k).mpr (.inr hk)))
    have hd' := depL_le hd
    have len := ok.len
    refine r_var rfl ?_
    refine ⟨Nat.zero_le _, ?_⟩
    refine eq_nilR hw1 g (by omega) ?_
    rcases List.eq_nil_or_concat ts with rfl | ⟨ts', t', rfl⟩
    · refine ifF rfl ?_
      dsimp only
      refine r_var rfl ?_
      unfold frz
      simp only [hp1]
      refine q _ _ (le.rm hp) (by omega) fun k => ?_
      rw [hv k]
      have := e k; simp [preL] at this; simp [this]
    · obtain ⟨k, cs⟩ := t'
      rw [List.concat_eq_append] at *
      rw [encL_append] at hw1
      refine ifT (by simp [encL_append, encL]) ⟨_, fun _ _ h => h, ?_⟩
      have hf2 := FitsL_mem.mp hf
      have hfk := hf2 _ (List.mem_append_right _ (List.mem_singleton.mpr rfl))
      rw [Fits] at hfk
      have hc : cs.length + ts'.length ≤ 1000 := by
        have := len_le_preL cs; have := len_le_preL ts'
        rw [preL_append, preL, pre, preL] at el; simp at el; omega
      dsimp only
      refine r_var rfl ⟨isSome_ref hw1, ?_⟩
      refine dm_pop hw1 ?_
      refine ⟨rfl, rfl, ?_⟩
      dsimp only
      refine lc_keys rfl (by simp) (by omega) ?_
      refine dr_tupleL ?_
      refine r_var rfl ?_
      refine r_var rfl ?_
      refine put_ok (by rw [up_ne hpw]; exact hp1) rfl (lt_line (m := 1000) (by omega) (by omega)) ?_
      dsimp only
      refine r_var rfl ⟨isSome_ref (by rw [up_ne (Ne.symm hpw), up_same]), ?_⟩
      refine r_var rfl ?_
      refine dm_extendT (by rw [up_ne (Ne.symm hpw), up_same]) (le_line (m := 1000) (by simp [encL_length]; omega) (by omega)) ?_
      have el2 : done.length + ((preL ts').length + ((preL cs).length + 1)) = (pre t).length := by
        rw [preL_append, preL, pre, preL] at el; simpa using el
      refine ⟨_, ?_, ts' ++ cs, done ++ [k], putD kvs (.inr k) (.tup (sts (cs.map T.key))), _, _, rfl, ?_, ?_, ?_, rfl, ?_, ?_, ?_, ?_, ?_, ?_⟩
      · simp [preL_append, preL, pre]
      · exact ((le.up hw).up hp).up hw
      · rw [up_ne hpw, up_same]
      · rw [up_same, encL_append]
      · intro x; rw [e x]; simp [preL_append, preL, pre]
        constructor
        · rintro (h | h | h | h) <;> simp [h]
        · rintro ((h | h) | h | h) <;> simp [h]
      · simp [preL_append]; omega
      · have := putD_length (kvs := kvs) (k := Sum.inr k) (v := SD.tup (sts (cs.map T.key))); simp; omega
      · intro x
        rw [valD_put, hv x]
        by_cases hx : k = x
        · subst hx; simp [hfk.1]
        · have : ¬ ((Sum.inr k : Key) = Sum.inr x) := fun z => hx (by cases z; rfl)
          rw [if_neg this]
          simp [Ne.symm hx]
      · intro t' h'
        rcases List.mem_append.mp h' with h' | h'
        · exact hd t' (List.mem_append_left _ h')
        · have h1 := hd _ (List.mem_append_right _ (List.mem_singleton.mpr rfl))
          have h2 := depL_mem h'
          rw [dep] at h1; omega
      · rw [FitsL_mem]
        intro t' h'
        rcases List.mem_append.mp h' with h' | h'
        · exact hf2 t' (List.mem_append_left _ h')
        · exact FitsL_mem.mp hfk.2 t' h'
end LK
/-! MK3: parents_by_key. -/
namespace LK
open PySem PySem.Spec PyProof.Rows L2 DS MA
def sp_parents_by_key : DSp := fun ds μ Q _ => ∃ t f par, ds = [enc t] ∧ TOk t ∧ Par f par t ∧ ∀ μ' kvs, Le μ μ' → kvs.length ≤ 1001 → (∀ k, valD kvs (.inr k) = if k ∈ pre t then some (optS (par k)) else none) → Q (.dic kvs) μ'
theorem len_parents_by_key : ∀ ds μ Q E, sp_parents_by_key ds μ Q E → ds.length = 1 := by rintro ds μ Q E ⟨t, f, par, rfl, _⟩; rfl
def t_parents_by_key : DTS := (dSeq (dPar 1 2 (dCons (dDispM [((dOp dIx (dVar 0) (dC (.int 0))), (dC .non))]) (dCons (dLstM (dCons (dVar 0) dNil)) dNil)))
    (dSeq (dWhile (dTest (dOp (dEq true) (dVar 2) (dLst dNil))) (dSeq (dAsg (dLM0 dmPop (dVar 2)) (hTup 2 (hCons (hName 3) (hCons (hName 4) hNil))))
    (dFor (jSeq (dVar 4)) (hName 5) (dSeq (dDPut (dVar 1) (dOp dIx (dVar 5) (dC (.int 0))) (dVar 3))
    (dDrop (dLM dmAppend (dVar 2) (dCons (dVar 5) dNil)))))))
    (dRetF (dVar 1))))
theorem enc_key (t : T) : enc t = .tup [.str t.key, .tup (encL t.kids)] := by cases t; rw [enc]; rfl
theorem read_parents_by_key : ∀ ds μ Q E, sp_parents_by_key ds μ Q E → t_parents_by_key { nx := fun _ μ' => Q .non μ', rt := Q } (begin_ ["tree", "found", "waiting", "key", "children", "child"] ds) μ := by
  rintro ds μ Q E ⟨t, f, par, rfl, ok, P, q⟩
  unfold t_parents_by_key
  simp only [dDispM, dPairs]
  refine r_var rfl ?_
  rw [enc_key t]
  refine ix_tup (d := .str t.key) rfl ?_
  refine fun p hp => ?_
  refine r_var rfl ⟨(by show 1 ≤ sizeLine; decide), fun w hw => ?_⟩
  rw [← enc_key t] at *
  have hpw : p ≠ w := fun e => by subst e; rw [up_same] at hw; cases hw
  rw [up_ne (Ne.symm hpw)] at hw
  refine ⟨fun m ρ μ' => ∃ (ts : List T) (done : List Str) (kvs : List (Key × SD)) (a b c : Option SD), ρ = [some (enc t), some (.ref p), some (.ref w), a, b, c] ∧ Le μ μ' ∧ μ' p = some (.dic kvs) ∧ μ' w = some (.lst (encL ts)) ∧ m = (preL ts).length ∧ (∀ k, k ∈ pre t ↔ k ∈ done ∨ k ∈ preL ts) ∧ (∀ u ∈ ts, u.key ∈ done) ∧ done.length + (preL ts).length = (pre t).length + ts.length ∧ (preL ts).length ≤ (pre t).length ∧ kvs.length ≤ done.length ∧ (∀ k, valD kvs (.inr k) = if k ∈ done then some (optS (par k)) else none) ∧ (∀ t ∈ ts, dep t ≤ 30) ∧ FitsL f ts, ?_, ?_⟩
  · refine ⟨_, [t], [t.key], [(.inr t.key, .non)], none, none, none, ?_, ((Le.refl μ).up hp).up hw, ?_, by rw [up_same]; simp [encL], rfl, ?_, by simp, ?_, by simp [preL], by simp, ?_, by simpa using ok.dep, ⟨P.fits, trivial⟩⟩
    · rfl
    · rw [up_ne hpw, up_same]; rfl
    · intro k; simp [preL]; intro e; subst e; exact key_mem t
    · simp [preL]; omega
    · intro k
      rw [valD_cons, valD_nil]
      by_cases e : t.key = k
      · subst e; simp [P.root, optS]
      · have : ¬ ((Sum.inr t.key : Key) = Sum.inr k) := fun z => e (by cases z; rfl)
        simp [this, Ne.symm e]
  · rintro m ρ μ1 ⟨ts, done, kvs, a, b, c, rfl, le, hp1, hw1, rfl, e, er, el, em, hk, hv, hd, hf⟩
    obtain ⟨gp, g⟩ := encL_good ts (fun k hk => ok.keys k ((e k).mpr (.inr hk)))
    have hd' := depL_le hd
    have len := ok.len
    refine r_var rfl ?_
    refine ⟨Nat.zero_le _, ?_⟩
    refine eq_nilR hw1 g (by omega) ?_
    rcases List.eq_nil_or_concat ts with rfl | ⟨ts', t', rfl⟩
    · refine ifF rfl ?_
      dsimp only
      refine r_var rfl ?_
      unfold frz
      simp only [hp1]
      refine q _ _ (le.rm hp) (by simp [preL] at el; omega) fun k => ?_
      rw [hv k]
      have := e k; simp [preL] at this; simp [this]
    · obtain ⟨k, cs⟩ := t'
      rw [List.concat_eq_append] at *
      rw [encL_append] at hw1
      refine ifT (by simp [encL_append, encL]) ⟨_, fun _ _ h => h, ?_⟩
      have hf2 := FitsL_mem.mp hf
      have hfk := hf2 _ (List.mem_append_right _ (List.mem_singleton.mpr rfl))
      rw [Fits] at hfk
      have el2 : done.length + ((preL ts').length + ((preL cs).length + 1)) = (pre t).length + (ts'.length + 1) := by
        rw [preL_append, preL, pre, preL] at el; simpa using el
      have em2 : (preL ts').length + ((preL cs).length + 1) ≤ (pre t).length := by rw [preL_append, preL, pre, preL] at em; simpa using em
      have l1 := len_le_preL cs
      have l2 := len_le_preL ts'
      dsimp only
      refine r_var rfl ⟨isSome_ref hw1, ?_⟩
      refine dm_pop hw1 ?_
      refine ⟨rfl, rfl, ?_⟩
      dsimp only
      have kin : k ∈ pre t := (e k).mpr (.inr (by simp [preL_append, preL, pre]))
      refine for_T rfl ⟨fun i ρ μ' => ∃ (kvs' : List (Key × SD)) (c : Option SD), ρ = [some (enc t), some (.ref p), some (.ref w), some (.str k), some (.tup (encL cs)), c] ∧ Le μ μ' ∧ μ' p = some (.dic kvs') ∧ μ' w = some (.lst (encL (ts' ++ cs.take i))) ∧ kvs'.length ≤ done.length + i ∧ i ≤ cs.length ∧ (∀ x, valD kvs' (.inr x) = if x ∈ done ++ (cs.take i).map T.key then some (optS (par x)) else none), ?_, ?_, ?_⟩
      · refine ⟨kvs, c, rfl, le.up hw, by rw [up_ne hpw]; exact hp1, by rw [up_same]; simp, by omega, Nat.zero_le _, by simpa using hv⟩
      · rintro i d ρ μ2 hi ⟨kvs', c', rfl, le2, hp2, hw2, hk2, hi2, hv2⟩
        rw [encL_map, List.getElem?_map] at hi
        cases ei : cs[i]? with
        | none => rw [ei] at hi; cases hi
        | some u =>
          rw [ei] at hi; cases hi
          have hil : i < cs.length := (List.getElem?_eq_some_iff.mp ei).1
          have hu : u ∈ cs := List.mem_of_getElem? ei
          refine r_var rfl ?_
          refine r_var rfl ?_
          refine r_var rfl ?_
          rw [enc_key u]
          refine ix_tup (d := .str u.key) rfl ?_
          refine put_ok hp2 rfl (lt_line (m := 3000) (by omega) (by omega)) ?_
          dsimp only
          refine r_var rfl ⟨isSome_ref (by rw [up_ne (Ne.symm hpw)]; exact hw2), ?_⟩
          refine r_var rfl ?_
          refine dm_append (by rw [up_ne (Ne.symm hpw)]; exact hw2) (lt_line (m := 3000) (by simp [encL_length]; omega) (by omega)) ?_
          refine ⟨putD kvs' (.inr u.key) (.str k), _, by rw [← enc_key u]; rfl, (le2.up hp).up hw, by rw [up_ne hpw, up_same], ?_, ?_, hil, ?_⟩
          · rw [up_same, List.take_succ, ei, ← enc_key u]; simp [encL_append, encL]
          · have := putD_length (kvs := kvs') (k := Sum.inr u.key) (v := SD.str k); omega
          · intro x
            rw [valD_put, hv2 x, List.take_succ, ei]
            by_cases hx : u.key = x
            · subst hx
              have : par u.key = some k := P.kid k kin _ (by rw [hfk.1]; exact List.mem_map.mpr ⟨u, hu, rfl⟩)
              simp [this, optS]
            · have h3 : ¬ ((Sum.inr u.key : Key) = Sum.inr x) := fun z => hx (by cases z; rfl)
              rw [if_neg h3]
              simp [Ne.symm hx]
      · rintro ρ μ2 ⟨kvs', c', rfl, le2, hp2, hw2, hk2, hi2, hv2⟩
        rw [encL_length] at *
        rw [List.take_length] at *
        refine ⟨_, ?_, ts' ++ cs, done ++ cs.map T.key, kvs', _, _, _, rfl, le2, hp2, hw2, rfl, ?_, ?_, ?_, by simp [preL_append]; omega, by simpa using hk2, hv2, ?_, ?_⟩
        · simp [preL_append, preL, pre]
        · intro x; rw [e x]; simp [preL_append, preL, pre]
          have hkd : k ∈ done := er (.node k cs) (by simp)
          constructor
          · rintro (h | h | h | h)
            · simp [h]
            · simp [h]
            · subst h; simp [hkd]
            · simp [h]
          · rintro ((h | ⟨u, hu, rfl⟩) | h | h)
            · simp [h]
            · exact .inr (.inr (.inr (preL_sub hu _ (key_mem u))))
            · simp [h]
            · simp [h]
        · intro u hu
          rcases List.mem_append.mp hu with hu | hu
          · exact List.mem_append_left _ (er u (List.mem_append_left _ hu))
          · exact List.mem_append_right _ (List.mem_map.mpr ⟨u, hu, rfl⟩)
        · simp [preL_append]; omega
        · intro t' h'
          rcases List.mem_append.mp h' with h' | h'
          · exact hd t' (List.mem_append_left _ h')
          · have h1 := hd _ (List.mem_append_right _ (List.mem_singleton.mpr rfl))
            have h2 := depL_mem h'
            rw [dep] at h1; omega
        · rw [FitsL_mem]
          intro t' h'
          rcases List.mem_append.mp h' with h' | h'
          · exact hf2 t' (List.mem_append_left _ h')
          · exact FitsL_mem.mp hfk.2 t' h'
end LK
/-! MK4: tree_from, check_element, parent_of, children_of, subtree. -/
namespace LK
open PySem PySem.Spec PyProof.Rows L2 DS MA
def sp_tree_from (n : Nat) : DSp := fun ds μ Q _ => ∃ t f kvs, ds = [.str t.key, .dic kvs] ∧ dep t ≤ n ∧ (pre t).length ≤ 1000 ∧ Fits f t ∧ (∀ k ∈ pre t, valD kvs (.inr k) = some (.tup (sts (f k)))) ∧ Q (enc t) μ
theorem no_tree_from {ds μ Q E} (h : sp_tree_from 0 ds μ Q E) : False := by
  obtain ⟨⟨k, cs⟩, f, kvs, rfl, h, _⟩ := h; rw [dep] at h; omega
theorem len_tree_from {n} : ∀ ds μ Q E, sp_tree_from n ds μ Q E → ds.length = 2 := by rintro ds μ Q E ⟨t, f, kvs, rfl, _⟩; rfl
def t_tree_from (n : Nat) : DTS := (dRet (dTup (dCons (dVar 0) (dCons (dCB drTuple (dCons (dLcS (jSeq (dDGet (dVar 1) (dVar 0))) (hName 2) dYes (dCall (sp_tree_from n) [] (dCons (dVar 2) (dCons (dVar 1) dNil))) [2]) dNil)) dNil))))
theorem read_tree_from (n : Nat) : ∀ ds μ Q E, sp_tree_from (n + 1) ds μ Q E → t_tree_from n { nx := fun _ μ' => Q .non μ', rt := Q } (begin_ ["key", "children", "child"] ds) μ := by
  rintro ds μ Q E ⟨⟨k, cs⟩, f, kvs, rfl, hd, hl, fit, hv, q⟩
  unfold t_tree_from dLcS dLc
  rw [Fits] at fit
  rw [dep] at hd
  have l1 := len_le_preL cs
  have hl2 : (preL cs).length + 1 ≤ 1000 := by rw [pre] at hl; simpa using hl
  refine r_var rfl ?_
  refine r_var rfl ?_
  refine r_var rfl ?_
  refine get_ok rfl rfl (hv k (by rw [pre]; exact List.mem_cons_self ..)) ?_
  refine lc_pure (zs := encL cs) rfl (by simp [sts, fit.1]; omega) (by simp [sts, fit.1, encL_length]) ?_ ?_
  · intro i d y hd' hy R r
    rw [encL_map, List.getElem?_map] at hy
    rw [sts, fit.1, List.getElem?_map, List.getElem?_map] at hd'
    cases e : cs[i]? with
    | none => rw [e] at hy; cases hy
    | some c =>
      rw [e] at hy hd'; cases hy; cases hd'
      have hc := List.mem_of_getElem? e
      refine r_var rfl ?_
      refine r_var rfl ?_
      refine ⟨c, f, kvs, rfl, ?_, ?_, FitsL_mem.mp fit.2 c hc, ?_, r⟩
      · have := depL_mem hc; omega
      · have := preL_len hc; omega
      · intro x hx; exact hv x (by rw [pre]; exact List.mem_cons_of_mem _ (preL_sub hc x hx))
  · refine dr_tupleL ⟨(by show 2 ≤ sizeLine; decide), ?_⟩
    rw [enc] at q; exact q
def sp_check_element : DSp := fun ds μ Q _ => ∃ k kvs, ds = [.dic kvs, .str k] ∧ (valD kvs (.inr k)).isSome = true ∧ Q .non μ
theorem len_check_element : ∀ ds μ Q E, sp_check_element ds μ Q E → ds.length = 2 := by rintro ds μ Q E ⟨k, kvs, rfl, _⟩; rfl
def t_check_element : DTS := (dIfS (dOr (dNot (dTest (dCB drIsi (dCons (dVar 1) (dCons (dC (.ty "str")) dNil))))) (dTest (dDIn true (dVar 1) (dVar 0)))) dNever dNext)
theorem read_check_element : ∀ ds μ Q E, sp_check_element ds μ Q E → t_check_element { nx := fun _ μ' => Q .non μ', rt := Q } (begin_ ["known", "key"] ds) μ := by
  rintro ds μ Q E ⟨k, kvs, rfl, h, q⟩
  unfold t_check_element
  refine r_var rfl ?_
  refine isi_of rfl kit_str_str ?_
  refine ifF rfl ?_
  refine r_var rfl ?_
  refine r_var rfl ?_
  refine din_ok rfl rfl ?_
  rw [h]
  exact ifF rfl q
def sp_parent_of : DSp := fun ds μ Q _ => ∃ t f par k, ds = [enc t, .str k] ∧ TOk t ∧ Par f par t ∧ k ∈ pre t ∧ ∀ μ', Le μ μ' → Q (optS (par k)) μ'
theorem len_parent_of : ∀ ds μ Q E, sp_parent_of ds μ Q E → ds.length = 2 := by rintro ds μ Q E ⟨t, f, par, k, rfl, _⟩; rfl
def t_parent_of : DTS := (dSeq (dSet (dCall sp_parents_by_key [] (dCons (dVar 0) dNil)) 2)
    (dSeq (dDrop (dCall sp_check_element [] (dCons (dVar 2) (dCons (dVar 1) dNil))))
    (dRet (dDGet (dVar 2) (dVar 1)))))
theorem read_parent_of : ∀ ds μ Q E, sp_parent_of ds μ Q E → t_parent_of { nx := fun _ μ' => Q .non μ', rt := Q } (begin_ ["tree", "key", "parents"] ds) μ := by
  rintro ds μ Q E ⟨t, f, par, k, rfl, ok, P, hk, q⟩
  unfold t_parent_of
  refine r_var rfl ?_
  refine ⟨t, f, par, rfl, ok, P, fun μ' kvs le _ hv => ?_⟩
  dsimp only
  refine r_var rfl ?_
  refine r_var rfl ?_
  have hv' : valD kvs (.inr k) = some (optS (par k)) := by rw [hv k, if_pos hk]
  refine ⟨k, kvs, rfl, by rw [hv']; rfl, ?_⟩
  dsimp only
  refine r_var rfl ?_
  refine r_var rfl ?_
  exact get_ok rfl rfl hv' (q _ le)
def sp_children_of : DSp := fun ds μ Q _ => ∃ t f k, ds = [enc t, .str k] ∧ TOk t ∧ Fits f t ∧ k ∈ pre t ∧ ∀ μ', Le μ μ' → Q (.tup (sts (f k))) μ'
theorem len_children_of : ∀ ds μ Q E, sp_children_of ds μ Q E → ds.length = 2 := by rintro ds μ Q E ⟨t, f, k, rfl, _⟩; rfl
def t_children_of : DTS := (dSeq (dSet (dCall sp_children_by_key [] (dCons (dVar 0) dNil)) 2)
    (dSeq (dDrop (dCall sp_check_element [] (dCons (dVar 2) (dCons (dVar 1) dNil))))
    (dRet (dDGet (dVar 2) (dVar 1)))))
theorem read_children_of : ∀ ds μ Q E, sp_children_of ds μ Q E → t_children_of { nx := fun _ μ' => Q .non μ', rt := Q } (begin_ ["tree", "key", "children"] ds) μ := by
  rintro ds μ Q E ⟨t, f, k, rfl, ok, P, hk, q⟩
  unfold t_children_of
  refine r_var rfl ?_
  refine ⟨t, f, rfl, ok, P, fun μ' kvs le _ hv => ?_⟩
  dsimp only
  refine r_var rfl ?_
  refine r_var rfl ?_
  have hv' : valD kvs (.inr k) = some (.tup (sts (f k))) := by rw [hv k, if_pos hk]
  refine ⟨k, kvs, rfl, by rw [hv']; rfl, ?_⟩
  dsimp only
  refine r_var rfl ?_
  refine r_var rfl ?_
  exact get_ok rfl rfl hv' (q _ le)
def sp_subtree : DSp := fun ds μ Q _ => ∃ t f s, ds = [enc t, .str s.key] ∧ TOk t ∧ dep t ≤ 24 ∧ Fits f t ∧ Sub s t ∧ ∀ μ', Le μ μ' → Q (enc s) μ'
theorem len_subtree : ∀ ds μ Q E, sp_subtree ds μ Q E → ds.length = 2 := by rintro ds μ Q E ⟨t, f, s, rfl, _⟩; rfl
def t_subtree : DTS := (dSeq (dSet (dCall sp_children_by_key [] (dCons (dVar 0) dNil)) 2)
    (dSeq (dDrop (dCall sp_check_element [] (dCons (dVar 2) (dCons (dVar 1) dNil))))
    (dRet (dCall (sp_tree_from 24) [] (dCons (dVar 1) (dCons (dVar 2) dNil))))))
theorem read_subtree : ∀ ds μ Q E, sp_subtree ds μ Q E → t_subtree { nx := fun _ μ' => Q .non μ', rt := Q } (begin_ ["tree", "key", "children"] ds) μ := by
  rintro ds μ Q E ⟨t, f, s, rfl, ok, d24, P, hs, q⟩
  unfold t_subtree
  refine r_var rfl ?_
  refine ⟨t, f, rfl, ok, P, fun μ' kvs le _ hv => ?_⟩
  dsimp only
  refine r_var rfl ?_
  refine r_var rfl ?_
  have hv' : ∀ k ∈ pre t, valD kvs (.inr k) = some (.tup (sts (f k))) := fun k hk => by rw [hv k, if_pos hk]
  refine ⟨s.key, kvs, rfl, by rw [hv' _ (hs.pre _ (key_mem s))]; rfl, ?_⟩
  dsimp only
  refine r_var rfl ?_
  refine r_var rfl ?_
  exact ⟨s, f, kvs, rfl, Nat.le_trans hs.dep d24, Nat.le_trans hs.len ok.len, hs.fits P, fun k hk => hv' k (hs.pre k hk), q _ le⟩
end LK
/-! MK5: path_of, is_inside. -/
namespace LK
open PySem PySem.Spec PyProof.Rows L2 DS MA
def sp_path_of : DSp := fun ds μ Q _ => ∃ t f par k l, ds = [enc t, .str k] ∧ TOk t ∧ Par f par t ∧ Up par k l ∧ l.length ≤ 1000 ∧ (∀ x ∈ l, x ∈ pre t) ∧ ∀ μ', Le μ μ' → Q (.tup (sts l.reverse)) μ'
theorem len_path_of : ∀ ds μ Q E, sp_path_of ds μ Q E → ds.length = 2 := by rintro ds μ Q E ⟨t, f, par, k, l, rfl, _⟩; rfl
def t_path_of : DTS := (dSeq (dSet (dCall sp_parents_by_key [] (dCons (dVar 0) dNil)) 2)
    (dSeq (dDrop (dCall sp_check_element [] (dCons (dVar 2) (dCons (dVar 1) dNil))))
    (dSeq (dSet (dLstM (dCons (dVar 1) dNil)) 3)
    (dSeq (dWhile (dTest (dNotN (dDGet (dVar 2) (dOp dIx (dVar 3) (dUnI (fun i => -i) (dC (.int 1))))))) (dDrop (dLM dmAppend (dVar 3) (dCons (dDGet (dVar 2) (dOp dIx (dVar 3) (dUnI (fun i => -i) (dC (.int 1))))) dNil))))
    (dRet (dCB drTuple (dCons (dRev (dVar 3)) dNil)))))))
theorem read_path_of : ∀ ds μ Q E, sp_path_of ds μ Q E → t_path_of { nx := fun _ μ' => Q .non μ', rt := Q } (begin_ ["tree", "key", "parents", "found"] ds) μ := by
  rintro ds μ Q E ⟨t, f, par, k, l, rfl, ok, P, hu, hl, hin, q⟩
  unfold t_path_of
  refine r_var rfl ?_
  refine ⟨t, f, par, rfl, ok, P, fun μ1 kvs le1 _ hv => ?_⟩
  dsimp only
  refine r_var rfl ?_
  refine r_var rfl ?_
  have hv' : ∀ x ∈ pre t, valD kvs (.inr x) = some (optS (par x)) := fun x hx => by rw [hv x, if_pos hx]
  obtain ⟨r, rfl⟩ := hu.head
  refine ⟨k, kvs, rfl, by rw [hv' k (hin k (List.mem_cons_self ..))]; rfl, ?_⟩
  dsimp only
  refine r_var rfl ⟨(by show 1 ≤ sizeLine; decide), fun w hw => ?_⟩
  have hw0 := le1.none hw
  refine ⟨fun m ρ μ' => ∃ (done rest : List Str) (x : Str), ρ = [some (enc t), some (.str k), some (.dic kvs), some (.ref w)] ∧ Le μ μ' ∧ μ' w = some (.lst (sts (done ++ [x]))) ∧ Up par x (x :: rest) ∧ k :: r = done ++ (x :: rest) ∧ m = rest.length, ?_, ?_⟩
  · exact ⟨_, [], r, k, rfl, le1.up hw0, up_same, hu, rfl, rfl⟩
  · rintro m ρ μ2 ⟨done, rest, x, rfl, le2, hw2, hx, e, rfl⟩
    have hxt : x ∈ pre t := hin x (by rw [e]; simp)
    have hat : atI (sts (done ++ [x])) (-1) = some (.str x) := by
      rw [sts, List.map_append]; exact atI_last _ _
    refine r_var rfl ?_
    refine r_var rfl ?_
    refine ix_ref hw2 hat ?_
    refine get_ok rfl rfl (hv' x hxt) ?_
    have el := congrArg List.length e
    simp at el hl
    cases hx with
    | root h =>
      rw [h]
      refine ifF rfl ?_
      dsimp only
      refine r_var rfl ?_
      refine rev_R hw2 ?_
      refine dr_tupleL ?_
      have := q μ2 le2
      rw [e] at this
      simpa [sts] using this
    | step h r2 =>
      rename_i p
      rw [h]
      obtain ⟨r3, rfl⟩ := r2.head
      refine ifT rfl ⟨_, fun _ _ h => h, ?_⟩
      dsimp only
      refine r_var rfl ⟨isSome_ref hw2, ?_⟩
      refine r_var rfl ?_
      refine r_var rfl ?_
      refine ix_ref hw2 hat ?_
      refine get_ok rfl rfl (hv' x hxt) ?_
      rw [h]
      refine dm_append hw2 (lt_line (m := 1001) (by simp [sts]; omega) (by omega)) ?_
      exact ⟨_, by simp, done ++ [x], r3, p, rfl, le2.up hw0, by rw [up_same]; simp [sts, optS], r2, by rw [e]; simp, rfl⟩
def sp_is_inside : DSp := fun ds μ Q _ => ∃ t f par k o l, ds = [enc t, .str k, .str o] ∧ TOk t ∧ Par f par t ∧ Up par k (k :: l) ∧ l.length ≤ 999 ∧ (∀ x ∈ k :: l, x ∈ pre t) ∧ o ∈ pre t ∧ ∀ μ', Le μ μ' → Q (.bl (decide (o ∈ l))) μ'
theorem len_is_inside : ∀ ds μ Q E, sp_is_inside ds μ Q E → ds.length = 3 := by rintro ds μ Q E ⟨t, f, par, k, o, l, rfl, _⟩; rfl
def t_is_inside : DTS := (dSeq (dSet (dCall sp_parents_by_key [] (dCons (dVar 0) dNil)) 3)
    (dSeq (dDrop (dCall sp_check_element [] (dCons (dVar 3) (dCons (dVar 1) dNil))))
    (dSeq (dDrop (dCall sp_check_element [] (dCons (dVar 3) (dCons (dVar 2) dNil))))
    (dRet (dOp (dIn false) (dVar 2) (dSl (dCall sp_path_of [] (dCons (dVar 0) (dCons (dVar 1) dNil))) dNoPart (dPart (dUnI (fun i => -i) (dC (.int 1))))))))))
theorem cut_init {α : Type} (xs : List α) (x : α) : cutL (xs ++ [x]) none (some (-1)) = xs := by
  unfold cutL
  have h1 : HT.sIx (xs ++ [x]).length 0 none = 0 := rfl
  have h2 : HT.sIx (xs ++ [x]).length (xs ++ [x]).length (some (-1)) = xs.length := by
    show (if (-1 : Int) < 0 then ((-1 : Int) + ((xs ++ [x]).length : Int)).toNat else min (-1 : Int).toNat (xs ++ [x]).length) = xs.length
    rw [if_pos (by decide), List.length_append, List.length_singleton]
    omega
  rw [h1, h2]; simp
theorem read_is_inside : ∀ ds μ Q E, sp_is_inside ds μ Q E → t_is_inside { nx := fun _ μ' => Q .non μ', rt := Q } (begin_ ["tree", "key", "other", "parents"] ds) μ := by
  rintro ds μ Q E ⟨t, f, par, k, o, l, rfl, ok, P, hu, hl, hin, ho, q⟩
  unfold t_is_inside
  refine r_var rfl ?_
  refine ⟨t, f, par, rfl, ok, P, fun μ1 kvs le1 _ hv => ?_⟩
  have hv' : ∀ x ∈ pre t, valD kvs (.inr x) = some (optS (par x)) := fun x hx => by rw [hv x, if_pos hx]
  dsimp only
  refine r_var rfl ?_
  refine r_var rfl ?_
  refine ⟨k, kvs, rfl, by rw [hv' k (hin k (List.mem_cons_self ..))]; rfl, ?_⟩
  dsimp only
  refine r_var rfl ?_
  refine r_var rfl ?_
  refine ⟨o, kvs, rfl, by rw [hv' o ho]; rfl, ?_⟩
  dsimp only
  refine r_var rfl ?_
  refine r_var rfl ?_
  refine r_var rfl ?_
  refine ⟨t, f, par, k, k :: l, rfl, ok, P, hu, by simp; omega, hin, fun μ2 le2 => ?_⟩
  have e : sts (k :: l).reverse = sts l.reverse ++ [.str k] := by simp [sts]
  rw [e]
  show dIn false (.str o) (.tup (cutL (sts l.reverse ++ [SD.str k]) none (some (-1)))) μ2 Q
  rw [cut_init]
  refine in_sts (l := l.reverse) rfl (fun _ z => by cases z) ?_
  have := q μ2 (le1.trans le2)
  simpa using this
end LK
/-! ML1: the law's hand. -/
namespace LK
open PySem PySem.Spec PyProof.Rows L2 DS MA
theorem log2_lt {i : Int} {k : Nat} (hk : 0 < k) (h : i.natAbs < 2 ^ k) : i.natAbs.log2 < k := by
  by_cases e : i.natAbs = 0
  · rw [e]; simpa using hk
  · exact (Nat.log2_lt e).mpr h
theorem mul_ok {i j : Int} (hi : i.natAbs < 2 ^ 2000) (hj : j.natAbs < 2 ^ 2000) : IntMulOk i j := CMulW.ok (by
  have := log2_lt (by decide) hi; have := log2_lt (by decide) hj; unfold CMulW; omega)
theorem pow_ok {i : Int} {n : Nat} (hi : i.natAbs < 2 ^ 2000) (hn : n ≤ 60) : CPowW i n := by
  refine ⟨by omega, ?_⟩
  have h1 := log2_lt (by decide) hi
  have h2 : Builtin.Int.intBits i ≤ 2001 := by unfold Builtin.Int.intBits; split <;> omega
  have h3 : (Builtin.Int.intBits i : Int) * (n : Int) ≤ 2001 * 60 := by
    exact_mod_cast Nat.mul_le_mul h2 hn
  omega
theorem div_ok {i j : Int} (h0 : 0 < j) (h : j.natAbs < 2 ^ 2000) : CDivW i j := ⟨h0, by have := log2_lt (by decide) h; omega⟩
theorem abs_lt {i : Int} {a b : Nat} (h0 : 0 ≤ i) (h : i < (2 : Int) ^ a) (hab : a ≤ b) : i.natAbs < 2 ^ b := by
  have h1 : i.natAbs < 2 ^ a := by
    have : ((i.natAbs : Nat) : Int) = i := Int.natAbs_of_nonneg h0
    have h2 : ((2 ^ a : Nat) : Int) = (2 : Int) ^ a := by norm_cast
    omega
  exact Nat.lt_of_lt_of_le h1 (Nat.pow_le_pow_right (by decide) hab)
/-- the hand: a great number, a number to mix, the turn -/
structure HandAt (μ : Mu) (h : Addr) (T : Nat) : Prop where
  ex : ∃ g m t : Int, μ h = some (.lst [.int g, .int m, .int t]) ∧ 0 ≤ g ∧ 0 ≤ m ∧ m < 2305843009213693921 ∧ 0 ≤ t ∧ t ≤ T
theorem HandAt.mono {μ : Mu} {h : Addr} {T T' : Nat} (H : HandAt μ h T) (l : T ≤ T') : HandAt μ h T' := by
  obtain ⟨g, m, t, e, a, b, c, d, f⟩ := H.ex
  exact ⟨g, m, t, e, a, b, c, d, by omega⟩
theorem HandAt.le {μ μ' : Mu} {h : Addr} {T : Nat} (H : HandAt μ h T) (l : Le μ μ') : HandAt μ' h T := by
  obtain ⟨g, m, t, e, r⟩ := H.ex
  exact ⟨g, m, t, l _ _ e, r⟩
theorem HandAt.ne {μ : Mu} {h p : Addr} {T : Nat} (H : HandAt μ h T) (hp : μ p = none) : h ≠ p := by
  obtain ⟨g, m, t, e, r⟩ := H.ex
  intro z; subst z; rw [hp] at e; cases e
theorem HandAt.up {μ : Mu} {h p : Addr} {T : Nat} {m : MO} (H : HandAt μ h T) (hp : h ≠ p) : HandAt (up μ p m) h T := by
  obtain ⟨g, m, t, e, r⟩ := H.ex
  exact ⟨g, m, t, by rw [up_ne hp]; exact e, r⟩
theorem HandAt.rm {μ : Mu} {h p : Addr} {T : Nat} (H : HandAt μ h T) (hp : h ≠ p) : HandAt (rm μ p) h T := by
  obtain ⟨g, m, t, e, r⟩ := H.ex
  exact ⟨g, m, t, by rw [rm_ne hp]; exact e, r⟩
def sp__law_take : DSp := fun ds μ Q _ => ∃ h many T, ds = [.ref h, .int many] ∧ 0 < many ∧ many ≤ 1000000 ∧ T ≤ 1000000000 ∧ HandAt μ h T ∧ ∀ (d : Int) μ', 0 ≤ d → d < many → HandAt μ' h (T + 1) → LeX h μ μ' → Q (.int d) μ'
theorem len__law_take : ∀ ds μ Q E, sp__law_take ds μ Q E → ds.length = 2 := by rintro ds μ Q E ⟨h, many, T, rfl, _⟩; rfl
def t__law_take : DTS := (dSeq (dIfS (dTest (dOp dGt (dOp dIx (dVar 0) (dC (.int 0))) (dC (.int 0)))) (dSeq (dSet (dOp dMod (dOp dIx (dVar 0) (dC (.int 0))) (dVar 1)) 5)
    (dSeq (dAsg (dOp dDiv (dOp dIx (dVar 0) (dC (.int 0))) (dVar 1)) (hSub (dVar 0) (dC (.int 0)) dsetL))
    (dRet (dVar 5)))) dNext)
    (dSeq (dSet (dOp dAdd (dOp dIx (dVar 0) (dC (.int 2))) (dC (.int 1))) 2)
    (dSeq (dAsg (dVar 2) (hSub (dVar 0) (dC (.int 2)) dsetL))
    (dSeq (dSet (dOp dIx (dLst (dCons (dC (.int 2147483647)) (dCons (dC (.int 2147483629)) (dCons (dC (.int 2147483587)) (dCons (dC (.int 2147483579)) (dCons (dC (.int 2147483563)) (dCons (dC (.int 2147483549)) dNil))))))) (dOp dMod (dVar 2) (dC (.int 6)))) 3)
    (dSeq (dSet (dOp dMod (dOp dPow (dOp dAdd (dOp dAdd (dOp dIx (dVar 0) (dC (.int 1))) (dOp dMul (dOp dMul (dC (.int 65537)) (dVar 2)) (dVar 2))) (dOp dMul (dC (.int 31)) (dVar 2))) (dC (.int 3))) (dVar 3)) 4)
    (dRet (dOp dMod (dOp dDiv (dOp dMod (dOp dMul (dVar 4) (dOp dAdd (dOp dMod (dVar 4) (dC (.int 10007))) (dOp dMul (dC (.int 13)) (dVar 2)))) (dC (.int 2305843009213693907))) (dC (.int 97))) (dVar 1))))))))
theorem setL_ok {μ : Mu} {a : Addr} {xs : List SD} {k : Int} {j : Nat} {v : SD} {R : Mu → Prop} (m : μ a = some (.lst xs)) (h : ixN xs.length k = some j) (q : R (up μ a (.lst (xs.set j v)))) : dsetL (.ref a) (.int k) v μ R := by
  unfold dsetL
  have e : mlst μ (.ref a) = some (a, xs) := by simp [mlst, m]
  simp only [e, h]; exact q
theorem read__law_take : ∀ ds μ Q E, sp__law_take ds μ Q E → t__law_take { nx := fun _ μ' => Q .non μ', rt := Q } (begin_ ["_law_hand_here", "_law_many", "_law_turn", "_law_prime", "_law_mixed", "_law_digit"] ds) μ := by
  rintro ds μ Q E ⟨h, many, T, rfl, hm0, hm1, hT, H, q⟩
  unfold t__law_take
  obtain ⟨g, m, t, e, g0, m0, m1, t0, t1⟩ := H.ex
  refine r_var rfl ?_
  refine ix_ref (d := .int g) e rfl ?_
  by_cases hg : 0 < g
  · refine ifT (decide_eq_true hg) ?_
    refine r_var rfl ?_
    refine ix_ref (d := .int g) e rfl ?_
    refine r_var rfl ?_
    refine ⟨hm0, ?_⟩
    dsimp only
    refine r_var rfl ?_
    refine ix_ref (d := .int g) e rfl ?_
    refine r_var rfl ?_
    refine ⟨div_ok hm0 (abs_lt (a := 20) (by omega) (by omega) (by decide)), ?_⟩
    refine r_var rfl ?_
    refine setL_ok (j := 0) e rfl ?_
    dsimp only
    refine r_var rfl ?_
    refine q _ _ (Int.emod_nonneg _ (by omega)) (Int.emod_lt_of_pos _ hm0) ⟨g / many, m, t, by rw [up_same]; rfl, Int.ediv_nonneg g0 (by omega), m0, m1, t0, by omega⟩ ((LeX.refl h μ).put)
  · refine ifF (decide_eq_false hg) ?_
    simp only [dNext]
    refine r_var rfl ?_
    refine ix_ref (d := .int t) e rfl ?_
    refine i_add ?_
    dsimp only
    refine r_var rfl ?_
    refine r_var rfl ?_
    refine setL_ok (j := 2) e rfl ?_
    dsimp only
    refine ⟨(by show 6 ≤ sizeLine; decide), ?_⟩
    refine r_var rfl ?_
    refine i_mod (by decide) ?_
    have hp : ∃ p : Int, atI [SD.int 2147483647, .int 2147483629, .int 2147483587, .int 2147483579, .int 2147483563, .int 2147483549] ((t + 1) % 6) = some (.int p) ∧ 0 < p ∧ p ≤ 2147483647 := by
      have h0 := Int.emod_nonneg (t + 1) (show (6 : Int) ≠ 0 by decide)
      have h1 := Int.emod_lt_of_pos (t + 1) (show (0 : Int) < 6 by decide)
      generalize (t + 1) % 6 = r at h0 h1
      have : r = 0 ∨ r = 1 ∨ r = 2 ∨ r = 3 ∨ r = 4 ∨ r = 5 := by omega
      rcases this with rfl | rfl | rfl | rfl | rfl | rfl <;> exact ⟨_, rfl, by decide, by decide⟩
    obtain ⟨p, hat, p0, p1⟩ := hp
    refine ix_lst hat ?_
    dsimp only
    have e2 : up μ h (.lst (([SD.int g, .int m, .int t] : List SD).set 2 (.int (t + 1)))) h = some (.lst [.int g, .int m, .int (t + 1)]) := by rw [up_same]; rfl
    refine r_var rfl ?_
    refine ix_ref (d := .int m) e2 rfl ?_
    have T1 : (t + 1).natAbs < 2 ^ 2000 := abs_lt (a := 40) (by omega) (by omega) (by decide)
    refine r_var rfl ?_
    refine i_mul (mul_ok (by decide) T1) ?_
    refine r_var rfl ?_
    have T2 : (65537 * (t + 1)).natAbs < 2 ^ 2000 := abs_lt (a := 60) (by omega) (by omega) (by decide)
    refine i_mul (mul_ok T2 T1) ?_
    refine i_add ?_
    refine r_var rfl ?_
    refine i_mul (mul_ok (by decide) T1) ?_
    refine i_add ?_
    have sq : 0 ≤ 65537 * (t + 1) * (t + 1) ∧ 65537 * (t + 1) * (t + 1) ≤ 65537 * 1000000001 * 1000000001 := by
      have a1 : 0 ≤ 65537 * (t + 1) := by omega
      have a2 : 65537 * (t + 1) ≤ 65537 * 1000000001 := by omega
      exact ⟨Int.mul_nonneg a1 (by omega), Int.mul_le_mul a2 (by omega) (by omega) (by decide)⟩
    refine i_pow (n := 3) (pow_ok (n := 3) (abs_lt (a := 100) (by omega) (by omega) (by decide)) (by decide)) ?_
    refine r_var rfl ?_
    refine i_mod p0 ?_
    dsimp only
    refine r_var rfl ?_
    refine r_var rfl ?_
    refine i_mod (by decide) ?_
    refine r_var rfl ?_
    refine i_mul (mul_ok (by decide) T1) ?_
    refine i_add ?_
    generalize hx : (m + 65537 * (t + 1) * (t + 1) + 31 * (t + 1)) ^ (Int.toNat 3) % p = x
    have x0 : 0 ≤ x := by rw [← hx]; exact Int.emod_nonneg _ (by omega)
    have x1 : x < p := by rw [← hx]; exact Int.emod_lt_of_pos _ p0
    have y0 := Int.emod_nonneg x (show (10007 : Int) ≠ 0 by decide)
    have y1 := Int.emod_lt_of_pos x (show (0 : Int) < 10007 by decide)
    refine i_mul (mul_ok (abs_lt (a := 40) x0 (by omega) (by decide)) (abs_lt (a := 60) (by omega) (by omega) (by decide))) ?_
    refine i_mod (by decide) ?_
    refine i_div (div_ok (by decide) (abs_lt (a := 40) (by omega) (by omega) (by decide))) ?_
    refine r_var rfl ?_
    refine i_mod hm0 ?_
    exact q _ _ (Int.emod_nonneg _ (by omega)) (Int.emod_lt_of_pos _ hm0) ⟨g, m, t + 1, e2, g0, m0, m1, by omega, by omega⟩ ((LeX.refl h μ).put)
end LK
/-! ML2: _law_hand, _law_of. -/
namespace LK
open PySem PySem.Spec PyProof.Rows L2 DS MA
def sp__law_hand : DSp := fun ds μ Q _ => ∃ (ns : List Int) (k : Nat), ds = [.rol (ns.map SD.int), .int k] ∧ k ≤ 1000000 ∧ ∀ p μ', μ p = none → Le μ μ' → HandAt μ' p 0 → Q (.ref p) μ'
theorem len__law_hand : ∀ ds μ Q E, sp__law_hand ds μ Q E → ds.length = 2 := by rintro ds μ Q E ⟨ns, k, rfl, _⟩; rfl
def t__law_hand : DTS := (dSeq (dSet (dIf (dTest (dOp dLt (dVar 1) (dCB drLen (dCons (dVar 0) dNil)))) (dOp dIx (dVar 0) (dVar 1)) (dOp dAdd (dOp dMul (dC (.int 11)) (dVar 1)) (dC (.int 5)))) 2)
    (dSeq (dSet (dOp dMul (dOp dMod (dCB (drI1 fun i => if i < 0 then -i else i) (dCons (dVar 2) dNil)) (dOp dPow (dOp dPow (dC (.int 10)) (dC (.int 60))) (dC (.int 5)))) (dCB drInt (dCons (dOp dGe (dCB (drI1 fun i => if i < 0 then -i else i) (dCons (dVar 2) dNil)) (dOp dPow (dC (.int 10)) (dC (.int 18)))) dNil))) 3)
    (dRet (dLstM (dCons (dVar 3) (dCons (dOp dMod (dOp dMul (dOp dAdd (dOp dAdd (dOp dMod (dVar 2) (dC (.int 2305843009213693951))) (dOp dMul (dOp dMul (dC (.int 104729)) (dVar 1)) (dVar 1))) (dC (.int 41))) (dC (.int 48271))) (dC (.int 2305843009213693921))) (dCons (dC (.int 0)) dNil)))))))
theorem i_abs {μ : Mu} {Q : SD → Mu → Prop} {i : Int} (q : ∀ j : Int, 0 ≤ j → Q (.int j) μ) : drI1 (fun i => if i < 0 then -i else i) [.int i] μ Q := by
  refine q _ ?_
  dsimp only
  split <;> omega
theorem i_bool {μ : Mu} {Q : SD → Mu → Prop} {b : Bool} (q : Q (.int (if b then 1 else 0)) μ) : drInt [.bl b] μ Q := q
theorem ten_pow : (0 : Int) < (10 ^ Int.toNat 60) ^ Int.toNat 5 ∧ ((10 : Int) ^ Int.toNat 60) ^ Int.toNat 5 < 2 ^ 1000 := by decide +kernel
theorem ten60 : ((10 : Int) ^ Int.toNat 60).natAbs < 2 ^ 2000 := by decide +kernel
theorem read__law_hand : ∀ ds μ Q E, sp__law_hand ds μ Q E → t__law_hand { nx := fun _ μ' => Q .non μ', rt := Q } (begin_ ["_law_script", "_law_k", "_law_cell", "_law_great"] ds) μ := by
  rintro ds μ Q E ⟨ns, k, rfl, hk, q⟩
  unfold t__law_hand
  have cell : ∀ (D : DEnds), (∀ c : Int, D.nx ((begin_ ["_law_script", "_law_k", "_law_cell", "_law_great"] [.rol (ns.map SD.int), .int k]).set 2 (some (.int c))) μ) → dSet (dIf (dTest (dOp dLt (dVar 1) (dCB drLen (dCons (dVar 0) dNil)))) (dOp dIx (dVar 0) (dVar 1)) (dOp dAdd (dOp dMul (dC (.int 11)) (dVar 1)) (dC (.int 5)))) 2 D (begin_ ["_law_script", "_law_k", "_law_cell", "_law_great"] [.rol (ns.map SD.int), .int k]) μ := fun D h => by
    refine r_var rfl ?_
    refine r_var rfl ?_
    refine l_lenO ?_
    refine i_lt ?_
    by_cases hc : k < ns.length
    · refine ifT (by simpa using hc) ?_
      refine r_var rfl ?_
      refine r_var rfl ?_
      refine ix_rol (d := .int ns[k]) (atI_nat (by simp [hc])) (h _)
    · refine ifF (by simpa using hc) ?_
      refine r_var rfl ?_
      refine i_mul (mul_ok (by decide) (abs_lt (a := 40) (by omega) (by omega) (by decide))) ?_
      exact i_add (h _)
  refine cell _ fun c => ?_
  dsimp only
  refine r_var rfl ?_
  refine i_abs fun A hA => ?_
  refine i_pow (n := 60) (pow_ok (n := 60) (by decide) (by decide)) ?_
  refine i_pow (n := 5) (pow_ok (n := 5) ten60 (by decide)) ?_
  refine i_mod ten_pow.1 ?_
  refine r_var rfl ?_
  refine i_abs fun B hB => ?_
  refine i_pow (n := 18) (pow_ok (n := 18) (by decide) (by decide)) ?_
  refine i_ge ?_
  refine i_bool ?_
  have g0 := Int.emod_nonneg A (show ((10 : Int) ^ Int.toNat 60) ^ Int.toNat 5 ≠ 0 from Int.ne_of_gt ten_pow.1)
  have g1 := Int.lt_trans (Int.emod_lt_of_pos A ten_pow.1) ten_pow.2
  have b0 : ∀ b : Bool, (if b = true then (1 : Int) else 0).natAbs < 2 ^ 2000 ∧ 0 ≤ (if b = true then (1 : Int) else 0) := by decide
  refine i_mul (mul_ok (abs_lt (a := 1000) g0 g1 (by decide)) (b0 _).1) ?_
  dsimp only
  refine r_var rfl ?_
  refine r_var rfl ?_
  refine i_mod (by decide) ?_
  refine r_var rfl ?_
  refine i_mul (mul_ok (by decide) (abs_lt (a := 40) (by omega) (by omega) (by decide))) ?_
  refine r_var rfl ?_
  have k1 : 0 ≤ 104729 * (k : Int) * (k : Int) ∧ 104729 * (k : Int) * (k : Int) ≤ 104729 * 1000000 * 1000000 := ⟨Int.mul_nonneg (by omega) (by omega), Int.mul_le_mul (by omega) (by omega) (by omega) (by decide)⟩
  refine i_mul (mul_ok (abs_lt (a := 60) (by omega) (by omega) (by decide)) (abs_lt (a := 40) (by omega) (by omega) (by decide))) ?_
  refine i_add ?_
  refine i_add ?_
  have c0 := Int.emod_nonneg c (show (2305843009213693951 : Int) ≠ 0 by decide)
  have c1 := Int.emod_lt_of_pos c (show (0 : Int) < 2305843009213693951 by decide)
  refine i_mul (mul_ok (abs_lt (a := 100) (by omega) (by omega) (by decide)) (by decide)) ?_
  refine i_mod (by decide) ?_
  refine ⟨(by show 3 ≤ sizeLine; decide), fun p hp => ?_⟩
  exact q p _ hp ((Le.refl μ).up hp) ⟨_, _, _, up_same, Int.mul_nonneg g0 (b0 _).2, Int.emod_nonneg _ (by decide), Int.emod_lt_of_pos _ (by decide), Int.le_refl 0, Int.le_refl 0⟩
def sp__law_of : DSp := fun ds μ Q _ => ∃ h x xs T, ds = [.ref h, x] ∧ (x = .lst xs ∨ ∃ u : Str, x = .str u ∧ xs = u.cps.toList.map fun c => .str ⟨#[c]⟩) ∧ xs ≠ [] ∧ xs.length ≤ 1000000 ∧ T ≤ 1000000000 ∧ HandAt μ h T ∧ ∀ (i : Nat) d μ', xs[i]? = some d → HandAt μ' h (T + 1) → LeX h μ μ' → Q d μ'
theorem len__law_of : ∀ ds μ Q E, sp__law_of ds μ Q E → ds.length = 2 := by rintro ds μ Q E ⟨h, x, xs, T, rfl, _⟩; rfl
def t__law_of : DTS := (dRet (dOp dIx (dVar 1) (dCall sp__law_take [] (dCons (dVar 0) (dCons (dCB drLen (dCons (dVar 1) dNil)) dNil)))))
theorem read__law_of : ∀ ds μ Q E, sp__law_of ds μ Q E → t__law_of { nx := fun _ μ' => Q .non μ', rt := Q } (begin_ ["_law_hand_here", "_law_items"] ds) μ := by
  rintro ds μ Q E ⟨h, x, xs, T, rfl, hx, hne, hl, hT, H, q⟩
  unfold t__law_of
  refine r_var rfl ?_
  refine r_var rfl ?_
  refine r_var rfl ?_
  have hpos : 0 < xs.length := List.length_pos_iff.mpr hne
  rcases hx with rfl | ⟨u, rfl, rfl⟩
  · refine l_len ?_
    refine ⟨h, xs.length, T, rfl, by omega, by omega, hT, H, fun d μ' d0 d1 H' l => ?_⟩
    obtain ⟨i, rfl⟩ := Int.eq_ofNat_of_zero_le d0
    have hi : i < xs.length := by omega
    have e : xs[i]? = some xs[i] := List.getElem?_eq_getElem hi
    exact ix_lst (atI_nat e) (q i _ μ' e H' l)
  · rw [List.length_map] at hpos hl
    have hu : u.length = u.cps.toList.length := rfl
    refine l_lenS (le_line (by rw [hu]; exact hl) (by omega)) ?_
    refine ⟨h, u.length, T, rfl, by omega, by omega, hT, H, fun d μ' d0 d1 H' l => ?_⟩
    obtain ⟨i, rfl⟩ := Int.eq_ofNat_of_zero_le d0
    have hi : i < u.cps.toList.length := by omega
    have e : u.cps.toList[i]? = some u.cps.toList[i] := List.getElem?_eq_getElem hi
    refine ix_str (le_line (by rw [hu]; exact hl) (by omega)) (atI_nat e) (q i _ μ' ?_ H' l)
    rw [List.getElem?_map, e]; rfl
end LK
/-! NV: values of any kind. -/
namespace MA
open PySem PySem.Spec PyProof.Rows L2 DS
mutual
def okV (m : Nat) : SD → Prop
  | .non => True
  | .bl _ => True
  | .int i => i.natAbs ≤ 10 ^ 20 + m
  | .str x => PyData.strOk x = true
  | .ref _ => False
  | .ty _ => False
  | .tup xs => okVL m xs
  | .lst xs => okVL m xs
  | .rol _ => False
  | .exc _ _ => False
  | .dic kvs => kvs = []
def okVL (m : Nat) : List SD → Prop
  | [] => True
  | d :: r => okV m d ∧ okVL m r
end
mutual
def dpV : SD → Nat
  | .non => 0
  | .bl _ => 0
  | .int _ => 0
  | .str _ => 0
  | .ref _ => 0
  | .ty _ => 0
  | .tup xs => dpVL xs + 1
  | .lst xs => dpVL xs + 1
  | .rol _ => 0
  | .exc _ _ => 0
  | .dic _ => 1
def dpVL : List SD → Nat
  | [] => 0
  | d :: r => max (dpV d) (dpVL r)
end
mutual
def wtV : SD → Nat
  | .non => 0
  | .bl _ => 0
  | .int _ => 0
  | .str x => x.cps.size
  | .ref _ => 0
  | .ty _ => 0
  | .tup xs => wtVL xs
  | .lst xs => wtVL xs
  | .rol _ => 0
  | .exc _ _ => 0
  | .dic _ => 0
def wtVL : List SD → Nat
  | [] => 0
  | d :: r => wtV d + 1 + wtVL r
end
theorem okVL_mem {m : Nat} {xs : List SD} : okVL m xs ↔ ∀ d ∈ xs, okV m d := by
  induction xs with
  | nil => simp [okVL]
  | cons x r ih => rw [okVL, ih]; simp
theorem dpVL_le {n : Nat} {xs : List SD} : dpVL xs ≤ n ↔ ∀ d ∈ xs, dpV d ≤ n := by
  induction xs with
  | nil => simp [dpVL]
  | cons x r ih => rw [dpVL, Nat.max_le, ih]; simp
theorem wtVL_append (a b : List SD) : wtVL (a ++ b) = wtVL a + wtVL b := by
  induction a with
  | nil => simp [wtVL]
  | cons x r ih => rw [List.cons_append, wtVL, wtVL, ih]; omega
theorem wtVL_reverse (a : List SD) : wtVL a.reverse = wtVL a := by
  induction a with
  | nil => rfl
  | cons x r ih => rw [List.reverse_cons, wtVL_append, ih, wtVL, wtVL, wtVL]; omega
theorem wtVL_cut (a : List SD) (k : Nat) : wtVL (a.take k) + wtVL (a.drop k) = wtVL a := by rw [← wtVL_append, List.take_append_drop]
theorem wtVL_mem {xs : List SD} {d : SD} (h : d ∈ xs) : wtV d + 1 ≤ wtVL xs := by
  obtain ⟨s, t, rfl⟩ := List.append_of_mem h
  rw [wtVL_append, wtVL]; omega
theorem len_wtVL (xs : List SD) : xs.length ≤ wtVL xs := by
  induction xs with
  | nil => simp
  | cons x r ih => rw [wtVL, List.length_cons]; omega
/-- a value: its ints no greater, no deeper, no heavier -/
structure Val (m D B : Nat) (d : SD) : Prop where
  ok : okV m d
  dp : dpV d ≤ D
  wt : wtV d ≤ B
structure ValL (m D B : Nat) (xs : List SD) : Prop where
  ok : okVL m xs
  dp : dpVL xs ≤ D
  wt : wtVL xs ≤ B
mutual
theorem okV_mono {m m' : Nat} (h : m ≤ m') : ∀ {d : SD}, okV m d → okV m' d
  | .non, _ => by rw [okV]; trivial
  | .bl _, _ => by rw [okV]; trivial
  | .int i, q => by rw [okV] at q ⊢; omega
  | .str x, q => by rw [okV] at q ⊢; exact q
  | .ref _, q => by rw [okV] at q; exact q.elim
  | .ty _, q => by rw [okV] at q; exact q.elim
  | .tup xs, q => by rw [okV] at q ⊢; exact okVL_mono h q
  | .lst xs, q => by rw [okV] at q ⊢; exact okVL_mono h q
  | .rol _, q => by rw [okV] at q; exact q.elim
  | .exc _ _, q => by rw [okV] at q; exact q.elim
  | .dic kvs, q => by rw [okV] at q ⊢; exact q
theorem okVL_mono {m m' : Nat} (h : m ≤ m') : ∀ {xs : List SD}, okVL m xs → okVL m' xs
  | [], _ => by rw [okVL]; trivial
  | d :: r, q => by rw [okVL] at q ⊢; exact ⟨okV_mono h q.1, okVL_mono h q.2⟩
end
theorem Val.mono {m D B m' D' B' : Nat} {d : SD} (v : Val m D B d) (h1 : m ≤ m') (h2 : D ≤ D') (h3 : B ≤ B') : Val m' D' B' d := ⟨okV_mono h1 v.ok, Nat.le_trans v.dp h2, Nat.le_trans v.wt h3⟩
theorem ValL.mono {m D B m' D' B' : Nat} {d : List SD} (v : ValL m D B d) (h1 : m ≤ m') (h2 : D ≤ D') (h3 : B ≤ B') : ValL m' D' B' d := ⟨okVL_mono h1 v.ok, Nat.le_trans v.dp h2, Nat.le_trans v.wt h3⟩
theorem Val.non : Val 0 0 0 .non := ⟨by rw [okV]; trivial, by rw [dpV]; exact Nat.le_refl 0, by rw [wtV]; exact Nat.le_refl 0⟩
theorem Val.bl (b : Bool) : Val 0 0 0 (.bl b) := ⟨by rw [okV]; trivial, by rw [dpV]; exact Nat.le_refl 0, by rw [wtV]; exact Nat.le_refl 0⟩
theorem Val.int {m : Nat} {i : Int} (h : i.natAbs ≤ 10 ^ 20 + m) : Val m 0 0 (.int i) := ⟨by rw [okV]; exact h, by rw [dpV]; exact Nat.le_refl 0, by rw [wtV]; exact Nat.le_refl 0⟩
theorem Val.str {x : Str} (h : PyData.strOk x = true) : Val 0 0 x.cps.size (.str x) := ⟨by rw [okV]; exact h, by rw [dpV]; exact Nat.le_refl 0, by rw [wtV]; exact Nat.le_refl _⟩
theorem Val.dic : Val 0 1 0 (.dic []) := ⟨by rw [okV], by rw [dpV]; exact Nat.le_refl 1, by rw [wtV]; exact Nat.le_refl 0⟩
theorem ValL.nil : ValL 0 0 0 [] := ⟨by rw [okVL]; trivial, by rw [dpVL]; exact Nat.le_refl 0, by rw [wtVL]; exact Nat.le_refl 0⟩
theorem ValL.cons {m D B C : Nat} {d : SD} {r : List SD} (v : Val m D B d) (w : ValL m D C r) : ValL m D (B + 1 + C) (d :: r) :=
  ⟨by rw [okVL]; exact ⟨v.ok, w.ok⟩, by rw [dpVL]; exact Nat.max_le.mpr ⟨v.dp, w.dp⟩, by have := v.wt; have := w.wt; rw [wtVL]; omega⟩
theorem ValL.one {m D B : Nat} {d : SD} (v : Val m D B d) : ValL m D (B + 1) [d] := ValL.cons v (ValL.nil.mono (Nat.zero_le _) (Nat.zero_le _) (Nat.le_refl 0))
theorem ValL.append {m D B C : Nat} {a b : List SD} (v : ValL m D B a) (w : ValL m D C b) : ValL m D (B + C) (a ++ b) :=
  ⟨okVL_mem.mpr fun d hd => (List.mem_append.mp hd).elim (okVL_mem.mp v.ok d) (okVL_mem.mp w.ok d), dpVL_le.mpr fun d hd => (List.mem_append.mp hd).elim (dpVL_le.mp v.dp d) (dpVL_le.mp w.dp d), by have := v.wt; have := w.wt; rw [wtVL_append]; omega⟩
theorem ValL.take {m D B : Nat} {a : List SD} (v : ValL m D B a) (k : Nat) : ValL m D B (a.take k) :=
  ⟨okVL_mem.mpr fun d hd => okVL_mem.mp v.ok d (List.mem_of_mem_take hd), dpVL_le.mpr fun d hd => dpVL_le.mp v.dp d (List.mem_of_mem_take hd), by have := v.wt; have := wtVL_cut a k; omega⟩
theorem ValL.drop {m D B : Nat} {a : List SD} (v : ValL m D B a) (k : Nat) : ValL m D B (a.drop k) :=
  ⟨okVL_mem.mpr fun d hd => okVL_mem.mp v.ok d (List.mem_of_mem_drop hd), dpVL_le.mpr fun d hd => dpVL_le.mp v.dp d (List.mem_of_mem_drop hd), by have := v.wt; have := wtVL_cut a k; omega⟩
theorem ValL.reverse {m D B : Nat} {a : List SD} (v : ValL m D B a) : ValL m D B a.reverse :=
  ⟨okVL_mem.mpr fun d hd => okVL_mem.mp v.ok d (List.mem_reverse.mp hd), dpVL_le.mpr fun d hd => dpVL_le.mp v.dp d (List.mem_reverse.mp hd), by have := v.wt; rw [wtVL_reverse]; exact this⟩
theorem ValL.of {m D B n : Nat} {a : List SD} (h : ∀ d ∈ a, Val m D B d) (hn : a.length ≤ n) : ValL m D (n * (B + 1)) a := by
  refine ⟨okVL_mem.mpr fun d hd => (h d hd).ok, dpVL_le.mpr fun d hd => (h d hd).dp, Nat.le_trans ?_ (Nat.mul_le_mul_right _ hn)⟩
  clear hn
  induction a with
  | nil => simp [wtVL]
  | cons x r ih =>
    have := (h x (List.mem_cons_self ..)).wt
    have := ih fun d hd => h d (List.mem_cons_of_mem _ hd)
    rw [wtVL, List.length_cons, Nat.add_mul]; omega
theorem ValL.mem {m D B : Nat} {a : List SD} (v : ValL m D B a) {d : SD} (hd : d ∈ a) : Val m D B d :=
  ⟨okVL_mem.mp v.ok d hd, dpVL_le.mp v.dp d hd, by have := v.wt; have := wtVL_mem hd; omega⟩
theorem Val.tup {m D B : Nat} {a : List SD} (v : ValL m D B a) : Val m (D + 1) B (.tup a) := ⟨by rw [okV]; exact v.ok, by rw [dpV]; exact Nat.succ_le_succ v.dp, by rw [wtV]; exact v.wt⟩
theorem Val.lst {m D B : Nat} {a : List SD} (v : ValL m D B a) : Val m (D + 1) B (.lst a) := ⟨by rw [okV]; exact v.ok, by rw [dpV]; exact Nat.succ_le_succ v.dp, by rw [wtV]; exact v.wt⟩
theorem Val.ofTup {m D B : Nat} {a : List SD} (v : Val m (D + 1) B (.tup a)) : ValL m D B a := ⟨by have := v.ok; rw [okV] at this; exact this, by have := v.dp; rw [dpV] at this; omega, by have := v.wt; rw [wtV] at this; exact this⟩
theorem Val.pos {m D B : Nat} {a : List SD} (v : Val m D B (.tup a)) : 0 < D := by have := v.dp; rw [dpV] at this; omega
/-! what is shown -/
theorem int_short {m : Nat} (hm : m ≤ 10 ^ 20) {i : Int} (h : i.natAbs ≤ 10 ^ 20 + m) : (PyData.shown (.int i)).length ≤ 31 ∧ i.natAbs.log2 < 1920 := by
  have h30 : i.natAbs < 10 ^ 30 := by have : (10 : Nat) ^ 30 = 10 ^ 20 * 10 ^ 10 := by decide
                                      omega
  constructor
  · have := int_text_length_le10 (k := 30) (by decide) h30
    simp only [PyData.shown]
    show (Str.ofString (toString i)).length ≤ 31
    rw [PySem.ofString_length]; exact this
  · by_cases e : i.natAbs = 0
    · rw [e]; decide
    · refine (Nat.log2_lt e).mpr (Nat.lt_of_lt_of_le h30 ?_)
      decide +kernel
mutual
theorem okV_shows {m : Nat} (hm : m ≤ 10 ^ 20) : ∀ {d : SD}, okV m d → ∃ p, pqS d = some p ∧ p.depth = dpV d ∧ p.showable = true ∧ p.leavesShort 40 = true ∧ p.bulk = wtV d
  | .non, _ => ⟨.none, rfl, by simp [PyData.depth, dpV], by simp [PyData.showable], by simp [PyData.leavesShort], by simp [PyData.bulk, wtV]⟩
  | .bl b, _ => ⟨.bool b, rfl, by simp [PyData.depth, dpV], by simp [PyData.showable], by simp [PyData.leavesShort], by simp [PyData.bulk, wtV]⟩
  | .int i, q => by
    rw [okV] at q
    obtain ⟨h1, h2⟩ := int_short hm q
    exact ⟨.int i, rfl, by simp [PyData.depth, dpV], by simpa [PyData.showable] using h2, by simp only [PyData.leavesShort, decide_eq_true_eq]; omega, by simp [PyData.bulk, wtV]⟩
  | .str x, q => by
    rw [okV] at q
    refine ⟨.str x, rfl, by simp [PyData.depth, dpV], by simp [PyData.showable], ?_, by simp [PyData.bulk, wtV]⟩
    unfold PyData.leavesShort
    rw [List.all_eq_true]
    intro c hc
    have := (Array.all_eq_true_iff_forall_mem.mp q) c (by simpa using hc)
    simp at this ⊢
    omega
  | .ref _, q => by rw [okV] at q; exact q.elim
  | .ty _, q => by rw [okV] at q; exact q.elim
  | .tup xs, q => by
    rw [okV] at q
    obtain ⟨ps, e, h1, h2, h3, h4⟩ := okVL_shows hm q
    exact ⟨.tuple ps, by rw [pqS, e], by rw [PyData.depth, dpV, h1], by simp [PyData.showable, h2], by simp [PyData.leavesShort, h3], by rw [PyData.bulk, wtV, h4]⟩
  | .lst xs, q => by
    rw [okV] at q
    obtain ⟨ps, e, h1, h2, h3, h4⟩ := okVL_shows hm q
    exact ⟨.list ps, by rw [pqS, e], by rw [PyData.depth, dpV, h1], by simp [PyData.showable, h2], by simp [PyData.leavesShort, h3], by rw [PyData.bulk, wtV, h4]⟩
  | .rol _, q => by rw [okV] at q; exact q.elim
  | .exc _ _, q => by rw [okV] at q; exact q.elim
  | .dic kvs, q => by
    rw [okV] at q; subst q
    exact ⟨.dict [], rfl, by simp [PyData.depth, PyData.depthKv, dpV], by simp [PyData.showable, PyData.showableKv], by simp [PyData.leavesShort, PyData.leavesShortKv], by simp [PyData.bulk, PyData.bulkKv, wtV]⟩
theorem okVL_shows {m : Nat} (hm : m ≤ 10 ^ 20) : ∀ {xs : List SD}, okVL m xs → ∃ ps, pqL xs = some ps ∧ PyData.depthAll ps = dpVL xs ∧ PyData.showableAll ps = true ∧ PyData.leavesShortAll 40 ps = true ∧ PyData.bulkAll ps = wtVL xs
  | [], _ => ⟨[], rfl, by simp [PyData.depthAll, dpVL], by simp [PyData.showableAll], by simp [PyData.leavesShortAll], by simp [PyData.bulkAll, wtVL]⟩
  | d :: r, q => by
    rw [okVL] at q
    obtain ⟨p, e, h1, h2, h3, h4⟩ := okV_shows hm q.1
    obtain ⟨ps, e', g1, g2, g3, g4⟩ := okVL_shows hm q.2
    exact ⟨p :: ps, by rw [pqL, e, e'], by rw [PyData.depthAll, dpVL, h1, g1], by simp [PyData.showableAll, h2, g2], by simp [PyData.leavesShortAll, h3, g3], by rw [PyData.bulkAll, wtVL, h4, g4]⟩
end
/-- the text that is shown -/
def shw (d : SD) : Str := match pqS d with
  | some p => p.shown
  | none => ""
theorem r_reprQ {m D B : Nat} {d : SD} {μ : Mu} {Q : SD → Mu → Prop} (v : Val m D B d) (hm : m ≤ 10 ^ 20) (hD : D ≤ 64) (hB : B ≤ 250000) (q : Q (.str (shw d)) μ) : drReprQ [d] μ Q := by
  obtain ⟨p, e, h1, h2, h3, h4⟩ := okV_shows hm v.ok
  have e2 : pq μ d = some p := by
    have hv := v.ok
    cases d <;> first | exact e | (rw [okV] at hv; exact hv.elim)
  have es : shw d = p.shown := by unfold shw; rw [e]
  unfold drReprQ
  simp only [e2]
  refine ⟨⟨h2, ?_, by rw [h1]; exact Nat.le_trans v.dp hD⟩, by rw [← es]; exact q⟩
  have hs := PyData.shown_le_bulk 40 (by decide) p h3
  have hw := v.wt
  rw [h4] at hs
  rw [sizeLine_eq]
  have : (40 + 2) * wtV d ≤ 42 * 250000 := Nat.mul_le_mul_left _ (by omega)
  omega
/-! isinstance -/
def isIntD : SD → Bool
  | .int _ => true
  | .bl _ => true
  | _ => false
section
variable {m : Nat} {d : SD} {μ : Mu} {Q : SD → Mu → Prop}
theorem kit_facts : (kitB "NoneType" "str" = some false ∧ kitB "bool" "str" = some false ∧ kitB "int" "str" = some false ∧ kitB "str" "str" = some true ∧ kitB "tuple" "str" = some false ∧ kitB "list" "str" = some false ∧ kitB "dict" "str" = some false) ∧
    (kitB "NoneType" "tuple" = some false ∧ kitB "bool" "tuple" = some false ∧ kitB "int" "tuple" = some false ∧ kitB "str" "tuple" = some false ∧ kitB "tuple" "tuple" = some true ∧ kitB "list" "tuple" = some false ∧ kitB "dict" "tuple" = some false) ∧
    (kitB "NoneType" "int" = some false ∧ kitB "bool" "int" = some true ∧ kitB "int" "int" = some true ∧ kitB "str" "int" = some false ∧ kitB "tuple" "int" = some false ∧ kitB "list" "int" = some false ∧ kitB "dict" "int" = some false) := by decide +kernel
theorem isi_str (v : okV m d) (q : Q (.bl (isStr d)) μ) : drIsi [d, .ty "str"] μ Q := by
  obtain ⟨⟨a1, a2, a3, a4, a5, a6, a7⟩, _⟩ := kit_facts
  cases d with
  | non => exact isi_of rfl a1 q
  | bl b => exact isi_of rfl a2 q
  | int i => exact isi_of rfl a3 q
  | str x => exact isi_of rfl a4 q
  | tup xs => exact isi_of rfl a5 q
  | lst xs => exact isi_of rfl a6 q
  | dic kvs => exact isi_of rfl a7 q
  | _ => rw [okV] at v; exact v.elim
theorem isi_tup (v : okV m d) (q : Q (.bl (isTup d)) μ) : drIsi [d, .ty "tuple"] μ Q := by
  obtain ⟨_, ⟨a1, a2, a3, a4, a5, a6, a7⟩, _⟩ := kit_facts
  cases d with
  | non => exact isi_of rfl a1 q
  | bl b => exact isi_of rfl a2 q
  | int i => exact isi_of rfl a3 q
  | str x => exact isi_of rfl a4 q
  | tup xs => exact isi_of rfl a5 q
  | lst xs => exact isi_of rfl a6 q
  | dic kvs => exact isi_of rfl a7 q
  | _ => rw [okV] at v; exact v.elim
theorem isi_int (v : okV m d) (q : Q (.bl (isIntD d)) μ) : drIsi [d, .ty "int"] μ Q := by
  obtain ⟨_, _, ⟨a1, a2, a3, a4, a5, a6, a7⟩⟩ := kit_facts
  cases d with
  | non => exact isi_of rfl a1 q
  | bl b => exact isi_of rfl a2 q
  | int i => exact isi_of rfl a3 q
  | str x => exact isi_of rfl a4 q
  | tup xs => exact isi_of rfl a5 q
  | lst xs => exact isi_of rfl a6 q
  | dic kvs => exact isi_of rfl a7 q
  | _ => rw [okV] at v; exact v.elim
end
end MA
/-! NK1: is_key, keys_within, is_tree of any value. -/
namespace LK
open PySem PySem.Spec PyProof.Rows L2 DS MA
section
variable {μ : Mu} {Q : SD → Mu → Prop} {m n : Int} {c : Nat} {z : Str}
theorem i_eq (q : Q (.bl (decide (m = n))) μ) : dEq false (.int m) (.int n) μ Q := by
  have : eqD μ (.int m) (.int n) = some (decide (m = n)) := by simp [eqD]
  unfold dEq; rw [this]
  show Q (.bl (false != decide (m = n))) μ
  rw [Bool.false_bne]; exact q
theorem i_ne (q : Q (.bl (!decide (m = n))) μ) : dEq true (.int m) (.int n) μ Q := by
  have : eqD μ (.int m) (.int n) = some (decide (m = n)) := by simp [eqD]
  unfold dEq; rw [this]
  show Q (.bl (true != decide (m = n))) μ
  rw [Bool.true_bne]; exact q
theorem in_sign (q : Q (.bl (decide (c ∈ z.cps.toList))) μ) : dIn false (.str ⟨#[c]⟩) (.str z) μ Q := by
  show Q (.bl (false != decide (c ∈ z.cps.toList))) μ
  rw [Bool.false_bne]; exact q
theorem bls_all {bs : List Bool} (q : Q (.bl (bs.all _root_.id)) μ) : drBls (fun bs => bs.all _root_.id) [.lst (bs.map SD.bl)] μ Q := by
  unfold drBls
  simp only [lstD, blsOf_map]
  exact q
end
theorem subLen {α : Type} [DecidableEq α] : ∀ {u l : List α}, u.Nodup → (∀ k ∈ u, k ∈ l) → u.length ≤ l.length
  | [], _, _, _ => Nat.zero_le _
  | x :: r, l, nd, h => by
    have nd2 := List.nodup_cons.mp nd
    have hx := h x (List.mem_cons_self ..)
    have := subLen (u := r) (l := l.erase x) nd2.2 fun k hk => by
      have h1 := h k (List.mem_cons_of_mem _ hk)
      have : k ≠ x := fun e => nd2.1 (e ▸ hk)
      exact (List.mem_erase_of_ne this).mpr h1
    rw [List.length_erase_of_mem hx] at this
    have : 0 < l.length := List.length_pos_of_mem hx
    rw [List.length_cons]; omega
theorem dist_lt {α : Type} [DecidableEq α] : ∀ {l u : List α}, Dist l u → ¬ l.Nodup → u.length < l.length
  | [], _, _, h => (h List.nodup_nil).elim
  | x :: r, u, d, h => by
    by_cases hx : x ∈ r
    · have := subLen d.nd fun k hk => by
        rcases List.mem_cons.mp ((d.mem k).mp hk) with e | e
        · exact e ▸ hx
        · exact e
      rw [List.length_cons]; omega
    · have hr : ¬ r.Nodup := fun q => h (List.nodup_cons.mpr ⟨hx, q⟩)
      have hxu : x ∈ u := (d.mem x).mpr (List.mem_cons_self ..)
      have := dist_lt (l := r) (u := u.erase x) ⟨d.nd.erase x, fun k => by
        rw [d.nd.mem_erase_iff, d.mem k, List.mem_cons]
        constructor
        · rintro ⟨h1, h2 | h2⟩
          · exact (h1 h2).elim
          · exact h2
        · intro h2; exact ⟨fun e => hx (e ▸ h2), .inr h2⟩⟩ hr
      rw [List.length_erase_of_mem hxu] at this
      rw [List.length_cons]; omega
theorem dist_len {α : Type} [DecidableEq α] {l u : List α} (d : Dist l u) : decide ((u.length : Int) = (l.length : Int)) = decide l.Nodup := by
  by_cases h : l.Nodup
  · have h1 := subLen d.nd fun k hk => (d.mem k).mp hk
    have h2 := subLen h fun k hk => (d.mem k).mpr hk
    rw [decide_eq_true h, decide_eq_true (by omega)]
  · have := dist_lt d h
    rw [decide_eq_false h, decide_eq_false (by omega)]
def abcS : Str := "abcdefghijklmnopqrstuvwxyz"
def keyB : SD → Bool
  | .str x => decide (1 ≤ x.length) && decide (x.length ≤ 8) && x.cps.toList.all fun c => decide (c ∈ abcS.cps.toList)
  | _ => false
theorem keyB_eq (x : Str) : keyB (.str x) = (decide (1 ≤ x.length) && decide (x.length ≤ 8) && x.cps.toList.all fun c => decide (c ∈ abcS.cps.toList)) := rfl
def strD : SD → Str
  | .str x => x
  | _ => ""
theorem keyB_str {d : SD} (h : keyB d = true) : ∃ x, d = .str x := by
  cases d <;> first | exact ⟨_, rfl⟩ | cases h
def sp_is_key : DSp := fun ds μ Q _ => ∃ (d : SD) (m : Nat), ds = [d] ∧ okV m d ∧ wtV d ≤ 300000 ∧ Q (.bl (keyB d)) μ
theorem len_is_key : ∀ ds μ Q E, sp_is_key ds μ Q E → ds.length = 1 := by rintro ds μ Q E ⟨d, m, rfl, _⟩; rfl
theorem letters_ok {x : Str} {ρ : Rho} {μ : Mu} {Q : SD → Mu → Prop} (hx : x.length ≤ 300000) (h0 : ρ[0]? = some (some (.str x))) (hl : ρ.length = 2) (q : Q (.bl (x.cps.toList.all fun c => decide (c ∈ abcS.cps.toList))) μ) :
    dCB (drBls fun bs => bs.all _root_.id) (dCons (dLcS (jSeq (dVar 0)) (hName 1) dYes (dOp (dIn false) (dVar 1) (dC (.str "abcdefghijklmnopqrstuvwxyz"))) [1]) dNil) ρ μ Q := by
  unfold dLcS dLc
  refine r_var h0 ?_
  have cl : (chars x).length = x.cps.size := by simp [chars]
  have hx' : x.cps.size ≤ 300000 := hx
  refine lc_pure (zs := (x.cps.toList.map fun c => decide (c ∈ abcS.cps.toList)).map SD.bl) trivial (by rw [cl]; omega) (by simp [chars]) ?_ ?_
  · intro i d y hd hy R r
    unfold chars at hd
    rw [List.getElem?_map] at hd
    rw [List.getElem?_map, List.getElem?_map] at hy
    cases e : x.cps.toList[i]? with
    | none => rw [e] at hd; cases hd
    | some c =>
      rw [e] at hd hy; cases hd; cases hy
      have : ((wipeR ρ [1]).set 1 (some (SD.str ⟨#[c]⟩)))[1]? = some (some (SD.str ⟨#[c]⟩)) := by
        rw [List.getElem?_set_self]; simp [wipeR, hl]
      refine r_var this ?_
      exact in_sign r
  · refine bls_all ?_
    have : (x.cps.toList.map fun c => decide (c ∈ abcS.cps.toList)).all _root_.id = x.cps.toList.all fun c => decide (c ∈ abcS.cps.toList) := by
      rw [List.all_map]; rfl
    rw [this]; exact q
def t_is_key : DTS := (dSeq (dIfS (dOr (dNot (dTest (dCB drIsi (dCons (dVar 0) (dCons (dC (.ty "str")) dNil))))) (dNot (dTest (dChain dLe dLe (dC (.int 1)) (dCB drLen (dCons (dVar 0) dNil)) (dC (.int 8)))))) (dRet (dC (.bl false))) dNext)
    (dRet (dCB (drBls fun bs => bs.all _root_.id) (dCons (dLcS (jSeq (dVar 0)) (hName 1) dYes (dOp (dIn false) (dVar 1) (dC (.str "abcdefghijklmnopqrstuvwxyz"))) [1]) dNil))))
theorem read_is_key : ∀ ds μ Q E, sp_is_key ds μ Q E → t_is_key { nx := fun _ μ' => Q .non μ', rt := Q } (begin_ ["value", "letter"] ds) μ := by
  rintro ds μ Q E ⟨d, m, rfl, v, w, q⟩
  unfold t_is_key
  refine r_var rfl ?_
  refine isi_str v ?_
  cases d with
  | str x =>
    refine ifF rfl ?_
    rw [wtV] at w
    have xl : x.length ≤ 300000 := w
    refine r_var rfl ?_
    refine l_lenS (le_line xl (by omega)) ?_
    refine i_le ?_
    by_cases h1 : 1 ≤ x.length
    · rw [decide_eq_true (show (1 : Int) ≤ (x.length : Int) by omega)]
      refine i_le ?_
      by_cases h2 : x.length ≤ 8
      · rw [decide_eq_true (show (x.length : Int) ≤ 8 by omega)]
        refine ifF rfl ?_
        refine letters_ok (ρ := begin_ ["value", "letter"] [.str x]) xl rfl rfl ?_
        have : keyB (.str x) = x.cps.toList.all fun c => decide (c ∈ abcS.cps.toList) := by rw [keyB_eq, decide_eq_true h1, decide_eq_true h2]; rfl
        rw [← this]; exact q
      · rw [decide_eq_false (show ¬ (x.length : Int) ≤ 8 by omega)]
        refine ifT rfl ?_
        have : keyB (.str x) = false := by rw [keyB_eq, decide_eq_false h2, Bool.and_false, Bool.false_and]
        rw [← this]; exact q
    · rw [decide_eq_false (show ¬ (1 : Int) ≤ (x.length : Int) by omega)]
      refine ifT rfl ?_
      have : keyB (.str x) = false := by rw [keyB_eq, decide_eq_false h1, Bool.false_and, Bool.false_and]
      rw [← this]; exact q
  | ref a => rw [okV] at v; exact v.elim
  | ty a => rw [okV] at v; exact v.elim
  | rol a => rw [okV] at v; exact v.elim
  | exc a b => rw [okV] at v; exact v.elim
  | _ => exact ifT rfl (ifT rfl q)
def sp__law_is_key : DSp := fun ds μ Q _ => ∃ (d : SD) (m : Nat), ds = [d] ∧ okV m d ∧ wtV d ≤ 300000 ∧ Q (.bl (keyB d)) μ
theorem len__law_is_key : ∀ ds μ Q E, sp__law_is_key ds μ Q E → ds.length = 1 := by rintro ds μ Q E ⟨d, m, rfl, _⟩; rfl
def t__law_is_key : DTS := (dSeq (dIfS (dOr (dNot (dTest (dCB drIsi (dCons (dVar 0) (dCons (dC (.ty "str")) dNil))))) (dNot (dTest (dChain dLt dLt (dC (.int 0)) (dCB drLen (dCons (dVar 0) dNil)) (dC (.int 9)))))) (dRet (dC (.bl false))) dNext)
    (dRet (dCB (drBls fun bs => bs.all _root_.id) (dCons (dLcS (jSeq (dVar 0)) (hName 1) dYes (dOp (dIn false) (dVar 1) (dC (.str "abcdefghijklmnopqrstuvwxyz"))) [1]) dNil))))
theorem read__law_is_key : ∀ ds μ Q E, sp__law_is_key ds μ Q E → t__law_is_key { nx := fun _ μ' => Q .non μ', rt := Q } (begin_ ["_law_thing", "_law_letter"] ds) μ := by
  rintro ds μ Q E ⟨d, m, rfl, v, w, q⟩
  unfold t__law_is_key
  refine r_var rfl ?_
  refine isi_str v ?_
  cases d with
  | str x =>
    refine ifF rfl ?_
    rw [wtV] at w
    have xl : x.length ≤ 300000 := w
    refine r_var rfl ?_
    refine l_lenS (le_line xl (by omega)) ?_
    refine i_lt ?_
    by_cases h1 : 1 ≤ x.length
    · rw [decide_eq_true (show (0 : Int) < (x.length : Int) by omega)]
      refine i_lt ?_
      by_cases h2 : x.length ≤ 8
      · rw [decide_eq_true (show (x.length : Int) < 9 by omega)]
        refine ifF rfl ?_
        refine letters_ok (ρ := begin_ ["_law_thing", "_law_letter"] [.str x]) xl rfl rfl ?_
        have : keyB (.str x) = x.cps.toList.all fun c => decide (c ∈ abcS.cps.toList) := by rw [keyB_eq, decide_eq_true h1, decide_eq_true h2]; rfl
        rw [← this]; exact q
      · rw [decide_eq_false (show ¬ (x.length : Int) < 9 by omega)]
        refine ifT rfl ?_
        have : keyB (.str x) = false := by rw [keyB_eq, decide_eq_false h2, Bool.and_false, Bool.false_and]
        rw [← this]; exact q
    · rw [decide_eq_false (show ¬ (0 : Int) < (x.length : Int) by omega)]
      refine ifT rfl ?_
      have : keyB (.str x) = false := by rw [keyB_eq, decide_eq_false h1, Bool.false_and, Bool.false_and]
      rw [← this]; exact q
  | ref a => rw [okV] at v; exact v.elim
  | ty a => rw [okV] at v; exact v.elim
  | rol a => rw [okV] at v; exact v.elim
  | exc a b => rw [okV] at v; exact v.elim
  | _ => exact ifT rfl (ifT rfl q)
/-! keys of a value as a tree -/
def allO {α β : Type} (f : α → Option (List β)) : List α → Option (List β)
  | [] => some []
  | c :: r => match f c, allO f r with
    | some a, some b => some (a ++ b)
    | _, _ => none
theorem allO_append {α β : Type} {f : α → Option (List β)} {b : List α} {y : List β} : ∀ {a : List α} {x : List β}, allO f a = some x → allO f b = some y → allO f (a ++ b) = some (x ++ y)
  | [], x, h, g => by cases h; exact g
  | c :: r, x, h, g => by
    rw [allO] at h
    split at h
    · rename_i p q e1 e2
      cases h
      rw [List.cons_append, allO, e1, allO_append e2 g]; simp
    · cases h
theorem allO_mem {α β : Type} {f : α → Option (List β)} : ∀ {a : List α} {x : List β}, allO f a = some x → ∀ c ∈ a, ∃ y, f c = some y
  | [], _, _, c, hc => by cases hc
  | d :: r, x, h, c, hc => by
    rw [allO] at h
    split at h
    · rename_i p q e1 e2
      rcases List.mem_cons.mp hc with rfl | hc
      · exact ⟨p, e1⟩
      · exact allO_mem e2 c hc
    · cases h
theorem allO_none {α β : Type} {f : α → Option (List β)} {a : List α} {c : α} (hc : c ∈ a) (h : f c = none) : allO f a = none := by
  cases e : allO f a with
  | none => rfl
  | some x => obtain ⟨y, hy⟩ := allO_mem e c hc; rw [h] at hy; cases hy
def kin : Nat → SD → Option (List Str)
  | 0, _ => none
  | n + 1, d => match d with
    | .tup [x, .tup cs] => if keyB x = true then (match allO (kin n) cs with
      | some l => some (strD x :: l)
      | none => none) else none
    | _ => none
theorem allO_wt {f : SD → Option (List Str)} (h : ∀ d l, f d = some l → l.length ≤ wtV d) : ∀ {cs : List SD} {l : List Str}, allO f cs = some l → l.length ≤ wtVL cs
  | [], l, e => by cases e; simp
  | c :: r, l, e => by
    rw [allO] at e
    split at e
    · rename_i p q e1 e2
      cases e
      have := h _ _ e1
      have := allO_wt h e2
      rw [wtVL, List.length_append]; omega
    · cases e
theorem kin_wt : ∀ (n : Nat) (d : SD) (l : List Str), kin n d = some l → l.length ≤ wtV d
  | 0, d, l, h => by cases h
  | n + 1, d, l, h => by
    unfold kin at h
    split at h
    · rename_i x cs
      split at h
      · split at h
        · rename_i l' e
          cases h
          have := allO_wt (kin_wt n) e
          rw [wtV, wtVL, wtVL, wtV, wtVL, List.length_cons]; omega
        · cases h
      · cases h
    · cases h
def kwR (lv : Nat) (d : SD) : SD := match kin lv d with
  | some l => .lst (sts l)
  | none => .non
def sp_keys_within (n : Nat) : DSp := fun ds μ Q _ => ∃ (d : SD) (m lv : Nat), ds = [d, .int lv] ∧ lv < n ∧ okV m d ∧ wtV d ≤ 300000 ∧ ∀ μ', Le μ μ' → Q (kwR lv d) μ'
theorem no_keys_within {ds μ Q E} (h : sp_keys_within 0 ds μ Q E) : False := by
  obtain ⟨d, m, lv, rfl, h, _⟩ := h; omega
theorem len_keys_within {n} : ∀ ds μ Q E, sp_keys_within n ds μ Q E → ds.length = 2 := by rintro ds μ Q E ⟨d, m, lv, rfl, _⟩; rfl
def t_keys_within (n : Nat) : DTS := (dSeq (dIfS (dOr (dTest (dOp (dEq false) (dVar 1) (dC (.int 0)))) (dOr (dNot (dTest (dCB drIsi (dCons (dVar 0) (dCons (dC (.ty "tuple")) dNil))))) (dTest (dOp (dEq true) (dCB drLen (dCons (dVar 0) dNil)) (dC (.int 2)))))) (dRet (dC .non)) dNext)
    (dSeq (dIfS (dOr (dNot (dTest (dCall sp_is_key [] (dCons (dOp dIx (dVar 0) (dC (.int 0))) dNil)))) (dNot (dTest (dCB drIsi (dCons (dOp dIx (dVar 0) (dC (.int 1))) (dCons (dC (.ty "tuple")) dNil)))))) (dRet (dC .non)) dNext)
    (dSeq (dSet (dLstM (dCons (dOp dIx (dVar 0) (dC (.int 0))) dNil)) 2)
    (dSeq (dFor (jSeq (dOp dIx (dVar 0) (dC (.int 1)))) (hName 3) (dSeq (dSet (dCall (sp_keys_within n) [] (dCons (dVar 3) (dCons (dOp dSub (dVar 1) (dC (.int 1))) dNil))) 4)
    (dSeq (dIfS (dTest (dIsN (dVar 4))) (dRet (dC .non)) dNext)
    (dDrop (dLM dmExtend (dVar 2) (dCons (dVar 4) dNil))))))
    (dRetF (dVar 2))))))
theorem read_keys_within (n : Nat) : ∀ ds μ Q E, sp_keys_within (n + 1) ds μ Q E → t_keys_within n { nx := fun _ μ' => Q .non μ', rt := Q } (begin_ ["value", "levels", "found", "child", "some"] ds) μ := by
  rintro ds μ Q E ⟨d, m, lv, rfl, hlv, v, w, q⟩
  unfold t_keys_within dFor
  refine r_var rfl ?_
  refine i_eq ?_
  cases lv with
  | zero => exact ifT rfl (ifT rfl (q μ (Le.refl μ)))
  | succ l0 =>
    rw [decide_eq_false (show ¬ ((l0 + 1 : Nat) : Int) = 0 by omega)]
    refine ifF rfl ?_
    refine r_var rfl ?_
    refine isi_tup v ?_
    cases d with
    | ref a => rw [okV] at v; exact v.elim
    | ty a => rw [okV] at v; exact v.elim
    | rol a => rw [okV] at v; exact v.elim
    | exc a b => rw [okV] at v; exact v.elim
    | tup xs =>
      refine ifF rfl ?_
      refine r_var rfl ?_
      refine l_lenT ?_
      refine i_ne ?_
      by_cases h2 : xs.length = 2
      · rw [decide_eq_true (show (xs.length : Int) = 2 by omega)]
        refine ifF rfl ?_
        simp only [dNext]
        obtain ⟨x, y, rfl⟩ : ∃ x y, xs = [x, y] := by
          match xs, h2 with
          | [x, y], _ => exact ⟨x, y, rfl⟩
        rw [okV, okVL, okVL] at v
        obtain ⟨vx, vy, _⟩ := v
        rw [wtV, wtVL, wtVL, wtVL] at w
        refine r_var rfl ?_
        refine ix_tup (d := x) rfl ?_
        refine ⟨x, m, rfl, vx, by omega, ?_⟩
        cases hk : keyB x with
        | false =>
          refine ifT rfl (ifT rfl ?_)
          have e : kwR (l0 + 1) (.tup [x, y]) = .non := by
            unfold kwR kin
            cases y <;> simp [hk]
          have := q μ (Le.refl μ)
          rw [e] at this; exact this
        | true =>
          refine ifF rfl ?_
          refine r_var rfl ?_
          refine ix_tup (d := y) rfl ?_
          refine isi_tup vy ?_
          obtain ⟨s, rfl⟩ := keyB_str hk
          cases y with
          | ref a => rw [okV] at vy; exact vy.elim
          | ty a => rw [okV] at vy; exact vy.elim
          | rol a => rw [okV] at vy; exact vy.elim
          | exc a b => rw [okV] at vy; exact vy.elim
          | tup cs =>
            refine ifF rfl ?_
            simp only [dNext]
            rw [okV] at vy
            rw [wtV, wtV] at w
            refine r_var rfl ?_
            refine ix_tup (d := .str s) rfl ?_
            refine ⟨(by show 1 ≤ sizeLine; decide), fun p hp => ?_⟩
            dsimp only
            refine r_var rfl ?_
            refine ix_tup (d := .tup cs) rfl ?_
            have ke : kin (l0 + 1) (.tup [.str s, .tup cs]) = (match allO (kin l0) cs with
              | some l => some (s :: l)
              | none => none) := by unfold kin; simp [hk, strD]
            refine ⟨fun i ρ μ' => ∃ (a b : Option SD) (l : List Str), ρ = [some (.tup [.str s, .tup cs]), some (.int ((l0 + 1 : Nat) : Int)), some (.ref p), a, b] ∧ Le μ μ' ∧ μ' p = some (.lst (sts (s :: l))) ∧ allO (kin l0) (cs.take i) = some l, ?_, fun _ _ _ _ _ => rfl, ?_, ?_⟩
            · exact ⟨none, none, [], rfl, (Le.refl μ).up hp, by rw [up_same]; rfl, rfl⟩
            · rintro i c ρ μ' hc ⟨a, b, l, rfl, le, hp', hl⟩
              have hcm := List.mem_of_getElem? hc
              have vc := okVL_mem.mp vy c hcm
              have wc := wtVL_mem hcm
              dsimp only
              refine r_var rfl ?_
              refine r_var rfl ?_
              refine i_sub ?_
              rw [show ((l0 + 1 : Nat) : Int) - 1 = ((l0 : Nat) : Int) by omega]
              refine ⟨c, m, l0, rfl, by omega, vc, by omega, fun μ2 le2 => ?_⟩
              dsimp only
              refine r_var rfl ?_
              cases e : kin l0 c with
              | none =>
                have e2 : kwR l0 c = .non := by unfold kwR; rw [e]
                rw [e2]
                refine ifT rfl ?_
                have e3 : kwR (l0 + 1) (.tup [.str s, .tup cs]) = .non := by unfold kwR; rw [ke, allO_none hcm e]
                have := q μ2 (le.trans le2)
                rw [e3] at this; exact this
              | some lc =>
                have e2 : kwR l0 c = .lst (sts lc) := by unfold kwR; rw [e]
                rw [e2]
                refine ifF rfl ?_
                simp only [dNext]
                have hp2 := le2 _ _ hp'
                refine r_var rfl ⟨isSome_ref hp2, ?_⟩
                refine r_var rfl ?_
                have tk : allO (kin l0) (cs.take (i + 1)) = some (l ++ lc) := by
                  rw [List.take_succ, hc]
                  refine allO_append hl ?_
                  show allO (kin l0) [c] = some lc
                  rw [allO, e, allO]; simp
                have b1 := allO_wt (kin_wt l0) tk
                have b2 : wtVL (cs.take (i + 1)) ≤ wtVL cs := by have := wtVL_cut cs (i + 1); omega
                rw [List.length_append] at b1
                refine dm_extendL hp2 (le_line (m := 300002) (by simp [sts]; omega) (by omega)) ?_
                refine ⟨_, _, l ++ lc, rfl, (le.trans le2).up hp, by rw [up_same]; simp [sts], tk⟩
            · rintro ρ μ' ⟨a, b, l, rfl, le, hp', hl⟩
              dsimp only
              refine r_var rfl ?_
              unfold frz
              simp only [hp']
              rw [List.take_length] at hl
              have e3 : kwR (l0 + 1) (.tup [.str s, .tup cs]) = .lst (sts (s :: l)) := by unfold kwR; rw [ke, hl]
              have := q _ (le.rm hp)
              rw [e3] at this; exact this
          | _ =>
            refine ifT rfl ?_
            have := q μ (Le.refl μ)
            unfold kwR kin at this
            exact this
      · rw [decide_eq_false (show ¬ (xs.length : Int) = 2 by omega)]
        refine ifT rfl ?_
        have e : kwR (l0 + 1) (.tup xs) = .non := by
          unfold kwR kin
          match xs, h2 with
          | [], _ => rfl
          | [_], _ => rfl
          | [_, _], h => exact (h rfl).elim
          | _ :: b :: _ :: _, _ => cases b <;> rfl
        have := q μ (Le.refl μ)
        rw [e] at this; exact this
    | _ => exact ifT rfl (ifT rfl (q μ (Le.refl μ)))
def treeB (d : SD) : Bool := match kin 20 d with
  | some l => decide (l.length ≤ 60) && decide l.Nodup
  | none => false
def sp_is_tree : DSp := fun ds μ Q _ => ∃ (d : SD) (m : Nat), ds = [d] ∧ okV m d ∧ wtV d ≤ 300000 ∧ ∀ μ', Le μ μ' → Q (.bl (treeB d)) μ'
theorem len_is_tree : ∀ ds μ Q E, sp_is_tree ds μ Q E → ds.length = 1 := by rintro ds μ Q E ⟨d, m, rfl, _⟩; rfl
def t_is_tree : DTS := (dSeq (dSet (dCall (sp_keys_within 24) [] (dCons (dVar 0) (dCons (dC (.int 20)) dNil))) 1)
    (dRet (dAndV (dNotN (dVar 1)) (dAndV (dOp dLe (dCB drLen (dCons (dVar 1) dNil)) (dC (.int 60))) (dOp (dEq false) (dLenSet (dVar 1)) (dCB drLen (dCons (dVar 1) dNil)))))))
theorem lenSet_L {μ : Mu} {Q : SD → Mu → Prop} {l : List Str} (hl : l.length ≤ 4000) (q : ∀ u, Dist l u → Q (.int (u.length : Nat)) μ) : drLenSet (.lst (sts l)) μ Q := by
  unfold drLenSet sts
  simp only [lstD, strsOf_map]
  exact ⟨hl, q⟩
theorem read_is_tree : ∀ ds μ Q E, sp_is_tree ds μ Q E → t_is_tree { nx := fun _ μ' => Q .non μ', rt := Q } (begin_ ["value", "found"] ds) μ := by
  rintro ds μ Q E ⟨d, m, rfl, v, w, q⟩
  unfold t_is_tree
  refine r_var rfl ?_
  refine ⟨d, m, 20, rfl, by decide, v, w, fun μ1 le => ?_⟩
  have q1 := q μ1 le
  unfold treeB at q1
  unfold kwR
  dsimp only
  refine r_var rfl ?_
  cases e : kin 20 d with
  | none => rw [e] at q1; exact q1
  | some l =>
    rw [e] at q1
    dsimp only at q1
    dsimp only [DS.isNon]
    refine r_var rfl ?_
    refine l_len ?_
    refine i_le ?_
    have sl : (sts l).length = l.length := by simp [sts]
    rw [sl]
    by_cases h : l.length ≤ 60
    · rw [decide_eq_true (show (l.length : Int) ≤ 60 by omega)]
      refine r_var rfl ?_
      refine lenSet_L (by omega) fun u hu => ?_
      refine r_var rfl ?_
      refine l_len ?_
      refine i_eq ?_
      rw [sl, dist_len hu]
      rw [decide_eq_true h, Bool.true_and] at q1
      exact q1
    · rw [decide_eq_false (show ¬ (l.length : Int) ≤ 60 by omega)]
      rw [decide_eq_false h, Bool.false_and] at q1
      exact q1
end LK
/-! NK2: the law's own look at keys and trees. -/
namespace LK
open PySem PySem.Spec PyProof.Rows L2 DS MA
section
variable {μ : Mu} {Q : SD → Mu → Prop} {a : Addr} {xs : List SD} {neg : Bool} {ρ : Rho} {g : DTG} {te : DTE} {vs : List Nat}
theorem l0_ref (m : μ a = some (.lst xs)) (q : Q (.bl (neg != xs.isEmpty)) μ) : dL0 neg (.ref a) (.lst []) μ Q := by
  unfold dL0; simp only [lstD, m]; exact q
theorem l0_lst (q : Q (.bl (neg != xs.isEmpty)) μ) : dL0 neg (.lst xs) (.lst []) μ Q := q
theorem lc_g {ds zs : List SD} {ok : Mu → Prop} {R : List SD → Mu → Prop} (hok : ok μ) (hl : ds.length ≤ 1000000) (hy : zs.length = ds.length) (el : ∀ (i : Nat) (d y : SD), ds[i]? = some d → zs[i]? = some y → ∀ R : SD → Mu → Prop, R y μ → g d (wipeR ρ vs) μ fun ρ2 μ2 => te ρ2 μ2 R) (q : R zs μ) :
    ds.length ≤ sizeLine ∧ ∃ W : Nat → List SD → Mu → Prop, W 0 [] μ ∧ (∀ i acc μ', i ≤ ds.length → W i acc μ' → ok μ') ∧ (∀ i d acc μ', ds[i]? = some d → W i acc μ' → g d (wipeR ρ vs) μ' fun ρ2 μ2 => dYes ρ2 μ2 fun b μ3 => if b = true then te ρ2 μ3 fun y μ4 => W (i+1) (acc ++ [y]) μ4 else W (i+1) acc μ3) ∧ ∀ acc μ', W ds.length acc μ' → R acc μ' := by
  refine ⟨le_line hl (Nat.le_refl _), fun i acc μ' => acc = zs.take i ∧ μ' = μ, ⟨rfl, rfl⟩, ?_, ?_, ?_⟩
  · rintro i acc μ' _ ⟨_, rfl⟩; exact hok
  · rintro i d acc μ' hd ⟨rfl, rfl⟩
    have hi := (List.getElem?_eq_some_iff.mp hd).1
    have hz : zs[i]? = some zs[i] := List.getElem?_eq_getElem (by omega)
    have e : ∀ K : SD → Mu → Prop, ∀ L : Mu → Prop, (fun (ρ2 : Rho) (μ2 : Mu) => dYes ρ2 μ2 fun b μ3 => if b = true then te ρ2 μ3 K else L μ3) = fun ρ2 μ2 => te ρ2 μ2 K := fun K L => by
      funext ρ2 μ2; exact if_pos rfl
    rw [e]
    refine el i d _ hd hz _ ⟨?_, rfl⟩
    rw [List.take_succ, hz]; rfl
  · rintro acc μ' ⟨rfl, rfl⟩
    rw [List.take_of_length_le (by omega)]; exact q
end
/-- names with their depths, at any depth -/
def wk : Nat → Nat → SD → Option (List (Str × Nat))
  | 0, _, _ => none
  | n + 1, k, d => match d with
    | .tup [x, .tup cs] => if keyB x = true then (match allO (wk n (k + 1)) cs with
      | some l => some ((strD x, k) :: l)
      | none => none) else none
    | _ => none
theorem allO_congr {α β : Type} {f g : α → Option (List β)} : ∀ {a : List α}, (∀ c ∈ a, f c = g c) → allO f a = allO g a
  | [], _ => rfl
  | c :: r, h => by rw [allO, allO, h c (List.mem_cons_self ..), allO_congr fun x hx => h x (List.mem_cons_of_mem _ hx)]
theorem dp_pair {x : SD} {cs : List SD} {c : SD} (h : c ∈ cs) : dpV c + 2 ≤ dpV (.tup [x, .tup cs]) := by
  rw [dpV, dpVL, dpVL, dpVL, dpV]
  have := dpVL_le.mp (Nat.le_refl (dpVL cs)) c h
  omega
theorem wk_fuel : ∀ (n n' k : Nat) (d : SD), dpV d < n → dpV d < n' → wk n k d = wk n' k d
  | 0, _, _, _, h, _ => by omega
  | _, 0, _, _, _, h => by omega
  | n + 1, n' + 1, k, d, h, h' => by
    unfold wk
    split
    · rename_i x cs
      have := allO_congr (f := wk n (k + 1)) (g := wk n' (k + 1)) (a := cs) fun c hc => by
        have := dp_pair (x := x) hc
        exact wk_fuel n n' (k + 1) c (by omega) (by omega)
      rw [this]
    · rfl
def W (k : Nat) (d : SD) : Option (List (Str × Nat)) := wk (dpV d + 1) k d
theorem W_pair (k : Nat) (x : SD) (cs : List SD) : W k (.tup [x, .tup cs]) = if keyB x = true then (match allO (W (k + 1)) cs with
      | some l => some ((strD x, k) :: l)
      | none => none) else none := by
  unfold W
  rw [wk]
  have := allO_congr (f := wk (dpV (.tup [x, .tup cs])) (k + 1)) (g := fun d => wk (dpV d + 1) (k + 1) d) (a := cs) fun c hc => by
    have := dp_pair (x := x) hc
    exact wk_fuel _ _ (k + 1) c (by omega) (by omega)
  rw [this]
theorem W_none {k : Nat} {d : SD} (h : ∀ x cs, d = .tup [x, .tup cs] → keyB x = false) : W k d = none := by
  unfold W wk
  split
  · rename_i x cs
    rw [h x cs rfl]; rfl
  · rfl
theorem W_wt' : ∀ (n k : Nat) (d : SD) (l : List (Str × Nat)), wk n k d = some l → l.length ≤ wtV d ∧ (∀ p ∈ l, k ≤ p.2) ∧ ∃ s r, l = (s, k) :: r
  | 0, _, _, _, h => by cases h
  | n + 1, k, d, l, h => by
    unfold wk at h
    split at h
    · rename_i x cs
      split at h
      · split at h
        · rename_i l' e
          cases h
          have key : ∀ {cs : List SD} {l' : List (Str × Nat)}, allO (wk n (k + 1)) cs = some l' → l'.length ≤ wtVL cs ∧ ∀ p ∈ l', k + 1 ≤ p.2 := by
            intro cs
            induction cs with
            | nil => intro l' e; cases e; exact ⟨Nat.zero_le _, fun p hp => by cases hp⟩
            | cons c r ih =>
              intro l' e
              rw [allO] at e
              split at e
              · rename_i p q e1 e2
                cases e
                obtain ⟨a1, a2, _⟩ := W_wt' n (k + 1) c p e1
                obtain ⟨b1, b2⟩ := ih e2
                refine ⟨by rw [wtVL, List.length_append]; omega, fun z hz => ?_⟩
                rcases List.mem_append.mp hz with hz | hz
                · exact a2 z hz
                · exact b2 z hz
              · cases e
          obtain ⟨a1, a2⟩ := key e
          refine ⟨by rw [wtV, wtVL, wtVL, wtV, wtVL, List.length_cons]; omega, fun p hp => ?_, _, _, rfl⟩
          rcases List.mem_cons.mp hp with rfl | hp
          · exact Nat.le_refl _
          · have := a2 p hp; omega
        · cases h
      · cases h
    · cases h
theorem W_facts {k : Nat} {d : SD} {l : List (Str × Nat)} (h : W k d = some l) : l.length ≤ wtV d ∧ (∀ p ∈ l, k ≤ p.2) ∧ ∃ s r, l = (s, k) :: r := W_wt' _ k d l h
/-- the program's look is the law's, cut -/
def cutW (k n : Nat) : Option (List (Str × Nat)) → Option (List Str)
  | some l => if ∀ p ∈ l, p.2 < k + n then some (l.map (·.1)) else none
  | none => none
theorem kin_W : ∀ (n k : Nat) (d : SD), kin n d = cutW k n (W k d)
  | 0, k, d => by
    unfold kin
    cases e : W k d with
    | none => rfl
    | some l =>
      obtain ⟨_, _, s, r, rfl⟩ := W_facts e
      unfold cutW
      dsimp only
      rw [if_neg]
      intro h; have := h (s, k) (List.mem_cons_self ..); simp at this
  | n + 1, k, d => by
    have all : ∀ cs : List SD, allO (kin n) cs = cutW (k + 1) n (allO (W (k + 1)) cs) := by
      intro cs
      induction cs with
      | nil => simp [allO, cutW]
      | cons c r ih =>
        rw [allO, allO, ih, kin_W n (k + 1) c]
        cases e1 : W (k + 1) c with
        | none => simp [cutW]
        | some a =>
          cases e2 : allO (W (k + 1)) r with
          | none =>
            simp only [cutW]
            by_cases ha : ∀ p ∈ a, p.2 < k + 1 + n
            · rw [if_pos ha]
            · rw [if_neg ha]
          | some b =>
            simp only [cutW]
            by_cases ha : ∀ p ∈ a, p.2 < k + 1 + n
            · by_cases hb : ∀ p ∈ b, p.2 < k + 1 + n
              · have hab : ∀ p ∈ a ++ b, p.2 < k + 1 + n := fun p hp => (List.mem_append.mp hp).elim (ha p) (hb p)
                rw [if_pos ha, if_pos hb, if_pos hab]
                simp
              · have hab : ¬ ∀ p ∈ a ++ b, p.2 < k + 1 + n := fun h => hb fun p hp => h p (List.mem_append_right _ hp)
                rw [if_pos ha, if_neg hb, if_neg hab]
            · have hab : ¬ ∀ p ∈ a ++ b, p.2 < k + 1 + n := fun h => ha fun p hp => h p (List.mem_append_left _ hp)
              by_cases hb : ∀ p ∈ b, p.2 < k + 1 + n
              · rw [if_neg ha, if_pos hb, if_neg hab]
              · rw [if_neg ha, if_neg hb, if_neg hab]
    unfold kin
    split
    · rename_i x cs
      rw [W_pair]
      cases hk : keyB x with
      | false => simp [cutW]
      | true =>
        rw [if_pos rfl, if_pos rfl, all]
        cases e : allO (W (k + 1)) cs with
        | none => simp [cutW]
        | some l =>
          simp only [cutW]
          by_cases h : ∀ p ∈ l, p.2 < k + 1 + n
          · rw [if_pos h, if_pos]
            · simp
            · intro p hp
              rcases List.mem_cons.mp hp with rfl | hp
              · show k < k + (n + 1); omega
              · have := h p hp; omega
          · rw [if_neg h, if_neg]
            intro h2; exact h fun p hp => by have := h2 p (List.mem_cons_of_mem _ hp); omega
    · rename_i hne
      rw [W_none fun x cs e => (hne x cs e).elim]
      rfl
theorem treeB_W (d : SD) : treeB d = (match W 1 d with
    | some l => decide (l.length ≤ 60) && decide (∀ p ∈ l, p.2 ≤ 20) && decide (l.map (·.1)).Nodup
    | none => false) := by
  unfold treeB
  rw [kin_W 20 1 d]
  cases W 1 d with
  | none => rfl
  | some l =>
    simp only [cutW]
    by_cases h : ∀ p ∈ l, p.2 < 1 + 20
    · rw [if_pos h, decide_eq_true (show ∀ p ∈ l, p.2 ≤ 20 from fun p hp => by have := h p hp; omega)]
      simp
    · rw [if_neg h, decide_eq_false (show ¬ ∀ p ∈ l, p.2 ≤ 20 from fun q => h fun p hp => by have := q p hp; omega)]
      simp
/-! _law_names_in -/
def encP (p : Str × Nat) : SD := .tup [.str p.1, .int p.2]
def encT (p : SD × Nat) : SD := .tup [p.1, .int p.2]
def stW (ts : List (SD × Nat)) : Option (List (Str × Nat)) := allO (fun p => W p.2 p.1) ts
def stWt : List (SD × Nat) → Nat
  | [] => 0
  | p :: r => wtV p.1 + 1 + stWt r
theorem stWt_append (a b : List (SD × Nat)) : stWt (a ++ b) = stWt a + stWt b := by
  induction a with
  | nil => simp [stWt]
  | cons x r ih => rw [List.cons_append, stWt, stWt, ih]; omega
theorem stWt_kids (k : Nat) (cs : List SD) : stWt (cs.map fun c => (c, k)) = wtVL cs := by
  induction cs with
  | nil => rfl
  | cons c r ih => rw [List.map_cons, stWt, ih, wtVL]
theorem stWt_len (ts : List (SD × Nat)) : ts.length ≤ stWt ts := by
  induction ts with
  | nil => simp
  | cons x r ih => rw [stWt, List.length_cons]; omega
theorem stW_kids (k : Nat) (cs : List SD) : stW (cs.map fun c => (c, k)) = allO (W k) cs := by
  unfold stW
  induction cs with
  | nil => rfl
  | cons c r ih => rw [List.map_cons, allO, ih, allO]
theorem allO_append2 {α β : Type} {f : α → Option (List β)} {b : List α} : ∀ {a : List α}, allO f (a ++ b) = (match allO f a, allO f b with
    | some x, some y => some (x ++ y)
    | _, _ => none)
  | [] => by rw [List.nil_append, allO]; cases allO f b <;> simp
  | c :: r => by
    rw [List.cons_append, allO, allO_append2, allO]
    cases f c <;> cases allO f r <;> cases allO f b <;> simp
def sp__law_names_in : DSp := fun ds μ Q _ => ∃ (d : SD) (m : Nat), ds = [d] ∧ okV m d ∧ wtV d ≤ 250000 ∧ ∀ μ' L, Le μ μ' → (match W 1 d with
    | some l => L.Perm l
    | none => L = []) → Q (.lst (L.map encP)) μ'
theorem len__law_names_in : ∀ ds μ Q E, sp__law_names_in ds μ Q E → ds.length = 1 := by rintro ds μ Q E ⟨d, m, rfl, _⟩; rfl
def t__law_names_in : DTS := (dSeq (dPar 1 2 (dCons (dLstM dNil) (dCons (dLstM (dCons (dTup (dCons (dVar 0) (dCons (dC (.int 1)) dNil))) dNil)) dNil)))
    (dSeq (dWhile (dTest (dOp (dL0 true) (dVar 2) (dLst dNil))) (dSeq (dAsg (dLM0 dmPop (dVar 2)) (hTup 2 (hCons (hName 3) (hCons (hName 4) hNil))))
    (dSeq (dIfS (dOr (dNot (dTest (dCB drIsi (dCons (dVar 3) (dCons (dC (.ty "tuple")) dNil))))) (dOr (dTest (dOp (dEq true) (dCB drLen (dCons (dVar 3) dNil)) (dC (.int 2)))) (dOr (dNot (dTest (dCall sp__law_is_key [] (dCons (dOp dIx (dVar 3) (dC (.int 0))) dNil)))) (dNot (dTest (dCB drIsi (dCons (dOp dIx (dVar 3) (dC (.int 1))) (dCons (dC (.ty "tuple")) dNil)))))))) (dRet (dLst dNil)) dNext)
    (dSeq (dDrop (dLM dmAppend (dVar 1) (dCons (dTup (dCons (dOp dIx (dVar 3) (dC (.int 0))) (dCons (dVar 4) dNil))) dNil)))
    (dDrop (dLM dmExtend (dVar 2) (dCons (dLcS (jSeq (dOp dIx (dVar 3) (dC (.int 1)))) (hName 5) dYes (dTup (dCons (dVar 5) (dCons (dOp dAdd (dVar 4) (dC (.int 1))) dNil))) [5]) dNil)))))))
    (dRetF (dVar 1))))
theorem read__law_names_in : ∀ ds μ Q E, sp__law_names_in ds μ Q E → t__law_names_in { nx := fun _ μ' => Q .non μ', rt := Q } (begin_ ["_law_thing", "_law_found", "_law_left", "_law_one", "_law_deep", "_law_child"] ds) μ := by
  rintro ds μ Q E ⟨d0, m, rfl, v0, w0, q⟩
  unfold t__law_names_in dLcS dLc
  refine ⟨Nat.zero_le _, fun p hp => ?_⟩
  refine r_var rfl ?_
  refine ⟨(by show 2 ≤ sizeLine; decide), (by show 1 ≤ sizeLine; decide), fun w hw => ?_⟩
  obtain ⟨pw, hw0⟩ := up_none hw
  dsimp only
  refine ⟨fun M ρ μ' => ∃ (ts : List (SD × Nat)) (done : List (Str × Nat)) (a b c : Option SD), ρ = [some d0, some (.ref p), some (.ref w), a, b, c] ∧ Le μ μ' ∧ μ' p = some (.lst (done.map encP)) ∧ μ' w = some (.lst (ts.map encT)) ∧ M = stWt ts ∧ (∀ t ∈ ts, okV m t.1) ∧ done.length + stWt ts ≤ 250001 ∧
    (match stW ts with
      | some r => ∃ l, W 1 d0 = some l ∧ (done ++ r).Perm l
      | none => W 1 d0 = none), ?_, ?_⟩
  · refine ⟨_, [(d0, 1)], [], none, none, none, rfl, ((Le.refl μ).up hp).up hw0, by rw [up_ne (Ne.symm pw), up_same]; rfl, by rw [up_same]; rfl, rfl, by simpa using v0, by simp [stWt]; omega, ?_⟩
    have : stW [(d0, 1)] = (match W 1 d0 with | some a => some (a ++ []) | none => none) := by
      unfold stW; rw [allO, allO]; cases W 1 d0 <;> rfl
    rw [this]
    cases e : W 1 d0 with
    | none => rfl
    | some l => exact ⟨l, rfl, by simp⟩
  · rintro M ρ μ1 ⟨ts, done, a, b, c, rfl, le, hp1, hw1, rfl, hok, hlen, inv⟩
    refine r_var rfl ?_
    refine ⟨Nat.zero_le _, ?_⟩
    refine l0_ref hw1 ?_
    rcases List.eq_nil_or_concat ts with rfl | ⟨ts', t, rfl⟩
    · refine ifF rfl ?_
      dsimp only
      refine r_var rfl ?_
      unfold frz
      simp only [hp1]
      refine q _ done (le.rm hp) ?_
      have e0 : stW [] = some [] := rfl
      rw [e0] at inv
      obtain ⟨l, hl, hperm⟩ := (show ∃ l, W 1 d0 = some l ∧ (done ++ []).Perm l from inv)
      rw [hl]
      simpa using hperm
    · obtain ⟨d, k⟩ := t
      rw [List.concat_eq_append] at *
      have vd : okV m d := hok (d, k) (by simp)
      have wts : stWt (ts' ++ [(d, k)]) = stWt ts' + (wtV d + 1) := by rw [stWt_append]; rfl
      rw [wts] at hlen
      rw [List.map_append] at hw1
      have ne : (true != ((ts'.map encT) ++ ([(d, k)].map encT)).isEmpty) = true := by simp
      rw [List.map_append, ne]
      refine ifT rfl ⟨_, fun _ _ h => h, ?_⟩
      refine r_var rfl ⟨isSome_ref hw1, ?_⟩
      refine dm_pop (y := encT (d, k)) hw1 ?_
      refine ⟨rfl, rfl, ?_⟩
      dsimp only
      refine r_var rfl ?_
      refine isi_tup vd ?_
      have st : stW (ts' ++ [(d, k)]) = (match stW ts', W k d with
        | some x, some y => some (x ++ y)
        | _, _ => none) := by
        unfold stW
        rw [allO_append2]
        have : allO (fun p : SD × Nat => W p.2 p.1) [(d, k)] = (match W k d with | some a => some (a ++ []) | none => none) := by
          rw [allO, allO]; cases W k d <;> rfl
        rw [this]
        cases W k d with
        | none => cases allO (fun p : SD × Nat => W p.2 p.1) ts' <;> rfl
        | some y => cases allO (fun p : SD × Nat => W p.2 p.1) ts' <;> simp
      rw [st] at inv
      have bad : W k d = none → W 1 d0 = none := fun e => by
        rw [e] at inv
        cases e2 : stW ts' <;> rw [e2] at inv <;> exact inv
      have fail : ∀ μ2, Le μ μ2 → W k d = none → Q (.lst []) μ2 := fun μ2 l2 e => by
        have := q μ2 [] l2
        rw [bad e] at this
        exact this rfl
      have le2 : Le μ (up μ1 w (.lst (ts'.map encT))) := le.up hw0
      have out : ∀ μ2, Le μ μ2 → W k d = none → ([] : List SD).length ≤ sizeLine ∧ Q (.lst []) μ2 := fun μ2 l2 e => ⟨Nat.zero_le _, fail μ2 l2 e⟩
      cases d with
      | ref a => rw [okV] at vd; exact vd.elim
      | ty a => rw [okV] at vd; exact vd.elim
      | rol a => rw [okV] at vd; exact vd.elim
      | exc a b => rw [okV] at vd; exact vd.elim
      | tup xs =>
        refine ifF rfl ?_
        refine r_var rfl ?_
        refine l_lenT ?_
        refine i_ne ?_
        by_cases h2 : xs.length = 2
        · rw [decide_eq_true (show (xs.length : Int) = 2 by omega)]
          refine ifF rfl ?_
          obtain ⟨x, y, rfl⟩ : ∃ x y, xs = [x, y] := by
            match xs, h2 with
            | [x, y], _ => exact ⟨x, y, rfl⟩
          rw [okV, okVL, okVL] at vd
          obtain ⟨vx, vy, _⟩ := vd
          rw [wtV, wtVL, wtVL, wtVL] at hlen
          refine r_var rfl ?_
          refine ix_tup (d := x) rfl ?_
          refine ⟨x, m, rfl, vx, by omega, ?_⟩
          cases hk : keyB x with
          | false =>
            refine ifT rfl (ifT rfl ?_)
            exact out _ le2 (W_none fun x' cs e => by cases e; exact hk)
          | true =>
            refine ifF rfl ?_
            refine r_var rfl ?_
            refine ix_tup (d := y) rfl ?_
            refine isi_tup vy ?_
            obtain ⟨s, rfl⟩ := keyB_str hk
            cases y with
            | ref a => rw [okV] at vy; exact vy.elim
            | ty a => rw [okV] at vy; exact vy.elim
            | rol a => rw [okV] at vy; exact vy.elim
            | exc a b => rw [okV] at vy; exact vy.elim
            | tup cs =>
              refine ifF rfl ?_
              simp only [dNext]
              rw [okV] at vy
              rw [wtV, wtV] at hlen
              have hp2 : up μ1 w (.lst (ts'.map encT)) p = some (.lst (done.map encP)) := by rw [up_ne (Ne.symm pw)]; exact hp1
              refine r_var rfl ⟨isSome_ref hp2, ?_⟩
              refine r_var rfl ?_
              refine ix_tup (d := .str s) rfl ?_
              refine r_var rfl ?_
              refine ⟨(by show 2 ≤ sizeLine; decide), ?_⟩
              refine dm_append hp2 (lt_line (m := 250001) (by simp; omega) (by omega)) ?_
              have hw3 : up (up μ1 w (.lst (ts'.map encT))) p (.lst (done.map encP ++ [encP (s, k)])) w = some (.lst (ts'.map encT)) := by rw [up_ne pw, up_same]
              dsimp only
              refine r_var rfl ⟨isSome_ref hw3, ?_⟩
              refine r_var rfl ?_
              refine ix_tup (d := .tup cs) rfl ?_
              have cl := len_wtVL cs
              refine lc_pure (zs := (cs.map fun c => (c, k + 1)).map encT) rfl (by omega) (by simp) ?_ ?_
              · intro i e y he hy R r
                rw [List.getElem?_map, List.getElem?_map, he] at hy
                cases hy
                refine r_var rfl ?_
                refine r_var rfl ?_
                refine i_add ?_
                refine ⟨(by show 2 ≤ sizeLine; decide), ?_⟩
                exact r
              · have tl := stWt_len ts'
                refine dm_extendL hw3 (le_line (m := 500002) (by simp; omega) (by omega)) ?_
                refine ⟨_, ?_, ts' ++ cs.map (fun c => (c, k + 1)), done ++ [(s, k)], _, _, _, rfl, ?_, ?_, ?_, rfl, ?_, ?_, ?_⟩
                · rw [wts, stWt_append, stWt_kids, wtV, wtVL, wtVL, wtVL, wtV, wtV]; omega
                · exact (le2.up hp).up hw0
                · rw [up_ne (Ne.symm pw), up_same, List.map_append]; rfl
                · rw [up_same, List.map_append]
                · intro t ht
                  rcases List.mem_append.mp ht with ht | ht
                  · exact hok t (List.mem_append_left _ ht)
                  · obtain ⟨c, hc, rfl⟩ := List.mem_map.mp ht
                    exact okVL_mem.mp vy c hc
                · rw [stWt_append, stWt_kids, List.length_append]; simp; omega
                · have ek : W k (.tup [.str s, .tup cs]) = (match allO (W (k + 1)) cs with
                    | some l => some ((s, k) :: l)
                    | none => none) := by rw [W_pair, if_pos hk]; rfl
                  rw [ek] at inv
                  have e3 : stW (ts' ++ cs.map fun c => (c, k + 1)) = (match stW ts', allO (W (k + 1)) cs with
                    | some x, some y => some (x ++ y)
                    | _, _ => none) := by
                    rw [← stW_kids]; unfold stW; rw [allO_append2]
                    generalize allO (fun p : SD × Nat => W p.2 p.1) ts' = A
                    generalize allO (fun p : SD × Nat => W p.2 p.1) (cs.map fun c => (c, k + 1)) = B
                    cases A <;> cases B <;> rfl
                  rw [e3]
                  cases e1 : stW ts' with
                  | none => rw [e1] at inv; exact inv
                  | some x =>
                    rw [e1] at inv
                    cases e2 : allO (W (k + 1)) cs with
                    | none => rw [e2] at inv; exact inv
                    | some y =>
                      rw [e2] at inv
                      obtain ⟨l, hl, hperm⟩ := (show ∃ l, W 1 d0 = some l ∧ (done ++ (x ++ (s, k) :: y)).Perm l from inv)
                      refine ⟨l, hl, List.Perm.trans ?_ hperm⟩
                      rw [List.append_assoc]
                      refine List.Perm.append_left done ?_
                      exact (List.perm_middle (a := (s, k)) (l₁ := x) (l₂ := y)).symm
            | _ =>
              refine ifT rfl ?_
              exact out _ le2 (W_none fun x' cs e => by cases e)
        · rw [decide_eq_false (show ¬ (xs.length : Int) = 2 by omega)]
          refine ifT rfl (ifT rfl ?_)
          exact out _ le2 (W_none fun x' cs e => by cases e; exact (h2 rfl).elim)
      | _ =>
        refine ifT rfl (ifT rfl ?_)
        exact out _ le2 (W_none fun x' cs e => by cases e)
end LK
/-! NK3: _law_is_tree. -/
namespace LK
open PySem PySem.Spec PyProof.Rows L2 DS MA
theorem most_L {μ : Mu} {Q : SD → Mu → Prop} {P : Int → Int → Prop} {ns : List Int} (h : 0 < ns.length) (q : ∀ m, m ∈ ns → (∀ y, y ∈ ns → P y m) → Q (.int m) μ) : drMost P [.lst (ns.map SD.int)] μ Q := by
  unfold drMost
  simp only [lstD, intsOf_map]
  exact ⟨h, q⟩
theorem encP_at {L : List (Str × Nat)} {i : Nat} {d y : SD} {f : Str × Nat → SD} (hd : (L.map encP)[i]? = some d) (hy : (L.map f)[i]? = some y) : ∃ p, L[i]? = some p ∧ d = encP p ∧ y = f p := by
  rw [List.getElem?_map] at hd hy
  cases e : L[i]? with
  | none => rw [e] at hd; cases hd
  | some p => rw [e] at hd hy; cases hd; cases hy; exact ⟨p, rfl, rfl, rfl⟩
def sp__law_is_tree : DSp := fun ds μ Q _ => ∃ (d : SD) (m : Nat), ds = [d] ∧ okV m d ∧ wtV d ≤ 250000 ∧ ∀ μ', Le μ μ' → Q (.bl (treeB d)) μ'
theorem len__law_is_tree : ∀ ds μ Q E, sp__law_is_tree ds μ Q E → ds.length = 1 := by rintro ds μ Q E ⟨d, m, rfl, _⟩; rfl
def t__law_is_tree : DTS := (dSeq (dSet (dCall sp__law_names_in [] (dCons (dVar 0) dNil)) 1)
    (dSeq (dIfS (dOr (dTest (dOp (dL0 false) (dVar 1) (dLst dNil))) (dOr (dTest (dOp dGt (dCB drLen (dCons (dVar 1) dNil)) (dC (.int 60)))) (dTest (dOp dGt (dCB (drMost fun y m => y ≤ m) (dCons (dLcS (jSeq (dVar 1)) (hTup 2 (hNames [2, 3])) dYes (dVar 3) [2, 3]) dNil)) (dC (.int 20)))))) (dRet (dC (.bl false))) dNext)
    (dRet (dOp (dEq false) (dLenSet (dLcS (jSeq (dVar 1)) (hTup 2 (hNames [2, 3])) dYes (dVar 2) [2, 3])) (dCB drLen (dCons (dVar 1) dNil))))))
theorem read__law_is_tree : ∀ ds μ Q E, sp__law_is_tree ds μ Q E → t__law_is_tree { nx := fun _ μ' => Q .non μ', rt := Q } (begin_ ["_law_thing", "_law_some", "_law_name", "_law_deep"] ds) μ := by
  rintro ds μ Q E ⟨d, m, rfl, v, w, q⟩
  unfold t__law_is_tree dLcS dLc
  refine r_var rfl ?_
  refine ⟨d, m, rfl, v, w, fun μ1 L le hL => ?_⟩
  have q1 := q μ1 le
  rw [treeB_W] at q1
  dsimp only
  refine r_var rfl ?_
  refine ⟨Nat.zero_le _, ?_⟩
  refine l0_lst ?_
  cases e : W 1 d with
  | none =>
    rw [e] at hL q1
    have hL : L = [] := hL
    subst hL
    exact ifT rfl (ifT rfl q1)
  | some l =>
    rw [e] at hL q1
    have hp : L.Perm l := hL
    dsimp only at q1
    obtain ⟨_, _, s, r, el⟩ := W_facts e
    have hne : 0 < L.length := by rw [hp.length_eq, el]; simp
    have ne : (false != (L.map encP).isEmpty) = false := by
      cases L with
      | nil => simp at hne
      | cons _ _ => rfl
    rw [ne]
    refine ifF rfl ?_
    refine r_var rfl ?_
    refine l_len ?_
    refine i_gt ?_
    have ml : (L.map encP).length = L.length := by simp
    rw [ml]
    by_cases h60 : L.length ≤ 60
    · rw [decide_eq_false (show ¬ (60 : Int) < (L.length : Int) by omega)]
      refine ifF rfl ?_
      refine r_var rfl ?_
      refine lc_g (zs := (L.map fun p => (p.2 : Int)).map SD.int) rfl (by rw [ml]; omega) (by simp) ?_ ?_
      · intro i d y hd hy R r
        rw [List.map_map] at hy
        obtain ⟨p, _, rfl, rfl⟩ := encP_at hd hy
        refine ⟨rfl, rfl, ?_⟩
        exact r_var rfl r
      · refine most_L (by simpa using hne) fun mx h1 h2 => ?_
        refine i_gt ?_
        obtain ⟨p, hpm, rfl⟩ := List.mem_map.mp h1
        rw [decide_eq_true (show l.length ≤ 60 by rw [← hp.length_eq]; exact h60), Bool.true_and] at q1
        by_cases h20 : ∀ p ∈ l, p.2 ≤ 20
        · rw [decide_eq_false (show ¬ (20 : Int) < (p.2 : Int) by have := h20 p (hp.mem_iff.mp hpm); omega)]
          refine ifF rfl ?_
          simp only [dNext]
          rw [decide_eq_true h20, Bool.true_and] at q1
          refine r_var rfl ?_
          refine lc_g (zs := sts (L.map (·.1))) rfl (by rw [ml]; omega) (by simp [sts]) ?_ ?_
          · intro i d y hd hy R r
            rw [sts, List.map_map] at hy
            obtain ⟨p, _, rfl, rfl⟩ := encP_at hd hy
            refine ⟨rfl, rfl, ?_⟩
            exact r_var rfl r
          · refine lenSet_L (by rw [List.length_map]; omega) fun u hu => ?_
            refine r_var rfl ?_
            refine l_len ?_
            refine i_eq ?_
            have e2 : ((L.map encP).length : Int) = ((L.map (·.1)).length : Int) := by simp
            rw [e2, dist_len hu]
            have e3 : decide (L.map (·.1)).Nodup = decide (l.map (·.1)).Nodup := by
              have := (hp.map (fun p : Str × Nat => p.1)).nodup_iff
              exact decide_eq_decide.mpr this
            rw [e3]; exact q1
        · have : ∃ p ∈ l, 20 < p.2 := by
            refine Classical.byContradiction fun hn => h20 fun p hp => ?_
            exact Nat.le_of_not_lt fun hlt => hn ⟨p, hp, hlt⟩
          obtain ⟨p', hp', h20'⟩ := this
          have := h2 (p'.2 : Int) (List.mem_map.mpr ⟨p', hp.mem_iff.mpr hp', rfl⟩)
          rw [decide_eq_true (show (20 : Int) < (p.2 : Int) by omega)]
          rw [decide_eq_false h20, Bool.false_and] at q1
          exact ifT rfl q1
    · rw [decide_eq_true (show (60 : Int) < (L.length : Int) by omega)]
      rw [decide_eq_false (show ¬ l.length ≤ 60 by rw [← hp.length_eq]; exact h60), Bool.false_and, Bool.false_and] at q1
      exact ifT rfl (ifT rfl q1)
end LK
/-! NK4: _law_odd; what bending asks. -/
namespace LK
open PySem PySem.Spec PyProof.Rows L2 DS MA
mutual
def okB : SD → Bool
  | .non => true
  | .bl _ => true
  | .int i => decide (i.natAbs ≤ 10 ^ 20)
  | .str x => PyData.strOk x
  | .ref _ => false
  | .ty _ => false
  | .tup xs => okBL xs
  | .lst xs => okBL xs
  | .rol _ => false
  | .exc _ _ => false
  | .dic kvs => kvs.isEmpty
def okBL : List SD → Bool
  | [] => true
  | d :: r => okB d && okBL r
end
mutual
theorem okB_V : ∀ {d : SD}, okB d = true → okV 0 d
  | .non, _ => by rw [okV]; trivial
  | .bl _, _ => by rw [okV]; trivial
  | .int i, h => by rw [okV]; rw [okB, decide_eq_true_eq] at h; exact h
  | .str x, h => by rw [okV]; rw [okB] at h; exact h
  | .ref _, h => by rw [okB] at h; cases h
  | .ty _, h => by rw [okB] at h; cases h
  | .tup xs, h => by rw [okV]; rw [okB] at h; exact okBL_V h
  | .lst xs, h => by rw [okV]; rw [okB] at h; exact okBL_V h
  | .rol _, h => by rw [okB] at h; cases h
  | .exc _ _, h => by rw [okB] at h; cases h
  | .dic kvs, h => by rw [okV]; rw [okB] at h; exact List.isEmpty_iff.mp h
theorem okBL_V : ∀ {xs : List SD}, okBL xs = true → okVL 0 xs
  | [], _ => by rw [okVL]; trivial
  | d :: r, h => by rw [okVL]; rw [okBL, Bool.and_eq_true] at h; exact ⟨okB_V h.1, okBL_V h.2⟩
end
def fitB (D B : Nat) (xs : List SD) : Bool := xs.all fun d => okB d && decide (dpV d ≤ D) && decide (wtV d ≤ B)
theorem fitB_V {D B : Nat} {xs : List SD} (h : fitB D B xs = true) : ∀ d ∈ xs, Val 0 D B d := fun d hd => by
  have := List.all_eq_true.mp h d hd
  simp only [Bool.and_eq_true, decide_eq_true_eq] at this
  exact ⟨okB_V this.1.1, this.1.2, this.2⟩
def oddL : List SD := [.non, .bl true, .bl false, .int 0, .int 1, .int (-1), .int (10 ^ Int.toNat 20), .str "", .str "a", .str "A", .str "a b", .str "ninechars", .str "-", .tup [], .lst [], .dic [], .tup [.str "a", .tup []], .tup [.str "a"]] ++
  [.tup [.str "move", .str "a", .str "b", .non], .tup [.str "remove", .str "a"], .tup [.tup [.str "a", .int 1]]]
theorem oddL_ok : ∀ d ∈ oddL, Val 0 2 30 d := fitB_V (by decide +kernel)
def sp__law_odd : DSp := fun ds μ Q _ => ∃ (h : Addr) (T : Nat), ds = [.ref h] ∧ T ≤ 900000000 ∧ HandAt μ h T ∧ ∀ d μ', Val 0 14 42 d → HandAt μ' h (T + 14) → LeX h μ μ' → Q d μ'
theorem len__law_odd : ∀ ds μ Q E, sp__law_odd ds μ Q E → ds.length = 1 := by rintro ds μ Q E ⟨h, T, rfl, _⟩; rfl
def t__law_odd : DTS := (dSeq (dSet (dLst (dCons (dC .non) (dCons (dC (.bl true)) (dCons (dC (.bl false)) (dCons (dC (.int 0)) (dCons (dC (.int 1)) (dCons (dUnI (fun i => -i) (dC (.int 1))) (dCons (dOp dPow (dC (.int 10)) (dC (.int 20))) (dCons (dC (.str "")) (dCons (dC (.str "a")) (dCons (dC (.str "A")) (dCons (dC (.str "a b")) (dCons (dC (.str "ninechars")) (dCons (dC (.str "-")) (dCons (dTup dNil) (dCons (dLst dNil) (dCons dDict0S (dCons (dTup (dCons (dC (.str "a")) (dCons (dTup dNil) dNil))) (dCons (dTup (dCons (dC (.str "a")) dNil)) dNil))))))))))))))))))) 1)
    (dSeq (dSet (dCall sp__law_of [] (dCons (dVar 0) (dCons (dOp dAdd (dVar 1) (dLst (dCons (dTup (dCons (dC (.str "move")) (dCons (dC (.str "a")) (dCons (dC (.str "b")) (dCons (dC .non) dNil))))) (dCons (dTup (dCons (dC (.str "remove")) (dCons (dC (.str "a")) dNil))) (dCons (dTup (dCons (dTup (dCons (dC (.str "a")) (dCons (dC (.int 1)) dNil))) dNil)) dNil))))) dNil))) 2)
    (dSeq (dFor (jRng1 (dCons (dCall sp__law_of [] (dCons (dVar 0) (dCons (dLst (dCons (dC (.int 0)) (dCons (dC (.int 0)) (dCons (dC (.int 0)) (dCons (dC (.int 1)) (dCons (dC (.int 2)) (dCons (dC (.int 12)) dNil))))))) dNil))) dNil)) (hName 3) (dSet (dIf (dTest (dOp (dEq false) (dCall sp__law_take [] (dCons (dVar 0) (dCons (dC (.int 2)) dNil))) (dC (.int 0)))) (dTup (dCons (dVar 2) dNil)) (dLst (dCons (dVar 2) dNil))) 2))
    (dRet (dVar 2)))))
theorem read__law_odd : ∀ ds μ Q E, sp__law_odd ds μ Q E → t__law_odd { nx := fun _ μ' => Q .non μ', rt := Q } (begin_ ["_law_hand_here", "_law_some", "_law_thing", "_law_turn"] ds) μ := by
  rintro ds μ Q E ⟨h, T, rfl, hT, H, q⟩
  unfold t__law_odd dFor
  refine i_pow (n := 20) (pow_ok (n := 20) (by decide) (by decide)) ?_
  refine ⟨Nat.zero_le _, ?_⟩
  refine ⟨Nat.zero_le _, ?_⟩
  refine ⟨Nat.zero_le _, ?_⟩
  refine ⟨(by show 2 ≤ sizeLine; decide), ?_⟩
  refine ⟨(by show 1 ≤ sizeLine; decide), ?_⟩
  refine ⟨(by show 18 ≤ sizeLine; decide), ?_⟩
  dsimp only
  refine r_var rfl ?_
  refine r_var rfl ?_
  refine ⟨(by show 4 ≤ sizeLine; decide), ?_⟩
  refine ⟨(by show 2 ≤ sizeLine; decide), ?_⟩
  refine ⟨(by show 2 ≤ sizeLine; decide), ?_⟩
  refine ⟨(by show 1 ≤ sizeLine; decide), ?_⟩
  refine ⟨(by show 3 ≤ sizeLine; decide), ?_⟩
  refine l_add (by show 21 ≤ sizeLine; decide) ?_
  refine ⟨h, _, oddL, T, rfl, .inl rfl, by simp [oddL], by simp [oddL], by omega, H, fun i d μ1 hd H1 l1 => ?_⟩
  have vd := oddL_ok d (List.mem_of_getElem? hd)
  dsimp only
  refine r_var rfl ?_
  refine ⟨(by show 6 ≤ sizeLine; decide), ?_⟩
  refine ⟨h, _, _, T + 1, rfl, .inl rfl, by simp, by simp, by omega, H1, fun i2 dm μ2 hdm H2 l2 => ?_⟩
  have hr : ∃ r : Nat, dm = .int r ∧ r ≤ 12 := by
    have := List.mem_of_getElem? hdm
    simp at this
    rcases this with rfl | rfl | rfl | rfl
    · exact ⟨0, rfl, by decide⟩
    · exact ⟨1, rfl, by decide⟩
    · exact ⟨2, rfl, by decide⟩
    · exact ⟨12, rfl, by decide⟩
  obtain ⟨r, rfl, r12⟩ := hr
  refine ⟨⟨by omega, by omega⟩, fun j ρ μ' => j ≤ 12 ∧ ∃ (a : SD) (d : SD) (x : Option SD), ρ = [some (.ref h), some a, some d, x] ∧ Val 0 (2 + j) (30 + j) d ∧ HandAt μ' h (T + 2 + j) ∧ LeX h μ μ', ⟨Nat.zero_le _, _, _, _, rfl, vd, H2, l1.trans l2⟩, fun _ _ _ _ _ => trivial, ?_, ?_⟩
  · rintro j dj ρ μ3 hdj ⟨j12, a, d, x, rfl, v, H3, l3⟩
    have hj := (List.getElem?_eq_some_iff.mp hdj).1
    rw [List.length_map, List.length_range, Int.toNat_natCast] at hj
    dsimp only
    refine r_var rfl ?_
    refine ⟨h, 2, T + 2 + j, rfl, by decide, by decide, by omega, H3, fun y μ4 _ _ H4 l4 => ?_⟩
    refine i_eq ?_
    by_cases hy : y = 0
    · refine ifT (decide_eq_true hy) ?_
      refine r_var rfl ?_
      refine ⟨(by show 1 ≤ sizeLine; decide), ?_⟩
      exact ⟨by omega, _, _, _, rfl, (Val.tup (ValL.one v)).mono (Nat.le_refl _) (by omega) (by omega), H4, l3.trans l4⟩
    · refine ifF (decide_eq_false hy) ?_
      refine r_var rfl ?_
      refine ⟨(by show 1 ≤ sizeLine; decide), ?_⟩
      exact ⟨by omega, _, _, _, rfl, (Val.lst (ValL.one v)).mono (Nat.le_refl _) (by omega) (by omega), H4, l3.trans l4⟩
  · rintro ρ μ3 ⟨j12, a, d, x, rfl, v, H3, l3⟩
    rw [List.length_map, List.length_range, Int.toNat_natCast] at *
    dsimp only
    refine r_var rfl ?_
    exact q d _ (v.mono (Nat.le_refl _) (by omega) (by omega)) (H3.mono (by omega)) l3
/-! texts -/
theorem ok_signs {x : Str} : PyData.strOk x = true ↔ ∀ c ∈ x.cps.toList, c < 0x110000 := by
  unfold PyData.strOk
  rw [Array.all_eq_true_iff_forall_mem]; simp
theorem shifted_lt {N : Nat} : ∀ {l : List (Nat × Nat × Nat)} {c d : Nat}, (l.all fun e => decide (e.2.2 + (e.2.1 - e.1) < N)) = true → Unicode.shifted l c = some d → d < N
  | [], _, _, _, h => by simp [Unicode.shifted] at h
  | (a, b, t) :: r, c, d, ha, h => by
    rw [List.all_cons, Bool.and_eq_true] at ha
    rw [Unicode.shifted] at h
    split at h
    · cases h
    · split at h
      · cases h
        have := of_decide_eq_true ha.1
        simp only at this
        omega
      · exact shifted_lt ha.2 h
theorem upper_one : (UnicodeData.oneUpper.all fun e => decide (e.2.2 + (e.2.1 - e.1) < 0x110000)) = true := by decide +kernel
theorem upper_several : (UnicodeData.severalUpper.all fun e => e.2.all fun c => decide (c < 0x110000)) = true := by decide +kernel
theorem upperOf_lt {c : Nat} (hc : c < 0x110000) : ∀ d ∈ Unicode.upperOf c, d < 0x110000 := by
  unfold Unicode.upperOf Unicode.image
  intro d hd
  split at hd
  · rename_i cs e
    have : (c, cs) ∈ UnicodeData.severalUpper := by
      have key : ∀ {l : List (Nat × List Nat)}, l.lookup c = some cs → (c, cs) ∈ l := by
        intro l
        induction l with
        | nil => intro h; cases h
        | cons p r ih =>
          intro h
          obtain ⟨k, v⟩ := p
          rw [List.lookup_cons] at h
          split at h
          · rename_i hk
            cases h
            have : c = k := by simpa using hk
            subst this
            exact List.mem_cons_self ..
          · exact List.mem_cons_of_mem _ (ih h)
      exact key e
    have h1 := List.all_eq_true.mp upper_several _ this
    exact of_decide_eq_true (List.all_eq_true.mp h1 d hd)
  · have : d = (Unicode.shifted UnicodeData.oneUpper c).getD c := by simpa using hd
    subst this
    cases e : Unicode.shifted UnicodeData.oneUpper c with
    | none => exact hc
    | some y => exact shifted_lt upper_one e
theorem ok_upper {x : Str} (h : PyData.strOk x = true) : PyData.strOk (Txt.upper x) = true := by
  rw [ok_signs]
  intro c hc
  unfold Txt.upper placed at hc
  have hc : c ∈ ((x.cps.mapIdx fun i c => (Unicode.upperOf c).toArray).flatten).toList := hc
  rw [Array.mem_toList_iff, Array.mem_flatten] at hc
  obtain ⟨a, ha, hca⟩ := hc
  rw [Array.mem_mapIdx] at ha
  obtain ⟨i, hi, rfl⟩ := ha
  have : c ∈ Unicode.upperOf x.cps[i] := by simpa using hca
  refine upperOf_lt (ok_signs.mp h _ ?_) c this
  simp
theorem ok_app {u v : Str} (hu : PyData.strOk u = true) (hv : PyData.strOk v = true) : PyData.strOk (u ++ v) = true := by
  rw [ok_signs]
  intro c hc
  have hc : c ∈ (u.cps ++ v.cps).toList := hc
  rw [Array.toList_append, List.mem_append] at hc
  exact hc.elim (ok_signs.mp hu c) (ok_signs.mp hv c)
theorem app_len {u v : Str} : (u ++ v).cps.size = u.cps.size + v.cps.size := by
  show (u.cps ++ v.cps).size = _
  rw [Array.size_append]
theorem ok_cut {x : Str} {l u : Option Int} (h : PyData.strOk x = true) : PyData.strOk (cutS x l u) = true := by
  rw [ok_signs]
  intro c hc
  have hc : c ∈ (x.cps.toList.drop (HT.sIx x.length 0 l)).take (HT.sIx x.length x.length u - HT.sIx x.length 0 l) := by
    unfold cutS at hc; simpa using hc
  exact ok_signs.mp h c (List.mem_of_mem_drop (List.mem_of_mem_take hc))
theorem ok_int {i : Int} : PyData.strOk (toString i : String) = true := by
  rw [ok_signs]
  intro c hc
  refine Nat.lt_of_not_le fun hge => ?_
  exact int_text_free' c ⟨by omega, by omega⟩ i hc
end LK
/-! PX1: errors made by themselves: their classes and fields (k12). -/
namespace LK
open PySem PySem.Spec PyProof.Rows L2 DS MA
def xnames : List Str := ["NoElement", "BadOperations", "Impossible", "DifferentRoots", "NoNumber", "NotKept", "Conflict", "NotPatch", "TooDear", "BadTree", "BadCosts", "Root", "NotFocused", "Lost", "NothingToUndo", "BadText", "BadLine"]
def xfl : List (Str × List Str) := [("NoElement", ["key"]), ("BadOperations", ["value"]), ("Impossible", ["index"]), ("NoNumber", ["number"]), ("NotKept", ["value"]), ("Conflict", ["value"]), ("NotPatch", ["value"]), ("TooDear", ["key"]), ("BadTree", ["value"]), ("BadCosts", ["value"]), ("Root", ["key"]), ("NotFocused", ["key"]), ("Lost", ["value"]), ("BadText", ["line"]), ("BadLine", ["line"]), ("DifferentRoots", []), ("NothingToUndo", [])]
def exL (t : SD) : List SD := xfl.map fun p => .exc p.1 (p.2.map fun f => (f, t))
def isL (x : Str) : List SD := xfl.map fun p => .bl (x == p.1)
theorem xfl_names : (xfl.all fun p => decide (p.1 ∈ xnames)) = true := by decide +kernel
theorem kx_own {x c : Str} (hx : x ∈ xnames) (h1 : (c == "KeyedError") = false) (h2 : (c == "ValueError") = false) : kX xnames c x = some (x == c) := by
  unfold kX
  rw [if_pos hx, h1, h2, Bool.or_false, Bool.or_false]
theorem kx_ke {x : Str} (hx : x ∈ xnames) : kX xnames "KeyedError" x = some true := by
  unfold kX
  rw [if_pos hx]
  simp
theorem kx_ve {x : Str} (hx : x ∈ xnames) : kX xnames "ValueError" x = some true := by
  unfold kX
  rw [if_pos hx]
  simp
section
variable {ρ : Rho} {μ : Mu} {Q : SD → Mu → Prop} {i : Nat} {x f : Str} {fs : List (Str × SD)} {d v : SD} {xs : List SD} {k : Int} {kx : Str → Option Bool} {b : Bool}
theorem x_is (h : kx x = some b) (q : Q (.bl b) μ) : DS.isQ kx Q (.exc x fs) μ := by
  unfold DS.isQ
  simp only [h]
  exact q
theorem xi_at (h : ρ[i]? = some (some (.exc x fs))) (hk : kx x = some b) (q : Q (.bl b) μ) : dIsX kx (dVar i) ρ μ Q := r_var h (x_is hk q)
theorem xk_at (h : ρ[i]? = some (some d)) (q : Q (.exc x [(f, d)]) μ) : dXmkK x f (dCons (dVar i) dNil) ρ μ Q := by
  unfold dXmkK
  refine r_var h ?_
  exact q
theorem xm_at (h : ρ[i]? = some (some d)) (q : Q (.exc x [(f, d)]) μ) : dXmk x f (dVar i) ρ μ Q := r_var h q
theorem fl_at (h : ρ[i]? = some (some (.lst xs))) (hd : atI xs k = some (.exc x fs)) (hl : fs.lookup f = some v) (q : Q v μ) : dFld f (dOp dIx (dVar i) (dC (.int k))) ρ μ Q := by
  unfold dFld
  refine r_var h ?_
  refine ix_lst hd ?_
  simp only [hl]
  exact q
end
def sp__law_made : DSp := fun ds μ Q _ => ∃ t, ds = [t] ∧ Q (.lst (exL t)) μ
theorem len__law_made : ∀ ds μ Q E, sp__law_made ds μ Q E → ds.length = 1 := by rintro ds μ Q E ⟨t, rfl, _⟩; rfl
def sp__law_named : DSp := fun ds μ Q _ => ∃ t, ds = [t] ∧ Q (.lst (exL t)) μ
theorem len__law_named : ∀ ds μ Q E, sp__law_named ds μ Q E → ds.length = 1 := by rintro ds μ Q E ⟨t, rfl, _⟩; rfl
def sp__law_kinds : DSp := fun ds μ Q _ => ∃ x fs, ds = [.exc x fs] ∧ x ∈ xnames ∧ Q (.lst (isL x)) μ
theorem len__law_kinds : ∀ ds μ Q E, sp__law_kinds ds μ Q E → ds.length = 1 := by rintro ds μ Q E ⟨x, fs, rfl, _⟩; rfl
def sp__law_fields : DSp := fun ds μ Q _ => ∃ t, ds = [.lst (exL t)] ∧ Q (.lst (List.replicate 15 t)) μ
theorem len__law_fields : ∀ ds μ Q E, sp__law_fields ds μ Q E → ds.length = 1 := by rintro ds μ Q E ⟨t, rfl, _⟩; rfl
def t__law_made : DTS := (dSeq (dSet (dLst (dCons (dXmk "NoElement" "key" (dVar 0)) (dCons (dXmk "BadOperations" "value" (dVar 0)) (dCons (dXmk "Impossible" "index" (dVar 0)) (dCons (dXmk "NoNumber" "number" (dVar 0)) (dCons (dXmk "NotKept" "value" (dVar 0)) dNil)))))) 1)
    (dSeq (dSet (dOp dAdd (dVar 1) (dLst (dCons (dXmk "Conflict" "value" (dVar 0)) (dCons (dXmk "NotPatch" "value" (dVar 0)) (dCons (dXmk "TooDear" "key" (dVar 0)) (dCons (dXmk "BadTree" "value" (dVar 0)) (dCons (dXmk "BadCosts" "value" (dVar 0)) dNil))))))) 1)
    (dSeq (dSet (dOp dAdd (dVar 1) (dLst (dCons (dXmk "Root" "key" (dVar 0)) (dCons (dXmk "NotFocused" "key" (dVar 0)) (dCons (dXmk "Lost" "value" (dVar 0)) (dCons (dXmk "BadText" "line" (dVar 0)) (dCons (dXmk "BadLine" "line" (dVar 0)) dNil))))))) 1)
    (dRet (dOp dAdd (dVar 1) (dLst (dCons (dC (.exc "DifferentRoots" [])) (dCons (dC (.exc "NothingToUndo" [])) dNil))))))))
theorem read__law_made : ∀ ds μ Q E, sp__law_made ds μ Q E → t__law_made { nx := fun _ μ' => Q .non μ', rt := Q } (begin_ ["_law_thing", "_law_found"] ds) μ := by
  rintro ds μ Q E ⟨t, rfl, q⟩
  unfold t__law_made
  refine r_var rfl ?_
  refine r_var rfl ?_
  refine r_var rfl ?_
  refine r_var rfl ?_
  refine r_var rfl ?_
  refine ⟨(by show 5 ≤ sizeLine; decide), ?_⟩
  dsimp only
  refine r_var rfl ?_
  refine r_var rfl ?_
  refine r_var rfl ?_
  refine r_var rfl ?_
  refine r_var rfl ?_
  refine r_var rfl ?_
  refine ⟨(by show 5 ≤ sizeLine; decide), ?_⟩
  refine l_add (by show 10 ≤ sizeLine; decide) ?_
  dsimp only
  refine r_var rfl ?_
  refine r_var rfl ?_
  refine r_var rfl ?_
  refine r_var rfl ?_
  refine r_var rfl ?_
  refine r_var rfl ?_
  refine ⟨(by show 5 ≤ sizeLine; decide), ?_⟩
  refine l_add (by show 15 ≤ sizeLine; decide) ?_
  dsimp only
  refine r_var rfl ?_
  refine ⟨(by show 2 ≤ sizeLine; decide), ?_⟩
  refine l_add (by show 17 ≤ sizeLine; decide) ?_
  exact q
def t__law_named : DTS := (dSeq (dSet (dLst (dCons (dXmkK "NoElement" "key" (dCons (dVar 0) dNil)) (dCons (dXmkK "BadOperations" "value" (dCons (dVar 0) dNil)) (dCons (dXmkK "Impossible" "index" (dCons (dVar 0) dNil)) (dCons (dXmkK "NoNumber" "number" (dCons (dVar 0) dNil)) dNil))))) 1)
    (dSeq (dSet (dOp dAdd (dVar 1) (dLst (dCons (dXmkK "NotKept" "value" (dCons (dVar 0) dNil)) (dCons (dXmkK "Conflict" "value" (dCons (dVar 0) dNil)) (dCons (dXmkK "NotPatch" "value" (dCons (dVar 0) dNil)) (dCons (dXmkK "TooDear" "key" (dCons (dVar 0) dNil)) dNil)))))) 1)
    (dSeq (dSet (dOp dAdd (dVar 1) (dLst (dCons (dXmkK "BadTree" "value" (dCons (dVar 0) dNil)) (dCons (dXmkK "BadCosts" "value" (dCons (dVar 0) dNil)) (dCons (dXmkK "Root" "key" (dCons (dVar 0) dNil)) (dCons (dXmkK "NotFocused" "key" (dCons (dVar 0) dNil)) dNil)))))) 1)
    (dRet (dOp dAdd (dVar 1) (dLst (dCons (dXmkK "Lost" "value" (dCons (dVar 0) dNil)) (dCons (dXmkK "BadText" "line" (dCons (dVar 0) dNil)) (dCons (dXmkK "BadLine" "line" (dCons (dVar 0) dNil)) (dCons (dC (.exc "DifferentRoots" [])) (dCons (dC (.exc "NothingToUndo" [])) dNil)))))))))))
theorem read__law_named : ∀ ds μ Q E, sp__law_named ds μ Q E → t__law_named { nx := fun _ μ' => Q .non μ', rt := Q } (begin_ ["_law_thing", "_law_found"] ds) μ := by
  rintro ds μ Q E ⟨t, rfl, q⟩
  unfold t__law_named
  refine xk_at rfl ?_
  refine xk_at rfl ?_
  refine xk_at rfl ?_
  refine xk_at rfl ?_
  refine ⟨(by show 4 ≤ sizeLine; decide), ?_⟩
  dsimp only
  refine r_var rfl ?_
  refine xk_at rfl ?_
  refine xk_at rfl ?_
  refine xk_at rfl ?_
  refine xk_at rfl ?_
  refine ⟨(by show 4 ≤ sizeLine; decide), ?_⟩
  refine l_add (by show 8 ≤ sizeLine; decide) ?_
  dsimp only
  refine r_var rfl ?_
  refine xk_at rfl ?_
  refine xk_at rfl ?_
  refine xk_at rfl ?_
  refine xk_at rfl ?_
  refine ⟨(by show 4 ≤ sizeLine; decide), ?_⟩
  refine l_add (by show 12 ≤ sizeLine; decide) ?_
  dsimp only
  refine r_var rfl ?_
  refine xk_at rfl ?_
  refine xk_at rfl ?_
  refine xk_at rfl ?_
  refine ⟨(by show 5 ≤ sizeLine; decide), ?_⟩
  refine l_add (by show 17 ≤ sizeLine; decide) ?_
  exact q
def t__law_kinds : DTS := (dSeq (dSet (dLst (dCons (dIsX (kX xnames "NoElement") (dVar 0)) (dCons (dIsX (kX xnames "BadOperations") (dVar 0)) (dCons (dIsX (kX xnames "Impossible") (dVar 0)) dNil)))) 1)
    (dSeq (dSet (dOp dAdd (dVar 1) (dLst (dCons (dIsX (kX xnames "NoNumber") (dVar 0)) (dCons (dIsX (kX xnames "NotKept") (dVar 0)) (dCons (dIsX (kX xnames "Conflict") (dVar 0)) dNil))))) 1)
    (dSeq (dSet (dOp dAdd (dVar 1) (dLst (dCons (dIsX (kX xnames "NotPatch") (dVar 0)) (dCons (dIsX (kX xnames "TooDear") (dVar 0)) (dCons (dIsX (kX xnames "BadTree") (dVar 0)) dNil))))) 1)
    (dSeq (dSet (dOp dAdd (dVar 1) (dLst (dCons (dIsX (kX xnames "BadCosts") (dVar 0)) (dCons (dIsX (kX xnames "Root") (dVar 0)) (dCons (dIsX (kX xnames "NotFocused") (dVar 0)) dNil))))) 1)
    (dSeq (dSet (dOp dAdd (dVar 1) (dLst (dCons (dIsX (kX xnames "Lost") (dVar 0)) (dCons (dIsX (kX xnames "BadText") (dVar 0)) (dCons (dIsX (kX xnames "BadLine") (dVar 0)) dNil))))) 1)
    (dRet (dOp dAdd (dVar 1) (dLst (dCons (dIsX (kX xnames "DifferentRoots") (dVar 0)) (dCons (dIsX (kX xnames "NothingToUndo") (dVar 0)) dNil))))))))))
theorem read__law_kinds : ∀ ds μ Q E, sp__law_kinds ds μ Q E → t__law_kinds { nx := fun _ μ' => Q .non μ', rt := Q } (begin_ ["_law_error", "_law_found"] ds) μ := by
  rintro ds μ Q E ⟨x, fs, rfl, hx, q⟩
  unfold t__law_kinds
  refine xi_at rfl (kx_own hx (by decide) (by decide)) ?_
  refine xi_at rfl (kx_own hx (by decide) (by decide)) ?_
  refine xi_at rfl (kx_own hx (by decide) (by decide)) ?_
  refine ⟨(by show 3 ≤ sizeLine; decide), ?_⟩
  dsimp only
  refine r_var rfl ?_
  refine xi_at rfl (kx_own hx (by decide) (by decide)) ?_
  refine xi_at rfl (kx_own hx (by decide) (by decide)) ?_
  refine xi_at rfl (kx_own hx (by decide) (by decide)) ?_
  refine ⟨(by show 3 ≤ sizeLine; decide), ?_⟩
  refine l_add (by show 6 ≤ sizeLine; decide) ?_
  dsimp only
  refine r_var rfl ?_
  refine xi_at rfl (kx_own hx (by decide) (by decide)) ?_
  refine xi_at rfl (kx_own hx (by decide) (by decide)) ?_
  refine xi_at rfl (kx_own hx (by decide) (by decide)) ?_
  refine ⟨(by show 3 ≤ sizeLine; decide), ?_⟩
  refine l_add (by show 9 ≤ sizeLine; decide) ?_
  dsimp only
  refine r_var rfl ?_
  refine xi_at rfl (kx_own hx (by decide) (by decide)) ?_
  refine xi_at rfl (kx_own hx (by decide) (by decide)) ?_
  refine xi_at rfl (kx_own hx (by decide) (by decide)) ?_
  refine ⟨(by show 3 ≤ sizeLine; decide), ?_⟩
  refine l_add (by show 12 ≤ sizeLine; decide) ?_
  dsimp only
  refine r_var rfl ?_
  refine xi_at rfl (kx_own hx (by decide) (by decide)) ?_
  refine xi_at rfl (kx_own hx (by decide) (by decide)) ?_
  refine xi_at rfl (kx_own hx (by decide) (by decide)) ?_
  refine ⟨(by show 3 ≤ sizeLine; decide), ?_⟩
  refine l_add (by show 15 ≤ sizeLine; decide) ?_
  dsimp only
  refine r_var rfl ?_
  refine xi_at rfl (kx_own hx (by decide) (by decide)) ?_
  refine xi_at rfl (kx_own hx (by decide) (by decide)) ?_
  refine ⟨(by show 2 ≤ sizeLine; decide), ?_⟩
  refine l_add (by show 17 ≤ sizeLine; decide) ?_
  exact q
def t__law_fields : DTS := (dSeq (dSet (dLst (dCons (dFld "key" (dOp dIx (dVar 0) (dC (.int 0)))) (dCons (dFld "value" (dOp dIx (dVar 0) (dC (.int 1)))) (dCons (dFld "index" (dOp dIx (dVar 0) (dC (.int 2)))) (dCons (dFld "number" (dOp dIx (dVar 0) (dC (.int 3)))) (dCons (dFld "value" (dOp dIx (dVar 0) (dC (.int 4)))) (dCons (dFld "value" (dOp dIx (dVar 0) (dC (.int 5)))) (dCons (dFld "value" (dOp dIx (dVar 0) (dC (.int 6)))) dNil)))))))) 1)
    (dSeq (dSet (dOp dAdd (dVar 1) (dLst (dCons (dFld "key" (dOp dIx (dVar 0) (dC (.int 7)))) (dCons (dFld "value" (dOp dIx (dVar 0) (dC (.int 8)))) (dCons (dFld "value" (dOp dIx (dVar 0) (dC (.int 9)))) (dCons (dFld "key" (dOp dIx (dVar 0) (dC (.int 10)))) (dCons (dFld "key" (dOp dIx (dVar 0) (dC (.int 11)))) (dCons (dFld "value" (dOp dIx (dVar 0) (dC (.int 12)))) dNil)))))))) 1)
    (dRet (dOp dAdd (dVar 1) (dLst (dCons (dFld "line" (dOp dIx (dVar 0) (dC (.int 13)))) (dCons (dFld "line" (dOp dIx (dVar 0) (dC (.int 14)))) dNil)))))))
theorem read__law_fields : ∀ ds μ Q E, sp__law_fields ds μ Q E → t__law_fields { nx := fun _ μ' => Q .non μ', rt := Q } (begin_ ["_law_made_here", "_law_found"] ds) μ := by
  rintro ds μ Q E ⟨t, rfl, q⟩
  unfold t__law_fields
  refine fl_at (x := "NoElement") (fs := [("key", t)]) (v := t) rfl rfl (by simp) ?_
  refine fl_at (x := "BadOperations") (fs := [("value", t)]) (v := t) rfl rfl (by simp) ?_
  refine fl_at (x := "Impossible") (fs := [("index", t)]) (v := t) rfl rfl (by simp) ?_
  refine fl_at (x := "NoNumber") (fs := [("number", t)]) (v := t) rfl rfl (by simp) ?_
  refine fl_at (x := "NotKept") (fs := [("value", t)]) (v := t) rfl rfl (by simp) ?_
  refine fl_at (x := "Conflict") (fs := [("value", t)]) (v := t) rfl rfl (by simp) ?_
  refine fl_at (x := "NotPatch") (fs := [("value", t)]) (v := t) rfl rfl (by simp) ?_
  refine ⟨(by show 7 ≤ sizeLine; decide), ?_⟩
  dsimp only
  refine r_var rfl ?_
  refine fl_at (x := "TooDear") (fs := [("key", t)]) (v := t) rfl rfl (by simp) ?_
  refine fl_at (x := "BadTree") (fs := [("value", t)]) (v := t) rfl rfl (by simp) ?_
  refine fl_at (x := "BadCosts") (fs := [("value", t)]) (v := t) rfl rfl (by simp) ?_
  refine fl_at (x := "Root") (fs := [("key", t)]) (v := t) rfl rfl (by simp) ?_
  refine fl_at (x := "NotFocused") (fs := [("key", t)]) (v := t) rfl rfl (by simp) ?_
  refine fl_at (x := "Lost") (fs := [("value", t)]) (v := t) rfl rfl (by simp) ?_
  refine ⟨(by show 6 ≤ sizeLine; decide), ?_⟩
  refine l_add (by show 13 ≤ sizeLine; decide) ?_
  dsimp only
  refine r_var rfl ?_
  refine fl_at (x := "BadText") (fs := [("line", t)]) (v := t) rfl rfl (by simp) ?_
  refine fl_at (x := "BadLine") (fs := [("line", t)]) (v := t) rfl rfl (by simp) ?_
  refine ⟨(by show 2 ≤ sizeLine; decide), ?_⟩
  refine l_add (by show 15 ≤ sizeLine; decide) ?_
  exact q
end LK
/-! PX2: the law of k12. -/
namespace LK
open PySem PySem.Spec PyProof.Rows L2 DS MA
theorem ne_txt {μ : Mu} {Q : SD → Mu → Prop} {u v : Str} (q : Q (.bl (true != decide (u = v))) μ) : dEq true (.str u) (.str v) μ Q := by
  have : eqD μ (.str u) (.str v) = some (decide (u = v)) := by simp [eqD]
  unfold dEq
  rw [this]
  exact q
def at17 (n : Nat) : List SD := (List.range 17).map fun (k : Nat) => SD.bl (decide ((k : Int) = n))
def sameB (a b : List SD) : Bool := match pdS (.lst a), pdS (.lst b) with
  | some p, some q => SeqAt.shaped p && SeqAt.shaped q && PyData.eqv p q
  | _, _ => false
theorem same_at : ((List.range 17).all fun n => match xfl[n]? with
    | some p => sameB (isL p.1) (at17 n)
    | none => false) = true := by decide +kernel
theorem ne_isL {μ : Mu} {Q : SD → Mu → Prop} {n : Nat} {p : Str × List Str} (h : xfl[n]? = some p) (q : Q (.bl false) μ) : dEq true (.lst (isL p.1)) (.lst (at17 n)) μ Q := by
  have hn : n < 17 := (List.getElem?_eq_some_iff.mp h).1
  have s := List.all_eq_true.mp same_at n (List.mem_range.mpr hn)
  rw [h] at s
  have e : eqD μ (.lst (isL p.1)) (.lst (at17 n)) = some true := by
    have s : sameB (isL p.1) (at17 n) = true := s
    unfold sameB at s
    unfold eqD
    simp only [pd]
    cases h1 : pdS (.lst (isL p.1)) with
    | none => rw [h1] at s; cases s
    | some a =>
      cases h2 : pdS (.lst (at17 n)) with
      | none => rw [h1, h2] at s; cases s
      | some b =>
        rw [h1, h2] at s
        simp only [Bool.and_eq_true] at s
        simp only
        rw [if_pos ⟨s.1.1, s.1.2⟩, s.2]
  unfold dEq
  rw [e]
  exact q
theorem exL_at {t d : SD} {n : Nat} (h : (exL t)[n]? = some d) : ∃ p, xfl[n]? = some p ∧ d = .exc p.1 (p.2.map fun f => (f, t)) ∧ p.1 ∈ xnames := by
  unfold exL at h
  rw [List.getElem?_map] at h
  cases e : xfl[n]? with
  | none => rw [e] at h; cases h
  | some p =>
    rw [e] at h
    cases h
    exact ⟨p, rfl, rfl, of_decide_eq_true (List.all_eq_true.mp xfl_names p (List.mem_of_getElem? e))⟩
def sp_law : DSp := fun ds μ Q _ => ∃ ns : List Int, ds = [.rol (ns.map SD.int)] ∧ ns.length ≤ 63 ∧ ∀ μ', Q (.bl true) μ'
theorem len_law : ∀ ds μ Q E, sp_law ds μ Q E → ds.length = 1 := by rintro ds μ Q E ⟨ns, rfl, _⟩; rfl
def t_law : DTS := (dSeq (dSet (dCall sp__law_hand [] (dCons (dVar 0) (dCons (dC (.int 0)) dNil))) 1)
    (dSeq (dFor (jSeq (dOp dAdd (dLcS (jRng1 (dCons (dC (.int 6)) dNil)) (hName 6) dYes (dCall sp__law_odd [] (dCons (dVar 1) dNil)) [6]) (dLst (dCons (dC .non) (dCons (dC (.int 0)) (dCons (dTup (dCons (dC (.str "a")) (dCons (dC (.str "b")) dNil))) dNil)))))) (hName 2) (dFor (jSeq (dTup (dCons (dCall sp__law_made [] (dCons (dVar 2) dNil)) (dCons (dCall sp__law_named [] (dCons (dVar 2) dNil)) dNil)))) (hName 3) (dSeq (dIfS (dTest (dOp (dEq true) (dCB drReprQ (dCons (dCall sp__law_fields [] (dCons (dVar 3) dNil)) dNil)) (dCB drReprQ (dCons (dOp dMul (dLst (dCons (dVar 2) dNil)) (dC (.int 15))) dNil)))) (dRet (dC (.bl false))) dNext)
    (dFor (jEnum (dCons (dVar 3) dNil)) (hTup 2 (hCons (hName 4) (hCons (hName 5) hNil))) (dSeq (dIfS (dTest (dOp (dEq true) (dCall sp__law_kinds [] (dCons (dVar 5) dNil)) (dLcS (jRng1 (dCons (dC (.int 17)) dNil)) (hName 7) dYes (dOp (dEq false) (dVar 7) (dVar 4)) [7]))) (dRet (dC (.bl false))) dNext)
    (dIfS (dOr (dNot (dTest (dIsX (kX xnames "KeyedError") (dVar 5)))) (dNot (dTest (dIsX (kX xnames "ValueError") (dVar 5))))) (dRet (dC (.bl false))) dNext))))))
    (dRet (dC (.bl true)))))
theorem read_law : ∀ ds μ Q E, sp_law ds μ Q E → t_law { nx := fun _ μ' => Q .non μ', rt := Q } (begin_ ["_law_script", "_law_hand_here", "_law_thing", "_law_made_here", "_law_nth", "_law_error", "_law_turn", "_law_at"] ds) μ := by
  rintro ds μ Q E ⟨ns, rfl, hl, q⟩
  unfold t_law dFor
  refine r_var rfl ?_
  refine ⟨ns, 0, rfl, by decide, fun h μ1 _ _ H1 => ?_⟩
  dsimp only
  unfold dLcS dLc
  refine ⟨⟨by decide, by decide⟩, (by show 6 ≤ sizeLine; decide), fun i acc μ' => acc.length = i ∧ i ≤ 6 ∧ (∀ d ∈ acc, Val 0 14 42 d) ∧ HandAt μ' h (14 * i), ⟨rfl, by decide, (fun _ z => by cases z), H1⟩, fun _ _ _ _ _ => trivial, ?_, ?_⟩
  · rintro i d acc μ2 hd ⟨hl2, i6, hv, H2⟩
    have hi := (List.getElem?_eq_some_iff.mp hd).1
    have hi : i < 6 := by simpa using hi
    refine ifT rfl ?_
    refine r_var rfl ?_
    refine ⟨h, 14 * i, rfl, by omega, H2, fun x μ3 vx H3 _ => ?_⟩
    refine ⟨by simp [hl2], by omega, fun y hy => ?_, H3.mono (by omega)⟩
    rcases List.mem_append.mp hy with hy | hy
    · exact hv y hy
    · have := List.mem_singleton.mp hy; subst this; exact vx
  rintro acc μ2 ⟨hl2, _, hv, H2⟩
  refine ⟨(by show 2 ≤ sizeLine; decide), ?_⟩
  refine ⟨(by show 3 ≤ sizeLine; decide), ?_⟩
  have la : acc.length = 6 := by simpa using hl2
  refine l_add (by rw [la]; show 6 + 3 ≤ sizeLine; decide) ?_
  generalize hL : acc ++ [SD.non, .int 0, .tup [.str "a", .str "b"]] = L
  have vL : ∀ d ∈ L, Val 0 14 42 d := by
    intro d hd
    rw [← hL] at hd
    rcases List.mem_append.mp hd with hd | hd
    · exact hv d hd
    · exact fitB_V (D := 14) (B := 42) (xs := [SD.non, .int 0, .tup [.str "a", .str "b"]]) (by decide +kernel) d hd
  refine ⟨fun _ ρ _ => ∃ x2 x3 x4 x5 x6 x7 : Option SD, ρ = [some (.rol (ns.map SD.int)), some (.ref h), x2, x3, x4, x5, x6, x7], ⟨_, _, _, _, _, _, rfl⟩, fun _ _ _ _ _ => rfl, ?_, ?_⟩
  · rintro i t ρ μ3 ht ⟨x2, x3, x4, x5, x6, x7, rfl⟩
    have vt := vL t (List.mem_of_getElem? ht)
    dsimp only
    refine r_var rfl ?_
    refine ⟨t, rfl, ?_⟩
    refine r_var rfl ?_
    refine ⟨t, rfl, ?_⟩
    refine ⟨(by show 2 ≤ sizeLine; decide), ?_⟩
    refine ⟨fun _ ρ _ => ∃ x3 x4 x5 x6 x7 : Option SD, ρ = [some (.rol (ns.map SD.int)), some (.ref h), some t, x3, x4, x5, x6, x7], ⟨_, _, _, _, _, rfl⟩, fun _ _ _ _ _ => rfl, ?_, ?_⟩
    · rintro i2 m ρ μ4 hm ⟨x3, x4, x5, x6, x7, rfl⟩
      have em : m = .lst (exL t) := by
        have := List.mem_of_getElem? hm
        simpa using this
      subst em
      dsimp only
      refine r_var rfl ?_
      refine ⟨t, rfl, ?_⟩
      have vr : Val 0 15 (15 * 43) (.lst (List.replicate 15 t)) := Val.lst (ValL.of (n := 15) (fun d hd => by rw [List.eq_of_mem_replicate hd]; exact vt) (by simp))
      refine r_reprQ vr (by decide) (by decide) (by decide) ?_
      refine r_var rfl ?_
      refine ⟨(by show 1 ≤ sizeLine; decide), ?_⟩
      refine l_mul ⟨by decide, by decide, by show 1 * 15 ≤ sizeLine; decide⟩ ?_
      refine r_reprQ (d := .lst (List.replicate 15 t)) vr (by decide) (by decide) (by decide) ?_
      refine ne_txt ?_
      refine ifF (by rw [decide_eq_true rfl]; rfl) ?_
      dsimp only [dNext]
      refine r_var rfl ?_
      refine ⟨rfl, fun _ ρ _ => ∃ x4 x5 x6 x7 : Option SD, ρ = [some (.rol (ns.map SD.int)), some (.ref h), some t, some (.lst (exL t)), x4, x5, x6, x7], ⟨_, _, _, _, rfl⟩, fun _ _ _ _ _ => rfl, ?_, ?_⟩
      · rintro n e ρ μ5 he ⟨x4, x5, x6, x7, rfl⟩
        obtain ⟨y, hy, rfl⟩ := enums_at he
        obtain ⟨p, hp, rfl, hx⟩ := exL_at hy
        refine ⟨rfl, rfl, ?_⟩
        dsimp only
        refine r_var rfl ?_
        refine ⟨p.1, _, rfl, hx, ?_⟩
        refine ⟨⟨by decide, by decide⟩, ?_⟩
        refine lc_pure (zs := at17 n) trivial (by decide) (by simp [at17]) ?_ ?_
        · intro k d y hd hy R r
          have hk := (List.getElem?_eq_some_iff.mp hd).1
          have hk : k < 17 := by simpa using hk
          unfold at17 at hy
          rw [List.getElem?_map, List.getElem?_range hk] at hy
          rw [List.getElem?_map, List.getElem?_range (by simpa using hk)] at hd
          cases hy
          cases hd
          refine r_var rfl ?_
          refine r_var rfl ?_
          exact i_eq r
        refine ne_isL hp ?_
        refine ifF rfl ?_
        dsimp only [dNext]
        refine xi_at rfl (kx_ke hx) ?_
        refine ifF rfl ?_
        refine xi_at rfl (kx_ve hx) ?_
        refine ifF rfl ?_
        exact ⟨_, _, _, _, rfl⟩
      · rintro ρ μ5 ⟨x4, x5, x6, x7, rfl⟩
        exact ⟨_, _, _, _, _, rfl⟩
    · rintro ρ μ4 ⟨x3, x4, x5, x6, x7, rfl⟩
      exact ⟨_, _, _, _, _, _, rfl⟩
  · rintro ρ μ3 ⟨x2, x3, x4, x5, x6, x7, rfl⟩
    exact q _
theorem law_takes {ns : List Int} (hl : ns.length ≤ 63) : ∀ μ, sp_law [.rol (ns.map SD.int)] μ (fun d _ => d = .bl true) (fun _ _ _ => False) := fun μ => ⟨ns, rfl, hl, fun _ => rfl⟩
end LK
namespace LK
open PySem PySem.Spec PyProof.Rows L2 DS MA
def top (i : Nat) : Stmt := PySem.Challenge.pw_keyedmoves_k12_errors_by_themselves.main.body.getD i (.Pass ⟨0, 0, 0, 0⟩)
abbrev s__law_hand : Stmt := top 20
abbrev s__law_take : Stmt := top 21
abbrev s__law_of : Stmt := top 22
abbrev s__law_odd : Stmt := top 23
abbrev s__law_kinds : Stmt := top 24
abbrev s__law_made : Stmt := top 25
abbrev s__law_named : Stmt := top 26
abbrev s__law_fields : Stmt := top 27
abbrev s_law : Stmt := top 28
theorem sc__law_hand : FnScope ["_law_script", "_law_k", "_law_cell", "_law_great"] ["_law_script", "_law_k"] (defScope s__law_hand) := ⟨rfl, rfl, rfl, by decide +kernel, rfl, by decide +kernel, by decide +kernel⟩
theorem sc__law_take : FnScope ["_law_hand_here", "_law_many", "_law_turn", "_law_prime", "_law_mixed", "_law_digit"] ["_law_hand_here", "_law_many"] (defScope s__law_take) := ⟨rfl, rfl, rfl, by decide +kernel, rfl, by decide +kernel, by decide +kernel⟩
theorem sc__law_of : FnScope ["_law_hand_here", "_law_items"] ["_law_hand_here", "_law_items"] (defScope s__law_of) := ⟨rfl, rfl, rfl, by decide +kernel, rfl, by decide +kernel, by decide +kernel⟩
theorem sc__law_odd : FnScope ["_law_hand_here", "_law_some", "_law_thing", "_law_turn"] ["_law_hand_here"] (defScope s__law_odd) := ⟨rfl, rfl, rfl, by decide +kernel, rfl, by decide +kernel, by decide +kernel⟩
theorem sc__law_kinds : FnScope ["_law_error", "_law_found"] ["_law_error"] (defScope s__law_kinds) := ⟨rfl, rfl, rfl, by decide +kernel, rfl, by decide +kernel, by decide +kernel⟩
theorem sc__law_made : FnScope ["_law_thing", "_law_found"] ["_law_thing"] (defScope s__law_made) := ⟨rfl, rfl, rfl, by decide +kernel, rfl, by decide +kernel, by decide +kernel⟩
theorem sc__law_named : FnScope ["_law_thing", "_law_found"] ["_law_thing"] (defScope s__law_named) := ⟨rfl, rfl, rfl, by decide +kernel, rfl, by decide +kernel, by decide +kernel⟩
theorem sc__law_fields : FnScope ["_law_made_here", "_law_found"] ["_law_made_here"] (defScope s__law_fields) := ⟨rfl, rfl, rfl, by decide +kernel, rfl, by decide +kernel, by decide +kernel⟩
theorem sc_law : FnScope ["_law_script", "_law_hand_here", "_law_thing", "_law_made_here", "_law_nth", "_law_error", "_law_turn", "_law_at"] ["_law_script"] (defScope s_law) := ⟨rfl, rfl, rfl, by decide +kernel, rfl, by decide +kernel, by decide +kernel⟩
abbrev s_NoElement_init : Stmt := (inCls (top 2)).getD 0 (.Pass ⟨0, 0, 0, 0⟩)
theorem sc_NoElement_init : FnScope ["self", "key"] ["self", "key"] (defScope s_NoElement_init) := ⟨rfl, rfl, rfl, by decide +kernel, rfl, by decide +kernel, by decide +kernel⟩
abbrev s_BadOperations_init : Stmt := (inCls (top 3)).getD 0 (.Pass ⟨0, 0, 0, 0⟩)
theorem sc_BadOperations_init : FnScope ["self", "value"] ["self", "value"] (defScope s_BadOperations_init) := ⟨rfl, rfl, rfl, by decide +kernel, rfl, by decide +kernel, by decide +kernel⟩
abbrev s_Impossible_init : Stmt := (inCls (top 4)).getD 0 (.Pass ⟨0, 0, 0, 0⟩)
theorem sc_Impossible_init : FnScope ["self", "index"] ["self", "index"] (defScope s_Impossible_init) := ⟨rfl, rfl, rfl, by decide +kernel, rfl, by decide +kernel, by decide +kernel⟩
abbrev s_NoNumber_init : Stmt := (inCls (top 6)).getD 0 (.Pass ⟨0, 0, 0, 0⟩)
theorem sc_NoNumber_init : FnScope ["self", "number"] ["self", "number"] (defScope s_NoNumber_init) := ⟨rfl, rfl, rfl, by decide +kernel, rfl, by decide +kernel, by decide +kernel⟩
abbrev s_NotKept_init : Stmt := (inCls (top 7)).getD 0 (.Pass ⟨0, 0, 0, 0⟩)
theorem sc_NotKept_init : FnScope ["self", "value"] ["self", "value"] (defScope s_NotKept_init) := ⟨rfl, rfl, rfl, by decide +kernel, rfl, by decide +kernel, by decide +kernel⟩
abbrev s_Conflict_init : Stmt := (inCls (top 8)).getD 0 (.Pass ⟨0, 0, 0, 0⟩)
theorem sc_Conflict_init : FnScope ["self", "value"] ["self", "value"] (defScope s_Conflict_init) := ⟨rfl, rfl, rfl, by decide +kernel, rfl, by decide +kernel, by decide +kernel⟩
abbrev s_NotPatch_init : Stmt := (inCls (top 9)).getD 0 (.Pass ⟨0, 0, 0, 0⟩)
theorem sc_NotPatch_init : FnScope ["self", "value"] ["self", "value"] (defScope s_NotPatch_init) := ⟨rfl, rfl, rfl, by decide +kernel, rfl, by decide +kernel, by decide +kernel⟩
abbrev s_TooDear_init : Stmt := (inCls (top 10)).getD 0 (.Pass ⟨0, 0, 0, 0⟩)
theorem sc_TooDear_init : FnScope ["self", "key"] ["self", "key"] (defScope s_TooDear_init) := ⟨rfl, rfl, rfl, by decide +kernel, rfl, by decide +kernel, by decide +kernel⟩
abbrev s_BadTree_init : Stmt := (inCls (top 11)).getD 0 (.Pass ⟨0, 0, 0, 0⟩)
theorem sc_BadTree_init : FnScope ["self", "value"] ["self", "value"] (defScope s_BadTree_init) := ⟨rfl, rfl, rfl, by decide +kernel, rfl, by decide +kernel, by decide +kernel⟩
abbrev s_BadCosts_init : Stmt := (inCls (top 12)).getD 0 (.Pass ⟨0, 0, 0, 0⟩)
theorem sc_BadCosts_init : FnScope ["self", "value"] ["self", "value"] (defScope s_BadCosts_init) := ⟨rfl, rfl, rfl, by decide +kernel, rfl, by decide +kernel, by decide +kernel⟩
abbrev s_Root_init : Stmt := (inCls (top 13)).getD 0 (.Pass ⟨0, 0, 0, 0⟩)
theorem sc_Root_init : FnScope ["self", "key"] ["self", "key"] (defScope s_Root_init) := ⟨rfl, rfl, rfl, by decide +kernel, rfl, by decide +kernel, by decide +kernel⟩
abbrev s_NotFocused_init : Stmt := (inCls (top 14)).getD 0 (.Pass ⟨0, 0, 0, 0⟩)
theorem sc_NotFocused_init : FnScope ["self", "key"] ["self", "key"] (defScope s_NotFocused_init) := ⟨rfl, rfl, rfl, by decide +kernel, rfl, by decide +kernel, by decide +kernel⟩
abbrev s_Lost_init : Stmt := (inCls (top 15)).getD 0 (.Pass ⟨0, 0, 0, 0⟩)
theorem sc_Lost_init : FnScope ["self", "value"] ["self", "value"] (defScope s_Lost_init) := ⟨rfl, rfl, rfl, by decide +kernel, rfl, by decide +kernel, by decide +kernel⟩
abbrev s_BadText_init : Stmt := (inCls (top 17)).getD 0 (.Pass ⟨0, 0, 0, 0⟩)
theorem sc_BadText_init : FnScope ["self", "line"] ["self", "line"] (defScope s_BadText_init) := ⟨rfl, rfl, rfl, by decide +kernel, rfl, by decide +kernel, by decide +kernel⟩
abbrev s_BadLine_init : Stmt := (inCls (top 18)).getD 0 (.Pass ⟨0, 0, 0, 0⟩)
theorem sc_BadLine_init : FnScope ["self", "line"] ["self", "line"] (defScope s_BadLine_init) := ⟨rfl, rfl, rfl, by decide +kernel, rfl, by decide +kernel, by decide +kernel⟩
structure All (K : PySem.W.Frag) (mg : Str → Option Value) where
  x_NoElement : XDef K mg "NoElement" "key" "key" "NoElement.__init__" s_NoElement_init
  x_BadOperations : XDef K mg "BadOperations" "value" "value" "BadOperations.__init__" s_BadOperations_init
  x_Impossible : XDef K mg "Impossible" "index" "index" "Impossible.__init__" s_Impossible_init
  x_DifferentRoots : XDef0 K mg "DifferentRoots"
  x_NoNumber : XDef K mg "NoNumber" "number" "number" "NoNumber.__init__" s_NoNumber_init
  x_NotKept : XDef K mg "NotKept" "value" "value" "NotKept.__init__" s_NotKept_init
  x_Conflict : XDef K mg "Conflict" "value" "value" "Conflict.__init__" s_Conflict_init
  x_NotPatch : XDef K mg "NotPatch" "value" "value" "NotPatch.__init__" s_NotPatch_init
  x_TooDear : XDef K mg "TooDear" "key" "key" "TooDear.__init__" s_TooDear_init
  x_BadTree : XDef K mg "BadTree" "value" "value" "BadTree.__init__" s_BadTree_init
  x_BadCosts : XDef K mg "BadCosts" "value" "value" "BadCosts.__init__" s_BadCosts_init
  x_Root : XDef K mg "Root" "key" "key" "Root.__init__" s_Root_init
  x_NotFocused : XDef K mg "NotFocused" "key" "key" "NotFocused.__init__" s_NotFocused_init
  x_Lost : XDef K mg "Lost" "value" "value" "Lost.__init__" s_Lost_init
  x_NothingToUndo : XDef0 K mg "NothingToUndo"
  x_BadText : XDef K mg "BadText" "line" "line" "BadText.__init__" s_BadText_init
  x_BadLine : XDef K mg "BadLine" "line" "line" "BadLine.__init__" s_BadLine_init
  b_KeyedError : XBase K mg "KeyedError"
  a_BadCosts : Addr
  m_BadCosts : mg "BadCosts" = some (.ref a_BadCosts)
  kit_BadCosts : ∀ y b C, kX xnames "BadCosts" y = some b → PySem.W.nsIn K mainGlobals y = some (some (.ref C)) → PySem.W.kitOne K (.ref C) (.ref a_BadCosts) = some b
  a_BadLine : Addr
  m_BadLine : mg "BadLine" = some (.ref a_BadLine)
  kit_BadLine : ∀ y b C, kX xnames "BadLine" y = some b → PySem.W.nsIn K mainGlobals y = some (some (.ref C)) → PySem.W.kitOne K (.ref C) (.ref a_BadLine) = some b
  a_BadOperations : Addr
  m_BadOperations : mg "BadOperations" = some (.ref a_BadOperations)
  kit_BadOperations : ∀ y b C, kX xnames "BadOperations" y = some b → PySem.W.nsIn K mainGlobals y = some (some (.ref C)) → PySem.W.kitOne K (.ref C) (.ref a_BadOperations) = some b
  a_BadText : Addr
  m_BadText : mg "BadText" = some (.ref a_BadText)
  kit_BadText : ∀ y b C, kX xnames "BadText" y = some b → PySem.W.nsIn K mainGlobals y = some (some (.ref C)) → PySem.W.kitOne K (.ref C) (.ref a_BadText) = some b
  a_BadTree : Addr
  m_BadTree : mg "BadTree" = some (.ref a_BadTree)
  kit_BadTree : ∀ y b C, kX xnames "BadTree" y = some b → PySem.W.nsIn K mainGlobals y = some (some (.ref C)) → PySem.W.kitOne K (.ref C) (.ref a_BadTree) = some b
  a_Conflict : Addr
  m_Conflict : mg "Conflict" = some (.ref a_Conflict)
  kit_Conflict : ∀ y b C, kX xnames "Conflict" y = some b → PySem.W.nsIn K mainGlobals y = some (some (.ref C)) → PySem.W.kitOne K (.ref C) (.ref a_Conflict) = some b
  a_DifferentRoots : Addr
  m_DifferentRoots : mg "DifferentRoots" = some (.ref a_DifferentRoots)
  kit_DifferentRoots : ∀ y b C, kX xnames "DifferentRoots" y = some b → PySem.W.nsIn K mainGlobals y = some (some (.ref C)) → PySem.W.kitOne K (.ref C) (.ref a_DifferentRoots) = some b
  a_Impossible : Addr
  m_Impossible : mg "Impossible" = some (.ref a_Impossible)
  kit_Impossible : ∀ y b C, kX xnames "Impossible" y = some b → PySem.W.nsIn K mainGlobals y = some (some (.ref C)) → PySem.W.kitOne K (.ref C) (.ref a_Impossible) = some b
  a_KeyedError : Addr
  m_KeyedError : mg "KeyedError" = some (.ref a_KeyedError)
  kit_KeyedError : ∀ y b C, kX xnames "KeyedError" y = some b → PySem.W.nsIn K mainGlobals y = some (some (.ref C)) → PySem.W.kitOne K (.ref C) (.ref a_KeyedError) = some b
  a_Lost : Addr
  m_Lost : mg "Lost" = some (.ref a_Lost)
  kit_Lost : ∀ y b C, kX xnames "Lost" y = some b → PySem.W.nsIn K mainGlobals y = some (some (.ref C)) → PySem.W.kitOne K (.ref C) (.ref a_Lost) = some b
  a_NoElement : Addr
  m_NoElement : mg "NoElement" = some (.ref a_NoElement)
  kit_NoElement : ∀ y b C, kX xnames "NoElement" y = some b → PySem.W.nsIn K mainGlobals y = some (some (.ref C)) → PySem.W.kitOne K (.ref C) (.ref a_NoElement) = some b
  a_NoNumber : Addr
  m_NoNumber : mg "NoNumber" = some (.ref a_NoNumber)
  kit_NoNumber : ∀ y b C, kX xnames "NoNumber" y = some b → PySem.W.nsIn K mainGlobals y = some (some (.ref C)) → PySem.W.kitOne K (.ref C) (.ref a_NoNumber) = some b
  a_NotFocused : Addr
  m_NotFocused : mg "NotFocused" = some (.ref a_NotFocused)
  kit_NotFocused : ∀ y b C, kX xnames "NotFocused" y = some b → PySem.W.nsIn K mainGlobals y = some (some (.ref C)) → PySem.W.kitOne K (.ref C) (.ref a_NotFocused) = some b
  a_NotKept : Addr
  m_NotKept : mg "NotKept" = some (.ref a_NotKept)
  kit_NotKept : ∀ y b C, kX xnames "NotKept" y = some b → PySem.W.nsIn K mainGlobals y = some (some (.ref C)) → PySem.W.kitOne K (.ref C) (.ref a_NotKept) = some b
  a_NotPatch : Addr
  m_NotPatch : mg "NotPatch" = some (.ref a_NotPatch)
  kit_NotPatch : ∀ y b C, kX xnames "NotPatch" y = some b → PySem.W.nsIn K mainGlobals y = some (some (.ref C)) → PySem.W.kitOne K (.ref C) (.ref a_NotPatch) = some b
  a_NothingToUndo : Addr
  m_NothingToUndo : mg "NothingToUndo" = some (.ref a_NothingToUndo)
  kit_NothingToUndo : ∀ y b C, kX xnames "NothingToUndo" y = some b → PySem.W.nsIn K mainGlobals y = some (some (.ref C)) → PySem.W.kitOne K (.ref C) (.ref a_NothingToUndo) = some b
  a_Root : Addr
  m_Root : mg "Root" = some (.ref a_Root)
  kit_Root : ∀ y b C, kX xnames "Root" y = some b → PySem.W.nsIn K mainGlobals y = some (some (.ref C)) → PySem.W.kitOne K (.ref C) (.ref a_Root) = some b
  a_TooDear : Addr
  m_TooDear : mg "TooDear" = some (.ref a_TooDear)
  kit_TooDear : ∀ y b C, kX xnames "TooDear" y = some b → PySem.W.nsIn K mainGlobals y = some (some (.ref C)) → PySem.W.kitOne K (.ref C) (.ref a_TooDear) = some b
  kit_ValueError : ∀ y b C, kX xnames "ValueError" y = some b → PySem.W.nsIn K mainGlobals y = some (some (.ref C)) → PySem.W.kitOne K (.ref C) (.type "ValueError") = some b
  _law_hand : Def K mg "_law_hand" s__law_hand ["_law_script", "_law_k"]
  _law_take : Def K mg "_law_take" s__law_take ["_law_hand_here", "_law_many"]
  _law_of : Def K mg "_law_of" s__law_of ["_law_hand_here", "_law_items"]
  _law_odd : Def K mg "_law_odd" s__law_odd ["_law_hand_here"]
  _law_kinds : Def K mg "_law_kinds" s__law_kinds ["_law_error"]
  _law_made : Def K mg "_law_made" s__law_made ["_law_thing"]
  _law_named : Def K mg "_law_named" s__law_named ["_law_thing"]
  _law_fields : Def K mg "_law_fields" s__law_fields ["_law_made_here"]
  law : Def K mg "law" s_law ["_law_script"]
  z_ValueError : mg "ValueError" = none
  z_abs : mg "abs" = none
  z_enumerate : mg "enumerate" = none
  z_int : mg "int" = none
  z_isinstance : mg "isinstance" = none
  z_len : mg "len" = none
  z_range : mg "range" = none
  z_repr : mg "repr" = none
section
variable {P : Program} {w : World} {K : PySem.W.Frag} {mg : Str → Option Value} {base : Heap}
theorem okx_NoElement (T : All K mg) : XIni P w base T.x_NoElement 2 :=
  xini_ok T.x_NoElement T.b_KeyedError sc_NoElement_init rfl rfl (.inl rfl) (.inl rfl) (by decide) (by decide) (by decide) fun _ _ => ⟨_, rfl⟩
theorem okx_BadOperations (T : All K mg) : XIni P w base T.x_BadOperations 2 :=
  xini_ok T.x_BadOperations T.b_KeyedError sc_BadOperations_init rfl rfl (.inl rfl) (.inl rfl) (by decide) (by decide) (by decide) fun _ _ => ⟨_, rfl⟩
theorem okx_Impossible (T : All K mg) : XIni P w base T.x_Impossible 2 :=
  xini_ok T.x_Impossible T.b_KeyedError sc_Impossible_init rfl rfl (.inl rfl) (.inl rfl) (by decide) (by decide) (by decide) fun _ _ => ⟨_, rfl⟩
theorem okx_NoNumber (T : All K mg) : XIni P w base T.x_NoNumber 2 :=
  xini_ok T.x_NoNumber T.b_KeyedError sc_NoNumber_init rfl rfl (.inl rfl) (.inl rfl) (by decide) (by decide) (by decide) fun _ _ => ⟨_, rfl⟩
theorem okx_NotKept (T : All K mg) : XIni P w base T.x_NotKept 2 :=
  xini_ok T.x_NotKept T.b_KeyedError sc_NotKept_init rfl rfl (.inl rfl) (.inl rfl) (by decide) (by decide) (by decide) fun _ _ => ⟨_, rfl⟩
theorem okx_Conflict (T : All K mg) : XIni P w base T.x_Conflict 2 :=
  xini_ok T.x_Conflict T.b_KeyedError sc_Conflict_init rfl rfl (.inl rfl) (.inl rfl) (by decide) (by decide) (by decide) fun _ _ => ⟨_, rfl⟩
theorem okx_NotPatch (T : All K mg) : XIni P w base T.x_NotPatch 2 :=
  xini_ok T.x_NotPatch T.b_KeyedError sc_NotPatch_init rfl rfl (.inl rfl) (.inl rfl) (by decide) (by decide) (by decide) fun _ _ => ⟨_, rfl⟩
theorem okx_TooDear (T : All K mg) : XIni P w base T.x_TooDear 2 :=
  xini_ok T.x_TooDear T.b_KeyedError sc_TooDear_init rfl rfl (.inl rfl) (.inl rfl) (by decide) (by decide) (by decide) fun _ _ => ⟨_, rfl⟩
theorem okx_BadTree (T : All K mg) : XIni P w base T.x_BadTree 2 :=
  xini_ok T.x_BadTree T.b_KeyedError sc_BadTree_init rfl rfl (.inl rfl) (.inl rfl) (by decide) (by decide) (by decide) fun _ _ => ⟨_, rfl⟩
theorem okx_BadCosts (T : All K mg) : XIni P w base T.x_BadCosts 2 :=
  xini_ok T.x_BadCosts T.b_KeyedError sc_BadCosts_init rfl rfl (.inl rfl) (.inl rfl) (by decide) (by decide) (by decide) fun _ _ => ⟨_, rfl⟩
theorem okx_Root (T : All K mg) : XIni P w base T.x_Root 2 :=
  xini_ok T.x_Root T.b_KeyedError sc_Root_init rfl rfl (.inl rfl) (.inl rfl) (by decide) (by decide) (by decide) fun _ _ => ⟨_, rfl⟩
theorem okx_NotFocused (T : All K mg) : XIni P w base T.x_NotFocused 2 :=
  xini_ok T.x_NotFocused T.b_KeyedError sc_NotFocused_init rfl rfl (.inl rfl) (.inl rfl) (by decide) (by decide) (by decide) fun _ _ => ⟨_, rfl⟩
theorem okx_Lost (T : All K mg) : XIni P w base T.x_Lost 2 :=
  xini_ok T.x_Lost T.b_KeyedError sc_Lost_init rfl rfl (.inl rfl) (.inl rfl) (by decide) (by decide) (by decide) fun _ _ => ⟨_, rfl⟩
theorem okx_BadText (T : All K mg) : XIni P w base T.x_BadText 2 :=
  xini_ok T.x_BadText T.b_KeyedError sc_BadText_init rfl rfl (.inl rfl) (.inl rfl) (by decide) (by decide) (by decide) fun _ _ => ⟨_, rfl⟩
theorem okx_BadLine (T : All K mg) : XIni P w base T.x_BadLine 2 :=
  xini_ok T.x_BadLine T.b_KeyedError sc_BadLine_init rfl rfl (.inl rfl) (.inl rfl) (by decide) (by decide) (by decide) fun _ _ => ⟨_, rfl⟩
theorem ok__law_hand (T : All K mg) : FnD P w base T._law_hand 1 sp__law_hand := by
  exact def_ok (k := 0) T._law_hand.F sc__law_hand _ (len_of (n := 2) len__law_hand) (fun cdv A outer s H E hq hr => (dss_cons (ds_set (i := 2) sc__law_hand.nd rfl (by first | exact Or.inl rfl | exact Or.inr rfl) (de_ifExp (dt_cmp opr_lt lr_lt (dv 1) (de_callB cr_len lc_len rfl T.z_len bt_len (da_cons (dv 0) da_nil)) (nomark _)) (de_ix (dv 0) (dv 1) (fun _ _ => rfl)) (de_op opr_add lr_add (de_op opr_mul lr_mul de_int (dv 1)) de_int)))
    (dss_cons (ds_set (i := 3) sc__law_hand.nd rfl (by first | exact Or.inl rfl | exact Or.inr rfl) (de_op opr_mul lr_mul (de_op op_mod lr_i2 (de_callB call_abs lc_abs rfl T.z_abs bt_abs (da_cons (dv 2) da_nil)) (de_op op_powW lr_i2 (de_op op_powW lr_i2 de_int de_int) de_int)) (de_callT call_int1 lc_int rfl T.z_int bt_int (da_cons (de_cmp opr_ge lr_cmp (de_callB call_abs lc_abs rfl T.z_abs bt_abs (da_cons (dv 2) da_nil)) (de_op op_powW lr_i2 de_int de_int) (nomark _)) da_nil))))
    (dss_one (ds_ret (de_lstM (da_cons (dv 3) (da_cons (de_op op_mod lr_i2 (de_op opr_mul lr_mul (de_op opr_add lr_add (de_op opr_add lr_add (de_op op_mod lr_i2 (dv 2) de_int) (de_op opr_mul lr_mul (de_op opr_mul lr_mul de_int (dv 1)) (dv 1))) de_int) de_int) de_int) (da_cons de_int da_nil))))))))) fun ds μ Q E h => read__law_hand ds μ Q E h
theorem ok__law_take (T : All K mg) : FnD P w base T._law_take 1 sp__law_take := by
  exact def_ok (k := 0) T._law_take.F sc__law_take _ (len_of (n := 2) len__law_take) (fun cdv A outer s H E hq hr => (dss_cons (ds_if (dt_cmp opr_gt lr_cmp (de_ix (dv 0) de_int (fun _ _ => rfl)) de_int (nomark _)) (dss_cons (ds_set (i := 5) sc__law_take.nd rfl (by first | exact Or.inl rfl | exact Or.inr rfl) (de_op op_mod lr_i2 (de_ix (dv 0) de_int (fun _ _ => rfl)) (dv 1)))
    (dss_cons (ds_asg (de_op op_fdivW lr_i2 (de_ix (dv 0) de_int (fun _ _ => rfl)) (dv 1)) (dg_sub (dv 0) de_int set_list ls_list))
    (dss_one (ds_ret (dv 5))))) dss_nil)
    (dss_cons (ds_set (i := 2) sc__law_take.nd rfl (by first | exact Or.inl rfl | exact Or.inr rfl) (de_op opr_add lr_add (de_ix (dv 0) de_int (fun _ _ => rfl)) de_int))
    (dss_cons (ds_asg (dv 2) (dg_sub (dv 0) de_int set_list ls_list))
    (dss_cons (ds_set (i := 3) sc__law_take.nd rfl (by first | exact Or.inl rfl | exact Or.inr rfl) (de_ix (de_lst (da_cons de_int (da_cons de_int (da_cons de_int (da_cons de_int (da_cons de_int (da_cons de_int da_nil))))))) (de_op op_mod lr_i2 (dv 2) de_int) (fun _ _ => rfl)))
    (dss_cons (ds_set (i := 4) sc__law_take.nd rfl (by first | exact Or.inl rfl | exact Or.inr rfl) (de_op op_mod lr_i2 (de_op op_powW lr_i2 (de_op opr_add lr_add (de_op opr_add lr_add (de_ix (dv 0) de_int (fun _ _ => rfl)) (de_op opr_mul lr_mul (de_op opr_mul lr_mul de_int (dv 2)) (dv 2))) (de_op opr_mul lr_mul de_int (dv 2))) de_int) (dv 3)))
    (dss_one (ds_ret (de_op op_mod lr_i2 (de_op op_fdivW lr_i2 (de_op op_mod lr_i2 (de_op opr_mul lr_mul (dv 4) (de_op opr_add lr_add (de_op op_mod lr_i2 (dv 4) de_int) (de_op opr_mul lr_mul de_int (dv 2)))) de_int) de_int) (dv 1)))))))))) fun ds μ Q E h => read__law_take ds μ Q E h
theorem ok__law_of (T : All K mg) : FnD P w base T._law_of 2 sp__law_of := by
  have F__law_take := ok__law_take (P := P) (w := w) (base := base) T
  exact def_ok (k := 1) T._law_of.F sc__law_of _ (len_of (n := 2) len__law_of) (fun cdv A outer s H E hq hr => (dss_one (ds_ret (de_ix (dv 1) (de_def F__law_take hq hr (da_cons (dv 0) (da_cons (de_callB cr_len lc_len rfl T.z_len bt_len (da_cons (dv 1) da_nil)) da_nil))) (fun _ _ => rfl))))) fun ds μ Q E h => read__law_of ds μ Q E h
theorem ok__law_odd (T : All K mg) : FnD P w base T._law_odd 3 sp__law_odd := by
  have F__law_take := ok__law_take (P := P) (w := w) (base := base) T
  have F__law_of := ok__law_of (P := P) (w := w) (base := base) T
  exact def_ok (k := 2) T._law_odd.F sc__law_odd _ (len_of (n := 1) len__law_odd) (fun cdv A outer s H E hq hr => (dss_cons (ds_set (i := 1) sc__law_odd.nd rfl (by first | exact Or.inl rfl | exact Or.inr rfl) (de_lst (da_cons de_non (da_cons de_bl (da_cons de_bl (da_cons de_int (da_cons de_int (da_cons (de_neg de_int) (da_cons (de_op op_powW lr_i2 de_int de_int) (da_cons de_str (da_cons de_str (da_cons de_str (da_cons de_str (da_cons de_str (da_cons de_str (da_cons (de_tup da_nil) (da_cons (de_lst da_nil) (da_cons de_dict0S (da_cons (de_tup (da_cons de_str (da_cons (de_tup da_nil) da_nil))) (da_cons (de_tup (da_cons de_str da_nil)) da_nil))))))))))))))))))))
    (dss_cons (ds_set (i := 2) sc__law_odd.nd rfl (by first | exact Or.inl rfl | exact Or.inr rfl) (de_def F__law_of hq hr (da_cons (dv 0) (da_cons (de_op opr_add lr_add (dv 1) (de_lst (da_cons (de_tup (da_cons de_str (da_cons de_str (da_cons de_str (da_cons de_non da_nil))))) (da_cons (de_tup (da_cons de_str (da_cons de_str da_nil))) (da_cons (de_tup (da_cons (de_tup (da_cons de_str (da_cons de_int da_nil))) da_nil)) da_nil))))) da_nil))))
    (dss_cons (ds_for PassesOwn.never rfl (di_range1 rfl T.z_range (da_cons (de_def F__law_of hq hr (da_cons (dv 0) (da_cons (de_lst (da_cons de_int (da_cons de_int (da_cons de_int (da_cons de_int (da_cons de_int (da_cons de_int da_nil))))))) da_nil))) da_nil)) (dg_name (i := 3) sc__law_odd.nd rfl (by first | exact Or.inl rfl | exact Or.inr rfl)) (dss_one (ds_set (i := 2) sc__law_odd.nd rfl (by first | exact Or.inl rfl | exact Or.inr rfl) (de_ifExp (dt_cmp (opr_eq (unit64 hr)) lr_eq (de_def F__law_take hq hr (da_cons (dv 0) (da_cons de_int da_nil))) de_int (nomark _)) (de_tup (da_cons (dv 2) da_nil)) (de_lst (da_cons (dv 2) da_nil))))))
    (dss_one (ds_ret (dv 2))))))) fun ds μ Q E h => read__law_odd ds μ Q E h
theorem ok__law_kinds (T : All K mg) : FnD P w base T._law_kinds 1 sp__law_kinds := by
  exact def_ok (k := 0) T._law_kinds.F sc__law_kinds _ (len_of (n := 1) len__law_kinds) (fun cdv A outer s H E hq hr => (dss_cons (ds_set (i := 1) sc__law_kinds.nd rfl (by first | exact Or.inl rfl | exact Or.inr rfl) (de_lst (da_cons (de_isX (dv 0) rfl T.z_isinstance rfl T.m_NoElement T.kit_NoElement) (da_cons (de_isX (dv 0) rfl T.z_isinstance rfl T.m_BadOperations T.kit_BadOperations) (da_cons (de_isX (dv 0) rfl T.z_isinstance rfl T.m_Impossible T.kit_Impossible) da_nil)))))
    (dss_cons (ds_set (i := 1) sc__law_kinds.nd rfl (by first | exact Or.inl rfl | exact Or.inr rfl) (de_op opr_add lr_add (dv 1) (de_lst (da_cons (de_isX (dv 0) rfl T.z_isinstance rfl T.m_NoNumber T.kit_NoNumber) (da_cons (de_isX (dv 0) rfl T.z_isinstance rfl T.m_NotKept T.kit_NotKept) (da_cons (de_isX (dv 0) rfl T.z_isinstance rfl T.m_Conflict T.kit_Conflict) da_nil))))))
    (dss_cons (ds_set (i := 1) sc__law_kinds.nd rfl (by first | exact Or.inl rfl | exact Or.inr rfl) (de_op opr_add lr_add (dv 1) (de_lst (da_cons (de_isX (dv 0) rfl T.z_isinstance rfl T.m_NotPatch T.kit_NotPatch) (da_cons (de_isX (dv 0) rfl T.z_isinstance rfl T.m_TooDear T.kit_TooDear) (da_cons (de_isX (dv 0) rfl T.z_isinstance rfl T.m_BadTree T.kit_BadTree) da_nil))))))
    (dss_cons (ds_set (i := 1) sc__law_kinds.nd rfl (by first | exact Or.inl rfl | exact Or.inr rfl) (de_op opr_add lr_add (dv 1) (de_lst (da_cons (de_isX (dv 0) rfl T.z_isinstance rfl T.m_BadCosts T.kit_BadCosts) (da_cons (de_isX (dv 0) rfl T.z_isinstance rfl T.m_Root T.kit_Root) (da_cons (de_isX (dv 0) rfl T.z_isinstance rfl T.m_NotFocused T.kit_NotFocused) da_nil))))))
    (dss_cons (ds_set (i := 1) sc__law_kinds.nd rfl (by first | exact Or.inl rfl | exact Or.inr rfl) (de_op opr_add lr_add (dv 1) (de_lst (da_cons (de_isX (dv 0) rfl T.z_isinstance rfl T.m_Lost T.kit_Lost) (da_cons (de_isX (dv 0) rfl T.z_isinstance rfl T.m_BadText T.kit_BadText) (da_cons (de_isX (dv 0) rfl T.z_isinstance rfl T.m_BadLine T.kit_BadLine) da_nil))))))
    (dss_one (ds_ret (de_op opr_add lr_add (dv 1) (de_lst (da_cons (de_isX (dv 0) rfl T.z_isinstance rfl T.m_DifferentRoots T.kit_DifferentRoots) (da_cons (de_isX (dv 0) rfl T.z_isinstance rfl T.m_NothingToUndo T.kit_NothingToUndo) da_nil)))))))))))) fun ds μ Q E h => read__law_kinds ds μ Q E h
theorem ok__law_made (T : All K mg) : FnD P w base T._law_made 4 sp__law_made := by
  have X_BadCosts := okx_BadCosts (P := P) (w := w) (base := base) T
  have X_BadLine := okx_BadLine (P := P) (w := w) (base := base) T
  have X_BadOperations := okx_BadOperations (P := P) (w := w) (base := base) T
  have X_BadText := okx_BadText (P := P) (w := w) (base := base) T
  have X_BadTree := okx_BadTree (P := P) (w := w) (base := base) T
  have X_Conflict := okx_Conflict (P := P) (w := w) (base := base) T
  have X_Impossible := okx_Impossible (P := P) (w := w) (base := base) T
  have X_Lost := okx_Lost (P := P) (w := w) (base := base) T
  have X_NoElement := okx_NoElement (P := P) (w := w) (base := base) T
  have X_NoNumber := okx_NoNumber (P := P) (w := w) (base := base) T
  have X_NotFocused := okx_NotFocused (P := P) (w := w) (base := base) T
  have X_NotKept := okx_NotKept (P := P) (w := w) (base := base) T
  have X_NotPatch := okx_NotPatch (P := P) (w := w) (base := base) T
  have X_Root := okx_Root (P := P) (w := w) (base := base) T
  have X_TooDear := okx_TooDear (P := P) (w := w) (base := base) T
  exact def_ok (k := 3) T._law_made.F sc__law_made _ (len_of (n := 1) len__law_made) (fun cdv A outer s H E hq hr => (dss_cons (ds_set (i := 1) sc__law_made.nd rfl (by first | exact Or.inl rfl | exact Or.inr rfl) (de_lst (da_cons (de_xmk X_NoElement hq hr (dv 0)) (da_cons (de_xmk X_BadOperations hq hr (dv 0)) (da_cons (de_xmk X_Impossible hq hr (dv 0)) (da_cons (de_xmk X_NoNumber hq hr (dv 0)) (da_cons (de_xmk X_NotKept hq hr (dv 0)) da_nil)))))))
    (dss_cons (ds_set (i := 1) sc__law_made.nd rfl (by first | exact Or.inl rfl | exact Or.inr rfl) (de_op opr_add lr_add (dv 1) (de_lst (da_cons (de_xmk X_Conflict hq hr (dv 0)) (da_cons (de_xmk X_NotPatch hq hr (dv 0)) (da_cons (de_xmk X_TooDear hq hr (dv 0)) (da_cons (de_xmk X_BadTree hq hr (dv 0)) (da_cons (de_xmk X_BadCosts hq hr (dv 0)) da_nil))))))))
    (dss_cons (ds_set (i := 1) sc__law_made.nd rfl (by first | exact Or.inl rfl | exact Or.inr rfl) (de_op opr_add lr_add (dv 1) (de_lst (da_cons (de_xmk X_Root hq hr (dv 0)) (da_cons (de_xmk X_NotFocused hq hr (dv 0)) (da_cons (de_xmk X_Lost hq hr (dv 0)) (da_cons (de_xmk X_BadText hq hr (dv 0)) (da_cons (de_xmk X_BadLine hq hr (dv 0)) da_nil))))))))
    (dss_one (ds_ret (de_op opr_add lr_add (dv 1) (de_lst (da_cons (de_xmk0 (D := T.x_DifferentRoots)) (da_cons (de_xmk0 (D := T.x_NothingToUndo)) da_nil)))))))))) fun ds μ Q E h => read__law_made ds μ Q E h
theorem ok__law_named (T : All K mg) : FnD P w base T._law_named 4 sp__law_named := by
  have X_BadCosts := okx_BadCosts (P := P) (w := w) (base := base) T
  have X_BadLine := okx_BadLine (P := P) (w := w) (base := base) T
  have X_BadOperations := okx_BadOperations (P := P) (w := w) (base := base) T
  have X_BadText := okx_BadText (P := P) (w := w) (base := base) T
  have X_BadTree := okx_BadTree (P := P) (w := w) (base := base) T
  have X_Conflict := okx_Conflict (P := P) (w := w) (base := base) T
  have X_Impossible := okx_Impossible (P := P) (w := w) (base := base) T
  have X_Lost := okx_Lost (P := P) (w := w) (base := base) T
  have X_NoElement := okx_NoElement (P := P) (w := w) (base := base) T
  have X_NoNumber := okx_NoNumber (P := P) (w := w) (base := base) T
  have X_NotFocused := okx_NotFocused (P := P) (w := w) (base := base) T
  have X_NotKept := okx_NotKept (P := P) (w := w) (base := base) T
  have X_NotPatch := okx_NotPatch (P := P) (w := w) (base := base) T
  have X_Root := okx_Root (P := P) (w := w) (base := base) T
  have X_TooDear := okx_TooDear (P := P) (w := w) (base := base) T
  exact def_ok (k := 3) T._law_named.F sc__law_named _ (len_of (n := 1) len__law_named) (fun cdv A outer s H E hq hr => (dss_cons (ds_set (i := 1) sc__law_named.nd rfl (by first | exact Or.inl rfl | exact Or.inr rfl) (de_lst (da_cons (de_xmkK X_NoElement hq hr (dk_cons (dv 0) dk_nil)) (da_cons (de_xmkK X_BadOperations hq hr (dk_cons (dv 0) dk_nil)) (da_cons (de_xmkK X_Impossible hq hr (dk_cons (dv 0) dk_nil)) (da_cons (de_xmkK X_NoNumber hq hr (dk_cons (dv 0) dk_nil)) da_nil))))))
    (dss_cons (ds_set (i := 1) sc__law_named.nd rfl (by first | exact Or.inl rfl | exact Or.inr rfl) (de_op opr_add lr_add (dv 1) (de_lst (da_cons (de_xmkK X_NotKept hq hr (dk_cons (dv 0) dk_nil)) (da_cons (de_xmkK X_Conflict hq hr (dk_cons (dv 0) dk_nil)) (da_cons (de_xmkK X_NotPatch hq hr (dk_cons (dv 0) dk_nil)) (da_cons (de_xmkK X_TooDear hq hr (dk_cons (dv 0) dk_nil)) da_nil)))))))
    (dss_cons (ds_set (i := 1) sc__law_named.nd rfl (by first | exact Or.inl rfl | exact Or.inr rfl) (de_op opr_add lr_add (dv 1) (de_lst (da_cons (de_xmkK X_BadTree hq hr (dk_cons (dv 0) dk_nil)) (da_cons (de_xmkK X_BadCosts hq hr (dk_cons (dv 0) dk_nil)) (da_cons (de_xmkK X_Root hq hr (dk_cons (dv 0) dk_nil)) (da_cons (de_xmkK X_NotFocused hq hr (dk_cons (dv 0) dk_nil)) da_nil)))))))
    (dss_one (ds_ret (de_op opr_add lr_add (dv 1) (de_lst (da_cons (de_xmkK X_Lost hq hr (dk_cons (dv 0) dk_nil)) (da_cons (de_xmkK X_BadText hq hr (dk_cons (dv 0) dk_nil)) (da_cons (de_xmkK X_BadLine hq hr (dk_cons (dv 0) dk_nil)) (da_cons (de_xmk0 (D := T.x_DifferentRoots)) (da_cons (de_xmk0 (D := T.x_NothingToUndo)) da_nil))))))))))))) fun ds μ Q E h => read__law_named ds μ Q E h
theorem ok__law_fields (T : All K mg) : FnD P w base T._law_fields 1 sp__law_fields := by
  exact def_ok (k := 0) T._law_fields.F sc__law_fields _ (len_of (n := 1) len__law_fields) (fun cdv A outer s H E hq hr => (dss_cons (ds_set (i := 1) sc__law_fields.nd rfl (by first | exact Or.inl rfl | exact Or.inr rfl) (de_lst (da_cons (de_fld (de_ix (dv 0) de_int (fun _ _ => rfl))) (da_cons (de_fld (de_ix (dv 0) de_int (fun _ _ => rfl))) (da_cons (de_fld (de_ix (dv 0) de_int (fun _ _ => rfl))) (da_cons (de_fld (de_ix (dv 0) de_int (fun _ _ => rfl))) (da_cons (de_fld (de_ix (dv 0) de_int (fun _ _ => rfl))) (da_cons (de_fld (de_ix (dv 0) de_int (fun _ _ => rfl))) (da_cons (de_fld (de_ix (dv 0) de_int (fun _ _ => rfl))) da_nil)))))))))
    (dss_cons (ds_set (i := 1) sc__law_fields.nd rfl (by first | exact Or.inl rfl | exact Or.inr rfl) (de_op opr_add lr_add (dv 1) (de_lst (da_cons (de_fld (de_ix (dv 0) de_int (fun _ _ => rfl))) (da_cons (de_fld (de_ix (dv 0) de_int (fun _ _ => rfl))) (da_cons (de_fld (de_ix (dv 0) de_int (fun _ _ => rfl))) (da_cons (de_fld (de_ix (dv 0) de_int (fun _ _ => rfl))) (da_cons (de_fld (de_ix (dv 0) de_int (fun _ _ => rfl))) (da_cons (de_fld (de_ix (dv 0) de_int (fun _ _ => rfl))) da_nil)))))))))
    (dss_one (ds_ret (de_op opr_add lr_add (dv 1) (de_lst (da_cons (de_fld (de_ix (dv 0) de_int (fun _ _ => rfl))) (da_cons (de_fld (de_ix (dv 0) de_int (fun _ _ => rfl))) da_nil))))))))) fun ds μ Q E h => read__law_fields ds μ Q E h
theorem ok_law (T : All K mg) : FnD P w base T.law 5 sp_law := by
  have F__law_kinds := ok__law_kinds (P := P) (w := w) (base := base) T
  have F__law_odd := ok__law_odd (P := P) (w := w) (base := base) T
  have F__law_fields := ok__law_fields (P := P) (w := w) (base := base) T
  have F__law_named := ok__law_named (P := P) (w := w) (base := base) T
  have F__law_made := ok__law_made (P := P) (w := w) (base := base) T
  have F__law_hand := ok__law_hand (P := P) (w := w) (base := base) T
  exact def_ok (k := 4) T.law.F sc_law _ (len_of (n := 1) len_law) (fun cdv A outer s H E hq hr => (dss_cons (ds_set (i := 1) sc_law.nd rfl (by first | exact Or.inl rfl | exact Or.inr rfl) (de_def F__law_hand hq hr (da_cons (dv 0) (da_cons de_int da_nil))))
    (dss_cons (ds_for PassesOwn.never rfl (di_seq (de_op opr_add lr_add (de_lc (own := [("_law_turn", 6)]) rfl sc_law.nd (blkOk_by (show blkC ["_law_script", "_law_hand_here", "_law_thing", "_law_made_here", "_law_nth", "_law_error", "_law_turn", "_law_at"] (defScope s_law) _ [("_law_turn", 6)] = true by decide +kernel)) (own_name (by decide)) (di_range1 rfl T.z_range (da_cons de_int da_nil)) (fun _ _ _ _ _ => (pg_name (i := 6) sc_law.nd rfl (by first | exact Or.inl rfl | exact Or.inr rfl) (by first | exact .inl rfl | exact .inr rfl))) (fun _ _ _ _ _ => dts_nil) (fun _ _ _ _ _ => (de_def F__law_odd hq hr (da_cons (dv 1) da_nil)))) (de_lst (da_cons de_non (da_cons de_int (da_cons (de_tup (da_cons de_str (da_cons de_str da_nil))) da_nil)))))) (dg_name (i := 2) sc_law.nd rfl (by first | exact Or.inl rfl | exact Or.inr rfl)) (dss_one (ds_for PassesOwn.never rfl (di_seq (de_tup (da_cons (de_def F__law_made hq hr (da_cons (dv 2) da_nil)) (da_cons (de_def F__law_named hq hr (da_cons (dv 2) da_nil)) da_nil)))) (dg_name (i := 3) sc_law.nd rfl (by first | exact Or.inl rfl | exact Or.inr rfl)) (dss_cons (ds_if (dt_cmp (opr_ne (unit64 hr)) lr_ne (de_callB (cr_reprQ hq (unit66 hr)) lc_reprQ rfl T.z_repr bt_repr (da_cons (de_def F__law_fields hq hr (da_cons (dv 3) da_nil)) da_nil)) (de_callB (cr_reprQ hq (unit66 hr)) lc_reprQ rfl T.z_repr bt_repr (da_cons (de_op opr_mul lr_mul (de_lst (da_cons (dv 2) da_nil)) de_int) da_nil)) (nomark _)) (dss_one (ds_ret de_bl)) dss_nil)
    (dss_one (ds_for PassesOwn.never rfl (di_enum rfl T.z_enumerate (da_cons (dv 3) da_nil)) (dg_tup rfl (dgs_cons (dg_name (i := 4) sc_law.nd rfl (by first | exact Or.inl rfl | exact Or.inr rfl)) (dgs_cons (dg_name (i := 5) sc_law.nd rfl (by first | exact Or.inl rfl | exact Or.inr rfl)) dgs_nil))) (dss_cons (ds_if (dt_cmp (opr_ne (unit64 hr)) lr_ne (de_def F__law_kinds hq hr (da_cons (dv 5) da_nil)) (de_lc (own := [("_law_at", 7)]) rfl sc_law.nd (blkOk_by (show blkC ["_law_script", "_law_hand_here", "_law_thing", "_law_made_here", "_law_nth", "_law_error", "_law_turn", "_law_at"] (defScope s_law) _ [("_law_at", 7)] = true by decide +kernel)) (own_name (by decide)) (di_range1 rfl T.z_range (da_cons de_int da_nil)) (fun _ _ _ _ _ => (pg_name (i := 7) sc_law.nd rfl (by first | exact Or.inl rfl | exact Or.inr rfl) (by first | exact .inl rfl | exact .inr rfl))) (fun _ _ _ _ _ => dts_nil) (fun _ _ _ _ _ => (de_cmp (opr_eq (unit64 hr)) lr_eq (dv 7) (dv 4) (nomark _)))) (nomark _)) (dss_one (ds_ret de_bl)) dss_nil)
    (dss_one (ds_if (PW.pt (dw_or (dt_not (dt_val (de_isX (dv 5) rfl T.z_isinstance rfl T.m_KeyedError T.kit_KeyedError))) (dw_or1 (dt_not (dt_val (de_isXT (dv 5) rfl T.z_isinstance rfl T.z_ValueError bt_ValueError T.kit_ValueError)))))) (dss_one (ds_ret de_bl)) dss_nil)))))))))
    (dss_one (ds_ret de_bl))))) fun ds μ Q E h => read_law ds μ Q E h
end
theorem all_mk {l : PySem.W.OpenLaw} {w : World} {K : PySem.W.Frag} {h : Heap} {mg : Str → Option Value} {fa f0 f1 f2 f3 f4 f5 f6 f7 f8 : Addr} (X : K.In h) (G : h.Ns mainGlobals mg) (hfa : mg "law" = some (.ref fa))
    {od0 an0 : Option Addr} {sl0 : Array (Option Value)} {oc0 kV0 dc0 pm0 cd0 ct0 : Value} (a0 : PySem.W.nsIn K mainGlobals "_law_hand" = some (some (.ref f0))) (l0 : K.lookup f0 = some ⟨oc0, od0, .func (PySem.W.fnOf "_law_hand" "_law_hand" (defArgs s__law_hand) (defBody s__law_hand) (defScope s__law_hand) .none kV0 dc0 pm0 an0 cd0 ct0), sl0⟩) (c0 : PySem.W.codeIn K cd0 "_law_hand" = true) (k0 : PySem.W.keepIn K (.ref f0) = true)
    {od1 an1 : Option Addr} {sl1 : Array (Option Value)} {oc1 kV1 dc1 pm1 cd1 ct1 : Value} (a1 : PySem.W.nsIn K mainGlobals "_law_take" = some (some (.ref f1))) (l1 : K.lookup f1 = some ⟨oc1, od1, .func (PySem.W.fnOf "_law_take" "_law_take" (defArgs s__law_take) (defBody s__law_take) (defScope s__law_take) .none kV1 dc1 pm1 an1 cd1 ct1), sl1⟩) (c1 : PySem.W.codeIn K cd1 "_law_take" = true) (k1 : PySem.W.keepIn K (.ref f1) = true)
    {od2 an2 : Option Addr} {sl2 : Array (Option Value)} {oc2 kV2 dc2 pm2 cd2 ct2 : Value} (a2 : PySem.W.nsIn K mainGlobals "_law_of" = some (some (.ref f2))) (l2 : K.lookup f2 = some ⟨oc2, od2, .func (PySem.W.fnOf "_law_of" "_law_of" (defArgs s__law_of) (defBody s__law_of) (defScope s__law_of) .none kV2 dc2 pm2 an2 cd2 ct2), sl2⟩) (c2 : PySem.W.codeIn K cd2 "_law_of" = true) (k2 : PySem.W.keepIn K (.ref f2) = true)
    {od3 an3 : Option Addr} {sl3 : Array (Option Value)} {oc3 kV3 dc3 pm3 cd3 ct3 : Value} (a3 : PySem.W.nsIn K mainGlobals "_law_odd" = some (some (.ref f3))) (l3 : K.lookup f3 = some ⟨oc3, od3, .func (PySem.W.fnOf "_law_odd" "_law_odd" (defArgs s__law_odd) (defBody s__law_odd) (defScope s__law_odd) .none kV3 dc3 pm3 an3 cd3 ct3), sl3⟩) (c3 : PySem.W.codeIn K cd3 "_law_odd" = true) (k3 : PySem.W.keepIn K (.ref f3) = true)
    {od4 an4 : Option Addr} {sl4 : Array (Option Value)} {oc4 kV4 dc4 pm4 cd4 ct4 : Value} (a4 : PySem.W.nsIn K mainGlobals "_law_kinds" = some (some (.ref f4))) (l4 : K.lookup f4 = some ⟨oc4, od4, .func (PySem.W.fnOf "_law_kinds" "_law_kinds" (defArgs s__law_kinds) (defBody s__law_kinds) (defScope s__law_kinds) .none kV4 dc4 pm4 an4 cd4 ct4), sl4⟩) (c4 : PySem.W.codeIn K cd4 "_law_kinds" = true) (k4 : PySem.W.keepIn K (.ref f4) = true)
    {od5 an5 : Option Addr} {sl5 : Array (Option Value)} {oc5 kV5 dc5 pm5 cd5 ct5 : Value} (a5 : PySem.W.nsIn K mainGlobals "_law_made" = some (some (.ref f5))) (l5 : K.lookup f5 = some ⟨oc5, od5, .func (PySem.W.fnOf "_law_made" "_law_made" (defArgs s__law_made) (defBody s__law_made) (defScope s__law_made) .none kV5 dc5 pm5 an5 cd5 ct5), sl5⟩) (c5 : PySem.W.codeIn K cd5 "_law_made" = true) (k5 : PySem.W.keepIn K (.ref f5) = true)
    {od6 an6 : Option Addr} {sl6 : Array (Option Value)} {oc6 kV6 dc6 pm6 cd6 ct6 : Value} (a6 : PySem.W.nsIn K mainGlobals "_law_named" = some (some (.ref f6))) (l6 : K.lookup f6 = some ⟨oc6, od6, .func (PySem.W.fnOf "_law_named" "_law_named" (defArgs s__law_named) (defBody s__law_named) (defScope s__law_named) .none kV6 dc6 pm6 an6 cd6 ct6), sl6⟩) (c6 : PySem.W.codeIn K cd6 "_law_named" = true) (k6 : PySem.W.keepIn K (.ref f6) = true)
    {od7 an7 : Option Addr} {sl7 : Array (Option Value)} {oc7 kV7 dc7 pm7 cd7 ct7 : Value} (a7 : PySem.W.nsIn K mainGlobals "_law_fields" = some (some (.ref f7))) (l7 : K.lookup f7 = some ⟨oc7, od7, .func (PySem.W.fnOf "_law_fields" "_law_fields" (defArgs s__law_fields) (defBody s__law_fields) (defScope s__law_fields) .none kV7 dc7 pm7 an7 cd7 ct7), sl7⟩) (c7 : PySem.W.codeIn K cd7 "_law_fields" = true) (k7 : PySem.W.keepIn K (.ref f7) = true)
    {od8 an8 : Option Addr} {sl8 : Array (Option Value)} {oc8 kV8 dc8 pm8 cd8 ct8 : Value} (a8 : PySem.W.nsIn K mainGlobals "law" = some (some (.ref f8))) (l8 : K.lookup f8 = some ⟨oc8, od8, .func (PySem.W.fnOf "law" "law" (defArgs s_law) (defBody s_law) (defScope s_law) .none kV8 dc8 pm8 an8 cd8 ct8), sl8⟩) (c8 : PySem.W.codeIn K cd8 "law" = true) (k8 : PySem.W.keepIn K (.ref f8) = true)
    {C0 N0 : Addr} {nm0 qn0 : Str} {bs0 bm0 sub0 : List Value} {sn0 : List Str} {ab0 : Bool} {col0 : Option Bool} {dd0 : Option Addr} {ka0 kb0 kc0 kd0 ke0 : Option Value} (xa0 : PySem.W.nsIn K mainGlobals "NoElement" = some (some (.ref C0))) (xl0 : K.lookup C0 = some (excClassObj nm0 qn0 C0 N0 bs0 bm0 true sn0 sub0 ab0 col0 dd0 ka0 kb0 kc0 kd0 ke0 "ValueError.__new__")) (xv0 : PySem.HandSPX.refsVE bm0 = true) (xf0 : XF K C0)
    {I0 : Addr} {xod0 xan0 : Option Addr} {xsl0 : Array (Option Value)} {xoc0 xkV0 xdc0 xpm0 xcd0 xct0 : Value} (xi0 : PySem.W.findIn K (.ref C0) "__init__" = some (some (.ref I0))) (xL0 : K.lookup I0 = some ⟨xoc0, xod0, .func (PySem.W.fnOf "__init__" "NoElement.__init__" (defArgs s_NoElement_init) (defBody s_NoElement_init) (defScope s_NoElement_init) .none xkV0 xdc0 xpm0 xan0 xcd0 xct0), xsl0⟩) (xc0 : PySem.W.codeIn K xcd0 "NoElement.__init__" = true) (xk0 : PySem.W.keepIn K (.ref I0) = true) (xt0 : PySem.W.typeIn K (.ref I0) = some (.type "function")) (xn0 : PySem.W.findIn K (.ref C0) "key" = some none)
    {C1 N1 : Addr} {nm1 qn1 : Str} {bs1 bm1 sub1 : List Value} {sn1 : List Str} {ab1 : Bool} {col1 : Option Bool} {dd1 : Option Addr} {ka1 kb1 kc1 kd1 ke1 : Option Value} (xa1 : PySem.W.nsIn K mainGlobals "BadOperations" = some (some (.ref C1))) (xl1 : K.lookup C1 = some (excClassObj nm1 qn1 C1 N1 bs1 bm1 true sn1 sub1 ab1 col1 dd1 ka1 kb1 kc1 kd1 ke1 "ValueError.__new__")) (xv1 : PySem.HandSPX.refsVE bm1 = true) (xf1 : XF K C1)
    {I1 : Addr} {xod1 xan1 : Option Addr} {xsl1 : Array (Option Value)} {xoc1 xkV1 xdc1 xpm1 xcd1 xct1 : Value} (xi1 : PySem.W.findIn K (.ref C1) "__init__" = some (some (.ref I1))) (xL1 : K.lookup I1 = some ⟨xoc1, xod1, .func (PySem.W.fnOf "__init__" "BadOperations.__init__" (defArgs s_BadOperations_init) (defBody s_BadOperations_init) (defScope s_BadOperations_init) .none xkV1 xdc1 xpm1 xan1 xcd1 xct1), xsl1⟩) (xc1 : PySem.W.codeIn K xcd1 "BadOperations.__init__" = true) (xk1 : PySem.W.keepIn K (.ref I1) = true) (xt1 : PySem.W.typeIn K (.ref I1) = some (.type "function")) (xn1 : PySem.W.findIn K (.ref C1) "value" = some none)
    {C2 N2 : Addr} {nm2 qn2 : Str} {bs2 bm2 sub2 : List Value} {sn2 : List Str} {ab2 : Bool} {col2 : Option Bool} {dd2 : Option Addr} {ka2 kb2 kc2 kd2 ke2 : Option Value} (xa2 : PySem.W.nsIn K mainGlobals "Impossible" = some (some (.ref C2))) (xl2 : K.lookup C2 = some (excClassObj nm2 qn2 C2 N2 bs2 bm2 true sn2 sub2 ab2 col2 dd2 ka2 kb2 kc2 kd2 ke2 "ValueError.__new__")) (xv2 : PySem.HandSPX.refsVE bm2 = true) (xf2 : XF K C2)
    {I2 : Addr} {xod2 xan2 : Option Addr} {xsl2 : Array (Option Value)} {xoc2 xkV2 xdc2 xpm2 xcd2 xct2 : Value} (xi2 : PySem.W.findIn K (.ref C2) "__init__" = some (some (.ref I2))) (xL2 : K.lookup I2 = some ⟨xoc2, xod2, .func (PySem.W.fnOf "__init__" "Impossible.__init__" (defArgs s_Impossible_init) (defBody s_Impossible_init) (defScope s_Impossible_init) .none xkV2 xdc2 xpm2 xan2 xcd2 xct2), xsl2⟩) (xc2 : PySem.W.codeIn K xcd2 "Impossible.__init__" = true) (xk2 : PySem.W.keepIn K (.ref I2) = true) (xt2 : PySem.W.typeIn K (.ref I2) = some (.type "function")) (xn2 : PySem.W.findIn K (.ref C2) "index" = some none)
    {C3 N3 : Addr} {nm3 qn3 : Str} {bs3 bm3 sub3 : List Value} {sn3 : List Str} {ab3 : Bool} {col3 : Option Bool} {dd3 : Option Addr} {ka3 kb3 kc3 kd3 ke3 : Option Value} (xa3 : PySem.W.nsIn K mainGlobals "DifferentRoots" = some (some (.ref C3))) (xl3 : K.lookup C3 = some (excClassObj nm3 qn3 C3 N3 bs3 bm3 true sn3 sub3 ab3 col3 dd3 ka3 kb3 kc3 kd3 ke3 "ValueError.__new__")) (xv3 : PySem.HandSPX.refsVE bm3 = true) (xf3 : XF K C3)
    (xe3 : PySem.W.excIn K C3 [.type "ValueError", .type "Exception", .type "BaseException", .type "object"] "ValueError.__new__" = true)
    {C4 N4 : Addr} {nm4 qn4 : Str} {bs4 bm4 sub4 : List Value} {sn4 : List Str} {ab4 : Bool} {col4 : Option Bool} {dd4 : Option Addr} {ka4 kb4 kc4 kd4 ke4 : Option Value} (xa4 : PySem.W.nsIn K mainGlobals "NoNumber" = some (some (.ref C4))) (xl4 : K.lookup C4 = some (excClassObj nm4 qn4 C4 N4 bs4 bm4 true sn4 sub4 ab4 col4 dd4 ka4 kb4 kc4 kd4 ke4 "ValueError.__new__")) (xv4 : PySem.HandSPX.refsVE bm4 = true) (xf4 : XF K C4)
    {I4 : Addr} {xod4 xan4 : Option Addr} {xsl4 : Array (Option Value)} {xoc4 xkV4 xdc4 xpm4 xcd4 xct4 : Value} (xi4 : PySem.W.findIn K (.ref C4) "__init__" = some (some (.ref I4))) (xL4 : K.lookup I4 = some ⟨xoc4, xod4, .func (PySem.W.fnOf "__init__" "NoNumber.__init__" (defArgs s_NoNumber_init) (defBody s_NoNumber_init) (defScope s_NoNumber_init) .none xkV4 xdc4 xpm4 xan4 xcd4 xct4), xsl4⟩) (xc4 : PySem.W.codeIn K xcd4 "NoNumber.__init__" = true) (xk4 : PySem.W.keepIn K (.ref I4) = true) (xt4 : PySem.W.typeIn K (.ref I4) = some (.type "function")) (xn4 : PySem.W.findIn K (.ref C4) "number" = some none)
    {C5 N5 : Addr} {nm5 qn5 : Str} {bs5 bm5 sub5 : List Value} {sn5 : List Str} {ab5 : Bool} {col5 : Option Bool} {dd5 : Option Addr} {ka5 kb5 kc5 kd5 ke5 : Option Value} (xa5 : PySem.W.nsIn K mainGlobals "NotKept" = some (some (.ref C5))) (xl5 : K.lookup C5 = some (excClassObj nm5 qn5 C5 N5 bs5 bm5 true sn5 sub5 ab5 col5 dd5 ka5 kb5 kc5 kd5 ke5 "ValueError.__new__")) (xv5 : PySem.HandSPX.refsVE bm5 = true) (xf5 : XF K C5)
    {I5 : Addr} {xod5 xan5 : Option Addr} {xsl5 : Array (Option Value)} {xoc5 xkV5 xdc5 xpm5 xcd5 xct5 : Value} (xi5 : PySem.W.findIn K (.ref C5) "__init__" = some (some (.ref I5))) (xL5 : K.lookup I5 = some ⟨xoc5, xod5, .func (PySem.W.fnOf "__init__" "NotKept.__init__" (defArgs s_NotKept_init) (defBody s_NotKept_init) (defScope s_NotKept_init) .none xkV5 xdc5 xpm5 xan5 xcd5 xct5), xsl5⟩) (xc5 : PySem.W.codeIn K xcd5 "NotKept.__init__" = true) (xk5 : PySem.W.keepIn K (.ref I5) = true) (xt5 : PySem.W.typeIn K (.ref I5) = some (.type "function")) (xn5 : PySem.W.findIn K (.ref C5) "value" = some none)
    {C6 N6 : Addr} {nm6 qn6 : Str} {bs6 bm6 sub6 : List Value} {sn6 : List Str} {ab6 : Bool} {col6 : Option Bool} {dd6 : Option Addr} {ka6 kb6 kc6 kd6 ke6 : Option Value} (xa6 : PySem.W.nsIn K mainGlobals "Conflict" = some (some (.ref C6))) (xl6 : K.lookup C6 = some (excClassObj nm6 qn6 C6 N6 bs6 bm6 true sn6 sub6 ab6 col6 dd6 ka6 kb6 kc6 kd6 ke6 "ValueError.__new__")) (xv6 : PySem.HandSPX.refsVE bm6 = true) (xf6 : XF K C6)
    {I6 : Addr} {xod6 xan6 : Option Addr} {xsl6 : Array (Option Value)} {xoc6 xkV6 xdc6 xpm6 xcd6 xct6 : Value} (xi6 : PySem.W.findIn K (.ref C6) "__init__" = some (some (.ref I6))) (xL6 : K.lookup I6 = some ⟨xoc6, xod6, .func (PySem.W.fnOf "__init__" "Conflict.__init__" (defArgs s_Conflict_init) (defBody s_Conflict_init) (defScope s_Conflict_init) .none xkV6 xdc6 xpm6 xan6 xcd6 xct6), xsl6⟩) (xc6 : PySem.W.codeIn K xcd6 "Conflict.__init__" = true) (xk6 : PySem.W.keepIn K (.ref I6) = true) (xt6 : PySem.W.typeIn K (.ref I6) = some (.type "function")) (xn6 : PySem.W.findIn K (.ref C6) "value" = some none)
    {C7 N7 : Addr} {nm7 qn7 : Str} {bs7 bm7 sub7 : List Value} {sn7 : List Str} {ab7 : Bool} {col7 : Option Bool} {dd7 : Option Addr} {ka7 kb7 kc7 kd7 ke7 : Option Value} (xa7 : PySem.W.nsIn K mainGlobals "NotPatch" = some (some (.ref C7))) (xl7 : K.lookup C7 = some (excClassObj nm7 qn7 C7 N7 bs7 bm7 true sn7 sub7 ab7 col7 dd7 ka7 kb7 kc7 kd7 ke7 "ValueError.__new__")) (xv7 : PySem.HandSPX.refsVE bm7 = true) (xf7 : XF K C7)
    {I7 : Addr} {xod7 xan7 : Option Addr} {xsl7 : Array (Option Value)} {xoc7 xkV7 xdc7 xpm7 xcd7 xct7 : Value} (xi7 : PySem.W.findIn K (.ref C7) "__init__" = some (some (.ref I7))) (xL7 : K.lookup I7 = some ⟨xoc7, xod7, .func (PySem.W.fnOf "__init__" "NotPatch.__init__" (defArgs s_NotPatch_init) (defBody s_NotPatch_init) (defScope s_NotPatch_init) .none xkV7 xdc7 xpm7 xan7 xcd7 xct7), xsl7⟩) (xc7 : PySem.W.codeIn K xcd7 "NotPatch.__init__" = true) (xk7 : PySem.W.keepIn K (.ref I7) = true) (xt7 : PySem.W.typeIn K (.ref I7) = some (.type "function")) (xn7 : PySem.W.findIn K (.ref C7) "value" = some none)
    {C8 N8 : Addr} {nm8 qn8 : Str} {bs8 bm8 sub8 : List Value} {sn8 : List Str} {ab8 : Bool} {col8 : Option Bool} {dd8 : Option Addr} {ka8 kb8 kc8 kd8 ke8 : Option Value} (xa8 : PySem.W.nsIn K mainGlobals "TooDear" = some (some (.ref C8))) (xl8 : K.lookup C8 = some (excClassObj nm8 qn8 C8 N8 bs8 bm8 true sn8 sub8 ab8 col8 dd8 ka8 kb8 kc8 kd8 ke8 "ValueError.__new__")) (xv8 : PySem.HandSPX.refsVE bm8 = true) (xf8 : XF K C8)
    {I8 : Addr} {xod8 xan8 : Option Addr} {xsl8 : Array (Option Value)} {xoc8 xkV8 xdc8 xpm8 xcd8 xct8 : Value} (xi8 : PySem.W.findIn K (.ref C8) "__init__" = some (some (.ref I8))) (xL8 : K.lookup I8 = some ⟨xoc8, xod8, .func (PySem.W.fnOf "__init__" "TooDear.__init__" (defArgs s_TooDear_init) (defBody s_TooDear_init) (defScope s_TooDear_init) .none xkV8 xdc8 xpm8 xan8 xcd8 xct8), xsl8⟩) (xc8 : PySem.W.codeIn K xcd8 "TooDear.__init__" = true) (xk8 : PySem.W.keepIn K (.ref I8) = true) (xt8 : PySem.W.typeIn K (.ref I8) = some (.type "function")) (xn8 : PySem.W.findIn K (.ref C8) "key" = some none)
    {C9 N9 : Addr} {nm9 qn9 : Str} {bs9 bm9 sub9 : List Value} {sn9 : List Str} {ab9 : Bool} {col9 : Option Bool} {dd9 : Option Addr} {ka9 kb9 kc9 kd9 ke9 : Option Value} (xa9 : PySem.W.nsIn K mainGlobals "BadTree" = some (some (.ref C9))) (xl9 : K.lookup C9 = some (excClassObj nm9 qn9 C9 N9 bs9 bm9 true sn9 sub9 ab9 col9 dd9 ka9 kb9 kc9 kd9 ke9 "ValueError.__new__")) (xv9 : PySem.HandSPX.refsVE bm9 = true) (xf9 : XF K C9)
    {I9 : Addr} {xod9 xan9 : Option Addr} {xsl9 : Array (Option Value)} {xoc9 xkV9 xdc9 xpm9 xcd9 xct9 : Value} (xi9 : PySem.W.findIn K (.ref C9) "__init__" = some (some (.ref I9))) (xL9 : K.lookup I9 = some ⟨xoc9, xod9, .func (PySem.W.fnOf "__init__" "BadTree.__init__" (defArgs s_BadTree_init) (defBody s_BadTree_init) (defScope s_BadTree_init) .none xkV9 xdc9 xpm9 xan9 xcd9 xct9), xsl9⟩) (xc9 : PySem.W.codeIn K xcd9 "BadTree.__init__" = true) (xk9 : PySem.W.keepIn K (.ref I9) = true) (xt9 : PySem.W.typeIn K (.ref I9) = some (.type "function")) (xn9 : PySem.W.findIn K (.ref C9) "value" = some none)
    {C10 N10 : Addr} {nm10 qn10 : Str} {bs10 bm10 sub10 : List Value} {sn10 : List Str} {ab10 : Bool} {col10 : Option Bool} {dd10 : Option Addr} {ka10 kb10 kc10 kd10 ke10 : Option Value} (xa10 : PySem.W.nsIn K mainGlobals "BadCosts" = some (some (.ref C10))) (xl10 : K.lookup C10 = some (excClassObj nm10 qn10 C10 N10 bs10 bm10 true sn10 sub10 ab10 col10 dd10 ka10 kb10 kc10 kd10 ke10 "ValueError.__new__")) (xv10 : PySem.HandSPX.refsVE bm10 = true) (xf10 : XF K C10)
    {I10 : Addr} {xod10 xan10 : Option Addr} {xsl10 : Array (Option Value)} {xoc10 xkV10 xdc10 xpm10 xcd10 xct10 : Value} (xi10 : PySem.W.findIn K (.ref C10) "__init__" = some (some (.ref I10))) (xL10 : K.lookup I10 = some ⟨xoc10, xod10, .func (PySem.W.fnOf "__init__" "BadCosts.__init__" (defArgs s_BadCosts_init) (defBody s_BadCosts_init) (defScope s_BadCosts_init) .none xkV10 xdc10 xpm10 xan10 xcd10 xct10), xsl10⟩) (xc10 : PySem.W.codeIn K xcd10 "BadCosts.__init__" = true) (xk10 : PySem.W.keepIn K (.ref I10) = true) (xt10 : PySem.W.typeIn K (.ref I10) = some (.type "function")) (xn10 : PySem.W.findIn K (.ref C10) "value" = some none)
    {C11 N11 : Addr} {nm11 qn11 : Str} {bs11 bm11 sub11 : List Value} {sn11 : List Str} {ab11 : Bool} {col11 : Option Bool} {dd11 : Option Addr} {ka11 kb11 kc11 kd11 ke11 : Option Value} (xa11 : PySem.W.nsIn K mainGlobals "Root" = some (some (.ref C11))) (xl11 : K.lookup C11 = some (excClassObj nm11 qn11 C11 N11 bs11 bm11 true sn11 sub11 ab11 col11 dd11 ka11 kb11 kc11 kd11 ke11 "ValueError.__new__")) (xv11 : PySem.HandSPX.refsVE bm11 = true) (xf11 : XF K C11)
    {I11 : Addr} {xod11 xan11 : Option Addr} {xsl11 : Array (Option Value)} {xoc11 xkV11 xdc11 xpm11 xcd11 xct11 : Value} (xi11 : PySem.W.findIn K (.ref C11) "__init__" = some (some (.ref I11))) (xL11 : K.lookup I11 = some ⟨xoc11, xod11, .func (PySem.W.fnOf "__init__" "Root.__init__" (defArgs s_Root_init) (defBody s_Root_init) (defScope s_Root_init) .none xkV11 xdc11 xpm11 xan11 xcd11 xct11), xsl11⟩) (xc11 : PySem.W.codeIn K xcd11 "Root.__init__" = true) (xk11 : PySem.W.keepIn K (.ref I11) = true) (xt11 : PySem.W.typeIn K (.ref I11) = some (.type "function")) (xn11 : PySem.W.findIn K (.ref C11) "key" = some none)
    {C12 N12 : Addr} {nm12 qn12 : Str} {bs12 bm12 sub12 : List Value} {sn12 : List Str} {ab12 : Bool} {col12 : Option Bool} {dd12 : Option Addr} {ka12 kb12 kc12 kd12 ke12 : Option Value} (xa12 : PySem.W.nsIn K mainGlobals "NotFocused" = some (some (.ref C12))) (xl12 : K.lookup C12 = some (excClassObj nm12 qn12 C12 N12 bs12 bm12 true sn12 sub12 ab12 col12 dd12 ka12 kb12 kc12 kd12 ke12 "ValueError.__new__")) (xv12 : PySem.HandSPX.refsVE bm12 = true) (xf12 : XF K C12)
    {I12 : Addr} {xod12 xan12 : Option Addr} {xsl12 : Array (Option Value)} {xoc12 xkV12 xdc12 xpm12 xcd12 xct12 : Value} (xi12 : PySem.W.findIn K (.ref C12) "__init__" = some (some (.ref I12))) (xL12 : K.lookup I12 = some ⟨xoc12, xod12, .func (PySem.W.fnOf "__init__" "NotFocused.__init__" (defArgs s_NotFocused_init) (defBody s_NotFocused_init) (defScope s_NotFocused_init) .none xkV12 xdc12 xpm12 xan12 xcd12 xct12), xsl12⟩) (xc12 : PySem.W.codeIn K xcd12 "NotFocused.__init__" = true) (xk12 : PySem.W.keepIn K (.ref I12) = true) (xt12 : PySem.W.typeIn K (.ref I12) = some (.type "function")) (xn12 : PySem.W.findIn K (.ref C12) "key" = some none)
    {C13 N13 : Addr} {nm13 qn13 : Str} {bs13 bm13 sub13 : List Value} {sn13 : List Str} {ab13 : Bool} {col13 : Option Bool} {dd13 : Option Addr} {ka13 kb13 kc13 kd13 ke13 : Option Value} (xa13 : PySem.W.nsIn K mainGlobals "Lost" = some (some (.ref C13))) (xl13 : K.lookup C13 = some (excClassObj nm13 qn13 C13 N13 bs13 bm13 true sn13 sub13 ab13 col13 dd13 ka13 kb13 kc13 kd13 ke13 "ValueError.__new__")) (xv13 : PySem.HandSPX.refsVE bm13 = true) (xf13 : XF K C13)
    {I13 : Addr} {xod13 xan13 : Option Addr} {xsl13 : Array (Option Value)} {xoc13 xkV13 xdc13 xpm13 xcd13 xct13 : Value} (xi13 : PySem.W.findIn K (.ref C13) "__init__" = some (some (.ref I13))) (xL13 : K.lookup I13 = some ⟨xoc13, xod13, .func (PySem.W.fnOf "__init__" "Lost.__init__" (defArgs s_Lost_init) (defBody s_Lost_init) (defScope s_Lost_init) .none xkV13 xdc13 xpm13 xan13 xcd13 xct13), xsl13⟩) (xc13 : PySem.W.codeIn K xcd13 "Lost.__init__" = true) (xk13 : PySem.W.keepIn K (.ref I13) = true) (xt13 : PySem.W.typeIn K (.ref I13) = some (.type "function")) (xn13 : PySem.W.findIn K (.ref C13) "value" = some none)
    {C14 N14 : Addr} {nm14 qn14 : Str} {bs14 bm14 sub14 : List Value} {sn14 : List Str} {ab14 : Bool} {col14 : Option Bool} {dd14 : Option Addr} {ka14 kb14 kc14 kd14 ke14 : Option Value} (xa14 : PySem.W.nsIn K mainGlobals "NothingToUndo" = some (some (.ref C14))) (xl14 : K.lookup C14 = some (excClassObj nm14 qn14 C14 N14 bs14 bm14 true sn14 sub14 ab14 col14 dd14 ka14 kb14 kc14 kd14 ke14 "ValueError.__new__")) (xv14 : PySem.HandSPX.refsVE bm14 = true) (xf14 : XF K C14)
    (xe14 : PySem.W.excIn K C14 [.type "ValueError", .type "Exception", .type "BaseException", .type "object"] "ValueError.__new__" = true)
    {C15 N15 : Addr} {nm15 qn15 : Str} {bs15 bm15 sub15 : List Value} {sn15 : List Str} {ab15 : Bool} {col15 : Option Bool} {dd15 : Option Addr} {ka15 kb15 kc15 kd15 ke15 : Option Value} (xa15 : PySem.W.nsIn K mainGlobals "BadText" = some (some (.ref C15))) (xl15 : K.lookup C15 = some (excClassObj nm15 qn15 C15 N15 bs15 bm15 true sn15 sub15 ab15 col15 dd15 ka15 kb15 kc15 kd15 ke15 "ValueError.__new__")) (xv15 : PySem.HandSPX.refsVE bm15 = true) (xf15 : XF K C15)
    {I15 : Addr} {xod15 xan15 : Option Addr} {xsl15 : Array (Option Value)} {xoc15 xkV15 xdc15 xpm15 xcd15 xct15 : Value} (xi15 : PySem.W.findIn K (.ref C15) "__init__" = some (some (.ref I15))) (xL15 : K.lookup I15 = some ⟨xoc15, xod15, .func (PySem.W.fnOf "__init__" "BadText.__init__" (defArgs s_BadText_init) (defBody s_BadText_init) (defScope s_BadText_init) .none xkV15 xdc15 xpm15 xan15 xcd15 xct15), xsl15⟩) (xc15 : PySem.W.codeIn K xcd15 "BadText.__init__" = true) (xk15 : PySem.W.keepIn K (.ref I15) = true) (xt15 : PySem.W.typeIn K (.ref I15) = some (.type "function")) (xn15 : PySem.W.findIn K (.ref C15) "line" = some none)
    {C16 N16 : Addr} {nm16 qn16 : Str} {bs16 bm16 sub16 : List Value} {sn16 : List Str} {ab16 : Bool} {col16 : Option Bool} {dd16 : Option Addr} {ka16 kb16 kc16 kd16 ke16 : Option Value} (xa16 : PySem.W.nsIn K mainGlobals "BadLine" = some (some (.ref C16))) (xl16 : K.lookup C16 = some (excClassObj nm16 qn16 C16 N16 bs16 bm16 true sn16 sub16 ab16 col16 dd16 ka16 kb16 kc16 kd16 ke16 "ValueError.__new__")) (xv16 : PySem.HandSPX.refsVE bm16 = true) (xf16 : XF K C16)
    {I16 : Addr} {xod16 xan16 : Option Addr} {xsl16 : Array (Option Value)} {xoc16 xkV16 xdc16 xpm16 xcd16 xct16 : Value} (xi16 : PySem.W.findIn K (.ref C16) "__init__" = some (some (.ref I16))) (xL16 : K.lookup I16 = some ⟨xoc16, xod16, .func (PySem.W.fnOf "__init__" "BadLine.__init__" (defArgs s_BadLine_init) (defBody s_BadLine_init) (defScope s_BadLine_init) .none xkV16 xdc16 xpm16 xan16 xcd16 xct16), xsl16⟩) (xc16 : PySem.W.codeIn K xcd16 "BadLine.__init__" = true) (xk16 : PySem.W.keepIn K (.ref I16) = true) (xt16 : PySem.W.typeIn K (.ref I16) = some (.type "function")) (xn16 : PySem.W.findIn K (.ref C16) "line" = some none)
    {CB : Addr} (ba : PySem.W.nsIn K mainGlobals "KeyedError" = some (some (.ref CB))) (bsp : PySem.W.specialIn K (.ref CB) "__getattribute__" = some (some (.builtin "type.__getattribute__"))) (brd : PySem.W.readsIn K CB (.type "type") = true) (bat : PySem.W.findCls K (.ref CB) (.type "type") "__init__" = some (.val (.builtin "ValueError.__init__"))) (bis : PySem.W.isClsIn K CB = true) (bty : PySem.W.typeIn K (.ref CB) = some (.type "type"))
    (kq_BadCosts : kitQ [("NoElement", C0, bm0), ("BadOperations", C1, bm1), ("Impossible", C2, bm2), ("DifferentRoots", C3, bm3), ("NoNumber", C4, bm4), ("NotKept", C5, bm5), ("Conflict", C6, bm6), ("NotPatch", C7, bm7), ("TooDear", C8, bm8), ("BadTree", C9, bm9), ("BadCosts", C10, bm10), ("Root", C11, bm11), ("NotFocused", C12, bm12), ("Lost", C13, bm13), ("NothingToUndo", C14, bm14), ("BadText", C15, bm15), ("BadLine", C16, bm16)] "BadCosts" C10 = true) (kq_BadLine : kitQ [("NoElement", C0, bm0), ("BadOperations", C1, bm1), ("Impossible", C2, bm2), ("DifferentRoots", C3, bm3), ("NoNumber", C4, bm4), ("NotKept", C5, bm5), ("Conflict", C6, bm6), ("NotPatch", C7, bm7), ("TooDear", C8, bm8), ("BadTree", C9, bm9), ("BadCosts", C10, bm10), ("Root", C11, bm11), ("NotFocused", C12, bm12), ("Lost", C13, bm13), ("NothingToUndo", C14, bm14), ("BadText", C15, bm15), ("BadLine", C16, bm16)] "BadLine" C16 = true) (kq_BadOperations : kitQ [("NoElement", C0, bm0), ("BadOperations", C1, bm1), ("Impossible", C2, bm2), ("DifferentRoots", C3, bm3), ("NoNumber", C4, bm4), ("NotKept", C5, bm5), ("Conflict", C6, bm6), ("NotPatch", C7, bm7), ("TooDear", C8, bm8), ("BadTree", C9, bm9), ("BadCosts", C10, bm10), ("Root", C11, bm11), ("NotFocused", C12, bm12), ("Lost", C13, bm13), ("NothingToUndo", C14, bm14), ("BadText", C15, bm15), ("BadLine", C16, bm16)] "BadOperations" C1 = true) (kq_BadText : kitQ [("NoElement", C0, bm0), ("BadOperations", C1, bm1), ("Impossible", C2, bm2), ("DifferentRoots", C3, bm3), ("NoNumber", C4, bm4), ("NotKept", C5, bm5), ("Conflict", C6, bm6), ("NotPatch", C7, bm7), ("TooDear", C8, bm8), ("BadTree", C9, bm9), ("BadCosts", C10, bm10), ("Root", C11, bm11), ("NotFocused", C12, bm12), ("Lost", C13, bm13), ("NothingToUndo", C14, bm14), ("BadText", C15, bm15), ("BadLine", C16, bm16)] "BadText" C15 = true) (kq_BadTree : kitQ [("NoElement", C0, bm0), ("BadOperations", C1, bm1), ("Impossible", C2, bm2), ("DifferentRoots", C3, bm3), ("NoNumber", C4, bm4), ("NotKept", C5, bm5), ("Conflict", C6, bm6), ("NotPatch", C7, bm7), ("TooDear", C8, bm8), ("BadTree", C9, bm9), ("BadCosts", C10, bm10), ("Root", C11, bm11), ("NotFocused", C12, bm12), ("Lost", C13, bm13), ("NothingToUndo", C14, bm14), ("BadText", C15, bm15), ("BadLine", C16, bm16)] "BadTree" C9 = true) (kq_Conflict : kitQ [("NoElement", C0, bm0), ("BadOperations", C1, bm1), ("Impossible", C2, bm2), ("DifferentRoots", C3, bm3), ("NoNumber", C4, bm4), ("NotKept", C5, bm5), ("Conflict", C6, bm6), ("NotPatch", C7, bm7), ("TooDear", C8, bm8), ("BadTree", C9, bm9), ("BadCosts", C10, bm10), ("Root", C11, bm11), ("NotFocused", C12, bm12), ("Lost", C13, bm13), ("NothingToUndo", C14, bm14), ("BadText", C15, bm15), ("BadLine", C16, bm16)] "Conflict" C6 = true) (kq_DifferentRoots : kitQ [("NoElement", C0, bm0), ("BadOperations", C1, bm1), ("Impossible", C2, bm2), ("DifferentRoots", C3, bm3), ("NoNumber", C4, bm4), ("NotKept", C5, bm5), ("Conflict", C6, bm6), ("NotPatch", C7, bm7), ("TooDear", C8, bm8), ("BadTree", C9, bm9), ("BadCosts", C10, bm10), ("Root", C11, bm11), ("NotFocused", C12, bm12), ("Lost", C13, bm13), ("NothingToUndo", C14, bm14), ("BadText", C15, bm15), ("BadLine", C16, bm16)] "DifferentRoots" C3 = true) (kq_Impossible : kitQ [("NoElement", C0, bm0), ("BadOperations", C1, bm1), ("Impossible", C2, bm2), ("DifferentRoots", C3, bm3), ("NoNumber", C4, bm4), ("NotKept", C5, bm5), ("Conflict", C6, bm6), ("NotPatch", C7, bm7), ("TooDear", C8, bm8), ("BadTree", C9, bm9), ("BadCosts", C10, bm10), ("Root", C11, bm11), ("NotFocused", C12, bm12), ("Lost", C13, bm13), ("NothingToUndo", C14, bm14), ("BadText", C15, bm15), ("BadLine", C16, bm16)] "Impossible" C2 = true) (kq_KeyedError : kitQ [("NoElement", C0, bm0), ("BadOperations", C1, bm1), ("Impossible", C2, bm2), ("DifferentRoots", C3, bm3), ("NoNumber", C4, bm4), ("NotKept", C5, bm5), ("Conflict", C6, bm6), ("NotPatch", C7, bm7), ("TooDear", C8, bm8), ("BadTree", C9, bm9), ("BadCosts", C10, bm10), ("Root", C11, bm11), ("NotFocused", C12, bm12), ("Lost", C13, bm13), ("NothingToUndo", C14, bm14), ("BadText", C15, bm15), ("BadLine", C16, bm16)] "KeyedError" CB = true) (kq_Lost : kitQ [("NoElement", C0, bm0), ("BadOperations", C1, bm1), ("Impossible", C2, bm2), ("DifferentRoots", C3, bm3), ("NoNumber", C4, bm4), ("NotKept", C5, bm5), ("Conflict", C6, bm6), ("NotPatch", C7, bm7), ("TooDear", C8, bm8), ("BadTree", C9, bm9), ("BadCosts", C10, bm10), ("Root", C11, bm11), ("NotFocused", C12, bm12), ("Lost", C13, bm13), ("NothingToUndo", C14, bm14), ("BadText", C15, bm15), ("BadLine", C16, bm16)] "Lost" C13 = true) (kq_NoElement : kitQ [("NoElement", C0, bm0), ("BadOperations", C1, bm1), ("Impossible", C2, bm2), ("DifferentRoots", C3, bm3), ("NoNumber", C4, bm4), ("NotKept", C5, bm5), ("Conflict", C6, bm6), ("NotPatch", C7, bm7), ("TooDear", C8, bm8), ("BadTree", C9, bm9), ("BadCosts", C10, bm10), ("Root", C11, bm11), ("NotFocused", C12, bm12), ("Lost", C13, bm13), ("NothingToUndo", C14, bm14), ("BadText", C15, bm15), ("BadLine", C16, bm16)] "NoElement" C0 = true) (kq_NoNumber : kitQ [("NoElement", C0, bm0), ("BadOperations", C1, bm1), ("Impossible", C2, bm2), ("DifferentRoots", C3, bm3), ("NoNumber", C4, bm4), ("NotKept", C5, bm5), ("Conflict", C6, bm6), ("NotPatch", C7, bm7), ("TooDear", C8, bm8), ("BadTree", C9, bm9), ("BadCosts", C10, bm10), ("Root", C11, bm11), ("NotFocused", C12, bm12), ("Lost", C13, bm13), ("NothingToUndo", C14, bm14), ("BadText", C15, bm15), ("BadLine", C16, bm16)] "NoNumber" C4 = true) (kq_NotFocused : kitQ [("NoElement", C0, bm0), ("BadOperations", C1, bm1), ("Impossible", C2, bm2), ("DifferentRoots", C3, bm3), ("NoNumber", C4, bm4), ("NotKept", C5, bm5), ("Conflict", C6, bm6), ("NotPatch", C7, bm7), ("TooDear", C8, bm8), ("BadTree", C9, bm9), ("BadCosts", C10, bm10), ("Root", C11, bm11), ("NotFocused", C12, bm12), ("Lost", C13, bm13), ("NothingToUndo", C14, bm14), ("BadText", C15, bm15), ("BadLine", C16, bm16)] "NotFocused" C12 = true) (kq_NotKept : kitQ [("NoElement", C0, bm0), ("BadOperations", C1, bm1), ("Impossible", C2, bm2), ("DifferentRoots", C3, bm3), ("NoNumber", C4, bm4), ("NotKept", C5, bm5), ("Conflict", C6, bm6), ("NotPatch", C7, bm7), ("TooDear", C8, bm8), ("BadTree", C9, bm9), ("BadCosts", C10, bm10), ("Root", C11, bm11), ("NotFocused", C12, bm12), ("Lost", C13, bm13), ("NothingToUndo", C14, bm14), ("BadText", C15, bm15), ("BadLine", C16, bm16)] "NotKept" C5 = true) (kq_NotPatch : kitQ [("NoElement", C0, bm0), ("BadOperations", C1, bm1), ("Impossible", C2, bm2), ("DifferentRoots", C3, bm3), ("NoNumber", C4, bm4), ("NotKept", C5, bm5), ("Conflict", C6, bm6), ("NotPatch", C7, bm7), ("TooDear", C8, bm8), ("BadTree", C9, bm9), ("BadCosts", C10, bm10), ("Root", C11, bm11), ("NotFocused", C12, bm12), ("Lost", C13, bm13), ("NothingToUndo", C14, bm14), ("BadText", C15, bm15), ("BadLine", C16, bm16)] "NotPatch" C7 = true) (kq_NothingToUndo : kitQ [("NoElement", C0, bm0), ("BadOperations", C1, bm1), ("Impossible", C2, bm2), ("DifferentRoots", C3, bm3), ("NoNumber", C4, bm4), ("NotKept", C5, bm5), ("Conflict", C6, bm6), ("NotPatch", C7, bm7), ("TooDear", C8, bm8), ("BadTree", C9, bm9), ("BadCosts", C10, bm10), ("Root", C11, bm11), ("NotFocused", C12, bm12), ("Lost", C13, bm13), ("NothingToUndo", C14, bm14), ("BadText", C15, bm15), ("BadLine", C16, bm16)] "NothingToUndo" C14 = true) (kq_Root : kitQ [("NoElement", C0, bm0), ("BadOperations", C1, bm1), ("Impossible", C2, bm2), ("DifferentRoots", C3, bm3), ("NoNumber", C4, bm4), ("NotKept", C5, bm5), ("Conflict", C6, bm6), ("NotPatch", C7, bm7), ("TooDear", C8, bm8), ("BadTree", C9, bm9), ("BadCosts", C10, bm10), ("Root", C11, bm11), ("NotFocused", C12, bm12), ("Lost", C13, bm13), ("NothingToUndo", C14, bm14), ("BadText", C15, bm15), ("BadLine", C16, bm16)] "Root" C11 = true) (kq_TooDear : kitQ [("NoElement", C0, bm0), ("BadOperations", C1, bm1), ("Impossible", C2, bm2), ("DifferentRoots", C3, bm3), ("NoNumber", C4, bm4), ("NotKept", C5, bm5), ("Conflict", C6, bm6), ("NotPatch", C7, bm7), ("TooDear", C8, bm8), ("BadTree", C9, bm9), ("BadCosts", C10, bm10), ("Root", C11, bm11), ("NotFocused", C12, bm12), ("Lost", C13, bm13), ("NothingToUndo", C14, bm14), ("BadText", C15, bm15), ("BadLine", C16, bm16)] "TooDear" C8 = true)
    (z_ValueError : PySem.W.nsIn K mainGlobals "ValueError" = some none) (z_abs : PySem.W.nsIn K mainGlobals "abs" = some none) (z_enumerate : PySem.W.nsIn K mainGlobals "enumerate" = some none) (z_int : PySem.W.nsIn K mainGlobals "int" = some none) (z_isinstance : PySem.W.nsIn K mainGlobals "isinstance" = some none) (z_len : PySem.W.nsIn K mainGlobals "len" = some none) (z_range : PySem.W.nsIn K mainGlobals "range" = some none) (z_repr : PySem.W.nsIn K mainGlobals "repr" = some none) :
    ∃ fd : FuncData, (∀ (s : Shared) (v : Value), BindsTo s fd ⟨[v], []⟩ [("_law_script", v)]) ∧ ∀ base : Heap, K.In base → base.Ns mainGlobals mg → FnG l.prog w K mg base CX0 5 fa fd ["_law_script"] (LSp K sp_law) := by
  have e := hfa.symm.trans (PySem.W.mg_of X G a8)
  cases e
  have F0 := fun_mk (st := s__law_hand) l0 c0 k0
  have b0 := F0.binds (ps := ["_law_script", "_law_k"]) fun _ _ _ _ _ _ us hl => match us, hl with | [_, _], _ => rfl
  have F1 := fun_mk (st := s__law_take) l1 c1 k1
  have b1 := F1.binds (ps := ["_law_hand_here", "_law_many"]) fun _ _ _ _ _ _ us hl => match us, hl with | [_, _], _ => rfl
  have F2 := fun_mk (st := s__law_of) l2 c2 k2
  have b2 := F2.binds (ps := ["_law_hand_here", "_law_items"]) fun _ _ _ _ _ _ us hl => match us, hl with | [_, _], _ => rfl
  have F3 := fun_mk (st := s__law_odd) l3 c3 k3
  have b3 := F3.binds (ps := ["_law_hand_here"]) fun _ _ _ _ _ _ us hl => match us, hl with | [_], _ => rfl
  have F4 := fun_mk (st := s__law_kinds) l4 c4 k4
  have b4 := F4.binds (ps := ["_law_error"]) fun _ _ _ _ _ _ us hl => match us, hl with | [_], _ => rfl
  have F5 := fun_mk (st := s__law_made) l5 c5 k5
  have b5 := F5.binds (ps := ["_law_thing"]) fun _ _ _ _ _ _ us hl => match us, hl with | [_], _ => rfl
  have F6 := fun_mk (st := s__law_named) l6 c6 k6
  have b6 := F6.binds (ps := ["_law_thing"]) fun _ _ _ _ _ _ us hl => match us, hl with | [_], _ => rfl
  have F7 := fun_mk (st := s__law_fields) l7 c7 k7
  have b7 := F7.binds (ps := ["_law_made_here"]) fun _ _ _ _ _ _ us hl => match us, hl with | [_], _ => rfl
  have F8 := fun_mk (st := s_law) l8 c8 k8
  have b8 := F8.binds (ps := ["_law_script"]) fun _ _ _ _ _ _ us hl => match us, hl with | [_], _ => rfl
  have xr0 : XRow K ("NoElement", C0, bm0) := ⟨xa0, xv0, _, _, _, _, _, _, _, _, _, _, _, _, _, _, xl0⟩
  have xF0 := fun_mk (st := s_NoElement_init) xL0 xc0 xk0
  have xb0 := xF0.binds (ps := ["self", "key"]) fun _ _ _ _ _ _ us hl => match us, hl with | [_, _], _ => rfl
  have xkb0 : KBinds K _ ["self", "key"] ["key"] (kwG [.inl 0, .inr 0] 1 1) (kwG [.inl 0, .inr 0] 1 1) := kbinds_of xF0 (fun _ _ _ _ _ _ us ws h1 h2 _ => match us, ws, h1, h2 with | [_], [_], _, _ => rfl) (by simp)
  have xr1 : XRow K ("BadOperations", C1, bm1) := ⟨xa1, xv1, _, _, _, _, _, _, _, _, _, _, _, _, _, _, xl1⟩
  have xF1 := fun_mk (st := s_BadOperations_init) xL1 xc1 xk1
  have xb1 := xF1.binds (ps := ["self", "value"]) fun _ _ _ _ _ _ us hl => match us, hl with | [_, _], _ => rfl
  have xkb1 : KBinds K _ ["self", "value"] ["value"] (kwG [.inl 0, .inr 0] 1 1) (kwG [.inl 0, .inr 0] 1 1) := kbinds_of xF1 (fun _ _ _ _ _ _ us ws h1 h2 _ => match us, ws, h1, h2 with | [_], [_], _, _ => rfl) (by simp)
  have xr2 : XRow K ("Impossible", C2, bm2) := ⟨xa2, xv2, _, _, _, _, _, _, _, _, _, _, _, _, _, _, xl2⟩
  have xF2 := fun_mk (st := s_Impossible_init) xL2 xc2 xk2
  have xb2 := xF2.binds (ps := ["self", "index"]) fun _ _ _ _ _ _ us hl => match us, hl with | [_, _], _ => rfl
  have xkb2 : KBinds K _ ["self", "index"] ["index"] (kwG [.inl 0, .inr 0] 1 1) (kwG [.inl 0, .inr 0] 1 1) := kbinds_of xF2 (fun _ _ _ _ _ _ us ws h1 h2 _ => match us, ws, h1, h2 with | [_], [_], _, _ => rfl) (by simp)
  have xr3 : XRow K ("DifferentRoots", C3, bm3) := ⟨xa3, xv3, _, _, _, _, _, _, _, _, _, _, _, _, _, _, xl3⟩
  have xr4 : XRow K ("NoNumber", C4, bm4) := ⟨xa4, xv4, _, _, _, _, _, _, _, _, _, _, _, _, _, _, xl4⟩
  have xF4 := fun_mk (st := s_NoNumber_init) xL4 xc4 xk4
  have xb4 := xF4.binds (ps := ["self", "number"]) fun _ _ _ _ _ _ us hl => match us, hl with | [_, _], _ => rfl
  have xkb4 : KBinds K _ ["self", "number"] ["number"] (kwG [.inl 0, .inr 0] 1 1) (kwG [.inl 0, .inr 0] 1 1) := kbinds_of xF4 (fun _ _ _ _ _ _ us ws h1 h2 _ => match us, ws, h1, h2 with | [_], [_], _, _ => rfl) (by simp)
  have xr5 : XRow K ("NotKept", C5, bm5) := ⟨xa5, xv5, _, _, _, _, _, _, _, _, _, _, _, _, _, _, xl5⟩
  have xF5 := fun_mk (st := s_NotKept_init) xL5 xc5 xk5
  have xb5 := xF5.binds (ps := ["self", "value"]) fun _ _ _ _ _ _ us hl => match us, hl with | [_, _], _ => rfl
  have xkb5 : KBinds K _ ["self", "value"] ["value"] (kwG [.inl 0, .inr 0] 1 1) (kwG [.inl 0, .inr 0] 1 1) := kbinds_of xF5 (fun _ _ _ _ _ _ us ws h1 h2 _ => match us, ws, h1, h2 with | [_], [_], _, _ => rfl) (by simp)
  have xr6 : XRow K ("Conflict", C6, bm6) := ⟨xa6, xv6, _, _, _, _, _, _, _, _, _, _, _, _, _, _, xl6⟩
  have xF6 := fun_mk (st := s_Conflict_init) xL6 xc6 xk6
  have xb6 := xF6.binds (ps := ["self", "value"]) fun _ _ _ _ _ _ us hl => match us, hl with | [_, _], _ => rfl
  have xkb6 : KBinds K _ ["self", "value"] ["value"] (kwG [.inl 0, .inr 0] 1 1) (kwG [.inl 0, .inr 0] 1 1) := kbinds_of xF6 (fun _ _ _ _ _ _ us ws h1 h2 _ => match us, ws, h1, h2 with | [_], [_], _, _ => rfl) (by simp)
  have xr7 : XRow K ("NotPatch", C7, bm7) := ⟨xa7, xv7, _, _, _, _, _, _, _, _, _, _, _, _, _, _, xl7⟩
  have xF7 := fun_mk (st := s_NotPatch_init) xL7 xc7 xk7
  have xb7 := xF7.binds (ps := ["self", "value"]) fun _ _ _ _ _ _ us hl => match us, hl with | [_, _], _ => rfl
  have xkb7 : KBinds K _ ["self", "value"] ["value"] (kwG [.inl 0, .inr 0] 1 1) (kwG [.inl 0, .inr 0] 1 1) := kbinds_of xF7 (fun _ _ _ _ _ _ us ws h1 h2 _ => match us, ws, h1, h2 with | [_], [_], _, _ => rfl) (by simp)
  have xr8 : XRow K ("TooDear", C8, bm8) := ⟨xa8, xv8, _, _, _, _, _, _, _, _, _, _, _, _, _, _, xl8⟩
  have xF8 := fun_mk (st := s_TooDear_init) xL8 xc8 xk8
  have xb8 := xF8.binds (ps := ["self", "key"]) fun _ _ _ _ _ _ us hl => match us, hl with | [_, _], _ => rfl
  have xkb8 : KBinds K _ ["self", "key"] ["key"] (kwG [.inl 0, .inr 0] 1 1) (kwG [.inl 0, .inr 0] 1 1) := kbinds_of xF8 (fun _ _ _ _ _ _ us ws h1 h2 _ => match us, ws, h1, h2 with | [_], [_], _, _ => rfl) (by simp)
  have xr9 : XRow K ("BadTree", C9, bm9) := ⟨xa9, xv9, _, _, _, _, _, _, _, _, _, _, _, _, _, _, xl9⟩
  have xF9 := fun_mk (st := s_BadTree_init) xL9 xc9 xk9
  have xb9 := xF9.binds (ps := ["self", "value"]) fun _ _ _ _ _ _ us hl => match us, hl with | [_, _], _ => rfl
  have xkb9 : KBinds K _ ["self", "value"] ["value"] (kwG [.inl 0, .inr 0] 1 1) (kwG [.inl 0, .inr 0] 1 1) := kbinds_of xF9 (fun _ _ _ _ _ _ us ws h1 h2 _ => match us, ws, h1, h2 with | [_], [_], _, _ => rfl) (by simp)
  have xr10 : XRow K ("BadCosts", C10, bm10) := ⟨xa10, xv10, _, _, _, _, _, _, _, _, _, _, _, _, _, _, xl10⟩
  have xF10 := fun_mk (st := s_BadCosts_init) xL10 xc10 xk10
  have xb10 := xF10.binds (ps := ["self", "value"]) fun _ _ _ _ _ _ us hl => match us, hl with | [_, _], _ => rfl
  have xkb10 : KBinds K _ ["self", "value"] ["value"] (kwG [.inl 0, .inr 0] 1 1) (kwG [.inl 0, .inr 0] 1 1) := kbinds_of xF10 (fun _ _ _ _ _ _ us ws h1 h2 _ => match us, ws, h1, h2 with | [_], [_], _, _ => rfl) (by simp)
  have xr11 : XRow K ("Root", C11, bm11) := ⟨xa11, xv11, _, _, _, _, _, _, _, _, _, _, _, _, _, _, xl11⟩
  have xF11 := fun_mk (st := s_Root_init) xL11 xc11 xk11
  have xb11 := xF11.binds (ps := ["self", "key"]) fun _ _ _ _ _ _ us hl => match us, hl with | [_, _], _ => rfl
  have xkb11 : KBinds K _ ["self", "key"] ["key"] (kwG [.inl 0, .inr 0] 1 1) (kwG [.inl 0, .inr 0] 1 1) := kbinds_of xF11 (fun _ _ _ _ _ _ us ws h1 h2 _ => match us, ws, h1, h2 with | [_], [_], _, _ => rfl) (by simp)
  have xr12 : XRow K ("NotFocused", C12, bm12) := ⟨xa12, xv12, _, _, _, _, _, _, _, _, _, _, _, _, _, _, xl12⟩
  have xF12 := fun_mk (st := s_NotFocused_init) xL12 xc12 xk12
  have xb12 := xF12.binds (ps := ["self", "key"]) fun _ _ _ _ _ _ us hl => match us, hl with | [_, _], _ => rfl
  have xkb12 : KBinds K _ ["self", "key"] ["key"] (kwG [.inl 0, .inr 0] 1 1) (kwG [.inl 0, .inr 0] 1 1) := kbinds_of xF12 (fun _ _ _ _ _ _ us ws h1 h2 _ => match us, ws, h1, h2 with | [_], [_], _, _ => rfl) (by simp)
  have xr13 : XRow K ("Lost", C13, bm13) := ⟨xa13, xv13, _, _, _, _, _, _, _, _, _, _, _, _, _, _, xl13⟩
  have xF13 := fun_mk (st := s_Lost_init) xL13 xc13 xk13
  have xb13 := xF13.binds (ps := ["self", "value"]) fun _ _ _ _ _ _ us hl => match us, hl with | [_, _], _ => rfl
  have xkb13 : KBinds K _ ["self", "value"] ["value"] (kwG [.inl 0, .inr 0] 1 1) (kwG [.inl 0, .inr 0] 1 1) := kbinds_of xF13 (fun _ _ _ _ _ _ us ws h1 h2 _ => match us, ws, h1, h2 with | [_], [_], _, _ => rfl) (by simp)
  have xr14 : XRow K ("NothingToUndo", C14, bm14) := ⟨xa14, xv14, _, _, _, _, _, _, _, _, _, _, _, _, _, _, xl14⟩
  have xr15 : XRow K ("BadText", C15, bm15) := ⟨xa15, xv15, _, _, _, _, _, _, _, _, _, _, _, _, _, _, xl15⟩
  have xF15 := fun_mk (st := s_BadText_init) xL15 xc15 xk15
  have xb15 := xF15.binds (ps := ["self", "line"]) fun _ _ _ _ _ _ us hl => match us, hl with | [_, _], _ => rfl
  have xkb15 : KBinds K _ ["self", "line"] ["line"] (kwG [.inl 0, .inr 0] 1 1) (kwG [.inl 0, .inr 0] 1 1) := kbinds_of xF15 (fun _ _ _ _ _ _ us ws h1 h2 _ => match us, ws, h1, h2 with | [_], [_], _, _ => rfl) (by simp)
  have xr16 : XRow K ("BadLine", C16, bm16) := ⟨xa16, xv16, _, _, _, _, _, _, _, _, _, _, _, _, _, _, xl16⟩
  have xF16 := fun_mk (st := s_BadLine_init) xL16 xc16 xk16
  have xb16 := xF16.binds (ps := ["self", "line"]) fun _ _ _ _ _ _ us hl => match us, hl with | [_, _], _ => rfl
  have xkb16 : KBinds K _ ["self", "line"] ["line"] (kwG [.inl 0, .inr 0] 1 1) (kwG [.inl 0, .inr 0] 1 1) := kbinds_of xF16 (fun _ _ _ _ _ _ us ws h1 h2 _ => match us, ws, h1, h2 with | [_], [_], _, _ => rfl) (by simp)
  have rows : ∀ r ∈ ([("NoElement", C0, bm0), ("BadOperations", C1, bm1), ("Impossible", C2, bm2), ("DifferentRoots", C3, bm3), ("NoNumber", C4, bm4), ("NotKept", C5, bm5), ("Conflict", C6, bm6), ("NotPatch", C7, bm7), ("TooDear", C8, bm8), ("BadTree", C9, bm9), ("BadCosts", C10, bm10), ("Root", C11, bm11), ("NotFocused", C12, bm12), ("Lost", C13, bm13), ("NothingToUndo", C14, bm14), ("BadText", C15, bm15), ("BadLine", C16, bm16)] : List (Str × Addr × List Value)), XRow K r := fun r hr => by
    simp only [List.mem_cons, List.not_mem_nil, or_false] at hr
    rcases hr with rfl | rfl | rfl | rfl | rfl | rfl | rfl | rfl | rfl | rfl | rfl | rfl | rfl | rfl | rfl | rfl | rfl
    · exact xr0
    · exact xr1
    · exact xr2
    · exact xr3
    · exact xr4
    · exact xr5
    · exact xr6
    · exact xr7
    · exact xr8
    · exact xr9
    · exact xr10
    · exact xr11
    · exact xr12
    · exact xr13
    · exact xr14
    · exact xr15
    · exact xr16
  have isCB : (PySem.W.clsIn K CB).isSome = true := bis
  have isC_BadCosts : (PySem.W.clsIn K C10).isSome = true := by obtain ⟨cd, e, _⟩ := xrow_cls xr10; exact Option.isSome_iff_exists.mpr ⟨cd, e⟩
  have isC_BadLine : (PySem.W.clsIn K C16).isSome = true := by obtain ⟨cd, e, _⟩ := xrow_cls xr16; exact Option.isSome_iff_exists.mpr ⟨cd, e⟩
  have isC_BadOperations : (PySem.W.clsIn K C1).isSome = true := by obtain ⟨cd, e, _⟩ := xrow_cls xr1; exact Option.isSome_iff_exists.mpr ⟨cd, e⟩
  have isC_BadText : (PySem.W.clsIn K C15).isSome = true := by obtain ⟨cd, e, _⟩ := xrow_cls xr15; exact Option.isSome_iff_exists.mpr ⟨cd, e⟩
  have isC_BadTree : (PySem.W.clsIn K C9).isSome = true := by obtain ⟨cd, e, _⟩ := xrow_cls xr9; exact Option.isSome_iff_exists.mpr ⟨cd, e⟩
  have isC_Conflict : (PySem.W.clsIn K C6).isSome = true := by obtain ⟨cd, e, _⟩ := xrow_cls xr6; exact Option.isSome_iff_exists.mpr ⟨cd, e⟩
  have isC_DifferentRoots : (PySem.W.clsIn K C3).isSome = true := by obtain ⟨cd, e, _⟩ := xrow_cls xr3; exact Option.isSome_iff_exists.mpr ⟨cd, e⟩
  have isC_Impossible : (PySem.W.clsIn K C2).isSome = true := by obtain ⟨cd, e, _⟩ := xrow_cls xr2; exact Option.isSome_iff_exists.mpr ⟨cd, e⟩
  have isC_Lost : (PySem.W.clsIn K C13).isSome = true := by obtain ⟨cd, e, _⟩ := xrow_cls xr13; exact Option.isSome_iff_exists.mpr ⟨cd, e⟩
  have isC_NoElement : (PySem.W.clsIn K C0).isSome = true := by obtain ⟨cd, e, _⟩ := xrow_cls xr0; exact Option.isSome_iff_exists.mpr ⟨cd, e⟩
  have isC_NoNumber : (PySem.W.clsIn K C4).isSome = true := by obtain ⟨cd, e, _⟩ := xrow_cls xr4; exact Option.isSome_iff_exists.mpr ⟨cd, e⟩
  have isC_NotFocused : (PySem.W.clsIn K C12).isSome = true := by obtain ⟨cd, e, _⟩ := xrow_cls xr12; exact Option.isSome_iff_exists.mpr ⟨cd, e⟩
  have isC_NotKept : (PySem.W.clsIn K C5).isSome = true := by obtain ⟨cd, e, _⟩ := xrow_cls xr5; exact Option.isSome_iff_exists.mpr ⟨cd, e⟩
  have isC_NotPatch : (PySem.W.clsIn K C7).isSome = true := by obtain ⟨cd, e, _⟩ := xrow_cls xr7; exact Option.isSome_iff_exists.mpr ⟨cd, e⟩
  have isC_NothingToUndo : (PySem.W.clsIn K C14).isSome = true := by obtain ⟨cd, e, _⟩ := xrow_cls xr14; exact Option.isSome_iff_exists.mpr ⟨cd, e⟩
  have isC_Root : (PySem.W.clsIn K C11).isSome = true := by obtain ⟨cd, e, _⟩ := xrow_cls xr11; exact Option.isSome_iff_exists.mpr ⟨cd, e⟩
  have isC_TooDear : (PySem.W.clsIn K C8).isSome = true := by obtain ⟨cd, e, _⟩ := xrow_cls xr8; exact Option.isSome_iff_exists.mpr ⟨cd, e⟩
  let T : All K mg := { x_NoElement := ⟨C0, I0, _, xF0, PySem.W.mg_of X G xa0, xf0.oex xr0, xi0, xt0, xb0, xkb0, xf0.xck xa0 (fun f hf => by cases List.mem_singleton.mp hf; exact xn0)⟩, x_BadOperations := ⟨C1, I1, _, xF1, PySem.W.mg_of X G xa1, xf1.oex xr1, xi1, xt1, xb1, xkb1, xf1.xck xa1 (fun f hf => by cases List.mem_singleton.mp hf; exact xn1)⟩, x_Impossible := ⟨C2, I2, _, xF2, PySem.W.mg_of X G xa2, xf2.oex xr2, xi2, xt2, xb2, xkb2, xf2.xck xa2 (fun f hf => by cases List.mem_singleton.mp hf; exact xn2)⟩, x_DifferentRoots := ⟨C3, PySem.W.mg_of X G xa3, xe3, xf3.kc, xf3.xck xa3 (fun f hf => by cases hf)⟩, x_NoNumber := ⟨C4, I4, _, xF4, PySem.W.mg_of X G xa4, xf4.oex xr4, xi4, xt4, xb4, xkb4, xf4.xck xa4 (fun f hf => by cases List.mem_singleton.mp hf; exact xn4)⟩, x_NotKept := ⟨C5, I5, _, xF5, PySem.W.mg_of X G xa5, xf5.oex xr5, xi5, xt5, xb5, xkb5, xf5.xck xa5 (fun f hf => by cases List.mem_singleton.mp hf; exact xn5)⟩, x_Conflict := ⟨C6, I6, _, xF6, PySem.W.mg_of X G xa6, xf6.oex xr6, xi6, xt6, xb6, xkb6, xf6.xck xa6 (fun f hf => by cases List.mem_singleton.mp hf; exact xn6)⟩, x_NotPatch := ⟨C7, I7, _, xF7, PySem.W.mg_of X G xa7, xf7.oex xr7, xi7, xt7, xb7, xkb7, xf7.xck xa7 (fun f hf => by cases List.mem_singleton.mp hf; exact xn7)⟩, x_TooDear := ⟨C8, I8, _, xF8, PySem.W.mg_of X G xa8, xf8.oex xr8, xi8, xt8, xb8, xkb8, xf8.xck xa8 (fun f hf => by cases List.mem_singleton.mp hf; exact xn8)⟩, x_BadTree := ⟨C9, I9, _, xF9, PySem.W.mg_of X G xa9, xf9.oex xr9, xi9, xt9, xb9, xkb9, xf9.xck xa9 (fun f hf => by cases List.mem_singleton.mp hf; exact xn9)⟩, x_BadCosts := ⟨C10, I10, _, xF10, PySem.W.mg_of X G xa10, xf10.oex xr10, xi10, xt10, xb10, xkb10, xf10.xck xa10 (fun f hf => by cases List.mem_singleton.mp hf; exact xn10)⟩, x_Root := ⟨C11, I11, _, xF11, PySem.W.mg_of X G xa11, xf11.oex xr11, xi11, xt11, xb11, xkb11, xf11.xck xa11 (fun f hf => by cases List.mem_singleton.mp hf; exact xn11)⟩, x_NotFocused := ⟨C12, I12, _, xF12, PySem.W.mg_of X G xa12, xf12.oex xr12, xi12, xt12, xb12, xkb12, xf12.xck xa12 (fun f hf => by cases List.mem_singleton.mp hf; exact xn12)⟩, x_Lost := ⟨C13, I13, _, xF13, PySem.W.mg_of X G xa13, xf13.oex xr13, xi13, xt13, xb13, xkb13, xf13.xck xa13 (fun f hf => by cases List.mem_singleton.mp hf; exact xn13)⟩, x_NothingToUndo := ⟨C14, PySem.W.mg_of X G xa14, xe14, xf14.kc, xf14.xck xa14 (fun f hf => by cases hf)⟩, x_BadText := ⟨C15, I15, _, xF15, PySem.W.mg_of X G xa15, xf15.oex xr15, xi15, xt15, xb15, xkb15, xf15.xck xa15 (fun f hf => by cases List.mem_singleton.mp hf; exact xn15)⟩, x_BadLine := ⟨C16, I16, _, xF16, PySem.W.mg_of X G xa16, xf16.oex xr16, xi16, xt16, xb16, xkb16, xf16.xck xa16 (fun f hf => by cases List.mem_singleton.mp hf; exact xn16)⟩, b_KeyedError := ⟨CB, PySem.W.mg_of X G ba, bsp, brd, bat⟩, a_BadCosts := C10, m_BadCosts := PySem.W.mg_of X G xa10, kit_BadCosts := fun y b C => kit_ok kq_BadCosts rows isC_BadCosts xf10.ty y b C, a_BadLine := C16, m_BadLine := PySem.W.mg_of X G xa16, kit_BadLine := fun y b C => kit_ok kq_BadLine rows isC_BadLine xf16.ty y b C, a_BadOperations := C1, m_BadOperations := PySem.W.mg_of X G xa1, kit_BadOperations := fun y b C => kit_ok kq_BadOperations rows isC_BadOperations xf1.ty y b C, a_BadText := C15, m_BadText := PySem.W.mg_of X G xa15, kit_BadText := fun y b C => kit_ok kq_BadText rows isC_BadText xf15.ty y b C, a_BadTree := C9, m_BadTree := PySem.W.mg_of X G xa9, kit_BadTree := fun y b C => kit_ok kq_BadTree rows isC_BadTree xf9.ty y b C, a_Conflict := C6, m_Conflict := PySem.W.mg_of X G xa6, kit_Conflict := fun y b C => kit_ok kq_Conflict rows isC_Conflict xf6.ty y b C, a_DifferentRoots := C3, m_DifferentRoots := PySem.W.mg_of X G xa3, kit_DifferentRoots := fun y b C => kit_ok kq_DifferentRoots rows isC_DifferentRoots xf3.ty y b C, a_Impossible := C2, m_Impossible := PySem.W.mg_of X G xa2, kit_Impossible := fun y b C => kit_ok kq_Impossible rows isC_Impossible xf2.ty y b C, a_KeyedError := CB, m_KeyedError := PySem.W.mg_of X G ba, kit_KeyedError := fun y b C => kit_ok kq_KeyedError rows isCB bty y b C, a_Lost := C13, m_Lost := PySem.W.mg_of X G xa13, kit_Lost := fun y b C => kit_ok kq_Lost rows isC_Lost xf13.ty y b C, a_NoElement := C0, m_NoElement := PySem.W.mg_of X G xa0, kit_NoElement := fun y b C => kit_ok kq_NoElement rows isC_NoElement xf0.ty y b C, a_NoNumber := C4, m_NoNumber := PySem.W.mg_of X G xa4, kit_NoNumber := fun y b C => kit_ok kq_NoNumber rows isC_NoNumber xf4.ty y b C, a_NotFocused := C12, m_NotFocused := PySem.W.mg_of X G xa12, kit_NotFocused := fun y b C => kit_ok kq_NotFocused rows isC_NotFocused xf12.ty y b C, a_NotKept := C5, m_NotKept := PySem.W.mg_of X G xa5, kit_NotKept := fun y b C => kit_ok kq_NotKept rows isC_NotKept xf5.ty y b C, a_NotPatch := C7, m_NotPatch := PySem.W.mg_of X G xa7, kit_NotPatch := fun y b C => kit_ok kq_NotPatch rows isC_NotPatch xf7.ty y b C, a_NothingToUndo := C14, m_NothingToUndo := PySem.W.mg_of X G xa14, kit_NothingToUndo := fun y b C => kit_ok kq_NothingToUndo rows isC_NothingToUndo xf14.ty y b C, a_Root := C11, m_Root := PySem.W.mg_of X G xa11, kit_Root := fun y b C => kit_ok kq_Root rows isC_Root xf11.ty y b C, a_TooDear := C8, m_TooDear := PySem.W.mg_of X G xa8, kit_TooDear := fun y b C => kit_ok kq_TooDear rows isC_TooDear xf8.ty y b C, kit_ValueError := fun y b C => kit_ve rows y b C, _law_hand := ⟨_, _, F0, PySem.W.mg_of X G a0, b0⟩, _law_take := ⟨_, _, F1, PySem.W.mg_of X G a1, b1⟩, _law_of := ⟨_, _, F2, PySem.W.mg_of X G a2, b2⟩, _law_odd := ⟨_, _, F3, PySem.W.mg_of X G a3, b3⟩, _law_kinds := ⟨_, _, F4, PySem.W.mg_of X G a4, b4⟩, _law_made := ⟨_, _, F5, PySem.W.mg_of X G a5, b5⟩, _law_named := ⟨_, _, F6, PySem.W.mg_of X G a6, b6⟩, _law_fields := ⟨_, _, F7, PySem.W.mg_of X G a7, b7⟩, law := ⟨_, _, F8, PySem.W.mg_of X G a8, b8⟩, z_ValueError := PySem.W.mg_none_of X G z_ValueError, z_abs := PySem.W.mg_none_of X G z_abs, z_enumerate := PySem.W.mg_none_of X G z_enumerate, z_int := PySem.W.mg_none_of X G z_int, z_isinstance := PySem.W.mg_none_of X G z_isinstance, z_len := PySem.W.mg_none_of X G z_len, z_range := PySem.W.mg_none_of X G z_range, z_repr := PySem.W.mg_none_of X G z_repr }
  exact ⟨PySem.W.fnOf "law" "law" (defArgs s_law) (defBody s_law) (defScope s_law) .none kV8 dc8 pm8 an8 cd8 ct8, fun s v => .of_eq rfl, fun base _ _ => ok_law (P := l.prog) (w := w) (base := base) T⟩
theorem walk {l : PySem.W.OpenLaw} {q : Program} {loose : List Str} {XP : (Str → Option Value) → Heap → Prop} {YP : World → Heap → Prop} {d : DefRec} {K : Params → PySem.W.Frag} (hn : l.most = some 63) (hdf : d.params.defaults = [])
    (hY : ∀ (w : World) (h : Heap), YP w h → (K w.params).In h)
    (F : ∀ (w : World) (mg : Str → Option Value) (fa : Addr) (h : Heap), (K w.params).In h → h.Ns mainGlobals mg → mg d.name = some (.ref fa) →
      ∃ fd : FuncData, (∀ (s : Shared) (u : Value), BindsTo s fd ⟨[u], []⟩ [("_law_script", u)]) ∧ ∀ base : Heap, (K w.params).In base → base.Ns mainGlobals mg → FnG l.prog w (K w.params) mg base CX0 5 fa fd ["_law_script"] (LSp (K w.params) sp_law)) :
    PySem.W.WalkO q loose XP YP l.row.toRowW d [] (fun f vs => PySem.call f vs) :=
  walkG (n := 63) (k := 5) (x := "_law_script") (CX := CX0) (sp := fun K => LSp K sp_law) hn (by decide) hdf ⟨rfl, by decide, by decide⟩ hY F (fun K H a ns hl _ hS => law_start hS (law_takes hl)) fun _ _ _ _ z => z
end LK
open PySem PySem.W PyProof.Rows
set_option maxRecDepth 100000 in
set_option maxHeartbeats 0 in
theorem PySem.Challenge.cw_keyedmoves_k12_errors_by_themselves_holds : PySem.Challenge.rw_keyedmoves_k12_errors_by_themselves.Holds := by
  w_on; o_law; k_head; (case hw => w_witness2)
  k_fill
  refine LK.walk (l := PySem.Challenge.rw_keyedmoves_k12_errors_by_themselves) rfl rfl (fun w h Y => PySem.W.kIn_of Y) ?F
  case F =>
    intro w mg fa h KX G hmg
    refine' LK.all_mk KX G hmg ?a0 ?l0 ?c0 ?k0 ?a1 ?l1 ?c1 ?k1 ?a2 ?l2 ?c2 ?k2 ?a3 ?l3 ?c3 ?k3 ?a4 ?l4 ?c4 ?k4 ?a5 ?l5 ?c5 ?k5 ?a6 ?l6 ?c6 ?k6 ?a7 ?l7 ?c7 ?k7 ?a8 ?l8 ?c8 ?k8 ?xa0 ?xl0 ?xv0 ?xf0 ?xi0 ?xL0 ?xc0 ?xk0 ?xt0 ?xn0 ?xa1 ?xl1 ?xv1 ?xf1 ?xi1 ?xL1 ?xc1 ?xk1 ?xt1 ?xn1 ?xa2 ?xl2 ?xv2 ?xf2 ?xi2 ?xL2 ?xc2 ?xk2 ?xt2 ?xn2 ?xa3 ?xl3 ?xv3 ?xf3 ?xe3 ?xa4 ?xl4 ?xv4 ?xf4 ?xi4 ?xL4 ?xc4 ?xk4 ?xt4 ?xn4 ?xa5 ?xl5 ?xv5 ?xf5 ?xi5 ?xL5 ?xc5 ?xk5 ?xt5 ?xn5 ?xa6 ?xl6 ?xv6 ?xf6 ?xi6 ?xL6 ?xc6 ?xk6 ?xt6 ?xn6 ?xa7 ?xl7 ?xv7 ?xf7 ?xi7 ?xL7 ?xc7 ?xk7 ?xt7 ?xn7 ?xa8 ?xl8 ?xv8 ?xf8 ?xi8 ?xL8 ?xc8 ?xk8 ?xt8 ?xn8 ?xa9 ?xl9 ?xv9 ?xf9 ?xi9 ?xL9 ?xc9 ?xk9 ?xt9 ?xn9 ?xa10 ?xl10 ?xv10 ?xf10 ?xi10 ?xL10 ?xc10 ?xk10 ?xt10 ?xn10 ?xa11 ?xl11 ?xv11 ?xf11 ?xi11 ?xL11 ?xc11 ?xk11 ?xt11 ?xn11 ?xa12 ?xl12 ?xv12 ?xf12 ?xi12 ?xL12 ?xc12 ?xk12 ?xt12 ?xn12 ?xa13 ?xl13 ?xv13 ?xf13 ?xi13 ?xL13 ?xc13 ?xk13 ?xt13 ?xn13 ?xa14 ?xl14 ?xv14 ?xf14 ?xe14 ?xa15 ?xl15 ?xv15 ?xf15 ?xi15 ?xL15 ?xc15 ?xk15 ?xt15 ?xn15 ?xa16 ?xl16 ?xv16 ?xf16 ?xi16 ?xL16 ?xc16 ?xk16 ?xt16 ?xn16 ?ba ?bsp ?brd ?bat ?bis ?bty ?kq_BadCosts ?kq_BadLine ?kq_BadOperations ?kq_BadText ?kq_BadTree ?kq_Conflict ?kq_DifferentRoots ?kq_Impossible ?kq_KeyedError ?kq_Lost ?kq_NoElement ?kq_NoNumber ?kq_NotFocused ?kq_NotKept ?kq_NotPatch ?kq_NothingToUndo ?kq_Root ?kq_TooDear  ?z_ValueError ?z_abs ?z_enumerate ?z_int ?z_isinstance ?z_len ?z_range ?z_repr
    (case a0 => k_is); (case l0 => k_is); (case c0 => k_is); (case k0 => k_is)
    (case a1 => k_is); (case l1 => k_is); (case c1 => k_is); (case k1 => k_is)
    (case a2 => k_is); (case l2 => k_is); (case c2 => k_is); (case k2 => k_is)
    (case a3 => k_is); (case l3 => k_is); (case c3 => k_is); (case k3 => k_is)
    (case a4 => k_is); (case l4 => k_is); (case c4 => k_is); (case k4 => k_is)
    (case a5 => k_is); (case l5 => k_is); (case c5 => k_is); (case k5 => k_is)
    (case a6 => k_is); (case l6 => k_is); (case c6 => k_is); (case k6 => k_is)
    (case a7 => k_is); (case l7 => k_is); (case c7 => k_is); (case k7 => k_is)
    (case a8 => k_is); (case l8 => k_is); (case c8 => k_is); (case k8 => k_is)
    (case xa0 => k_is); (case xl0 => k_is); (case xv0 => rfl); (case xf0 => refine' DS.XF.mk ?_ ?_ ?_ ?_ ?_ ?_ ?_ ?_ ?_ ?_ ?_ <;> k_is)
    (case xi0 => k_is); (case xL0 => k_is); (case xc0 => k_is); (case xk0 => k_is); (case xt0 => k_is); (case xn0 => k_is)
    (case xa1 => k_is); (case xl1 => k_is); (case xv1 => rfl); (case xf1 => refine' DS.XF.mk ?_ ?_ ?_ ?_ ?_ ?_ ?_ ?_ ?_ ?_ ?_ <;> k_is)
    (case xi1 => k_is); (case xL1 => k_is); (case xc1 => k_is); (case xk1 => k_is); (case xt1 => k_is); (case xn1 => k_is)
    (case xa2 => k_is); (case xl2 => k_is); (case xv2 => rfl); (case xf2 => refine' DS.XF.mk ?_ ?_ ?_ ?_ ?_ ?_ ?_ ?_ ?_ ?_ ?_ <;> k_is)
    (case xi2 => k_is); (case xL2 => k_is); (case xc2 => k_is); (case xk2 => k_is); (case xt2 => k_is); (case xn2 => k_is)
    (case xa3 => k_is); (case xl3 => k_is); (case xv3 => rfl); (case xf3 => refine' DS.XF.mk ?_ ?_ ?_ ?_ ?_ ?_ ?_ ?_ ?_ ?_ ?_ <;> k_is)
    (case xe3 => kernel_rfl)
    (case xa4 => k_is); (case xl4 => k_is); (case xv4 => rfl); (case xf4 => refine' DS.XF.mk ?_ ?_ ?_ ?_ ?_ ?_ ?_ ?_ ?_ ?_ ?_ <;> k_is)
    (case xi4 => k_is); (case xL4 => k_is); (case xc4 => k_is); (case xk4 => k_is); (case xt4 => k_is); (case xn4 => k_is)
    (case xa5 => k_is); (case xl5 => k_is); (case xv5 => rfl); (case xf5 => refine' DS.XF.mk ?_ ?_ ?_ ?_ ?_ ?_ ?_ ?_ ?_ ?_ ?_ <;> k_is)
    (case xi5 => k_is); (case xL5 => k_is); (case xc5 => k_is); (case xk5 => k_is); (case xt5 => k_is); (case xn5 => k_is)
    (case xa6 => k_is); (case xl6 => k_is); (case xv6 => rfl); (case xf6 => refine' DS.XF.mk ?_ ?_ ?_ ?_ ?_ ?_ ?_ ?_ ?_ ?_ ?_ <;> k_is)
    (case xi6 => k_is); (case xL6 => k_is); (case xc6 => k_is); (case xk6 => k_is); (case xt6 => k_is); (case xn6 => k_is)
    (case xa7 => k_is); (case xl7 => k_is); (case xv7 => rfl); (case xf7 => refine' DS.XF.mk ?_ ?_ ?_ ?_ ?_ ?_ ?_ ?_ ?_ ?_ ?_ <;> k_is)
    (case xi7 => k_is); (case xL7 => k_is); (case xc7 => k_is); (case xk7 => k_is); (case xt7 => k_is); (case xn7 => k_is)
    (case xa8 => k_is); (case xl8 => k_is); (case xv8 => rfl); (case xf8 => refine' DS.XF.mk ?_ ?_ ?_ ?_ ?_ ?_ ?_ ?_ ?_ ?_ ?_ <;> k_is)
    (case xi8 => k_is); (case xL8 => k_is); (case xc8 => k_is); (case xk8 => k_is); (case xt8 => k_is); (case xn8 => k_is)
    (case xa9 => k_is); (case xl9 => k_is); (case xv9 => rfl); (case xf9 => refine' DS.XF.mk ?_ ?_ ?_ ?_ ?_ ?_ ?_ ?_ ?_ ?_ ?_ <;> k_is)
    (case xi9 => k_is); (case xL9 => k_is); (case xc9 => k_is); (case xk9 => k_is); (case xt9 => k_is); (case xn9 => k_is)
    (case xa10 => k_is); (case xl10 => k_is); (case xv10 => rfl); (case xf10 => refine' DS.XF.mk ?_ ?_ ?_ ?_ ?_ ?_ ?_ ?_ ?_ ?_ ?_ <;> k_is)
    (case xi10 => k_is); (case xL10 => k_is); (case xc10 => k_is); (case xk10 => k_is); (case xt10 => k_is); (case xn10 => k_is)
    (case xa11 => k_is); (case xl11 => k_is); (case xv11 => rfl); (case xf11 => refine' DS.XF.mk ?_ ?_ ?_ ?_ ?_ ?_ ?_ ?_ ?_ ?_ ?_ <;> k_is)
    (case xi11 => k_is); (case xL11 => k_is); (case xc11 => k_is); (case xk11 => k_is); (case xt11 => k_is); (case xn11 => k_is)
    (case xa12 => k_is); (case xl12 => k_is); (case xv12 => rfl); (case xf12 => refine' DS.XF.mk ?_ ?_ ?_ ?_ ?_ ?_ ?_ ?_ ?_ ?_ ?_ <;> k_is)
    (case xi12 => k_is); (case xL12 => k_is); (case xc12 => k_is); (case xk12 => k_is); (case xt12 => k_is); (case xn12 => k_is)
    (case xa13 => k_is); (case xl13 => k_is); (case xv13 => rfl); (case xf13 => refine' DS.XF.mk ?_ ?_ ?_ ?_ ?_ ?_ ?_ ?_ ?_ ?_ ?_ <;> k_is)
    (case xi13 => k_is); (case xL13 => k_is); (case xc13 => k_is); (case xk13 => k_is); (case xt13 => k_is); (case xn13 => k_is)
    (case xa14 => k_is); (case xl14 => k_is); (case xv14 => rfl); (case xf14 => refine' DS.XF.mk ?_ ?_ ?_ ?_ ?_ ?_ ?_ ?_ ?_ ?_ ?_ <;> k_is)
    (case xe14 => kernel_rfl)
    (case xa15 => k_is); (case xl15 => k_is); (case xv15 => rfl); (case xf15 => refine' DS.XF.mk ?_ ?_ ?_ ?_ ?_ ?_ ?_ ?_ ?_ ?_ ?_ <;> k_is)
    (case xi15 => k_is); (case xL15 => k_is); (case xc15 => k_is); (case xk15 => k_is); (case xt15 => k_is); (case xn15 => k_is)
    (case xa16 => k_is); (case xl16 => k_is); (case xv16 => rfl); (case xf16 => refine' DS.XF.mk ?_ ?_ ?_ ?_ ?_ ?_ ?_ ?_ ?_ ?_ ?_ <;> k_is)
    (case xi16 => k_is); (case xL16 => k_is); (case xc16 => k_is); (case xk16 => k_is); (case xt16 => k_is); (case xn16 => k_is)
    (case ba => k_is); (case bsp => k_is); (case brd => k_is); (case bat => k_is); (case bis => k_is); (case bty => k_is)
    (case kq_BadCosts => kernel_rfl); (case kq_BadLine => kernel_rfl); (case kq_BadOperations => kernel_rfl); (case kq_BadText => kernel_rfl); (case kq_BadTree => kernel_rfl); (case kq_Conflict => kernel_rfl); (case kq_DifferentRoots => kernel_rfl); (case kq_Impossible => kernel_rfl); (case kq_KeyedError => kernel_rfl); (case kq_Lost => kernel_rfl); (case kq_NoElement => kernel_rfl); (case kq_NoNumber => kernel_rfl); (case kq_NotFocused => kernel_rfl); (case kq_NotKept => kernel_rfl); (case kq_NotPatch => kernel_rfl); (case kq_NothingToUndo => kernel_rfl); (case kq_Root => kernel_rfl); (case kq_TooDear => kernel_rfl)
    (case z_ValueError => k_is); (case z_abs => k_is); (case z_enumerate => k_is); (case z_int => k_is); (case z_isinstance => k_is); (case z_len => k_is); (case z_range => k_is); (case z_repr => k_is)
