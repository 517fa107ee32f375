import PyProof.Rows.All
import Wide.All
import OpenK.AllK
import Wide.FinOn
import HandS.Base
import HandS.Call
import HandS.List
import HandS.Comp
import HandS.Ends
import HandS.Exc
import HandS.Words
import HandS.WordsExc
import HandS.Defaults
import HandS.HeadHook1
import HandS.HeadHook2
import HandS.IsInst
import HandS.ExcInit
import HandS.Text
import HandS.TupAny
import HandS.TupMul
import HandS.TupLe
import HandS.Deep
import HandS.FStr
import HandS.Iter
import HandS.ExcCtx
import HandS.WordsDict
import HandS.HeadEnd
import HandS.EndBits
import HandS.Head2
import HandS.Codes
import HandS.SlotsOwn
import HandS.RaiseMore
import KE.KExcInit
import KE.KOpsOwn
import HandS.Property
import HandS.Style
import HandS.ClsMeth
import PyProof.EnumMake
import HandS.ExcField
import HandS.ExcIs
import PyProof.Draws
import PyProof.CallFns
import KE.KExcIs
import HandS.Dict
import HandS.More
import HandS.Star
import PyProof.ListStr
import HandS.TryMany
import HandS.Conv
import HandS.WideBits
import PyProof.AutoSeq1
import PyProof.Rows.StrPadWhole
import KE.DataCmp
import KE.GoesEnum
import PyProof.Rows.StrMul
import HandS.StrMore
import KE.DataEq
import HandS.Flt
import KE.KIndexOf
import HandS.SetFor
import HandS.TupSets
import KE.SortData
import KE.DataMinMax
import OpenK.KWalk
import KE.KExcMake
import HandS.Wide
import HandS.HotCalls
import PyProof.ZipIter
import KE.KDictList
import HandS.GenOver
import HandS.GenList
import PyProof.Rows.SumAny
import PySem.Challenge.RW_workerworlds_k22_all_cuts
set_option Elab.async false
set_option linter.all false
set_option maxRecDepth 100000
set_option maxHeartbeats 2000000
set_option maxHeartbeats 2000000
namespace UL
open PySem PySem.Spec PyProof.Rows L2

inductive U where
  | non | bl (b : Bool) | int (i : Int) | str (x : List Nat) | tup (us : List U) | ref (a : Addr) | ty (n : String) | rol (us : List U) | glo (x : String) | exc (a : Addr) (d : Option Addr) (c : String) (fl : List String) (us : List U)
  deriving Inhabited

abbrev S (s : String) : Str := Str.ofString s

/-- a list that is never written: the script -/
def RoL (K : PySem.W.Frag) (H : Hp) (a : Addr) (xs : List V) : Prop :=
  (∃ o, H a = some (.frz o (.lst xs))) ∨
    ∃ (o : Obj) (its : Array Value) (n : Nat), K.lookup a = some o ∧ o.cls = .type "list" ∧ o.dict = none ∧ o.data = .seq its n ∧ its.size ≤ sizeLine ∧ Vals xs its.toList
theorem RoL.sq {K : PySem.W.Frag} {H : Hp} {a : Addr} {xs : List V} (h : RoL K H a xs) : SqL K H a xs := by
  rcases h with ⟨o, h⟩ | h
  · exact .inl (.inr ⟨o, h⟩)
  · exact .inr h

mutual
def RelU (K : PySem.W.Frag) (H : Hp) : U → V → Prop
  | .non, v => v = .non
  | .bl b, v => v = .bl b
  | .int i, v => v = .int i
  | .str l, v => v = .str ⟨l.toArray⟩
  | .tup us, v => ∃ a vs, v = .ref a ∧ SqT K H a vs ∧ RelUs K H us vs
  | .ref a, v => v = .ref a
  | .ty n, v => v = .ty n
  | .rol us, v => ∃ a vs, v = .ref a ∧ RoL K H a vs ∧ RelUs K H us vs
  | .glo x, v => v = .ref (He.ga K (S x))
  | .exc a d _ fl us, v => v = .ref a ∧ (fl = [] ∨ ∃ x gs, d = some x ∧ H x = some (.xd gs) ∧ RelE K H gs fl us)
def RelUs (K : PySem.W.Frag) (H : Hp) : List U → List V → Prop
  | [], vs => vs = []
  | u :: us, vs => ∃ v ws, vs = v :: ws ∧ RelU K H u v ∧ RelUs K H us ws
/-- what a caught exception's dict holds -/
def RelE (K : PySem.W.Frag) (H : Hp) (gs : List (Str × V)) : List String → List U → Prop
  | _, [] => True
  | [], _ :: _ => False
  | f :: fl, u :: us => (∃ v, gs.lookup (S f) = some v ∧ RelU K H u v) ∧ RelE K H gs fl us
end

inductive Ob where
  | lst (us : List U)
  | dct (kvs : List (U × U))
  /-- a dict that is iterated over: read only -/
  | dcr (od : Obj) (gs : List (Key × V)) (kvs : List (U × U))
  | ins (c : String) (fs : List (String × U))
  /-- an exception made as a value: its class, its fields -/
  | xcp (c : String) (fs : List (String × U))
  deriving Inhabited
abbrev Gp := Addr → Option Ob
def gup (G : Gp) (a : Addr) (o : Ob) : Gp := fun b => if b = a then some o else G b
theorem gup_same {G : Gp} {a : Addr} {o : Ob} : gup G a o a = some o := if_pos rfl
theorem gup_ne {G : Gp} {a b : Addr} {o : Ob} (h : b ≠ a) : gup G a o b = G b := if_neg h

def fget : List (String × U) → String → Option U
  | [], _ => none
  | (g, u) :: r, f => if g = f then some u else fget r f
def fput : List (String × U) → String → U → List (String × U)
  | [], f, u => [(f, u)]
  | (g, w) :: r, f, u => if g = f then (g, u) :: r else (g, w) :: fput r f u

def RelF (K : PySem.W.Frag) (H : Hp) (C : Addr) : List (String × U) → List (Str × V) → Prop
  | [], gs => gs = []
  | (f, u) :: r, gs => ∃ v ws, gs = (S f, v) :: ws ∧ RelU K H u v ∧ NoAttr K C (S f) ∧ RelF K H C r ws

def fldsOf : String → List String
  | "Box" => ["contents"]
  | "World" => ["boxes"]
  | "Cuts" => ["count", "chunk", "many"]
  | "Dealings" => ["chunks", "workers", "many"]
  | "Program" => ["marks", "module", "of_module", "caller", "of_caller", "task"]
  | "Scope" => ["world", "own"]
  | "Task" => ["program", "parts", "targets"]
  | "Outcome" => ["answers", "failure", "world", "passed"]
  | "Worker" => ["start", "world"]
  | "Pool" => ["program", "way", "workers", "chunk", "back", "renew", "memory", "task", "crew", "opened"]
  | "Walk" => ["program", "workers", "chunk", "back", "renew", "all_seen", "begun_rows", "start", "sent", "first", "runs"]
  | "Verdict" => ["certificate", "levels"]
  | _ => []
def clsNames : List String := ["Box", "World", "Cuts", "Dealings", "Program", "Scope", "Task", "Way", "Outcome", "Worker", "Pool", "Walk", "Verdict"]
def tyNames : List String := ["int", "str", "bool", "list", "tuple", "dict", "set"]
/-- the name stands for an object of the text -/
def presB (d : String) (K : PySem.W.Frag) : Bool := match PySem.W.nsIn K mainGlobals (S d) with
  | some (some (.ref _)) => true
  | _ => false
def clsB (c : String) (K : PySem.W.Frag) : Bool :=
  let C := He.ga K (S c)
  PySem.W.plainGet K C Str.empty && PySem.W.hasDictIn K C && PySem.W.plainOver K C && decide (PySem.W.findIn K (.ref C) "__setattr__" = some (some (.builtin "object.__setattr__"))) &&
  decide (PySem.W.findIn K (.ref C) "__class__" = some (some (.builtin "object.__class__"))) && decide (PySem.W.specialIn K (.builtin "object.__class__") "__get__" = some (some (.builtin "getset_descriptor.__get__"))) &&
  decide (PySem.W.takesIn K (.builtin "object.__class__") = some true) && decide (PySem.W.mroIn K C (.type "object") = some true) &&
  decide (PySem.W.findIn K (.ref C) "__eq__" = some (some (.builtin "object.__eq__"))) && decide (PySem.W.findIn K (.ref C) "__ne__" = some (some (.builtin "object.__ne__"))) &&
  decide (PySem.W.findIn K (.ref C) "__hash__" = some (some (.builtin "object.__hash__"))) && PySem.W.selfFirst K C &&
  ((fldsOf c).all fun f => decide (PySem.W.findIn K (.ref C) (S f) = some none)) && (tyNames.all fun T => decide (PySem.W.kitOne K (.ref C) (.type T) = some false)) &&
  (clsNames.all fun d => !presB d K || decide (PySem.W.kitOne K (.ref C) (.ref (He.ga K (S d))) = some (decide (c = d))))
def ClsK (K : PySem.W.Frag) (c : String) : Prop := clsB c K = true
section
variable {K : PySem.W.Frag} {c : String}
theorem ClsK.all (h : ClsK K c) : (PySem.W.plainGet K (He.ga K (S c)) Str.empty = true ∧ PySem.W.hasDictIn K (He.ga K (S c)) = true ∧ PySem.W.plainOver K (He.ga K (S c)) = true ∧ PySem.W.findIn K (.ref (He.ga K (S c))) "__setattr__" = some (some (.builtin "object.__setattr__"))) ∧
    (PySem.W.findIn K (.ref (He.ga K (S c))) "__class__" = some (some (.builtin "object.__class__")) ∧ PySem.W.specialIn K (.builtin "object.__class__") "__get__" = some (some (.builtin "getset_descriptor.__get__")) ∧
    PySem.W.takesIn K (.builtin "object.__class__") = some true ∧ PySem.W.mroIn K (He.ga K (S c)) (.type "object") = some true) ∧
    (PySem.W.findIn K (.ref (He.ga K (S c))) "__eq__" = some (some (.builtin "object.__eq__")) ∧ PySem.W.findIn K (.ref (He.ga K (S c))) "__ne__" = some (some (.builtin "object.__ne__")) ∧ PySem.W.findIn K (.ref (He.ga K (S c))) "__hash__" = some (some (.builtin "object.__hash__"))) ∧
    PySem.W.selfFirst K (He.ga K (S c)) = true ∧ (∀ f ∈ fldsOf c, NoAttr K (He.ga K (S c)) (S f)) ∧ (∀ T ∈ tyNames, PySem.W.kitOne K (.ref (He.ga K (S c))) (.type T) = some false) ∧
    ∀ d ∈ clsNames, presB d K = true → PySem.W.kitOne K (.ref (He.ga K (S c))) (.ref (He.ga K (S d))) = some (decide (c = d)) := by
  unfold ClsK clsB at h
  simp only [Bool.and_eq_true, decide_eq_true_eq, List.all_eq_true, Bool.or_eq_true, Bool.not_eq_true'] at h
  obtain ⟨⟨⟨⟨⟨⟨⟨⟨⟨⟨⟨⟨⟨⟨h1, h2⟩, h3⟩, h4⟩, h5⟩, h6⟩, h7⟩, h8⟩, h9⟩, h10⟩, h11⟩, h12⟩, h13⟩, h14⟩, h15⟩ := h
  refine ⟨⟨h1, h2, h3, h4⟩, ⟨h5, h6, h7, h8⟩, ⟨h9, h10, h11⟩, h12, h13, h14, fun d hd hp => ?_⟩
  rcases h15 d hd with z | z
  · rw [hp] at z
    cases z
  · exact z
theorem ClsK.cls (h : ClsK K c) : Cls K (He.ga K (S c)) := ⟨h.all.1.1, h.all.1.2.1, h.all.1.2.2.1, h.all.1.2.2.2⟩
theorem ClsK.noat (h : ClsK K c) {f : String} (hf : f ∈ fldsOf c) : NoAttr K (He.ga K (S c)) (S f) := h.all.2.2.2.2.1 f hf
end

def KeyR : U → Key → Prop
  | .int i, k => k = .inl i
  | .str l, k => k = .inr ⟨l.toArray⟩
  | _, _ => False
def RelKV (K : PySem.W.Frag) (H : Hp) : List (U × U) → List (Key × V) → Prop
  | [], gs => gs = []
  | (k, u) :: r, gs => ∃ kk v ws, gs = (kk, v) :: ws ∧ KeyR k kk ∧ RelU K H u v ∧ RelKV K H r ws

def RepO (K : PySem.W.Frag) (H : Hp) (a : Addr) : Ob → Prop
  | .lst us => ∃ vs, H a = some (.lst vs) ∧ RelUs K H us vs
  | .dct kvs => ∃ gs, H a = some (.dK gs) ∧ RelKV K H kvs gs
  | .dcr od gs kvs => H a = some (.frz od (.dK gs)) ∧ RelKV K H kvs gs
  | .ins c fs => ClsK K c ∧ ∃ dx gs, H a = some (.ins (He.ga K (S c)) dx gs) ∧ RelF K H (He.ga K (S c)) fs gs
  | .xcp c fs => (fs = [] ∧ H a = some (exo a (He.ga K (S c)) none)) ∨ ∃ dx gs, H a = some (exo a (He.ga K (S c)) (some dx)) ∧ H dx = some (.xd gs) ∧ RelE K H gs (fs.map (·.1)) (fs.map (·.2))
def Rep (K : PySem.W.Frag) (H : Hp) (G : Gp) : Prop := ∀ a o, G a = some o → RepO K H a o

/-- what G does not know stays as it is, and unknown -/
def Ext (H : Hp) (G : Gp) (H' : Hp) (G' : Gp) : Prop := ∀ a o, H a = some o → G a = none → H' a = some o ∧ G' a = none
theorem Ext.refl (H : Hp) (G : Gp) : Ext H G H G := fun _ _ h g => ⟨h, g⟩
theorem Ext.trans {H H1 H2 : Hp} {G G1 G2 : Gp} (x : Ext H G H1 G1) (y : Ext H1 G1 H2 G2) : Ext H G H2 G2 := fun a o h g =>
  let ⟨h1, g1⟩ := x a o h g
  y a o h1 g1

section
variable {K : PySem.W.Frag} {H H' : Hp} {G G' : Gp}
theorem Rep.there (r : Rep K H G) {a : Addr} {o : Ob} (h : G a = some o) : ∃ u, H a = some u := by
  have q := r a o h
  cases o with
  | lst us => obtain ⟨vs, e, _⟩ := q; exact ⟨_, e⟩
  | dct kvs => obtain ⟨vs, e, _⟩ := q; exact ⟨_, e⟩
  | dcr od gs kvs => exact ⟨_, q.1⟩
  | ins c fs => obtain ⟨_, dx, gs, e, _⟩ := q; exact ⟨_, e⟩
  | xcp c fs => rcases q with ⟨_, e⟩ | ⟨dx, gs, e, _⟩ <;> exact ⟨_, e⟩
theorem Rep.fresh (r : Rep K H G) {a : Addr} (h : H a = none) : G a = none := by
  cases q : G a with
  | none => rfl
  | some o =>
    obtain ⟨u, e⟩ := r.there q
    rw [h] at e
    cases e
/-- tuples and read-only lists are not tracked by G -/
theorem Rep.noRd (r : Rep K H G) {a : Addr} {u : HO} (h : Rd H a u) (hu : (∃ xs, u = .tup xs) ∨ ∃ o xs, u = .lst xs ∧ H a = some (.frz o u)) : G a = none := by
  cases q : G a with
  | none => rfl
  | some o =>
    exfalso
    have z := r a o q
    have k : ∀ x, H a = some x → (∃ vs, x = .lst vs) ∨ (∃ vs, x = .dK vs) ∨ (∃ c d f, x = .ins c d f) ∨ (∃ od gs, x = .frz od (.dK gs)) ∨ ∃ φ, x = .ext φ := by
      intro x hx
      cases o with
      | lst us => obtain ⟨vs, e, _⟩ := z; rw [hx] at e; exact .inl ⟨_, Option.some.inj e⟩
      | dct kvs => obtain ⟨vs, e, _⟩ := z; rw [hx] at e; exact .inr (.inl ⟨_, Option.some.inj e⟩)
      | dcr od gs kvs => obtain ⟨e, _⟩ := z; rw [hx] at e; exact .inr (.inr (.inr (.inl ⟨_, _, Option.some.inj e⟩)))
      | ins c fs => obtain ⟨_, dx, gs, e, _⟩ := z; rw [hx] at e; exact .inr (.inr (.inl ⟨_, _, _, Option.some.inj e⟩))
      | xcp c fs => rcases z with ⟨_, e⟩ | ⟨dx, gs, e, _⟩ <;> (rw [hx] at e; exact .inr (.inr (.inr (.inr ⟨_, Option.some.inj e⟩))))
    rcases hu with ⟨xs, rfl⟩ | ⟨ob, xs, rfl, h2⟩
    · rcases h with h | ⟨ob, h⟩ <;> rcases k _ h with ⟨_, e⟩ | ⟨_, e⟩ | ⟨_, _, _, e⟩ | ⟨_, _, e⟩ | ⟨_, e⟩ <;> cases e
    · rcases k _ h2 with ⟨_, e⟩ | ⟨_, e⟩ | ⟨_, _, _, e⟩ | ⟨_, _, e⟩ | ⟨_, e⟩ <;> cases e
theorem Ext.sqT (x : Ext H G H' G') (r : Rep K H G) {a : Addr} {xs : List V} (h : SqT K H a xs) : SqT K H' a xs := by
  rcases h with h | h
  · have n := r.noRd h (.inl ⟨_, rfl⟩)
    rcases h with h | ⟨o, h⟩
    · exact .inl (.inl (x a _ h n).1)
    · exact .inl (.inr ⟨o, (x a _ h n).1⟩)
  · exact .inr h
theorem Ext.roL (x : Ext H G H' G') (r : Rep K H G) {a : Addr} {xs : List V} (h : RoL K H a xs) : RoL K H' a xs := by
  rcases h with ⟨o, h⟩ | h
  · have n := r.noRd (a := a) (u := .lst xs) (.inr ⟨o, h⟩) (.inr ⟨o, _, rfl, h⟩)
    exact .inl ⟨o, (x a _ h n).1⟩
  · exact .inr h
theorem Ext.xd (x : Ext H G H' G') (r : Rep K H G) {d : Addr} {gs : List (Str × V)} (h : H d = some (.xd gs)) : H' d = some (.xd gs) := by
  refine (x d _ h ?_).1
  cases q : G d with
  | none => rfl
  | some o =>
    exfalso
    have z := r d o q
    cases o with
    | lst us => obtain ⟨vs, e, _⟩ := z; rw [h] at e; cases e
    | dct us => obtain ⟨vs, e, _⟩ := z; rw [h] at e; cases e
    | dcr od gs kvs => obtain ⟨e, _⟩ := z; rw [h] at e; cases e
    | ins c fs => obtain ⟨_, dx, gs, e, _⟩ := z; rw [h] at e; cases e
    | xcp c fs => rcases z with ⟨_, e⟩ | ⟨dx, gs, e, _⟩ <;> (rw [h] at e; cases e)
mutual
theorem RelU.ext (x : Ext H G H' G') (r : Rep K H G) : ∀ {u : U} {v : V}, RelU K H u v → RelU K H' u v
  | .non, _, h => h
  | .bl _, _, h => h
  | .int _, _, h => h
  | .str _, _, h => h
  | .tup us, _, ⟨a, vs, e, t, q⟩ => ⟨a, vs, e, x.sqT r t, RelUs.ext x r q⟩
  | .ref _, _, h => h
  | .ty _, _, h => h
  | .glo _, _, h => h
  | .rol us, _, ⟨a, vs, e, t, q⟩ => ⟨a, vs, e, x.roL r t, RelUs.ext x r q⟩
  | .exc a dd c fl us, _, ⟨e, h⟩ => ⟨e, h.elim .inl fun ⟨y, gs, z, g, q⟩ => .inr ⟨y, gs, z, x.xd r g, RelE.ext x r q⟩⟩
theorem RelUs.ext (x : Ext H G H' G') (r : Rep K H G) : ∀ {us : List U} {vs : List V}, RelUs K H us vs → RelUs K H' us vs
  | [], _, h => h
  | u :: us, _, ⟨v, ws, e, h, t⟩ => ⟨v, ws, e, RelU.ext x r h, RelUs.ext x r t⟩
theorem RelE.ext (x : Ext H G H' G') (r : Rep K H G) {gs : List (Str × V)} : ∀ {fl : List String} {us : List U}, RelE K H gs fl us → RelE K H' gs fl us
  | _, [], _ => True.intro
  | [], _ :: _, h => h.elim
  | f :: fl, u :: us, ⟨⟨v, e, h⟩, t⟩ => ⟨⟨v, e, RelU.ext x r h⟩, RelE.ext x r t⟩
end
mutual
theorem RelU.mono (hT : ∀ a xs, SqT K H a xs → SqT K H' a xs) (hR : ∀ a xs, RoL K H a xs → RoL K H' a xs) (hX : ∀ d gs, H d = some (.xd gs) → H' d = some (.xd gs)) : ∀ {u : U} {v : V}, RelU K H u v → RelU K H' u v
  | .non, _, h => h
  | .bl _, _, h => h
  | .int _, _, h => h
  | .str _, _, h => h
  | .tup us, _, ⟨a, vs, e, t, q⟩ => ⟨a, vs, e, hT _ _ t, RelUs.mono hT hR hX q⟩
  | .ref _, _, h => h
  | .ty _, _, h => h
  | .glo _, _, h => h
  | .rol us, _, ⟨a, vs, e, t, q⟩ => ⟨a, vs, e, hR _ _ t, RelUs.mono hT hR hX q⟩
  | .exc a dd c fl us, _, ⟨e, h⟩ => ⟨e, h.elim .inl fun ⟨y, gs, z, g, q⟩ => .inr ⟨y, gs, z, hX _ _ g, RelE.mono hT hR hX q⟩⟩
theorem RelUs.mono (hT : ∀ a xs, SqT K H a xs → SqT K H' a xs) (hR : ∀ a xs, RoL K H a xs → RoL K H' a xs) (hX : ∀ d gs, H d = some (.xd gs) → H' d = some (.xd gs)) : ∀ {us : List U} {vs : List V}, RelUs K H us vs → RelUs K H' us vs
  | [], _, h => h
  | u :: us, _, ⟨v, ws, e, h, t⟩ => ⟨v, ws, e, RelU.mono hT hR hX h, RelUs.mono hT hR hX t⟩
theorem RelE.mono (hT : ∀ a xs, SqT K H a xs → SqT K H' a xs) (hR : ∀ a xs, RoL K H a xs → RoL K H' a xs) (hX : ∀ d gs, H d = some (.xd gs) → H' d = some (.xd gs)) {gs : List (Str × V)} : ∀ {fl : List String} {us : List U}, RelE K H gs fl us → RelE K H' gs fl us
  | _, [], _ => True.intro
  | [], _ :: _, h => h.elim
  | f :: fl, u :: us, ⟨⟨v, e, h⟩, t⟩ => ⟨⟨v, e, RelU.mono hT hR hX h⟩, RelE.mono hT hR hX t⟩
end
theorem RelF.mono (hT : ∀ a xs, SqT K H a xs → SqT K H' a xs) (hR : ∀ a xs, RoL K H a xs → RoL K H' a xs) (hX : ∀ d gs, H d = some (.xd gs) → H' d = some (.xd gs)) {C : Addr} : ∀ {fs : List (String × U)} {gs : List (Str × V)}, RelF K H C fs gs → RelF K H' C fs gs
  | [], _, h => h
  | (f, u) :: fs, _, ⟨v, ws, e, h, n, t⟩ => ⟨v, ws, e, h.mono hT hR hX, n, RelF.mono hT hR hX t⟩
theorem RelKV.mono (hT : ∀ a xs, SqT K H a xs → SqT K H' a xs) (hR : ∀ a xs, RoL K H a xs → RoL K H' a xs) (hX : ∀ d gs, H d = some (.xd gs) → H' d = some (.xd gs)) : ∀ {fs : List (U × U)} {gs : List (Key × V)}, RelKV K H fs gs → RelKV K H' fs gs
  | [], _, h => h
  | (f, u) :: fs, _, ⟨kk, v, ws, e, n, h, t⟩ => ⟨kk, v, ws, e, n, h.mono hT hR hX, RelKV.mono hT hR hX t⟩
/-- an untracked list of ours grows -/
theorem own_upd {D : Addr} {xs ys : List V} (hD : H D = some (.lst xs)) : (∀ a zs, SqT K H a zs → SqT K (upd H D (.lst ys)) a zs) ∧ (∀ a zs, RoL K H a zs → RoL K (upd H D (.lst ys)) a zs) ∧ ∀ d gs, H d = some (.xd gs) → upd H D (.lst ys) d = some (.xd gs) := by
  have k : ∀ a u, H a = some u → (∀ zs, u ≠ .lst zs) → upd H D (.lst ys) a = some u := fun a u h n => by
    have e : a ≠ D := fun e => n xs (by rw [e, hD] at h; exact (Option.some.inj h).symm)
    rw [upd_ne e]
    exact h
  refine ⟨?_, ?_, fun d gs h => k d _ h fun _ z => by cases z⟩
  · rintro a zs ((h | ⟨o, h⟩) | h)
    · exact .inl (.inl (k a _ h fun _ z => by cases z))
    · exact .inl (.inr ⟨o, k a _ h fun _ z => by cases z⟩)
    · exact .inr h
  · rintro a zs (⟨o, h⟩ | h)
    · exact .inl ⟨o, k a _ h fun _ z => by cases z⟩
    · exact .inr h
theorem Rep.own {D : Addr} {xs ys : List V} (r : Rep K H G) (hD : H D = some (.lst xs)) (gD : G D = none) : Rep K (upd H D (.lst ys)) G := by
  obtain ⟨hT, hR, hX⟩ := own_upd (K := K) (ys := ys) hD
  intro b v e
  have hb : b ≠ D := fun z => by rw [z, gD] at e; cases e
  have q := r b v e
  cases v with
  | lst us => obtain ⟨vs, e1, e2⟩ := q; exact ⟨vs, by rw [upd_ne hb]; exact e1, e2.mono hT hR hX⟩
  | dct us => obtain ⟨vs, e1, e2⟩ := q; exact ⟨vs, by rw [upd_ne hb]; exact e1, e2.mono hT hR hX⟩
  | dcr od gs kvs => obtain ⟨e1, e2⟩ := q; exact ⟨by rw [upd_ne hb]; exact e1, e2.mono hT hR hX⟩
  | ins c fs => obtain ⟨ck, dx, gs, e1, e2⟩ := q; exact ⟨ck, dx, gs, by rw [upd_ne hb]; exact e1, e2.mono hT hR hX⟩
  | xcp c fs =>
    rcases q with ⟨e0, e1⟩ | ⟨dx, gs, e1, e2, e3⟩
    · exact .inl ⟨e0, by rw [upd_ne hb]; exact e1⟩
    · exact .inr ⟨dx, gs, by rw [upd_ne hb]; exact e1, hX _ _ e2, RelE.mono hT hR hX e3⟩
theorem RelF.ext (x : Ext H G H' G') (r : Rep K H G) {C : Addr} : ∀ {fs : List (String × U)} {gs : List (Str × V)}, RelF K H C fs gs → RelF K H' C fs gs
  | [], _, h => h
  | (f, u) :: fs, _, ⟨v, ws, e, h, n, t⟩ => ⟨v, ws, e, h.ext x r, n, RelF.ext x r t⟩
theorem RelKV.ext (x : Ext H G H' G') (r : Rep K H G) : ∀ {fs : List (U × U)} {gs : List (Key × V)}, RelKV K H fs gs → RelKV K H' fs gs
  | [], _, h => h
  | (f, u) :: fs, _, ⟨kk, v, ws, e, n, h, t⟩ => ⟨kk, v, ws, e, n, h.ext x r, RelKV.ext x r t⟩
end

theorem RepO.move {K : PySem.W.Frag} {H H' : Hp} {G G' : Gp} (x : Ext H G H' G') (r : Rep K H G) {b : Addr} (e : H' b = H b) : ∀ {o : Ob}, RepO K H b o → RepO K H' b o
  | .lst us, ⟨vs, e1, e2⟩ => ⟨vs, e.trans e1, e2.ext x r⟩
  | .dct us, ⟨vs, e1, e2⟩ => ⟨vs, e.trans e1, e2.ext x r⟩
  | .dcr _ _ _, ⟨e1, e2⟩ => ⟨e.trans e1, e2.ext x r⟩
  | .ins c fs, ⟨ck, dx, gs, e1, e2⟩ => ⟨ck, dx, gs, e.trans e1, e2.ext x r⟩
  | .xcp c fs, h => h.elim (fun ⟨e0, e1⟩ => .inl ⟨e0, e.trans e1⟩) fun ⟨dx, gs, e1, e2, e3⟩ => .inr ⟨dx, gs, e.trans e1, x.xd r e2, RelE.ext x r e3⟩

abbrev USt := List (Option U)
def RelS (K : PySem.W.Frag) (H : Hp) : USt → L2.St → Prop
  | [], vs => vs = []
  | none :: us, vs => ∃ v ws, vs = v :: ws ∧ RelS K H us ws
  | some u :: us, vs => ∃ v ws, vs = some v :: ws ∧ RelU K H u v ∧ RelS K H us ws
section
variable {K : PySem.W.Frag} {H H' : Hp} {G G' : Gp}
theorem RelS.ext (x : Ext H G H' G') (r : Rep K H G) : ∀ {us : USt} {vs : L2.St}, RelS K H us vs → RelS K H' us vs
  | [], _, h => h
  | none :: us, _, ⟨v, ws, e, t⟩ => ⟨v, ws, e, RelS.ext x r t⟩
  | some u :: us, _, ⟨v, ws, e, h, t⟩ => ⟨v, ws, e, h.ext x r, RelS.ext x r t⟩
theorem RelS.get : ∀ {us : USt} {vs : L2.St} {i : Nat} {u : U}, RelS K H us vs → us[i]? = some (some u) → ∃ v, vs[i]? = some (some v) ∧ RelU K H u v
  | [], _, _, _, _, e => by cases e
  | none :: us, _, 0, _, _, e => by cases e
  | some u :: us, _, 0, _, ⟨v, ws, rfl, h, t⟩, e => by
    cases e
    exact ⟨v, rfl, h⟩
  | none :: us, _, i + 1, u, ⟨v, ws, rfl, t⟩, e => RelS.get (i := i) (u := u) t e
  | some w :: us, _, i + 1, u, ⟨v, ws, rfl, h, t⟩, e => RelS.get (i := i) (u := u) t e
theorem RelS.set {u : U} {v : V} (h : RelU K H u v) : ∀ {us : USt} {vs : L2.St} (i : Nat), RelS K H us vs → RelS K H (us.set i (some u)) (vs.set i (some v))
  | [], _, _, e => by
    have e' : _ = ([] : L2.St) := e
    subst e'
    rfl
  | none :: us, _, 0, ⟨w, ws, rfl, t⟩ => ⟨v, ws, rfl, h, t⟩
  | some _ :: us, _, 0, ⟨w, ws, rfl, _, t⟩ => ⟨v, ws, rfl, h, t⟩
  | none :: us, _, i + 1, ⟨w, ws, rfl, t⟩ => ⟨w, _, rfl, RelS.set h i t⟩
  | some _ :: us, _, i + 1, ⟨w, ws, rfl, q, t⟩ => ⟨w, _, rfl, q, RelS.set h i t⟩
theorem RelS.clr : ∀ {us : USt} {vs : L2.St} (i : Nat), RelS K H us vs → RelS K H (us.set i none) (vs.set i none)
  | [], _, _, e => by
    have e' : _ = ([] : L2.St) := e
    subst e'
    rfl
  | none :: us, _, 0, ⟨w, ws, rfl, t⟩ => ⟨_, ws, rfl, t⟩
  | some _ :: us, _, 0, ⟨w, ws, rfl, _, t⟩ => ⟨_, ws, rfl, t⟩
  | none :: us, _, i + 1, ⟨w, ws, rfl, t⟩ => ⟨w, _, rfl, RelS.clr i t⟩
  | some _ :: us, _, i + 1, ⟨w, ws, rfl, q, t⟩ => ⟨w, _, rfl, q, RelS.clr i t⟩
def uwipe (σ : USt) : List Nat → USt
  | [] => σ
  | v :: vs => (uwipe σ vs).set v none
theorem RelS.wipe {us : USt} {vs : L2.St} (h : RelS K H us vs) : ∀ l : List Nat, RelS K H (uwipe us l) (wipe vs l)
  | [] => h
  | i :: l => RelS.clr i (h.wipe l)
theorem RelUs.length : ∀ {us : List U} {vs : List V}, RelUs K H us vs → vs.length = us.length
  | [], _, e => by
    have e' : _ = ([] : List V) := e
    subst e'
    rfl
  | _ :: us, _, ⟨v, ws, rfl, _, t⟩ => by
    rw [List.length_cons, List.length_cons, t.length]
theorem RelUs.get : ∀ {us : List U} {vs : List V} {i : Nat} {u : U}, RelUs K H us vs → us[i]? = some u → ∃ v, vs[i]? = some v ∧ RelU K H u v
  | [], _, _, _, _, e => by cases e
  | u :: us, _, 0, _, ⟨v, ws, rfl, h, t⟩, e => by
    cases e
    exact ⟨v, rfl, h⟩
  | w :: us, _, i + 1, u, ⟨v, ws, rfl, h, t⟩, e => RelUs.get (i := i) (u := u) t e
theorem RelUs.append : ∀ {us us' : List U} {vs vs' : List V}, RelUs K H us vs → RelUs K H us' vs' → RelUs K H (us ++ us') (vs ++ vs')
  | [], _, _, _, e, h => by
    have e' : _ = ([] : List V) := e
    subst e'
    exact h
  | u :: us, _, _, _, ⟨v, ws, rfl, h, t⟩, q => ⟨v, _, rfl, h, t.append q⟩
theorem RelUs.set {u : U} {v : V} (h : RelU K H u v) : ∀ {us : List U} {vs : List V} (i : Nat), RelUs K H us vs → RelUs K H (us.set i u) (vs.set i v)
  | [], _, _, e => by
    have e' : _ = ([] : List V) := e
    subst e'
    rfl
  | _ :: us, _, 0, ⟨w, ws, rfl, _, t⟩ => ⟨v, ws, rfl, h, t⟩
  | _ :: us, _, i + 1, ⟨w, ws, rfl, q, t⟩ => ⟨w, _, rfl, q, RelUs.set h i t⟩
theorem RelUs.drop : ∀ {us : List U} {vs : List V} (n : Nat), RelUs K H us vs → RelUs K H (us.drop n) (vs.drop n)
  | _, _, 0, h => h
  | [], _, n + 1, e => by
    have e' : _ = ([] : List V) := e
    subst e'
    rfl
  | _ :: us, _, n + 1, ⟨w, ws, rfl, _, t⟩ => RelUs.drop n t
theorem RelUs.take : ∀ {us : List U} {vs : List V} (n : Nat), RelUs K H us vs → RelUs K H (us.take n) (vs.take n)
  | _, _, 0, h => rfl
  | [], _, n + 1, e => by
    have e' : _ = ([] : List V) := e
    subst e'
    rfl
  | _ :: us, _, n + 1, ⟨w, ws, rfl, h, t⟩ => ⟨w, _, rfl, h, RelUs.take n t⟩
theorem RelUs.nil : RelUs K H [] [] := rfl
theorem RelUs.one {u : U} {v : V} (h : RelU K H u v) : RelUs K H [u] [v] := ⟨v, [], rfl, h, rfl⟩
theorem RelUs.eraseIdx : ∀ {us : List U} {vs : List V} (n : Nat), RelUs K H us vs → RelUs K H (us.eraseIdx n) (vs.eraseIdx n)
  | [], _, n, e => by
    have e' : _ = ([] : List V) := e
    subst e'
    rfl
  | _ :: us, _, 0, ⟨w, ws, rfl, h, t⟩ => t
  | _ :: us, _, n + 1, ⟨w, ws, rfl, h, t⟩ => ⟨w, _, rfl, h, RelUs.eraseIdx n t⟩
theorem RelUs.dropLast {us : List U} {vs : List V} (h : RelUs K H us vs) : RelUs K H us.dropLast vs.dropLast := by
  rw [List.dropLast_eq_take, List.dropLast_eq_take, h.length]
  exact h.take _
theorem RelUs.reverse : ∀ {us : List U} {vs : List V}, RelUs K H us vs → RelUs K H us.reverse vs.reverse
  | [], _, e => by
    have e' : _ = ([] : List V) := e
    subst e'
    rfl
  | u :: us, _, ⟨w, ws, rfl, h, t⟩ => by
    rw [List.reverse_cons, List.reverse_cons]
    exact t.reverse.append (.one h)
theorem RelUs.rep {us : List U} {vs : List V} (h : RelUs K H us vs) : ∀ k : Nat, RelUs K H (List.replicate k us).flatten (List.replicate k vs).flatten
  | 0 => rfl
  | k + 1 => by
    rw [List.replicate_succ, List.replicate_succ, List.flatten_cons, List.flatten_cons]
    exact h.append (h.rep k)
/-- a new object is laid and tracked -/
theorem Rep.laid {a : Addr} {o : Ob} {u : HO} (r : Rep K H G) (hn : H a = none) (new : RepO K (upd H a u) a o) : Rep K (upd H a u) (gup G a o) ∧ Ext H G (upd H a u) (gup G a o) := by
  have x0 : Ext H G (upd H a u) G := fun b v h g => ⟨by rw [upd_ne (ne_of_none h hn)]; exact h, g⟩
  refine ⟨fun b v e => ?_, fun b v h g => ⟨by rw [upd_ne (ne_of_none h hn)]; exact h, by rw [gup_ne (ne_of_none h hn)]; exact g⟩⟩
  by_cases hb : b = a
  · subst hb
    rw [gup_same] at e
    cases e
    exact new
  · rw [gup_ne hb] at e
    have q := r b v e
    cases v with
    | lst us => obtain ⟨vs, e1, e2⟩ := q; exact ⟨vs, by rw [upd_ne hb]; exact e1, e2.ext x0 r⟩
    | dct us => obtain ⟨vs, e1, e2⟩ := q; exact ⟨vs, by rw [upd_ne hb]; exact e1, e2.ext x0 r⟩
    | dcr od gs kvs => obtain ⟨e1, e2⟩ := q; exact ⟨by rw [upd_ne hb]; exact e1, e2.ext x0 r⟩
    | ins c fs => obtain ⟨ck, dx, gs, e1, e2⟩ := q; exact ⟨ck, dx, gs, by rw [upd_ne hb]; exact e1, e2.ext x0 r⟩
    | xcp c fs =>
      rcases q with ⟨e0, e1⟩ | ⟨dx, gs, e1, e2, e3⟩
      · exact .inl ⟨e0, by rw [upd_ne hb]; exact e1⟩
      · exact .inr ⟨dx, gs, by rw [upd_ne hb]; exact e1, x0.xd r e2, RelE.ext x0 r e3⟩
/-- something is laid that G does not track (a tuple) -/
theorem Rep.laid0 {a : Addr} {u : HO} (r : Rep K H G) (hn : H a = none) : Rep K (upd H a u) G ∧ Ext H G (upd H a u) G := by
  have x0 : Ext H G (upd H a u) G := fun b v h g => ⟨by rw [upd_ne (ne_of_none h hn)]; exact h, g⟩
  refine ⟨fun b v e => ?_, x0⟩
  have hb : b ≠ a := by
    obtain ⟨w, z⟩ := r.there e
    exact ne_of_none z hn
  have q := r b v e
  cases v with
  | lst us => obtain ⟨vs, e1, e2⟩ := q; exact ⟨vs, by rw [upd_ne hb]; exact e1, e2.ext x0 r⟩
  | dct us => obtain ⟨vs, e1, e2⟩ := q; exact ⟨vs, by rw [upd_ne hb]; exact e1, e2.ext x0 r⟩
  | dcr od gs kvs => obtain ⟨e1, e2⟩ := q; exact ⟨by rw [upd_ne hb]; exact e1, e2.ext x0 r⟩
  | ins c fs => obtain ⟨ck, dx, gs, e1, e2⟩ := q; exact ⟨ck, dx, gs, by rw [upd_ne hb]; exact e1, e2.ext x0 r⟩
  | xcp c fs =>
    rcases q with ⟨e0, e1⟩ | ⟨dx, gs, e1, e2, e3⟩
    · exact .inl ⟨e0, by rw [upd_ne hb]; exact e1⟩
    · exact .inr ⟨dx, gs, by rw [upd_ne hb]; exact e1, x0.xd r e2, RelE.ext x0 r e3⟩
/-- a tracked object is written -/
theorem Rep.write {a : Addr} {o o0 : Ob} {u : HO} (r : Rep K H G) (h0 : G a = some o0) (new : RepO K (upd H a u) a o) : Rep K (upd H a u) (gup G a o) ∧ Ext H G (upd H a u) (gup G a o) := by
  have ne : ∀ b, G b = none → b ≠ a := fun b g z => by rw [z, h0] at g; cases g
  have x0 : Ext H G (upd H a u) (gup G a o) := fun b v h g => ⟨by rw [upd_ne (ne b g)]; exact h, by rw [gup_ne (ne b g)]; exact g⟩
  refine ⟨fun b v e => ?_, x0⟩
  by_cases hb : b = a
  · subst hb
    rw [gup_same] at e
    cases e
    exact new
  · rw [gup_ne hb] at e
    have q := r b v e
    cases v with
    | lst us => obtain ⟨vs, e1, e2⟩ := q; exact ⟨vs, by rw [upd_ne hb]; exact e1, e2.ext x0 r⟩
    | dct us => obtain ⟨vs, e1, e2⟩ := q; exact ⟨vs, by rw [upd_ne hb]; exact e1, e2.ext x0 r⟩
    | dcr od gs kvs => obtain ⟨e1, e2⟩ := q; exact ⟨by rw [upd_ne hb]; exact e1, e2.ext x0 r⟩
    | ins c fs => obtain ⟨ck, dx, gs, e1, e2⟩ := q; exact ⟨ck, dx, gs, by rw [upd_ne hb]; exact e1, e2.ext x0 r⟩
    | xcp c fs =>
      rcases q with ⟨e0, e1⟩ | ⟨dx, gs, e1, e2, e3⟩
      · exact .inl ⟨e0, by rw [upd_ne hb]; exact e1⟩
      · exact .inr ⟨dx, gs, by rw [upd_ne hb]; exact e1, x0.xd r e2, RelE.ext x0 r e3⟩
end
end UL
set_option maxHeartbeats 2000000
namespace UL
open PySem PySem.Spec PyProof.Rows L2

structure UExc where
  cls : String
  fs : List (String × U)
abbrev UK := U → Gp → Prop
abbrev UX := UExc → Gp → Prop
abbrev UTE := USt → Gp → UK → UX → Prop
abbrev UTT := USt → Gp → (Bool → Gp → Prop) → UX → Prop
abbrev UTA := USt → Gp → (List U → Gp → Prop) → UX → Prop

def ExcR (K : PySem.W.Frag) (H : Hp) (x : UExc) (cls : Value) (d : Option Addr) : Prop :=
  cls = .ref (He.ga K (S x.cls)) ∧ ((x.fs = [] ∧ d = none) ∨ ∃ dx gs, d = some dx ∧ H dx = some (.xd gs) ∧ ∀ f u, fget x.fs f = some u → ∃ v, gs.lookup (S f) = some v ∧ RelU K H u v)

def LV (K : PySem.W.Frag) (H : Hp) (G : Gp) (Q : UK) : VK := fun v H' => ∃ u G', Ext H G H' G' ∧ Rep K H' G' ∧ RelU K H' u v ∧ Q u G'
def LB (K : PySem.W.Frag) (H : Hp) (G : Gp) (Q : Bool → Gp → Prop) : Bool → Hp → Prop := fun b H' => ∃ G', Ext H G H' G' ∧ Rep K H' G' ∧ Q b G'
def LA (K : PySem.W.Frag) (H : Hp) (G : Gp) (Q : List U → Gp → Prop) : List V → Hp → Prop := fun vs H' => ∃ us G', Ext H G H' G' ∧ Rep K H' G' ∧ RelUs K H' us vs ∧ Q us G'
def LX (K : PySem.W.Frag) (H : Hp) (G : Gp) (E : UX) : XK := fun c d H' => ∃ x G', Ext H G H' G' ∧ Rep K H' G' ∧ ExcR K H' x c d ∧ E x G'
section
variable {K : PySem.W.Frag} {H H1 : Hp} {G G1 : Gp}
theorem LV.trans (x : Ext H G H1 G1) {Q : UK} {v : V} {H' : Hp} : LV K H1 G1 Q v H' → LV K H G Q v H' := fun ⟨u, G', e, r, q⟩ => ⟨u, G', x.trans e, r, q⟩
theorem LB.trans (x : Ext H G H1 G1) {Q : Bool → Gp → Prop} {v : Bool} {H' : Hp} : LB K H1 G1 Q v H' → LB K H G Q v H' := fun ⟨G', e, r, q⟩ => ⟨G', x.trans e, r, q⟩
theorem LX.trans (x : Ext H G H1 G1) {E : UX} {c : Value} {d : Option Addr} {H' : Hp} : LX K H1 G1 E c d H' → LX K H G E c d H' := fun ⟨u, G', e, r, q⟩ => ⟨u, G', x.trans e, r, q⟩
theorem LV.here (r : Rep K H G) {Q : UK} {u : U} {v : V} (h : RelU K H u v) (q : Q u G) : LV K H G Q v H := ⟨u, G, .refl _ _, r, h, q⟩
end

structure EU (X : Cx) (W : WX) (e : Expr) (t : UTE) : Prop where
  run : ∀ (pins : List (Addr × Obj)) (s : Shared) (σ : L2.St) (H : Hp) (us : USt) (G : Gp) (Q : UK) (E : UX), Inv X pins σ H s → RelS X.K H us σ → Rep X.K H G → t us G Q E →
    (∀ c d H', LX X.K H G E c d H' → W c d σ H') → wpAny (model X.prog X.w) X.A (eval e X.env) (EP X pins σ (LV X.K H G Q)) X.xe s
structure TU (X : Cx) (W : WX) (e : Expr) (t : UTT) : Prop where
  run : ∀ (pins : List (Addr × Obj)) (s : Shared) (σ : L2.St) (H : Hp) (us : USt) (G : Gp) (Q : Bool → Gp → Prop) (E : UX), Inv X pins σ H s → RelS X.K H us σ → Rep X.K H G → t us G Q E →
    (∀ c d H', LX X.K H G E c d H' → W c d σ H') → wpAny (model X.prog X.w) X.A (isTrue e X.env (eval e X.env)) (TP X pins σ (LB X.K H G Q)) X.xe s
structure AU (X : Cx) (W : WX) (es : List Expr) (t : UTA) : Prop where
  run : ∀ (pos : Pos) (pins : List (Addr × Obj)) (s : Shared) (σ : L2.St) (H : Hp) (us : USt) (G : Gp) (Q : List U → Gp → Prop) (E : UX), Inv X pins σ H s → RelS X.K H us σ → Rep X.K H G → t us G Q E →
    (∀ c d H', LX X.K H G E c d H' → W c d σ H') → wpAny (model X.prog X.w) X.A (spliced (backTo pos (starEach es X.env))) (AP X pins σ (LA X.K H G Q)) X.xe s

def lE (K : PySem.W.Frag) (W : WX) (t : UTE) : TE := fun σ H Q => ∃ us G Qu Eu, RelS K H us σ ∧ Rep K H G ∧ t us G Qu Eu ∧ (∀ v H', LV K H G Qu v H' → Q v H') ∧ ∀ c d H', LX K H G Eu c d H' → W c d σ H'
def lT (K : PySem.W.Frag) (W : WX) (t : UTT) : TT := fun σ H Q => ∃ us G Qu Eu, RelS K H us σ ∧ Rep K H G ∧ t us G Qu Eu ∧ (∀ v H', LB K H G Qu v H' → Q v H') ∧ ∀ c d H', LX K H G Eu c d H' → W c d σ H'
def lA (K : PySem.W.Frag) (W : WX) (t : UTA) : TA := fun σ H Q => ∃ us G Qu Eu, RelS K H us σ ∧ Rep K H G ∧ t us G Qu Eu ∧ (∀ v H', LA K H G Qu v H' → Q v H') ∧ ∀ c d H', LX K H G Eu c d H' → W c d σ H'

section
variable {X : Cx} {W : WX} {e a b : Expr} {es : List Expr} {t ta tb : UTE} {tt : UTT} {tr : UTA} {pos : Pos}
theorem ep_imp {pins : List (Addr × Obj)} {σ : L2.St} {Q Q' : VK} {u : Value} {s : Shared} (h : ∀ v H, Q v H → Q' v H) : EP X pins σ Q u s → EP X pins σ Q' u s := fun ⟨v, H', I, r, q⟩ => ⟨v, H', I, r, h v H' q⟩
theorem EU.pe (h : EU X W e t) : PE X e (lE X.K W t) := ⟨fun pins s σ H Q I ⟨us, G, Qu, Eu, rs, rp, ht, hq, hx⟩ => thn (h.run pins s σ H us G Qu Eu I rs rp ht hx) fun v s' h => ep_imp hq h⟩
theorem EU.of {tv : TE} (h : PE X e tv) (k : ∀ σ H us G Q E, RelS X.K H us σ → Rep X.K H G → t us G Q E → (∀ c d H', LX X.K H G E c d H' → W c d σ H') → tv σ H (LV X.K H G Q)) : EU X W e t :=
  ⟨fun pins s σ H us G Q E I rs rp ht hx => h.run pins s σ H _ I (k σ H us G Q E rs rp ht hx)⟩
theorem TU.pt (h : TU X W e tt) : PT X e (lT X.K W tt) := ⟨fun pins s σ H Q I ⟨us, G, Qu, Eu, rs, rp, ht, hq, hx⟩ => thn (h.run pins s σ H us G Qu Eu I rs rp ht hx) fun v s' ⟨H', I', q⟩ => ⟨H', I', hq _ _ q⟩⟩
theorem TU.of {tv : TT} (h : PT X e tv) (k : ∀ σ H us G Q E, RelS X.K H us σ → Rep X.K H G → tt us G Q E → (∀ c d H', LX X.K H G E c d H' → W c d σ H') → tv σ H (LB X.K H G Q)) : TU X W e tt :=
  ⟨fun pins s σ H us G Q E I rs rp ht hx => h.run pins s σ H _ I (k σ H us G Q E rs rp ht hx)⟩
theorem AU.pa (h : AU X W es tr) : PA X es (lA X.K W tr) := ⟨fun pos pins s σ H Q I ⟨us, G, Qu, Eu, rs, rp, ht, hq, hx⟩ => thn (h.run pos pins s σ H us G Qu Eu I rs rp ht hx) fun v s' ⟨vs, H', I', r, q⟩ => ⟨vs, H', I', r, hq _ _ q⟩⟩
theorem EU.imp {t' : UTE} (h : EU X W e t) (k : ∀ us G Q E, t' us G Q E → t us G Q E) : EU X W e t' := ⟨fun pins s σ H us G Q E I rs rp ht hx => h.run pins s σ H us G Q E I rs rp (k _ _ _ _ ht) hx⟩
theorem TU.imp {t' : UTT} (h : TU X W e tt) (k : ∀ us G Q E, t' us G Q E → tt us G Q E) : TU X W e t' := ⟨fun pins s σ H us G Q E I rs rp ht hx => h.run pins s σ H us G Q E I rs rp (k _ _ _ _ ht) hx⟩

def tUVar (i : Nat) : UTE := fun us G Q _ => match us[i]? with
  | some (some u) => Q u G
  | _ => False
theorem eu_var {i : Nat} {x : Str} (hN : X.N[i]? = some x) (hv : Vis X.env.scope x) (hd : (x == ("__debug__" : Str)) = false) (hcd : (x == ("__classdict__" : Str)) = false) : EU X W (.Name x pos) (tUVar i) :=
  .of (pe_var hN hv hd hcd) fun σ H us G Q E rs rp q _ => by
    unfold tUVar at q
    split at q
    · rename_i u e
      obtain ⟨v, e2, r⟩ := rs.get e
      exact ⟨v, e2, .here rp r q⟩
    · exact q.elim
def tUC (u : U) : UTE := fun _ G Q _ => Q u G
theorem eu_c {u : U} {v : V} (h : PE X e (tC v)) (r : ∀ H, RelU X.K H u v) : EU X W e (tUC u) := .of h fun σ H us G Q E rs rp q _ => LV.here rp (r H) q
theorem eu_int {i j} : EU X W (.Constant (.int i) j pos) (tUC (.int i)) := eu_c pe_int fun _ => rfl
theorem eu_bl {i j} : EU X W (.Constant (.bool i) j pos) (tUC (.bl i)) := eu_c pe_bl fun _ => rfl
theorem eu_non {j} : EU X W (.Constant .none j pos) (tUC .non) := eu_c pe_non fun _ => rfl
theorem eu_str {x : Str} {j} : EU X W (.Constant (.str x) j pos) (tUC (.str x.cps.toList)) := eu_c pe_str fun _ => by
  show V.str x = V.str ⟨x.cps.toList.toArray⟩
  rfl

abbrev UR2 := U → U → Gp → UK → UX → Prop
def OpU (X : Cx) (W : WX) (f : Value → Value → Sem Value) (r : UR2) : Prop :=
  ∀ (pins : List (Addr × Obj)) (s : Shared) (σ : L2.St) (H : Hp) (x y : V) (v u : Value) (a b : U) (G : Gp) (Q : UK) (E : UX), Inv X pins σ H s → RelV x v → RelV y u → RelU X.K H a x → RelU X.K H b y → Rep X.K H G → r a b G Q E →
    (∀ c d H', LX X.K H G E c d H' → W c d σ H') → wpAny (model X.prog X.w) X.A (f v u) (EP X pins σ (LV X.K H G Q)) X.xe s
theorem OpU.of {f : Value → Value → Sem Value} {r : UR2} {rv : R2} (h : OpR X f rv) (k : ∀ x y H a b G Q E, RelU X.K H a x → RelU X.K H b y → Rep X.K H G → r a b G Q E → rv x y H (LV X.K H G Q)) : OpU X W f r :=
  fun pins s σ H x y v u a b G Q E I rx ry ra rb rp hr _ => h pins s σ H x y v u _ I rx ry (k x y H a b G Q E ra rb rp hr)
theorem OpU.imp {f : Value → Value → Sem Value} {r r' : UR2} (h : OpU X W f r) (k : ∀ a b G Q E, r' a b G Q E → r a b G Q E) : OpU X W f r' :=
  fun pins s σ H x y v u a b G Q E I rx ry ra rb rp hr hx => h pins s σ H x y v u a b G Q E I rx ry ra rb rp (k _ _ _ _ _ hr) hx
def tUOp (r : UR2) (ta tb : UTE) : UTE := fun us G Q E => ta us G (fun u G1 => tb us G1 (fun w G2 => r u w G2 Q E) E) E
/-- two expressions in a row -/
theorem bin2 (ha : EU X W a ta) (hb : EU X W b tb) {pins : List (Addr × Obj)} {s : Shared} {σ : L2.St} {H : Hp} {us : USt} {G : Gp} {E : UX} {R : U → U → Gp → Prop} (I : Inv X pins σ H s) (rs : RelS X.K H us σ) (rp : Rep X.K H G)
    (h : ta us G (fun u G1 => tb us G1 (fun w G2 => R u w G2) E) E) (hx : ∀ c d H', LX X.K H G E c d H' → W c d σ H') {Q : Value → Shared → Prop} {f : Value → Value → Sem Value}
    (hf : ∀ v u s2 x y H2 p q G2, Inv X pins σ H2 s2 → RelV x v → RelV y u → Ext H G H2 G2 → Rep X.K H2 G2 → RelS X.K H2 us σ → RelU X.K H2 p x → RelU X.K H2 q y → R p q G2 → (∀ c d H', LX X.K H2 G2 E c d H' → W c d σ H') → wpAny (model X.prog X.w) X.A (f v u) Q X.xe s2) :
    wpAny (model X.prog X.w) X.A (eval a X.env) (fun v s₁ => wpAny (model X.prog X.w) X.A (eval b X.env) (fun u s₂ => wpAny (model X.prog X.w) X.A (f v u) Q X.xe s₂) X.xe s₁) X.xe s := by
  refine thn (ha.run pins s σ H us G _ E I rs rp h hx) fun v s1 ⟨x, H1, I1, r1, p, G1, x1, rp1, rp', q1⟩ => ?_
  refine thn (hb.run pins s1 σ H1 us G1 _ E I1 (rs.ext x1 rp) rp1 q1 fun c d H' h => hx c d H' (h.trans x1)) fun u s2 ⟨y, H2, I2, r2, q, G2, x2, rp2, rq, q2⟩ => ?_
  exact hf v u s2 x y H2 p q G2 I2 r1 r2 (x1.trans x2) rp2 ((rs.ext x1 rp).ext x2 rp1) (rp'.ext x2 rp1) rq q2 fun c d H' h => hx c d H' (h.trans (x1.trans x2))
theorem lv_pins {pins : List (Addr × Obj)} {σ : L2.St} {H H2 : Hp} {G G2 : Gp} {Q : UK} {u : Value} {s : Shared} (x : Ext H G H2 G2) : EP X pins σ (LV X.K H2 G2 Q) u s → EP X pins σ (LV X.K H G Q) u s := ep_imp fun _ _ h => h.trans x
theorem eu_bin {op : Operator} {r : UR2} (ho : OpU X W (binaryOp op) r) (ha : EU X W a ta) (hb : EU X W b tb) : EU X W (.BinOp a op b pos) (tUOp r ta tb) := by
  refine ⟨fun pins s σ H us G Q E I rs rp h hx => ?_⟩
  exact wpAny_BinOp (bin2 ha hb I rs rp h hx fun v u s2 x y H2 p q G2 I2 r1 r2 ex rp2 rs2 rp' rq hr hx2 => thn (ho pins s2 σ H2 x y v u p q G2 Q E I2 r1 r2 rp' rq rp2 hr hx2) fun _ _ h => lv_pins ex h)
theorem eu_cmp {op : CmpOp} {r : UR2} (ho : OpU X W (compareOp op) r) (ha : EU X W a ta) (hb : EU X W b tb) (hm : behindInMarks op b = false) : EU X W (.Compare a [op] [b] pos) (tUOp r ta tb) := by
  refine ⟨fun pins s σ H us G Q E I rs rp h hx => ?_⟩
  exact wpAny_Compare1 (bin2 ha hb I rs rp h hx fun v u s2 x y H2 p q G2 I2 r1 r2 ex rp2 rs2 rp' rq hr hx2 => thn (ho pins s2 σ H2 x y v u p q G2 Q E I2 r1 r2 rp' rq rp2 hr hx2) fun _ _ h => lv_pins ex h) hm
/-- a comparison as a test: its answer is a truth value -/
def kBl (Q : Bool → Gp → Prop) : UK := fun u G => match u with
  | .bl b => Q b G
  | _ => False
theorem tu_cmp {op : CmpOp} {r : UR2} (ho : OpU X W (compareOp op) r) (ha : EU X W a ta) (hb : EU X W b tb) (hm : behindInMarks op b = false) : TU X W (.Compare a [op] [b] pos) (fun us G Q E => tUOp r ta tb us G (kBl Q) E) := by
  refine ⟨fun pins s σ H us G Q E I rs rp h hx => ?_⟩
  refine wpAny_isTrue_Compare1 (thn (bin2 ha hb I rs rp h hx fun v u s2 x y H2 p q G2 I2 r1 r2 ex rp2 rs2 rp' rq hr hx2 => thn (ho pins s2 σ H2 x y v u p q G2 _ E I2 r1 r2 rp' rq rp2 hr hx2) fun _ _ h => lv_pins ex h) fun v s1 h1 => thn h1 fun u s2 h2 => thn h2 fun c s3 h3 => ?_) hm
  obtain ⟨x, H3, I3, rv, u', G3, x3, rp3, ru, q3⟩ := h3
  cases u' with
  | bl b =>
    obtain rfl : x = V.bl b := ru
    cases rv
    exact wpAny_truthy_bool ⟨H3, I3, G3, x3, rp3, q3⟩
  | _ => exact False.elim q3

abbrev UR1 := U → Gp → UK → UX → Prop
def UnU (X : Cx) (W : WX) (f : Value → Sem Value) (r : UR1) : Prop :=
  ∀ (pins : List (Addr × Obj)) (s : Shared) (σ : L2.St) (H : Hp) (x : V) (v : Value) (a : U) (G : Gp) (Q : UK) (E : UX), Inv X pins σ H s → RelV x v → RelU X.K H a x → Rep X.K H G → r a G Q E →
    (∀ c d H', LX X.K H G E c d H' → W c d σ H') → wpAny (model X.prog X.w) X.A (f v) (EP X pins σ (LV X.K H G Q)) X.xe s
theorem UnU.of {f : Value → Sem Value} {r : UR1} {rv : V → Hp → VK → Prop} (h : UnR X f rv) (k : ∀ x H a G Q E, RelU X.K H a x → Rep X.K H G → r a G Q E → rv x H (LV X.K H G Q)) : UnU X W f r :=
  fun pins s σ H x v a G Q E I rx ra rp hr _ => h pins s σ H x v _ I rx (k x H a G Q E ra rp hr)
def tUUn (r : UR1) (ta : UTE) : UTE := fun us G Q E => ta us G (fun u G1 => r u G1 Q E) E
theorem eu_un {op : UnaryOp} {r : UR1} (ho : UnU X W (unaryOp op) r) (ha : EU X W a ta) : EU X W (.UnaryOp op a pos) (tUUn r ta) := by
  refine ⟨fun pins s σ H us G Q E I rs rp h hx => ?_⟩
  refine UnaryOp_ (thn (ha.run pins s σ H us G _ E I rs rp h hx) fun v s1 ⟨x, H1, I1, r1, p, G1, x1, rp1, rp', q1⟩ => ?_)
  exact thn (ho pins s1 σ H1 x v p G1 Q E I1 r1 rp' rp1 q1 fun c d H' h => hx c d H' (h.trans x1)) fun _ _ h => lv_pins x1 h

def TrU (X : Cx) (W : WX) (r : U → Gp → (Bool → Gp → Prop) → UX → Prop) : Prop :=
  ∀ (pins : List (Addr × Obj)) (s : Shared) (σ : L2.St) (H : Hp) (x : V) (v : Value) (a : U) (G : Gp) (Q : Bool → Gp → Prop) (E : UX), Inv X pins σ H s → RelV x v → RelU X.K H a x → Rep X.K H G → r a G Q E →
    (∀ c d H', LX X.K H G E c d H' → W c d σ H') → wpAny (model X.prog X.w) X.A (truthy v) (TP X pins σ (LB X.K H G Q)) X.xe s
/-- a value's truth -/
def tUTru (r : U → Gp → (Bool → Gp → Prop) → UX → Prop) (ta : UTE) : UTT := fun us G Q E => ta us G (fun u G1 => r u G1 Q E) E
theorem tu_val {r : U → Gp → (Bool → Gp → Prop) → UX → Prop} (ht : TrU X W r) (ha : EU X W e ta) (he : ∀ whole, isTrue e X.env whole = (do let v ← whole; standAt e.pos; holding [v] (truthy v))) : TU X W e (tUTru r ta) := by
  refine ⟨fun pins s σ H us G Q E I rs rp h hx => ?_⟩
  refine isTrue_plain (thn (ha.run pins s σ H us G _ E I rs rp h hx) fun v s1 ⟨x, H1, I1, r1, p, G1, x1, rp1, rp', q1⟩ => ?_) (he _)
  exact thn (ht pins s1 σ H1 x v p G1 Q E I1 r1 rp' rp1 q1 fun c d H' h => hx c d H' (h.trans x1)) fun _ _ ⟨H', I', q⟩ => ⟨H', I', q.trans x1⟩
def tUNot (t : UTT) : UTT := fun us G Q E => t us G (fun b G1 => Q (!b) G1) E
theorem tu_not (ha : TU X W a tt) : TU X W (.UnaryOp .Not a pos) (tUNot tt) := by
  refine ⟨fun pins s σ H us G Q E I rs rp h hx => ?_⟩
  exact thn (pt_not ha.pt |>.run pins s σ H (LB X.K H G Q) I ⟨us, G, _, E, rs, rp, h, fun b H' q => q, hx⟩) fun _ _ q => q
end
end UL
set_option maxHeartbeats 2000000
namespace UL
open PySem PySem.Spec PyProof.Rows L2

theorem lim_line {n : Nat} (h : n ≤ 1000000) : n ≤ sizeLine := by rw [sizeLine_eq]; omega
theorem lim_lt {n : Nat} (h : n < 1000000) : n < sizeLine := by rw [sizeLine_eq]; omega

section
variable {K : PySem.W.Frag} {H : Hp} {G : Gp}
theorem RelU.tup_of {us : List U} {v : V} (h : RelU K H (.tup us) v) : ∃ a vs, v = .ref a ∧ SqT K H a vs ∧ RelUs K H us vs := h
theorem Rep.lst {a : Addr} {us : List U} (r : Rep K H G) (h : G a = some (.lst us)) : ∃ vs, H a = some (.lst vs) ∧ RelUs K H us vs := r a _ h
theorem Rep.dct {a : Addr} {us : List (U × U)} (r : Rep K H G) (h : G a = some (.dct us)) : ∃ vs, H a = some (.dK vs) ∧ RelKV K H us vs := r a _ h
theorem Rep.ins {a : Addr} {c : String} {fs : List (String × U)} (r : Rep K H G) (h : G a = some (.ins c fs)) : ∃ dx gs, H a = some (.ins (He.ga K (S c)) dx gs) ∧ RelF K H (He.ga K (S c)) fs gs := (r a _ h).2
theorem Rep.clsK {a : Addr} {c : String} {fs : List (String × U)} (r : Rep K H G) (h : G a = some (.ins c fs)) : ClsK K c := (r a _ h).1
end

section
variable {K : PySem.W.Frag} {H : Hp} {G : Gp} {Q : UK}
theorem lv_int (r : Rep K H G) {i : Int} (q : Q (.int i) G) : LV K H G Q (.int i) H := LV.here (u := .int i) r rfl q
theorem lv_bl (r : Rep K H G) {i : Bool} (q : Q (.bl i) G) : LV K H G Q (.bl i) H := LV.here (u := .bl i) r rfl q
theorem lv_non (r : Rep K H G) (q : Q .non G) : LV K H G Q .non H := LV.here (u := .non) r rfl q
theorem lv_str (r : Rep K H G) {l : List Nat} (q : Q (.str l) G) : LV K H G Q (.str ⟨l.toArray⟩) H := LV.here (u := .str l) r rfl q
theorem lv_old (r : Rep K H G) {us : List U} {a : Addr} {vs : List V} (t : SqT K H a vs) (h : RelUs K H us vs) (q : Q (.tup us) G) : LV K H G Q (.ref a) H := LV.here (u := .tup us) r ⟨a, vs, rfl, t, h⟩ q
theorem lv_tup (r : Rep K H G) {us : List U} {vs : List V} (h : RelUs K H us vs) {p : Addr} (hp : H p = none) (q : Q (.tup us) G) : LV K H G Q (.ref p) (upd H p (.tup vs)) := by
  obtain ⟨r1, x1⟩ := r.laid0 (u := .tup vs) hp
  exact ⟨.tup us, G, x1, r1, ⟨p, vs, rfl, .of upd_same, h.ext x1 r⟩, q⟩
theorem lv_lst (r : Rep K H G) {us : List U} {vs : List V} (h : RelUs K H us vs) {p : Addr} (hp : H p = none) (q : Q (.ref p) (gup G p (.lst us))) : LV K H G Q (.ref p) (upd H p (.lst vs)) := by
  have x0 : Ext H G (upd H p (.lst vs)) G := (r.laid0 hp).2
  obtain ⟨r1, x1⟩ := r.laid (u := .lst vs) (o := .lst us) hp ⟨vs, upd_same, h.ext x0 r⟩
  exact ⟨.ref p, _, x1, r1, rfl, q⟩
theorem lv_setl (r : Rep K H G) {a : Addr} {o : Ob} (ho : G a = some o) {us : List U} {vs : List V} (h : RelUs K H us vs) {u : U} {v : V} (hu : RelU K H u v) (q : Q u (gup G a (.lst us))) : LV K H G Q v (upd H a (.lst vs)) := by
  have ne : ∀ b, G b = none → b ≠ a := fun b g z => by rw [z, ho] at g; cases g
  have x0 : Ext H G (upd H a (.lst vs)) (gup G a (.lst us)) := fun b w h g => ⟨by rw [upd_ne (ne b g)]; exact h, by rw [gup_ne (ne b g)]; exact g⟩
  obtain ⟨r1, x1⟩ := r.write (u := .lst vs) (o := .lst us) ho ⟨vs, upd_same, h.ext x0 r⟩
  exact ⟨u, _, x1, r1, hu.ext x1 r, q⟩
end

mutual
inductive Dat (G : Gp) : U → PyData → Prop
  | non : Dat G .non .none
  | bl (b : Bool) : Dat G (.bl b) (.bool b)
  | int (i : Int) : Dat G (.int i) (.int i)
  | str (l : List Nat) : Dat G (.str l) (.str ⟨l.toArray⟩)
  | tup {us : List U} {ds : List PyData} : Dats G us ds → Dat G (.tup us) (.tuple ds)
  | lst {a : Addr} {us : List U} {ds : List PyData} : G a = some (.lst us) → Dats G us ds → Dat G (.ref a) (.list ds)
inductive Dats (G : Gp) : List U → List PyData → Prop
  | nil : Dats G [] []
  | cons {u : U} {us : List U} {d : PyData} {ds : List PyData} : Dat G u d → Dats G us ds → Dats G (u :: us) (d :: ds)
end
section
variable {K : PySem.W.Frag} {H : Hp} {G : Gp}
mutual
theorem Dat.dp (r : Rep K H G) : ∀ (d : PyData) (u : U) (v : V), Dat G u d → RelU K H u v → Dp K H v d
  | _, _, v, .non, e => by rw [show v = .non from e]; exact .non
  | _, _, v, .bl b, e => by rw [show v = .bl b from e]; exact .bl b
  | _, _, v, .int i, e => by rw [show v = .int i from e]; exact .int i
  | _, _, v, .str l, e => by rw [show v = .str ⟨l.toArray⟩ from e]; exact .str _
  | .tuple ds, _, v, .tup h, e => by
    obtain ⟨a, vs, rfl, ht, hr⟩ := e.tup_of
    exact .tup ht (Dats.dp r ds _ vs h hr)
  | .list ds, _, v, .lst hg h, e => by
    rw [show v = .ref _ from e]
    obtain ⟨vs, e1, hr⟩ := r.lst hg
    exact .lst (.of e1) (Dats.dp r ds _ vs h hr)
theorem Dats.dp (r : Rep K H G) : ∀ (ds : List PyData) (us : List U) (vs : List V), Dats G us ds → RelUs K H us vs → DpAll K H vs ds
  | [], _, vs, .nil, e => by
    have e' : vs = [] := e
    subst e'
    exact .nil
  | d :: ds, _, vs, .cons h t, e => by
    obtain ⟨v, ws, rfl, hv, hs⟩ := e
    exact .cons (Dat.dp r d _ v h hv) (Dats.dp r ds _ ws t hs)
end
end

def addU : UR2 := fun x y G Q _ => match x, y with
  | .int i, .int j => Q (.int (i + j)) G
  | .str a, .str b => a.length + b.length ≤ 1000000 ∧ Q (.str (a ++ b)) G
  | .tup a, .tup b => a.length + b.length ≤ 1000000 ∧ Q (.tup (a ++ b)) G
  | .ref a, .ref b => ∃ xs ys, G a = some (.lst xs) ∧ G b = some (.lst ys) ∧ xs.length + ys.length ≤ 1000000 ∧ ∀ p, G p = none → Q (.ref p) (gup G p (.lst (xs ++ ys)))
  | _, _ => False
def subU : UR2 := fun x y G Q _ => match x, y with
  | .int i, .int j => Q (.int (i - j)) G
  | _, _ => False
/-- one factor below 2^64 -/
def mulU : UR2 := fun x y G Q _ => match x, y with
  | .int i, .int j => CMul i j ∧ Q (.int (i * j)) G
  | .tup a, .int k => a ≠ [] ∧ a.length ≤ 1000 ∧ 0 ≤ k ∧ k ≤ 1000 ∧ Q (.tup (List.replicate k.toNat a).flatten) G
  | .ref a, .int k => ∃ xs, G a = some (.lst xs) ∧ -(2 ^ 63) ≤ k ∧ k < 2 ^ 63 ∧ xs.length * k.toNat ≤ 1000000 ∧ ∀ p, G p = none → Q (.ref p) (gup G p (.lst (List.replicate k.toNat xs).flatten))
  | _, _ => False
def modU : UR2 := fun x y G Q _ => match x, y with
  | .int i, .int j => 0 < j ∧ Q (.int (i % j)) G
  | _, _ => False
def fdivU : UR2 := fun x y G Q _ => match x, y with
  | .int i, .int j => (0 < j ∧ j < 1073741824) ∧ Q (.int (i / j)) G
  | _, _ => False
def powU : UR2 := fun x y G Q _ => match x, y with
  | .int i, .int j => CPow i j ∧ Q (.int (i ^ j.toNat)) G
  | _, _ => False
def shlU : UR2 := fun x y G Q _ => match x, y with
  | .int i, .int j => CPow i j ∧ Q (.int (i * 2 ^ j.toNat)) G
  | _, _ => False
section
variable {X : Cx} {W : WX}
theorem str_app {a b : List Nat} : (⟨a.toArray⟩ : Str) ++ (⟨b.toArray⟩ : Str) = ⟨(a ++ b).toArray⟩ := by
  show (⟨a.toArray ++ b.toArray⟩ : Str) = _
  simp
theorem ou_add : OpU X W (binaryOp .Add) addU := by
  intro pins s σ H x y v u a b G Q E I rx ry ra rb rp hr hx
  cases a <;> cases b <;> try exact hr.elim
  case int.int i j => exact op_add pins s σ H x y v u _ I rx ry ⟨i, j, ra, rb, lv_int rp hr⟩
  case str.str i j =>
    refine op_add_str pins s σ H x y v u _ I rx ry ⟨_, _, ra, rb, ?_, ?_⟩
    · show i.toArray.size + j.toArray.size ≤ sizeLine
      simp only [List.size_toArray]
      exact lim_line hr.1
    · exact (by rw [str_app]; exact lv_str rp hr.2)
  case tup.tup i j =>
    obtain ⟨pa, vs, ea, ta, sa⟩ := ra.tup_of
    obtain ⟨pb, ws, eb, tb, sb⟩ := rb.tup_of
    refine op_catA pins s σ H x y v u _ I rx ry ⟨pa, pb, vs, ws, ea, eb, ta, tb, by rw [sa.length, sb.length]; exact lim_line hr.1, fun e => ?_, fun ne e => ?_, fun n1 n2 p hp => ?_⟩
    · subst e
      have : i = [] := List.eq_nil_of_length_eq_zero sa.length.symm
      subst this
      exact lv_old rp tb sb (by simpa using hr.2)
    · subst e
      have : j = [] := List.eq_nil_of_length_eq_zero sb.length.symm
      subst this
      exact lv_old rp ta sa (by simpa using hr.2)
    · exact lv_tup rp (sa.append sb) hp hr.2
  case ref.ref i j =>
    obtain ⟨xs, ys, g1, g2, hl, hr⟩ := hr
    obtain ⟨vs, e1, r1⟩ := rp.lst g1
    obtain ⟨ws, e2, r2⟩ := rp.lst g2
    exact op_cat pins s σ H x y v u _ I rx ry ⟨i, j, vs, ws, ra, rb, e1, e2, by rw [r1.length, r2.length]; exact lim_line hl, fun p hp => lv_lst rp (r1.append r2) hp (hr p (rp.fresh hp))⟩
theorem ou_sub : OpU X W (binaryOp .Sub) subU := by
  intro pins s σ H x y v u a b G Q E I rx ry ra rb rp hr hx
  cases a <;> cases b <;> try exact hr.elim
  case int.int i j => exact op_sub pins s σ H x y v u _ I rx ry ⟨i, j, ra, rb, lv_int rp hr⟩
theorem ou_mod : OpU X W (binaryOp .Mod) modU := by
  intro pins s σ H x y v u a b G Q E I rx ry ra rb rp hr hx
  cases a <;> cases b <;> try exact hr.elim
  case int.int i j => exact op_mod pins s σ H x y v u _ I rx ry ⟨i, j, ra, rb, hr.1, lv_int rp hr.2⟩
theorem ou_fdiv : OpU X W (binaryOp .FloorDiv) fdivU := by
  intro pins s σ H x y v u a b G Q E I rx ry ra rb rp hr hx
  cases a <;> cases b <;> try exact hr.elim
  case int.int i j => exact op_fdiv pins s σ H x y v u _ I rx ry ⟨i, j, ra, rb, hr.1, lv_int rp hr.2⟩
theorem ou_pow : OpU X W (binaryOp .Pow) powU := by
  intro pins s σ H x y v u a b G Q E I rx ry ra rb rp hr hx
  cases a <;> cases b <;> try exact hr.elim
  case int.int i j => exact op_pow pins s σ H x y v u _ I rx ry ⟨i, j, ra, rb, hr.1, lv_int rp hr.2⟩
theorem ou_shl : OpU X W (binaryOp .LShift) shlU := by
  intro pins s σ H x y v u a b G Q E I rx ry ra rb rp hr hx
  cases a <;> cases b <;> try exact hr.elim
  case int.int i j => exact op_shl pins s σ H x y v u _ I rx ry ⟨i, j, ra, rb, hr.1, lv_int rp hr.2⟩
end
end UL
set_option maxHeartbeats 400000
namespace UL
open PySem PySem.Spec PyProof.Rows L2
theorem tup_mul1 (l : Addr) (items : Array Value) (n : Nat) (dd : Option Addr) (sl : Array (Option Value)) (u : Tok) :
    Meets (Builtin.«tuple.__mul__» ⟨[.ref l, .int 1 u], []⟩) (fun _ R s => s.heap.get? l = some { cls := .type "tuple", dict := dd, data := .seq items n, slots := sl } ∧ R (.ok (.ret (.ref l))) s) :=
  .of_wp fun prog w A R s h => by
    obtain ⟨hp, g, d, tk, os⟩ := s
    obtain ⟨hl, h⟩ := h
    have f1 := AutoSeq1.idx_int
    wp_walk using wpAny_loadPart' hl
    exact ⟨_, rfl, h⟩
theorem tup_mul0 (l : Addr) (items : Array Value) (n : Nat) (dd : Option Addr) (sl : Array (Option Value)) (x : Int) (u : Tok) (c0 : (decide (x < -(2 ^ 63)) || decide (x ≥ 2 ^ 63)) = false) (c1 : (items.isEmpty || x == 1) = false) (c2 : (decide (x ≤ 0) || items.isEmpty) = true) :
    Meets (Builtin.«tuple.__mul__» ⟨[.ref l, .int x u], []⟩) (fun _ R s => s.heap.get? l = some { cls := .type "tuple", dict := dd, data := .seq items n, slots := sl } ∧
      R (.ok (.ret (Value.ref s.heap.objs.size))) { s with heap := s.heap.push { cls := Value.type "tuple", data := Data.seq #[] }, toks := s.toks }) :=
  .of_wp fun prog w A R s h => by
    obtain ⟨hp, g, d, tk, os⟩ := s
    obtain ⟨hl, h⟩ := h
    have f1 := AutoSeq1.idx_int
    wp_walk using wpAny_loadPart' hl
    repeat (first
      | (refine wpAny_ite_false (decide_eq_false (by rw [c0]; exact Bool.false_ne_true)) ?_; wp_walk using wpAny_loadPart' hl)
      | (refine wpAny_ite_false (decide_eq_false (by rw [c1]; exact Bool.false_ne_true)) ?_; wp_walk using wpAny_loadPart' hl)
      | (refine wpAny_ite_true (decide_eq_true c2) ?_; wp_walk using wpAny_loadPart' hl))
    exact ⟨_, rfl, h⟩
section
variable {X : Cx} {W : WX}
/-- t * 0, t * 1 -/
def rRep01 (K : PySem.W.Frag) : R2 := fun x y H Q => ∃ l xs, x = .ref l ∧ SqT K H l xs ∧ xs ≠ [] ∧ ((y = .int 1 ∧ Q (.ref l) H) ∨ (y = .int 0 ∧ ∀ p, H p = none → Q (.ref p) (upd H p (.tup []))))
theorem op_rep01 : OpR X (binaryOp .Mult) (rRep01 X.K) := by
  intro pins s σ H x y v u Q I rx ry h
  obtain ⟨l, xs, rfl, hT, hne, h⟩ := h
  cases rx
  obtain ⟨its, r, ⟨⟨cls, dd, data, sl⟩, ho, hc, n, hd⟩, hs⟩ := I.tuple hT
  simp only at hc hd
  subst hc hd
  have hn : its ≠ [] := fun e => hne (by
    rw [e] at r
    exact List.eq_nil_of_length_eq_zero r.length)
  have hi : its.toArray.isEmpty = false := by
    cases its with
    | nil => exact absurd rfl hn
    | cons a b => rfl
  rcases h with ⟨rfl, q⟩ | ⟨rfl, q⟩
  · obtain ⟨t, rfl⟩ := ry
    exact wpAny_binaryOp_repeat_ref (T := "tuple") (U := "int") (by decide) ⟨_, ho, rfl⟩ (fun s' => typeIs_int s' 1 t) noFill_tuple_mul F.fills_int_mul F.slot_int_rmul repeat_tuple F.slot_int_index.lookup
      (call_meets F.slot_int_rmul (typeIs_int s 1 t) F.entry_int_rmul (F.args_int_rmul_2 _ _) (int_rmul_tuple 1 t l its.toArray n dd sl)
        ⟨ho, rfl, ⟨_, ho, rfl⟩, call_meets F.slot_tuple_mul ⟨_, ho, rfl⟩ F.entry_tuple_mul (F.args_tuple_mul_2 _ _) (tup_mul1 l its.toArray n dd sl t) ⟨ho, .ref l, H, I, rfl, q⟩⟩)
  · obtain ⟨t, rfl⟩ := ry
    refine wpAny_binaryOp_repeat_ref (T := "tuple") (U := "int") (by decide) ⟨_, ho, rfl⟩ (fun s' => typeIs_int s' 0 t) noFill_tuple_mul F.fills_int_mul F.slot_int_rmul repeat_tuple F.slot_int_index.lookup
      (call_meets F.slot_int_rmul (typeIs_int s 0 t) F.entry_int_rmul (F.args_int_rmul_2 _ _) (int_rmul_tuple 0 t l its.toArray n dd sl)
        ⟨ho, rfl, ⟨_, ho, rfl⟩, call_meets F.slot_tuple_mul ⟨_, ho, rfl⟩ F.entry_tuple_mul (F.args_tuple_mul_2 _ _) (tup_mul0 l its.toArray n dd sl 0 t (by decide) (by rw [hi]; rfl) (by rfl)) ⟨ho, ?_⟩⟩)
    refine ⟨.ref s.heap.objs.size, _, I.laid (t' := s.toks) (o := .tup []) (fun b ob q => Heap.get?_push_of_some _ q) (Nat.le_refl _) ?_, rfl, q _ (I.hok.fresh (Nat.le_refl _))⟩
    exact ⟨Nat.zero_le _, [], .nil, IsTup.new _ _⟩
theorem ou_mul : OpU X W (binaryOp .Mult) mulU := by
  intro pins s σ H x y v u a b G Q E I rx ry ra rb rp hr hx
  cases a <;> cases b <;> try exact hr.elim
  case int.int i j => exact op_mul pins s σ H x y v u _ I rx ry ⟨i, j, ra, rb, hr.1, lv_int rp hr.2⟩
  case tup.int i k =>
    obtain ⟨hne, hl, k0, k1, q⟩ := hr
    obtain ⟨pa, vs, ea, ta, sa⟩ := ra.tup_of
    have hv : vs ≠ [] := fun e => hne (by
      rw [e] at sa
      exact List.eq_nil_of_length_eq_zero sa.length.symm)
    by_cases h0 : k = 0
    · subst h0
      refine op_rep01 pins s σ H x y v u _ I rx ry ⟨pa, vs, ea, ta, hv, .inr ⟨rb, fun p hp => ?_⟩⟩
      exact lv_tup (us := []) rp rfl hp q
    · by_cases h1 : k = 1
      · subst h1
        refine op_rep01 pins s σ H x y v u _ I rx ry ⟨pa, vs, ea, ta, hv, .inl ⟨rb, ?_⟩⟩
        exact lv_old rp ta sa (by simpa using q)
      · exact op_repT pins s σ H x y v u _ I rx ry ⟨pa, k, vs, ea, rb, ta, hv, by omega, k1, by rw [sa.length]; exact hl, fun p hp => lv_tup rp (sa.rep _) hp q⟩
  case ref.int i k =>
    obtain ⟨xs, g1, k0, k1, hl, q⟩ := hr
    obtain ⟨vs, e1, r1⟩ := rp.lst g1
    exact op_rep pins s σ H x y v u _ I rx ry ⟨i, k, vs, ra, rb, e1, k0, k1, by rw [r1.length]; exact lim_line hl, fun p hp => lv_lst rp (r1.rep _) hp (q p (rp.fresh hp))⟩
end
end UL
set_option maxHeartbeats 400000
namespace UL
open PySem PySem.Spec PyProof.Rows L2

def ueq : U → U → Bool
  | .non, .non => true
  | .bl a, .bl b => a == b
  | .bl a, .int b => (if a then 1 else 0) == b
  | .int a, .bl b => a == (if b then 1 else 0)
  | .int a, .int b => a == b
  | .str a, .str b => a == b
  | _, _ => false
def uflat : U → Bool
  | .non => true
  | .bl _ => true
  | .int _ => true
  | .str _ => true
  | _ => false
theorem arr_eq {a b : List Nat} : ((⟨a.toArray⟩ : Str) == (⟨b.toArray⟩ : Str)) = (a == b) := by
  by_cases h : a = b
  · subst h
    rw [beq_self_eq_true, beq_self_eq_true]
  · have h2 : ¬ (⟨a.toArray⟩ : Str) = (⟨b.toArray⟩ : Str) := fun e => h (by
      have e' : a.toArray = b.toArray := congrArg Str.cps e
      simpa using e')
    rw [beq_eq_false_iff_ne.mpr h, beq_eq_false_iff_ne.mpr h2]
section
variable {K : PySem.W.Frag} {H : Hp} {G : Gp}
theorem flat_of {u : U} {v : V} (r : RelU K H u v) (h : uflat u = true) : flatV v = true := by
  cases u with
  | non => rw [show v = .non from r]; rfl
  | bl b => rw [show v = .bl b from r]; rfl
  | int b => rw [show v = .int b from r]; rfl
  | str b => rw [show v = .str ⟨b.toArray⟩ from r]; rfl
  | _ => cases h
theorem eqV_of {u w : U} {v z : V} (r : RelU K H u v) (q : RelU K H w z) (h : uflat u = true) (h2 : uflat w = true) : eqV v z = ueq u w := by
  cases u <;> first | (cases h; done) | skip
  all_goals (cases w <;> first | (cases h2; done) | skip)
  all_goals (have r' := r; have q' := q; simp only [RelU] at r' q'; subst r' q'; first | rfl | exact arr_eq)
theorem flatAll_of : ∀ {us : List U} {vs : List V}, RelUs K H us vs → us.all uflat = true → vs.all flatV = true
  | [], _, e, _ => by
    have e' : _ = ([] : List V) := e
    subst e'
    rfl
  | u :: us, _, ⟨v, ws, rfl, h, t⟩, a => by
    rw [List.all_cons, Bool.and_eq_true] at a
    rw [List.all_cons, flat_of h a.1, flatAll_of t a.2]
    rfl
theorem inV_of {x : U} {z : V} (rx : RelU K H x z) (fx : uflat x = true) : ∀ {us : List U} {vs : List V}, RelUs K H us vs → us.all uflat = true → inV z vs = us.any fun y => ueq y x
  | [], _, e, _ => by
    have e' : _ = ([] : List V) := e
    subst e'
    rfl
  | u :: us, _, ⟨v, ws, rfl, h, t⟩, a => by
    rw [List.all_cons, Bool.and_eq_true] at a
    have ih := inV_of rx fx t a.2
    unfold inV at ih ⊢
    rw [List.any_cons, List.any_cons, eqV_of h rx a.1 fx, ih]
end

def eqU : UR2 := fun x y G Q _ => match x, y with
  | .int i, .int j => Q (.bl (decide (i = j))) G
  | .str i, .str j => Q (.bl (decide (i = j))) G
  | .non, .non => Q (.bl true) G
  | x, y => ∃ d e, Dat G x d ∧ Dat G y e ∧ SeqAt.shaped d = true ∧ SeqAt.shaped e = true ∧ Q (.bl (PyData.eqv d e)) G
def neU : UR2 := fun x y G Q _ => match x, y with
  | .int i, .int j => Q (.bl (!decide (i = j))) G
  | .str i, .str j => Q (.bl (!decide (i = j))) G
  | .non, .non => Q (.bl false) G
  | x, y => ∃ d e, Dat G x d ∧ Dat G y e ∧ SeqAt.shaped d = true ∧ SeqAt.shaped e = true ∧ Q (.bl (!PyData.eqv d e)) G
def ltU : UR2 := fun x y G Q _ => match x, y with
  | .int i, .int j => Q (.bl (decide (i < j))) G
  | .str i, .str j => Q (.bl (decide (i < j))) G
  | _, _ => False
def leU : UR2 := fun x y G Q _ => match x, y with
  | .int i, .int j => Q (.bl (decide (i ≤ j))) G
  | .str i, .str j => Q (.bl (!decide (j < i))) G
  | _, _ => False
def gtU : UR2 := fun x y G Q _ => match x, y with
  | .int i, .int j => Q (.bl (decide (j < i))) G
  | .str i, .str j => Q (.bl (decide (j < i))) G
  | _, _ => False
def geU : UR2 := fun x y G Q _ => match x, y with
  | .int i, .int j => Q (.bl (decide (j ≤ i))) G
  | .str i, .str j => Q (.bl (!decide (i < j))) G
  | _, _ => False
def inU : UR2 := fun x y G Q _ => match x, y with
  | .str c, .str l => ∃ k, c = [k] ∧ Q (.bl (decide (k ∈ l))) G
  | x, .tup us => uflat x = true ∧ us.all uflat = true ∧ Q (.bl (us.any fun y => ueq y x)) G
  | x, .ref a => ∃ us, G a = some (.lst us) ∧ uflat x = true ∧ us.all uflat = true ∧ Q (.bl (us.any fun y => ueq y x)) G
  | _, _ => False
def notInU : UR2 := fun x y G Q _ => match x, y with
  | .str c, .str l => ∃ k, c = [k] ∧ Q (.bl (!decide (k ∈ l))) G
  | x, .tup us => uflat x = true ∧ us.all uflat = true ∧ Q (.bl (!us.any fun y => ueq y x)) G
  | x, .ref a => ∃ us, G a = some (.lst us) ∧ uflat x = true ∧ us.all uflat = true ∧ Q (.bl (!us.any fun y => ueq y x)) G
  | _, _ => False
def isNonU : U → Bool
  | .non => true
  | _ => false
def noDict : Ob → Bool
  | .lst _ => true
  | .ins _ _ => true
  | _ => false
def isU : UR2 := fun x y G Q _ => match x, y with
  | .bl i, .bl j => Q (.bl (decide (i = j))) G
  | .ref a, .ref b => ∃ oa ob, G a = some oa ∧ G b = some ob ∧ noDict oa = true ∧ noDict ob = true ∧ Q (.bl (decide (a = b))) G
  | x, .non => Q (.bl (isNonU x)) G
  | _, _ => False
def isNotU : UR2 := fun x y G Q _ => match x, y with
  | .bl i, .bl j => Q (.bl (!decide (i = j))) G
  | .ref a, .ref b => ∃ oa ob, G a = some oa ∧ G b = some ob ∧ noDict oa = true ∧ noDict ob = true ∧ Q (.bl (!decide (a = b))) G
  | x, .non => Q (.bl (!isNonU x)) G
  | _, _ => False
section
variable {X : Cx} {W : WX}
theorem dec_strU {i j : List Nat} : decide (V.str ⟨i.toArray⟩ = V.str ⟨j.toArray⟩) = decide (i = j) := by
  by_cases h : i = j
  · subst h
    simp
  · have h2 : ¬ V.str ⟨i.toArray⟩ = V.str ⟨j.toArray⟩ := fun e => h (by
      have e' : i.toArray = j.toArray := congrArg Str.cps (V.str.inj e)
      simpa using e')
    rw [decide_eq_false h, decide_eq_false h2]
theorem dec_intU {i j : Int} : decide (V.int i = V.int j) = decide (i = j) := by
  by_cases h : i = j
  · subst h
    simp
  · have h2 : ¬ V.int i = V.int j := fun e => h (V.int.inj e)
    rw [decide_eq_false h, decide_eq_false h2]
theorem ou_eq (hu : X.A.units + 64 < cLine) : OpU X W (compareOp .Eq) eqU := by
  intro pins s σ H x y v u a b G Q E I rx ry ra rb rp hr hx
  unfold eqU at hr
  split at hr
  · exact op_eq pins s σ H x y v u _ I rx ry (by
      rw [show x = .int _ from ra, show y = .int _ from rb]
      exact ⟨rfl, by rw [dec_intU]; exact lv_bl rp hr⟩)
  · exact op_eq pins s σ H x y v u _ I rx ry (by
      rw [show x = .str _ from ra, show y = .str _ from rb]
      exact ⟨rfl, by rw [dec_strU]; exact lv_bl rp hr⟩)
  · exact op_eq pins s σ H x y v u _ I rx ry (by
      rw [show x = .non from ra, show y = .non from rb]
      exact ⟨rfl, lv_bl rp hr⟩)
  · obtain ⟨d, e, h1, h2, h3, h4, q⟩ := hr
    exact op_eqD hu pins s σ H x y v u _ I rx ry ⟨d, e, h1.dp rp _ _ _ ra, h2.dp rp _ _ _ rb, h3, h4, lv_bl rp q⟩
theorem ou_ne (hu : X.A.units + 64 < cLine) : OpU X W (compareOp .NotEq) neU := by
  intro pins s σ H x y v u a b G Q E I rx ry ra rb rp hr hx
  unfold neU at hr
  split at hr
  · exact op_ne pins s σ H x y v u _ I rx ry (by
      rw [show x = .int _ from ra, show y = .int _ from rb]
      exact ⟨rfl, by rw [dec_intU]; exact lv_bl rp hr⟩)
  · exact op_ne pins s σ H x y v u _ I rx ry (by
      rw [show x = .str _ from ra, show y = .str _ from rb]
      exact ⟨rfl, by rw [dec_strU]; exact lv_bl rp hr⟩)
  · exact op_ne pins s σ H x y v u _ I rx ry (by
      rw [show x = .non from ra, show y = .non from rb]
      exact ⟨rfl, lv_bl rp hr⟩)
  · obtain ⟨d, e, h1, h2, h3, h4, q⟩ := hr
    exact op_neD hu pins s σ H x y v u _ I rx ry ⟨d, e, h1.dp rp _ _ _ ra, h2.dp rp _ _ _ rb, h3, h4, lv_bl rp q⟩
theorem ou_lt : OpU X W (compareOp .Lt) ltU := by
  intro pins s σ H x y v u a b G Q E I rx ry ra rb rp hr hx
  cases a <;> cases b <;> try exact hr.elim
  case int.int i j => exact op_lt pins s σ H x y v u _ I rx ry ⟨i, j, ra, rb, lv_bl rp hr⟩
  case str.str i j => exact op_lt_str pins s σ H x y v u _ I rx ry ⟨_, _, ra, rb, lv_bl rp hr⟩
theorem ou_le : OpU X W (compareOp .LtE) leU := by
  intro pins s σ H x y v u a b G Q E I rx ry ra rb rp hr hx
  cases a <;> cases b <;> try exact hr.elim
  case int.int i j => exact op_le pins s σ H x y v u _ I rx ry ⟨i, j, ra, rb, lv_bl rp hr⟩
  case str.str i j => exact op_le_str pins s σ H x y v u _ I rx ry ⟨_, _, ra, rb, lv_bl rp hr⟩
theorem ou_gt : OpU X W (compareOp .Gt) gtU := by
  intro pins s σ H x y v u a b G Q E I rx ry ra rb rp hr hx
  cases a <;> cases b <;> try exact hr.elim
  case int.int i j => exact op_gt pins s σ H x y v u _ I rx ry ⟨i, j, ra, rb, lv_bl rp hr⟩
  case str.str i j => exact op_gt_str pins s σ H x y v u _ I rx ry ⟨_, _, ra, rb, lv_bl rp hr⟩
theorem ou_ge : OpU X W (compareOp .GtE) geU := by
  intro pins s σ H x y v u a b G Q E I rx ry ra rb rp hr hx
  cases a <;> cases b <;> try exact hr.elim
  case int.int i j => exact op_ge pins s σ H x y v u _ I rx ry ⟨i, j, ra, rb, lv_bl rp hr⟩
  case str.str i j => exact op_ge_str pins s σ H x y v u _ I rx ry ⟨_, _, ra, rb, lv_bl rp hr⟩
theorem inU_cases {neg : Bool} {x y : U} {v z : V} {H : Hp} {G : Gp} {Q : VK} (rp : Rep X.K H G) (ra : RelU X.K H x v) (rb : RelU X.K H y z) {us : List U}
    (hy : y = .tup us ∨ ∃ a, y = .ref a ∧ G a = some (.lst us)) (fx : uflat x = true) (fu : us.all uflat = true) (q : Q (.bl (if neg then !us.any fun y => ueq y x else us.any fun y => ueq y x)) H) : rIn X.K neg v z H Q := by
  rcases hy with rfl | ⟨a, rfl, hg⟩
  · obtain ⟨p, vs, rfl, t, r⟩ := rb.tup_of
    exact ⟨p, vs, rfl, .inr t, flat_of ra fx, flatAll_of r fu, by rw [inV_of ra fx r fu]; exact q⟩
  · obtain ⟨vs, e, r⟩ := rp.lst hg
    rw [show z = .ref a from rb]
    exact ⟨a, vs, rfl, .inl (.of e), flat_of ra fx, flatAll_of r fu, by rw [inV_of ra fx r fu]; exact q⟩
theorem ou_in : OpU X W (compareOp .In) inU := by
  intro pins s σ H x y v u a b G Q E I rx ry ra rb rp hr hx
  cases b with
  | str l =>
    cases a with
    | str c =>
      obtain ⟨k, rfl, q⟩ := hr
      exact op_in_sign pins s σ H x y v u _ I rx ry ⟨k, _, ra, rb, lv_bl rp q⟩
    | _ => exact hr.elim
  | tup us =>
    have hr' : uflat a = true ∧ us.all uflat = true ∧ Q (.bl (us.any fun y => ueq y a)) G := by cases a <;> exact hr
    exact op_in_seq pins s σ H x y v u _ I rx ry (inU_cases rp ra rb (.inl rfl) hr'.1 hr'.2.1 (lv_bl rp hr'.2.2))
  | ref p =>
    have hr' : ∃ us, G p = some (.lst us) ∧ uflat a = true ∧ us.all uflat = true ∧ Q (.bl (us.any fun y => ueq y a)) G := by cases a <;> exact hr
    obtain ⟨us, g, h1, h2, q⟩ := hr'
    exact op_in_seq pins s σ H x y v u _ I rx ry (inU_cases rp ra rb (.inr ⟨p, rfl, g⟩) h1 h2 (lv_bl rp q))
  | _ => exact (show False by cases a <;> exact hr).elim
theorem isObj_of {K : PySem.W.Frag} {H : Hp} {G : Gp} (rp : Rep K H G) {a : Addr} {o : Ob} (h : G a = some o) (n : noDict o = true) : ∃ u, H a = some u ∧ isObj u = true := by
  cases o with
  | lst us => obtain ⟨vs, e, _⟩ := rp.lst h; exact ⟨_, e, rfl⟩
  | dct us => cases n
  | dcr od gs kvs => cases n
  | xcp c fs => cases n
  | ins c fs => obtain ⟨dx, gs, e, _⟩ := rp.ins h; exact ⟨_, e, rfl⟩
theorem ou_is : OpU X W (compareOp .Is) isU := by
  intro pins s σ H x y v u a b G Q E I rx ry ra rb rp hr hx
  cases b with
  | bl j =>
    cases a with
    | bl i => exact op_is_bl pins s σ H x y v u _ I rx ry ⟨i, j, ra, rb, lv_bl rp hr⟩
    | _ => exact hr.elim
  | ref q =>
    cases a with
    | ref p =>
      obtain ⟨oa, ob, h1, h2, n1, n2, hr⟩ := hr
      obtain ⟨ua, e1, i1⟩ := isObj_of rp h1 n1
      obtain ⟨ub, e2, i2⟩ := isObj_of rp h2 n2
      exact op_is_ref pins s σ H x y v u _ I rx ry ⟨p, q, ua, ub, ra, rb, e1, i1, e2, i2, lv_bl rp hr⟩
    | _ => exact hr.elim
  | non =>
    have hr' : Q (.bl (isNonU a)) G := by cases a <;> exact hr
    refine op_isN pins s σ H x y v u _ I rx ry ⟨rb, ?_⟩
    have e : decide (x = .non) = isNonU a := by
      cases a <;> simp only [RelU] at ra <;> first | (obtain ⟨_, _, rfl, _⟩ := ra; rfl) | (obtain ⟨rfl, _⟩ := ra; rfl) | (subst ra; rfl)
    rw [e]
    exact lv_bl rp hr'
  | _ => exact (show False by cases a <;> exact hr).elim
theorem ou_isNot : OpU X W (compareOp .IsNot) isNotU := by
  intro pins s σ H x y v u a b G Q E I rx ry ra rb rp hr hx
  cases b with
  | bl j =>
    cases a with
    | bl i => exact op_isnot_bl pins s σ H x y v u _ I rx ry ⟨i, j, ra, rb, lv_bl rp hr⟩
    | _ => exact hr.elim
  | ref q =>
    cases a with
    | ref p =>
      obtain ⟨oa, ob, h1, h2, n1, n2, hr⟩ := hr
      obtain ⟨ua, e1, i1⟩ := isObj_of rp h1 n1
      obtain ⟨ub, e2, i2⟩ := isObj_of rp h2 n2
      exact op_isnot_ref pins s σ H x y v u _ I rx ry ⟨p, q, ua, ub, ra, rb, e1, i1, e2, i2, lv_bl rp hr⟩
    | _ => exact hr.elim
  | non =>
    have hr' : Q (.bl (!isNonU a)) G := by cases a <;> exact hr
    refine op_notN pins s σ H x y v u _ I rx ry ⟨rb, ?_⟩
    have e : (!decide (x = .non)) = (!isNonU a) := by
      cases a <;> simp only [RelU] at ra <;> first | (obtain ⟨_, _, rfl, _⟩ := ra; rfl) | (obtain ⟨rfl, _⟩ := ra; rfl) | (subst ra; rfl)
    rw [e]
    exact lv_bl rp hr'
  | _ => exact (show False by cases a <;> exact hr).elim
def truU (u : U) (G : Gp) (Q : Bool → Gp → Prop) : Prop := match u with
  | .non => Q false G
  | .bl b => Q b G
  | .int i => Q (i != 0) G
  | .str l => l.length ≤ 1000000 ∧ Q (!l.isEmpty) G
  | .tup us => Q (!us.isEmpty) G
  | .ref a => (∃ us, G a = some (.lst us) ∧ Q (!us.isEmpty) G) ∨ ∃ kvs, G a = some (.dct kvs) ∧ Q (!kvs.isEmpty) G
  | _ => False
theorem isEmptyUs {K : PySem.W.Frag} {H : Hp} {us : List U} {vs : List V} (h : RelUs K H us vs) : vs.isEmpty = us.isEmpty := by
  cases us with
  | nil =>
    have e' : vs = [] := h
    subst e'
    rfl
  | cons u us =>
    obtain ⟨v, ws, rfl, _⟩ := h
    rfl
theorem isEmptyKv {K : PySem.W.Frag} {H : Hp} {us : List (U × U)} {vs : List (Key × V)} (h : RelKV K H us vs) : vs.isEmpty = us.isEmpty := by
  cases us with
  | nil =>
    have e' : vs = [] := h
    subst e'
    rfl
  | cons u us =>
    obtain ⟨k, u⟩ := u
    obtain ⟨kk, v, ws, rfl, _⟩ := h
    rfl
theorem tr_u : TrU X W (fun u G Q _ => truU u G Q) := by
  intro pins s σ H x v a G Q E I rx ra rp hr hx
  have key : ∀ k, TruV X.K x H k → Q k G → wpAny (model X.prog X.w) X.A (truthy v) (TP X pins σ (LB X.K H G Q)) X.xe s := fun k t q => tru_ok pins s σ H x v _ I rx ⟨k, t, G, .refl _ _, rp, q⟩
  cases a with
  | non =>
    rw [show x = .non from ra] at key
    exact key false rfl hr
  | bl b =>
    rw [show x = .bl b from ra] at key
    exact key b rfl hr
  | int i =>
    rw [show x = .int i from ra] at key
    exact key _ rfl hr
  | str l =>
    rw [show x = .str ⟨l.toArray⟩ from ra] at key
    refine key _ ⟨?_, ?_⟩ hr.2
    · show l.toArray.size ≤ sizeLine
      rw [List.size_toArray]
      exact lim_line hr.1
    · show (!l.isEmpty) = (((l.toArray.size : Nat) : Int) != 0)
      rw [List.size_toArray]
      cases l with
      | nil => rfl
      | cons c l =>
        have : (((c :: l).length : Nat) : Int) ≠ 0 := by simp only [List.length_cons]; omega
        rw [bne_iff_ne.mpr this]
        rfl
  | tup us =>
    obtain ⟨p, vs, rfl, t, r⟩ := ra.tup_of
    exact key _ (.inr (.inl ⟨vs, t, by rw [isEmptyUs r]⟩)) hr
  | ref a =>
    rw [show x = .ref a from ra] at key
    rcases hr with ⟨us, g, q⟩ | ⟨kvs, g, q⟩
    · obtain ⟨vs, e, r⟩ := rp.lst g
      exact key _ (.inl ⟨vs, .of e, by rw [isEmptyUs r]⟩) q
    · obtain ⟨vs, e, r⟩ := rp.dct g
      exact key _ (.inr (.inr ⟨vs, e, by rw [isEmptyKv r]⟩)) q
  | _ => exact hr.elim
def negU : UR1 := fun u G Q _ => match u with
  | .int i => Q (.int (-i)) G
  | _ => False
theorem nu_neg : UnU X W (unaryOp .USub) negU := by
  intro pins s σ H x v a G Q E I rx ra rp hr hx
  cases a with
  | int i => exact un_neg pins s σ H x v _ I rx ⟨i, ra, lv_int rp hr⟩
  | _ => exact hr.elim
def notU : UR1 := fun u G Q _ => truU u G fun b G1 => Q (.bl (!b)) G1
theorem nu_not : UnU X W (unaryOp .Not) notU := by
  intro pins s σ H x v a G Q E I rx ra rp hr hx
  exact not_of (thn (tr_u pins s σ H x v a G _ E I rx ra rp hr hx) fun c s2 ⟨H2, I2, G2, x2, r2, q2⟩ => ⟨.bl (!c), H2, I2, rfl, .bl (!c), G2, x2, r2, rfl, q2⟩)
end
end UL
set_option maxHeartbeats 400000
namespace UL
open PySem PySem.Spec PyProof.Rows L2

section
variable {X : Cx} {W : WX} {e a b c o : Expr} {es : List Expr} {t ta tb : UTE} {tt tt' : UTT} {tr : UTA} {pos : Pos}
def tUAnd (ta tb : UTE) : UTE := fun us G Q E => ta us G (fun u G1 => match u with
  | .bl true => tb us G1 Q E
  | .bl false => Q (.bl false) G1
  | _ => False) E
theorem eu_and {rest : List Expr} (ha : EU X W a ta) (hb : EU X W (.BoolOp .And (b :: rest) pos) tb) : EU X W (.BoolOp .And (a :: b :: rest) pos) (tUAnd ta tb) := by
  refine .of (pe_and ha.pe hb.pe) fun σ H us G Q E rs rp h hx => ⟨us, G, _, E, rs, rp, h, fun v H1 ⟨u, G1, x1, r1, ru, q1⟩ => ?_, hx⟩
  cases u with
  | bl b =>
    refine ⟨b, ru, ?_⟩
    cases b with
    | true =>
      rw [if_pos rfl]
      exact ⟨us, G1, Q, E, rs.ext x1 rp, r1, q1, fun v H' h' => h'.trans x1, fun c d H' h' => hx c d H' (h'.trans x1)⟩
    | false =>
      rw [if_neg Bool.false_ne_true]
      exact (lv_bl r1 q1).trans x1
  | _ => exact False.elim q1
theorem eu_one {op} (h : EU X W a ta) : EU X W (.BoolOp op [a] pos) ta := ⟨fun pins s σ H us G Q E I rs rp ht hx => BoolOp_one (h.run pins s σ H us G Q E I rs rp ht hx)⟩
/-- tests -/
structure WU (X : Cx) (W : WX) (e : Expr) (t : UTT) : Prop where
  run : ∀ (whole : Sem Value) (pins : List (Addr × Obj)) (s : Shared) (σ : L2.St) (H : Hp) (us : USt) (G : Gp) (Q : Bool → Gp → Prop) (E : UX), Inv X pins σ H s → RelS X.K H us σ → Rep X.K H G → t us G Q E →
    (∀ c d H', LX X.K H G E c d H' → W c d σ H') → wpAny (model X.prog X.w) X.A (isTrue e X.env whole) (TP X pins σ (LB X.K H G Q)) X.xe s
theorem WU.tu (h : WU X W e tt) : TU X W e tt := ⟨h.run _⟩
def tBAnd (ta tb : UTT) : UTT := fun us G Q E => ta us G (fun b G1 => bif b then tb us G1 Q E else Q false G1) E
def tBOr (ta tb : UTT) : UTT := fun us G Q E => ta us G (fun b G1 => bif b then Q true G1 else tb us G1 Q E) E
theorem wu_and1 (ha : TU X W a tt) : WU X W (.BoolOp .And [a] pos) tt := by
  refine ⟨fun wh pins s σ H us G Q E I rs rp h hx => ?_⟩
  refine isTrue_and (thn (ha.run pins s σ H us G Q E I rs rp h hx) fun c s1 e => ?_)
  cases c with
  | true => exact isTrue_and_nil e
  | false => exact e
theorem wu_or1 (ha : TU X W a tt) : WU X W (.BoolOp .Or [a] pos) tt := by
  refine ⟨fun wh pins s σ H us G Q E I rs rp h hx => ?_⟩
  refine isTrue_or (thn (ha.run pins s σ H us G Q E I rs rp h hx) fun c s1 e => ?_)
  cases c with
  | false => exact isTrue_or_nil e
  | true => exact e
theorem tp_trans {pins : List (Addr × Obj)} {σ : L2.St} {H H2 : Hp} {G G2 : Gp} {Q : Bool → Gp → Prop} {u : Bool} {s : Shared} (x : Ext H G H2 G2) : TP X pins σ (LB X.K H2 G2 Q) u s → TP X pins σ (LB X.K H G Q) u s := fun ⟨H', I, q⟩ => ⟨H', I, q.trans x⟩
theorem wu_and {rest : List Expr} (ha : TU X W a tt) (hb : WU X W (.BoolOp .And (b :: rest) pos) tt') : WU X W (.BoolOp .And (a :: b :: rest) pos) (tBAnd tt tt') := by
  refine ⟨fun wh pins s σ H us G Q E I rs rp h hx => ?_⟩
  refine isTrue_and (thn (ha.run pins s σ H us G _ E I rs rp h hx) fun c s1 ⟨H1, I1, G1, x1, r1, q1⟩ => ?_)
  cases c with
  | true => exact thn (hb.run wh pins s1 σ H1 us G1 Q E I1 (rs.ext x1 rp) r1 q1 fun c d H' h' => hx c d H' (h'.trans x1)) fun _ _ h => tp_trans x1 h
  | false => exact ⟨H1, I1, G1, x1, r1, q1⟩
theorem wu_or {rest : List Expr} (ha : TU X W a tt) (hb : WU X W (.BoolOp .Or (b :: rest) pos) tt') : WU X W (.BoolOp .Or (a :: b :: rest) pos) (tBOr tt tt') := by
  refine ⟨fun wh pins s σ H us G Q E I rs rp h hx => ?_⟩
  refine isTrue_or (thn (ha.run pins s σ H us G _ E I rs rp h hx) fun c s1 ⟨H1, I1, G1, x1, r1, q1⟩ => ?_)
  cases c with
  | false => exact thn (hb.run wh pins s1 σ H1 us G1 Q E I1 (rs.ext x1 rp) r1 q1 fun c d H' h' => hx c d H' (h'.trans x1)) fun _ _ h => tp_trans x1 h
  | true => exact ⟨H1, I1, G1, x1, r1, q1⟩
def tUNil : UTA := fun _ G Q _ => Q [] G
def tUCons (ta : UTE) (tr : UTA) : UTA := fun us G Q E => ta us G (fun u G1 => tr us G1 (fun ws G2 => Q (u :: ws) G2) E) E
theorem au_nil : AU X W [] tUNil := ⟨fun _ _ s σ H us G Q E I rs rp h _ => Calls.spliced_nil ⟨[], H, I, .nil, [], G, .refl _ _, rp, rfl, h⟩⟩
theorem au_cons (ha : EU X W e t) (hr : AU X W es tr) (hs : starEach (e :: es) X.env = (false, eval e X.env) :: starEach es X.env) : AU X W (e :: es) (tUCons t tr) := by
  refine ⟨fun pos pins s σ H us G Q E I rs rp h hx => ?_⟩
  rw [hs]
  show wpAny _ _ (spliced ((false, eval e X.env) :: backTo pos (starEach es X.env))) _ _ s
  refine Calls.spliced_cons (thn (ha.run pins s σ H us G _ E I rs rp h hx) fun u s1 ⟨x, H1, I1, r1, p, G1, x1, rp1, ru, q1⟩ => ?_)
  exact thn (hr.run pos pins s1 σ H1 us G1 _ E I1 (rs.ext x1 rp) rp1 q1 fun c d H' h' => hx c d H' (h'.trans x1)) fun us' s2 ⟨xs, H2, I2, r2, ps, G2, x2, rp2, rs2, q2⟩ =>
    ⟨x :: xs, H2, I2, .cons r1 r2, p :: ps, G2, x1.trans x2, rp2, ⟨x, xs, rfl, ru.ext x2 rp1, rs2⟩, q2⟩
def tUTup (t : UTA) : UTE := fun us G Q E => t us G (fun ws G1 => ws.length ≤ 1000000 ∧ Q (.tup ws) G1) E
def tULst (t : UTA) : UTE := fun us G Q E => t us G (fun ws G1 => ws.length ≤ 1000000 ∧ ∀ p, G1 p = none → Q (.ref p) (gup G1 p (.lst ws))) E
theorem eu_tup {x1} (h : AU X W es tr) : EU X W (.Tuple es x1 pos) (tUTup tr) :=
  .of (pe_tup h.pa) fun σ H us G Q E rs rp ht hx => ⟨us, G, _, E, rs, rp, ht, fun vs H1 ⟨ws, G1, x1, r1, rw', q1⟩ => ⟨by rw [rw'.length]; exact lim_line q1.1, fun p hp => (lv_tup r1 rw' hp q1.2).trans x1⟩, hx⟩
theorem eu_lst (h : AU X W es tr) : EU X W (.List es pos) (tULst tr) :=
  .of (pe_lst h.pa) fun σ H us G Q E rs rp ht hx => ⟨us, G, _, E, rs, rp, ht, fun vs H1 ⟨ws, G1, x1, r1, rw', q1⟩ => ⟨by rw [rw'.length]; exact lim_line q1.1, fun p hp => (lv_lst r1 rw' hp (q1.2 p (r1.fresh hp))).trans x1⟩, hx⟩

def IxU (X : Cx) (W : WX) (r : UR2) : Prop :=
  ∀ (value slice : Expr) (pins : List (Addr × Obj)) (s : Shared) (σ : L2.St) (H : Hp) (x y : V) (v u : Value) (a b : U) (G : Gp) (Q : UK) (E : UX), Inv X pins σ H s → RelV x v → RelV y u → RelU X.K H a x → RelU X.K H b y → Rep X.K H G → r a b G Q E →
    (∀ c d H', LX X.K H G E c d H' → W c d σ H') → subscripted slice false v u = operate [v, u] (getItem v u) → wpAny (model X.prog X.w) X.A (subscriptTail value slice v u) (EP X pins σ (LV X.K H G Q)) X.xe s
theorem eu_ix {r : UR2} (hr : IxU X W r) (ha : EU X W a ta) (hb : EU X W b tb) (hs : PlainIx b) : EU X W (.Subscript a b pos) (tUOp r ta tb) := by
  refine ⟨fun pins s σ H us G Q E I rs rp h hx => ?_⟩
  exact Subscript_ (bin2 ha hb I rs rp h hx fun v u s2 x y H2 p q G2 I2 r1 r2 ex rp2 rs2 rp' rq hq hx2 => thn (hr a b pins s2 σ H2 x y v u p q G2 Q E I2 r1 r2 rp' rq rp2 hq hx2 (hs _ _)) fun _ _ h => lv_pins ex h)
theorem atI_rel {K : PySem.W.Frag} {H : Hp} {us : List U} {vs : List V} {i : Int} {u : U} (r : RelUs K H us vs) (h : atI us i = some u) : ∃ v, atI vs i = some v ∧ RelU K H u v := by
  unfold atI at h ⊢
  rw [r.length]
  cases hi : ixN us.length i with
  | none =>
    rw [hi] at h
    cases h
  | some j =>
    rw [hi] at h
    exact r.get h
def ixU0 : UR2 := fun x y G Q _ => match x, y with
  | .ref a, .int i => ∃ us u, G a = some (.lst us) ∧ atI us i = some u ∧ Q u G
  | .tup us, .int i => ∃ u, atI us i = some u ∧ Q u G
  | .rol us, .int i => ∃ u, atI us i = some u ∧ Q u G
  | .str l, .int i => l.length ≤ 1000000 ∧ ∃ c, atI l i = some c ∧ Q (.str [c]) G
  | _, _ => False
theorem iu0 : IxU X W ixU0 := by
  intro value slice pins s σ H x y v u a b G Q E I rx ry ra rb rp hr hx hs
  cases b with
  | int i =>
    cases a with
    | ref p =>
      obtain ⟨us, w, g, hi, q⟩ := hr
      obtain ⟨vs, e, r⟩ := rp.lst g
      obtain ⟨z, hz, rz⟩ := atI_rel r hi
      exact ix_list value slice pins s σ H x y v u _ I rx ry ⟨p, vs, i, z, ra, rb, .of e, hz, .here rp rz q⟩ hs
    | tup us =>
      obtain ⟨w, hi, q⟩ := hr
      obtain ⟨p, vs, e, t, r⟩ := ra.tup_of
      obtain ⟨z, hz, rz⟩ := atI_rel r hi
      exact ix_tup value slice pins s σ H x y v u _ I rx ry ⟨p, vs, i, z, e, rb, t, hz, .here rp rz q⟩ hs
    | rol us =>
      obtain ⟨w, hi, q⟩ := hr
      obtain ⟨p, vs, e, t, r⟩ := (show ∃ a vs, x = .ref a ∧ RoL X.K H a vs ∧ RelUs X.K H us vs from ra)
      obtain ⟨z, hz, rz⟩ := atI_rel r hi
      exact ix_list value slice pins s σ H x y v u _ I rx ry ⟨p, vs, i, z, e, rb, t.sq, hz, .here rp rz q⟩ hs
    | str l =>
      obtain ⟨hl, c, hi, q⟩ := hr
      exact ix_str value slice pins s σ H x y v u _ I rx ry ⟨_, i, c, ra, rb, by show l.toArray.size ≤ sizeLine; rw [List.size_toArray]; exact lim_line hl, hi, lv_str (l := [c]) rp q⟩ hs
    | _ => exact hr.elim
  | _ => exact (show False by cases a <;> exact hr).elim

abbrev UTO := USt → Gp → (Option Int → Gp → Prop) → UX → Prop
def LO (K : PySem.W.Frag) (H : Hp) (G : Gp) (Q : Option Int → Gp → Prop) : Option Int → Hp → Prop := fun o H' => ∃ G', Ext H G H' G' ∧ Rep K H' G' ∧ Q o G'
def lO (K : PySem.W.Frag) (W : WX) (t : UTO) : TO := fun σ H Q => ∃ us G Qu Eu, RelS K H us σ ∧ Rep K H G ∧ t us G Qu Eu ∧ (∀ v H', LO K H G Qu v H' → Q v H') ∧ ∀ c d H', LX K H G Eu c d H' → W c d σ H'
def tUNoPart : UTO := fun _ G Q _ => Q none G
def tUPart (t : UTE) : UTO := fun us G Q E => t us G (fun u G1 => match u with
  | .int i => Q (some i) G1
  | _ => False) E
theorem pou_none : PO X none (lO X.K W tUNoPart) := ⟨fun pins s σ H Q I ⟨us, G, Qu, Eu, rs, rp, h, hq, _⟩ => po_none.run pins s σ H Q I (hq none H ⟨G, .refl _ _, rp, h⟩)⟩
theorem pou_some (h : EU X W e t) : PO X (some e) (lO X.K W (tUPart t)) := by
  refine ⟨fun pins s σ H Q I ⟨us, G, Qu, Eu, rs, rp, ht, hq, hx⟩ => (po_some h.pe).run pins s σ H Q I ⟨us, G, _, Eu, rs, rp, ht, fun v H' ⟨u, G', x1, r1, ru, q1⟩ => ?_, hx⟩⟩
  cases u with
  | int i => exact ⟨i, ru, hq _ _ ⟨G', x1, r1, q1⟩⟩
  | _ => exact False.elim q1
def cutU (xs : List U) (lo hi : Option Int) : List U := (xs.drop (HT.sIx xs.length 0 lo)).take (HT.sIx xs.length xs.length hi - HT.sIx xs.length 0 lo)
def cutN (xs : List Nat) (lo hi : Option Int) : List Nat := (xs.drop (HT.sIx xs.length 0 lo)).take (HT.sIx xs.length xs.length hi - HT.sIx xs.length 0 lo)
theorem RelUs.cut {K : PySem.W.Frag} {H : Hp} {us : List U} {vs : List V} (r : RelUs K H us vs) (lo hi : Option Int) : RelUs K H (cutU us lo hi) (cutV vs lo hi) := by
  unfold cutU cutV
  rw [r.length]
  exact (r.drop _).take _
def slU (x : U) (lo hi : Option Int) (G : Gp) (Q : UK) : Prop := match x with
  | .ref a => ∃ us, G a = some (.lst us) ∧ ∀ p, G p = none → Q (.ref p) (gup G p (.lst (cutU us lo hi)))
  | .rol us => ∀ p, G p = none → Q (.ref p) (gup G p (.lst (cutU us lo hi)))
  | .tup us => Q (.tup (cutU us lo hi)) G
  | .str l => l.length ≤ 1000000 ∧ Q (.str (cutN l lo hi)) G
  | _ => False
def tUSl (te : UTE) (tl th : UTO) : UTE := fun us G Q E => te us G (fun x G1 => tl us G1 (fun l G2 => th us G2 (fun h G3 => slU x l h G3 Q) E) E) E
theorem eu_slice {p2 : Pos} {lo hi : Option Expr} {tl th : UTO} (he : EU X W e t) (hl : PO X lo (lO X.K W tl)) (hh : PO X hi (lO X.K W th)) : EU X W (.Subscript e (.Slice lo hi none p2) pos) (tUSl t tl th) := by
  refine .of (pe_slice (sl_list.or (sl_tupA.or sl_str)) he.pe hl hh) fun σ H us G Q E rs rp h hx => ?_
  refine ⟨us, G, _, E, rs, rp, h, fun v H1 ⟨u, G1, x1, r1, ru, q1⟩ => ?_, hx⟩
  have hx1 : ∀ c d H', LX X.K H1 G1 E c d H' → W c d σ H' := fun c d H' h' => hx c d H' (h'.trans x1)
  refine ⟨us, G1, _, E, rs.ext x1 rp, r1, q1, fun l H2 ⟨G2, x2, r2, q2⟩ => ?_, hx1⟩
  refine ⟨us, G2, _, E, (rs.ext x1 rp).ext x2 r1, r2, q2, fun h' H3 ⟨G3, x3, r3, q3⟩ => ?_, fun c d H' h' => hx1 c d H' (h'.trans x2)⟩
  have ru3 := (ru.ext x2 r1).ext x3 r2
  have ex := (x1.trans x2).trans x3
  cases u with
  | ref a =>
    obtain ⟨us', g, q⟩ := q3
    obtain ⟨vs, e1, r⟩ := r3.lst g
    exact .inl ⟨a, vs, ru3, .of e1, fun p hp => (lv_lst r3 (r.cut l h') hp (q p (r3.fresh hp))).trans ex⟩
  | rol us' =>
    obtain ⟨p, vs, e1, t1, r⟩ := (show ∃ a vs, v = .ref a ∧ RoL X.K H3 a vs ∧ RelUs X.K H3 us' vs from ru3)
    exact .inl ⟨p, vs, e1, t1.sq, fun p hp => (lv_lst r3 (r.cut l h') hp (q3 p (r3.fresh hp))).trans ex⟩
  | tup us' =>
    obtain ⟨p, vs, e1, t1, r⟩ := ru3.tup_of
    have hl := r.length
    refine .inr (.inl ⟨p, vs, e1, t1, fun hw => ?_, fun _ p hp => (lv_tup r3 (r.cut l h') hp q3).trans ex⟩)
    refine (lv_old r3 t1 r ?_).trans ex
    have hc : cutU us' l h' = us' := by
      unfold cutU
      rw [hl] at hw
      rw [hw.1, hw.2]
      simp
    have q4 : Q (.tup (cutU us' l h')) G3 := q3
    rw [hc] at q4
    exact q4
  | str x =>
    refine .inr (.inr ⟨_, ru3, ?_, ?_⟩)
    · show x.toArray.size ≤ sizeLine
      rw [List.size_toArray]
      exact lim_line q3.1
    · have q4 := (lv_str (l := cutN x l h') r3 q3.2).trans ex
      have hz : L2.cutS ⟨x.toArray⟩ l h' = ⟨(cutN x l h').toArray⟩ := by
        unfold L2.cutS cutN
        show (⟨((x.toArray.toList.drop (HT.sIx x.toArray.size 0 l)).take (HT.sIx x.toArray.size x.toArray.size h' - HT.sIx x.toArray.size 0 l)).toArray⟩ : Str) = _
        rw [List.size_toArray]
      rw [hz]
      exact q4
  | _ => exact False.elim q3
end

abbrev URC := List U → Gp → UK → UX → Prop
def CallU (X : Cx) (W : WX) (f : Value) (r : URC) : Prop :=
  ∀ (pins : List (Addr × Obj)) (s : Shared) (σ : L2.St) (H : Hp) (xs : List V) (us : List Value) (as : List U) (G : Gp) (Q : UK) (E : UX), Inv X pins σ H s → Vals xs us → RelUs X.K H as xs → Rep X.K H G → r as G Q E →
    (∀ c d H', LX X.K H G E c d H' → W c d σ H') → wpAny (model X.prog X.w) X.A (call f us) (EP X pins σ (LV X.K H G Q)) X.xe s
theorem CallU.of {X : Cx} {W : WX} {f : Value} {r : URC} {rv : List V → Hp → VK → Prop} (h : CallR X f rv) (k : ∀ xs H as G Q E, RelUs X.K H as xs → Rep X.K H G → r as G Q E → rv xs H (LV X.K H G Q)) : CallU X W f r :=
  fun pins s σ H xs us as G Q E I rx ra rp hr _ => h pins s σ H xs us _ I rx (k xs H as G Q E ra rp hr)
def tUCall (r : URC) (t : UTA) : UTE := fun us G Q E => t us G (fun as G1 => r as G1 Q E) E
section
variable {X : Cx} {W : WX} {x : Str} {p pos : Pos} {e : Expr} {es : List Expr} {tr : UTA} {id T : String} {r : URC}
theorem eu_callB (hc : CallU X W (.builtin id) r) (hg : Gl X x) (hm : X.mg x = none) (hv : bootBuiltins x = some (.builtin id)) (ha : AU X W (e :: es) tr) (hn : x ≠ "__name__") (hdb : (x == ("__debug__" : Str)) = false)
    (he : starEach (e :: es) X.env = (false, eval e X.env) :: starEach es X.env) (hpl : (backTo pos (starEach es X.env)).any (·.1) = false) : EU X W (.Call (.Name x p) (e :: es) [] pos) (tUCall r tr) := by
  refine ⟨fun pins s σ H us G Q E I rs rp h hx => ?_⟩
  refine wpAny_Call_Name_kw (ld_blt I hg hm hv ?_ hn hdb)
  refine PyProof.Rows.callWith_builtin1 (thn (ha.run pos pins s σ H us G _ E I rs rp h hx) fun us' s1 ⟨vs, H1, I1, r1, as, G1, x1, rp1, ra, q1⟩ => ?_) he hpl
  exact thn (hc pins s1 σ H1 vs us' as G1 Q E I1 r1 ra rp1 q1 fun c d H' h' => hx c d H' (h'.trans x1)) fun _ _ h => lv_pins x1 h
theorem eu_callTy (hc : CallU X W (.type T) r) (hg : Gl X x) (hm : X.mg x = none) (hv : bootBuiltins x = some (.type T)) (ha : AU X W (e :: es) tr) (hn : x ≠ "__name__") (hdb : (x == ("__debug__" : Str)) = false)
    (he : starEach (e :: es) X.env = (false, eval e X.env) :: starEach es X.env) (hpl : (backTo pos (starEach es X.env)).any (·.1) = false) : EU X W (.Call (.Name x p) (e :: es) [] pos) (tUCall r tr) := by
  refine ⟨fun pins s σ H us G Q E I rs rp h hx => ?_⟩
  refine wpAny_Call_Name_kw (ld_blt I hg hm hv ?_ hn hdb)
  refine PyProof.Rows.callWith_type1 (thn (ha.run pos pins s σ H us G _ E I rs rp h hx) fun us' s1 ⟨vs, H1, I1, r1, as, G1, x1, rp1, ra, q1⟩ => ?_) he hpl
  exact thn (hc pins s1 σ H1 vs us' as G1 Q E I1 r1 ra rp1 q1 fun c d H' h' => hx c d H' (h'.trans x1)) fun _ _ h => lv_pins x1 h
def MtU (X : Cx) (W : WX) (id : String) (r : U → List U → Gp → UK → UX → Prop) : Prop :=
  ∀ (pins : List (Addr × Obj)) (s : Shared) (σ : L2.St) (H : Hp) (x : V) (xs : List V) (v : Value) (us : List Value) (a : U) (as : List U) (G : Gp) (Q : UK) (E : UX), Inv X pins σ H s → RelV x v → Vals xs us → RelU X.K H a x → RelUs X.K H as xs → Rep X.K H G → r a as G Q E →
    (∀ c d H', LX X.K H G E c d H' → W c d σ H') → wpAny (model X.prog X.w) X.A (call (.builtin id) (v :: us)) (EP X pins σ (LV X.K H G Q)) X.xe s
/-- of which builtin type a value is -/
def tyU (T : String) (x : U) (G : Gp) : Prop := match x with
  | .str _ => T = "str"
  | .int _ => T = "int"
  | .ref p => (T = "list" ∧ ∃ us, G p = some (.lst us)) ∨ (T = "dict" ∧ ∃ us, G p = some (.dct us))
  | _ => False
theorem tyU_v {K : PySem.W.Frag} {H : Hp} {G : Gp} {T : String} {a : U} {x : V} (rp : Rep K H G) (r : RelU K H a x) (h : tyU T a G) : tyV K T x H := by
  cases a with
  | str l => rw [show x = .str ⟨l.toArray⟩ from r]; exact h
  | int l => rw [show x = .int l from r]; exact h
  | ref p =>
    rw [show x = .ref p from r]
    rcases h with ⟨rfl, us, g⟩ | ⟨rfl, us, g⟩
    · obtain ⟨vs, e, _⟩ := rp.lst g
      exact .inl ⟨rfl, vs, .of e⟩
    · obtain ⟨vs, e, _⟩ := rp.dct g
      exact .inr (.inr (.inl ⟨rfl, .inl ⟨vs, e⟩⟩))
  | _ => exact h.elim
variable {o : Expr} {to : UTE} {name : Str} {apos cpos : Pos} {rm : U → List U → Gp → UK → UX → Prop}
def tUBM (T : String) (rm : U → List U → Gp → UK → UX → Prop) (to : UTE) (t : UTA) : UTE := fun us G Q E => to us G (fun u G1 => tyU T u G1 ∧ t us G1 (fun as G2 => rm u as G2 Q E) E) E
theorem eu_bm0 (pa : PlainAttrs T) (slot : Slot T name id) (hty : typeOf (.builtin id) = pure (.type "method_descriptor")) (hm : MtU X W id rm) (ho : EU X W o to)
    (hbase : attributeBase o name X.env (eval o X.env) = eval o X.env) (hline : (apos.endLine == cpos.line) = true) : EU X W (.Call (.Attribute o name apos) [] [] cpos) (tUBM T rm to tUNil) := by
  refine ⟨fun pins s σ H us G Q E I rs rp h hx => ?_⟩
  refine wpAny_Call_method0_late hbase hline (thn (ho.run pins s σ H us G _ E I rs rp h hx) fun v s1 ⟨x, H1, I1, r1, u, G1, x1, rp1, ru, ty, q1⟩ => ?_)
  obtain ⟨h1, h2⟩ := tyV_is I1 r1 (tyU_v rp1 ru ty)
  refine ⟨T, id, pa, slot, hty, h1, h2, Calls.callWith_builtin rfl (PySem.evalArgs_none ?_)⟩
  exact thn (hm pins s1 σ H1 x [] v [] u [] G1 Q E I1 r1 .nil ru rfl rp1 q1 fun c d H' h' => hx c d H' (h'.trans x1)) fun _ _ h => lv_pins x1 h
theorem eu_bm (pa : PlainAttrs T) (slot : Slot T name id) (hty : typeOf (.builtin id) = pure (.type "method_descriptor")) (hm : MtU X W id rm) (ho : EU X W o to) (ha : AU X W (e :: es) tr)
    (hbase : attributeBase o name X.env (eval o X.env) = eval o X.env)
    (hfew : ((backTo cpos (starEach (e :: es) X.env)).all (fun x => !x.1) && (backToKw cpos (keywordEach [] X.env)).all (fun x => x.1.isSome)
      && decide ((e :: es).length + ([] : List Keyword).length + (if ([] : List Keyword).isEmpty then 0 else 1) < 30)) = true)
    (hline : (apos.endLine == cpos.line) = true) (hs : starEach (e :: es) X.env = (false, eval e X.env) :: starEach es X.env) (hplain : (backTo cpos (starEach es X.env)).any (·.1) = false) :
    EU X W (.Call (.Attribute o name apos) (e :: es) [] cpos) (tUBM T rm to tr) := by
  refine ⟨fun pins s σ H us G Q E I rs rp h hx => ?_⟩
  refine wpAny_Call_method_late hbase hfew hline rfl (thn (ho.run pins s σ H us G _ E I rs rp h hx) fun v s1 ⟨x, H1, I1, r1, u, G1, x1, rp1, ru, ty, q1⟩ => ?_)
  obtain ⟨h1, h2⟩ := tyV_is I1 r1 (tyU_v rp1 ru ty)
  refine ⟨T, id, pa, slot, hty, h1, h2, ?_⟩
  have hx1 : ∀ c d H', LX X.K H1 G1 E c d H' → W c d σ H' := fun c d H' h' => hx c d H' (h'.trans x1)
  have hA := ha.run cpos pins s1 σ H1 us G1 _ E I1 (rs.ext x1 rp) rp1 q1 hx1
  rw [hs] at hA ⊢
  refine Calls.callWith_builtin (by show (false || (backTo cpos (starEach es X.env)).any (·.1)) = false; rw [hplain] <;> rfl) (Calls.evalArgs_plain ?_)
  exact thn hA fun us' s2 ⟨vs, H2, I2, r2, as, G2, x2, rp2, ra, q2⟩ => thn (hm pins s2 σ H2 x vs v us' u as G2 Q E I2 r1 r2 (ru.ext x2 rp1) ra rp2 q2 fun c d H' h' => hx1 c d H' (h'.trans x2)) fun _ _ h => lv_pins (x1.trans x2) h
end
end UL
set_option maxHeartbeats 400000
namespace UL
open PySem PySem.Spec PyProof.Rows L2

structure UEnds where
  nx : USt → Gp → Prop
  rt : UK
  bk : USt → Gp → Prop
  ct : USt → Gp → Prop
  ex : UExc → USt → Gp → Prop
abbrev UTS := UEnds → USt → Gp → Prop
def LS (K : PySem.W.Frag) (H : Hp) (G : Gp) (P : USt → Gp → Prop) : L2.St → Hp → Prop := fun σ' H' => ∃ us' G', Ext H G H' G' ∧ Rep K H' G' ∧ RelS K H' us' σ' ∧ P us' G'
def LXS (K : PySem.W.Frag) (H : Hp) (G : Gp) (E : UExc → USt → Gp → Prop) : WX := fun c d σ' H' => ∃ x us' G', Ext H G H' G' ∧ Rep K H' G' ∧ RelS K H' us' σ' ∧ ExcR K H' x c d ∧ E x us' G'
def lD (K : PySem.W.Frag) (H : Hp) (G : Gp) (D : UEnds) : Ends := { nx := LS K H G D.nx, rt := LV K H G D.rt, bk := LS K H G D.bk, ct := LS K H G D.ct }
theorem LS.trans {K : PySem.W.Frag} {H H1 : Hp} {G G1 : Gp} (x : Ext H G H1 G1) {P : USt → Gp → Prop} {σ' : L2.St} {H' : Hp} : LS K H1 G1 P σ' H' → LS K H G P σ' H' := fun ⟨us, G', e, r⟩ => ⟨us, G', x.trans e, r⟩
theorem LXS.trans {K : PySem.W.Frag} {H H1 : Hp} {G G1 : Gp} (x : Ext H G H1 G1) {E : UExc → USt → Gp → Prop} {c : Value} {d : Option Addr} {σ' : L2.St} {H' : Hp} : LXS K H1 G1 E c d σ' H' → LXS K H G E c d σ' H' := fun ⟨y, us, G', e, r⟩ => ⟨y, us, G', x.trans e, r⟩
theorem LXS.of {K : PySem.W.Frag} {H : Hp} {G : Gp} {E : UExc → USt → Gp → Prop} {c : Value} {d : Option Addr} {us : USt} {σ : L2.St} {H' : Hp} (rs : RelS K H us σ) (rp : Rep K H G) : LX K H G (fun x G' => E x us G') c d H' → LXS K H G E c d σ H' :=
  fun ⟨x, G', e, r, q, h⟩ => ⟨x, us, G', e, r, rs.ext e rp, q, h⟩
structure SU (X : Cx) (W : WX) (st : Stmt) (t : UTS) : Prop where
  run : ∀ (pins : List (Addr × Obj)) (s : Shared) (σ : L2.St) (H : Hp) (us : USt) (G : Gp) (D : UEnds), Inv X pins σ H s → RelS X.K H us σ → Rep X.K H G → t D us G → (∀ c d σ' H', LXS X.K H G D.ex c d σ' H' → W c d σ' H') →
    wpAny (model X.prog X.w) X.A (exec st X.env) (SP X pins (lD X.K H G D)) X.xe s
structure SsU (X : Cx) (W : WX) (st : List Stmt) (t : UTS) : Prop where
  run : ∀ (pins : List (Addr × Obj)) (s : Shared) (σ : L2.St) (H : Hp) (us : USt) (G : Gp) (D : UEnds), Inv X pins σ H s → RelS X.K H us σ → Rep X.K H G → t D us G → (∀ c d σ' H', LXS X.K H G D.ex c d σ' H' → W c d σ' H') →
    wpAny (model X.prog X.w) X.A (execs st X.env) (SP X pins (lD X.K H G D)) X.xe s
def lS (K : PySem.W.Frag) (W : WX) (t : UTS) : TS := fun D σ H => ∃ us G Du, RelS K H us σ ∧ Rep K H G ∧ t Du us G ∧ (∀ σ' H', LS K H G Du.nx σ' H' → D.nx σ' H') ∧ (∀ v H', LV K H G Du.rt v H' → D.rt v H') ∧ (∀ σ' H', LS K H G Du.bk σ' H' → D.bk σ' H') ∧ (∀ σ' H', LS K H G Du.ct σ' H' → D.ct σ' H') ∧
  ∀ c d σ' H', LXS K H G Du.ex c d σ' H' → W c d σ' H'
theorem sp_imp {X : Cx} {pins : List (Addr × Obj)} {D D' : Ends} {f : Flow} {s : Shared} (h1 : ∀ σ H, D.nx σ H → D'.nx σ H) (h2 : ∀ v H, D.rt v H → D'.rt v H) (h3 : ∀ σ H, D.bk σ H → D'.bk σ H) (h4 : ∀ σ H, D.ct σ H → D'.ct σ H) : SP X pins D f s → SP X pins D' f s := by
  intro h
  cases f with
  | next => obtain ⟨σ', H', I, q⟩ := h; exact ⟨σ', H', I, h1 _ _ q⟩
  | ret v => obtain ⟨x, σ', H', I, r, q⟩ := h; exact ⟨x, σ', H', I, r, h2 _ _ q⟩
  | brk => obtain ⟨σ', H', I, q⟩ := h; exact ⟨σ', H', I, h3 _ _ q⟩
  | cont => obtain ⟨σ', H', I, q⟩ := h; exact ⟨σ', H', I, h4 _ _ q⟩
theorem sp_trans {X : Cx} {pins : List (Addr × Obj)} {H H1 : Hp} {G G1 : Gp} {D : UEnds} {f : Flow} {s : Shared} (x : Ext H G H1 G1) : SP X pins (lD X.K H1 G1 D) f s → SP X pins (lD X.K H G D) f s :=
  sp_imp (fun _ _ h => h.trans x) (fun _ _ h => h.trans x) (fun _ _ h => h.trans x) (fun _ _ h => h.trans x)
section
variable {X : Cx} {W : WX} {st : Stmt} {rest : List Stmt} {t u : UTS} {e : Expr} {te : UTE} {pos : Pos}
theorem SU.ps (h : SU X W st t) : PS X st (lS X.K W t) := ⟨fun pins s σ H D I ⟨us, G, Du, rs, rp, ht, h1, h2, h3, h4, hx⟩ => thn (h.run pins s σ H us G Du I rs rp ht hx) fun f s' q => sp_imp h1 h2 h3 h4 q⟩
theorem SsU.pss (h : SsU X W rest t) : PSs X rest (lS X.K W t) := ⟨fun pins s σ H D I ⟨us, G, Du, rs, rp, ht, h1, h2, h3, h4, hx⟩ => thn (h.run pins s σ H us G Du I rs rp ht hx) fun f s' q => sp_imp h1 h2 h3 h4 q⟩
theorem SU.of {tv : TS} (h : PS X st tv) (k : ∀ σ H us G D, RelS X.K H us σ → Rep X.K H G → t D us G → (∀ c d σ' H', LXS X.K H G D.ex c d σ' H' → W c d σ' H') → tv (lD X.K H G D) σ H) : SU X W st t :=
  ⟨fun pins s σ H us G D I rs rp ht hx => h.run pins s σ H _ I (k σ H us G D rs rp ht hx)⟩
theorem SU.imp {t' : UTS} (h : SU X W st t) (k : ∀ D us G, t' D us G → t D us G) : SU X W st t' := ⟨fun pins s σ H us G D I rs rp ht hx => h.run pins s σ H us G D I rs rp (k _ _ _ ht) hx⟩
def tUNext : UTS := fun D us G => D.nx us G
def tUSeq (t u : UTS) : UTS := fun D us G => t { D with nx := u D } us G
theorem ssu_nil : SsU X W [] tUNext := ⟨fun pins s σ H us G D I rs rp h _ => wpAny_execs_nil ⟨σ, H, I, us, G, .refl _ _, rp, rs, h⟩⟩
theorem ssu_cons (h1 : SU X W st t) (h2 : SsU X W rest u) : SsU X W (st :: rest) (tUSeq t u) := by
  refine ⟨fun pins s σ H us G D I rs rp h hx => ?_⟩
  refine wpAny_execs_cons (thn (h1.run pins s σ H us G { D with nx := u D } I rs rp h hx) fun f s1 q => ?_)
  cases f with
  | next =>
    obtain ⟨σ', H', I', us', G', x1, rp', rs', q⟩ := q
    exact thn (h2.run pins s1 σ' H' us' G' D I' rs' rp' q fun c d σ2 H2 h' => hx c d σ2 H2 (h'.trans x1)) fun _ _ q => sp_trans x1 q
  | ret v => exact q
  | brk => exact q
  | cont => exact q
def tUDrop (te : UTE) : UTS := fun D us G => te us G (fun _ G1 => D.nx us G1) (fun x G1 => D.ex x us G1)
theorem su_expr (he : EU X W e te) (hs : swapsWith e none pos.line X.env = pure false) : SU X W (.Expr e pos) (tUDrop te) :=
  .of (ps_expr he.pe hs) fun σ H us G D rs rp h hx => ⟨us, G, _, _, rs, rp, h, fun v H' ⟨u, G1, x1, r1, _, q⟩ => ⟨us, G1, x1, r1, rs.ext x1 rp, q⟩, fun c d H' h' => hx c d σ H' (LXS.of rs rp h')⟩
def tURet (te : UTE) : UTS := fun D us G => te us G D.rt (fun x G1 => D.ex x us G1)
theorem su_ret (he : EU X W e te) : SU X W (.Return (some e) pos) (tURet te) :=
  .of (ps_ret he.pe) fun σ H us G D rs rp h hx => ⟨us, G, _, _, rs, rp, h, fun v H' h => h, fun c d H' h' => hx c d σ H' (LXS.of rs rp h')⟩
theorem su_retN : SU X W (.Return none pos) (fun D _ G => D.rt .non G) := .of ps_retN fun σ H us G D rs rp h hx => lv_non rp h
abbrev UTG := U → USt → Gp → (USt → Gp → Prop) → UX → Prop
abbrev UTGs := List U → USt → Gp → (USt → Gp → Prop) → UX → Prop
/-- the slots outside sl are as they were -/
def Out (sl : List Nat) (σ σ' : L2.St) : Prop := σ'.length = σ.length ∧ ∀ i, i ∉ sl → σ'[i]? = σ[i]?
theorem Out.refl (sl : List Nat) (σ : L2.St) : Out sl σ σ := ⟨rfl, fun _ _ => rfl⟩
theorem Out.trans {sl sl' : List Nat} {σ σ1 σ2 : L2.St} (a : Out sl σ σ1) (b : Out sl' σ1 σ2) : Out (sl ++ sl') σ σ2 :=
  ⟨b.1.trans a.1, fun i hi => (b.2 i fun z => hi (List.mem_append_right _ z)).trans (a.2 i fun z => hi (List.mem_append_left _ z))⟩
theorem Out.set (i : Nat) (σ : L2.St) (v : Option V) : Out [i] σ (σ.set i v) := ⟨List.length_set, fun j hj => List.getElem?_set_ne fun z => hj (by simp [z])⟩
theorem wipe_get (σ : L2.St) : ∀ (vs : List Nat) (i : Nat), (wipe σ vs)[i]? = if i ∈ vs then (if i < σ.length then some none else none) else σ[i]?
  | [], i => by simp [wipe]
  | v :: vs, i => by
    unfold wipe
    have hl : (wipe σ vs).length = σ.length := wipe_length σ vs
    by_cases h : v = i
    · subst h
      by_cases hv : v < σ.length
      · rw [List.getElem?_set_self (by omega)]
        simp [hv]
      · rw [List.getElem?_eq_none (by simp [hl]; omega)]
        simp [hv]
    · rw [List.getElem?_set_ne h, wipe_get σ vs i]
      have : (i ∈ v :: vs) = (i ∈ vs) := by
        simp only [List.mem_cons, eq_iff_iff]
        constructor
        · rintro (z | z)
          · exact absurd z.symm h
          · exact z
        · exact Or.inr
      simp only [this]
theorem Out.wipe {sl vs : List Nat} {σ σ' : L2.St} (a : Out sl σ σ') (h : ∀ i ∈ sl, i ∈ vs) : wipe σ' vs = wipe σ vs := by
  apply List.ext_getElem?
  intro i
  rw [wipe_get, wipe_get, a.1]
  by_cases hi : i ∈ vs
  · rw [if_pos hi, if_pos hi]
  · rw [if_neg hi, if_neg hi]
    exact a.2 i fun z => hi (h i z)
theorem wipe_wipe (σ : L2.St) (vs : List Nat) : L2.wipe (L2.wipe σ vs) vs = L2.wipe σ vs := by
  apply List.ext_getElem?
  intro i
  rw [wipe_get, wipe_get, wipe_length]
  by_cases hi : i ∈ vs
  · rw [if_pos hi, if_pos hi]
  · rw [if_neg hi, if_neg hi]
structure GU (X : Cx) (W : WX) (tg : Expr) (t : UTG) (sl : List Nat) : Prop where
  run : ∀ (pins : List (Addr × Obj)) (s : Shared) (σ : L2.St) (H : Hp) (v : V) (u : Value) (w : U) (us : USt) (G : Gp) (Q : USt → Gp → Prop) (E : UX), Inv X pins σ H s → RelV v u → RelU X.K H w v → RelS X.K H us σ → Rep X.K H G → t w us G Q E →
    (∀ c d H', LX X.K H G E c d H' → W c d σ H') → wpAny (model X.prog X.w) X.A (assign tg X.env u) (fun _ s' => ∃ σ' H', Inv X pins σ' H' s' ∧ LS X.K H G Q σ' H' ∧ Out sl σ σ') X.xe s
def gUName (i : Nat) : UTG := fun w us G Q _ => Q (us.set i (some w)) G
theorem gu_name {i : Nat} {x : Str} (hN : X.N.Nodup) (hi : X.N[i]? = some x) (hx : Loc X.env.scope x) (hf : X.fn x = true ∨ X.env.scope.names.lookup x = some .local) : GU X W (.Name x pos) (gUName i) [i] :=
  ⟨fun pins s σ H v u w us G Q E I r ru rs rp h _ => wpAny_assign_Name (store_ok I hN hi hx r (fun s' I' => ⟨_, H, I', ⟨us.set i (some w), G, .refl _ _, rp, RelS.set ru i rs, h⟩, Out.set i σ _⟩) hf)⟩
def StU (X : Cx) (W : WX) (t : U → U → U → Gp → (Gp → Prop) → UX → Prop) : Prop :=
  ∀ (pins : List (Addr × Obj)) (s : Shared) (σ : L2.St) (H : Hp) (o i v : V) (ov iv u : Value) (a b c : U) (G : Gp) (Q : Gp → Prop) (E : UX), Inv X pins σ H s → RelV o ov → RelV i iv → RelV v u → RelU X.K H a o → RelU X.K H b i → RelU X.K H c v → Rep X.K H G → t a b c G Q E →
    (∀ c d H', LX X.K H G E c d H' → W c d σ H') → wpAny (model X.prog X.w) X.A (setItem ov iv u) (fun _ s' => ∃ H' G', Inv X pins σ H' s' ∧ Ext H G H' G' ∧ Rep X.K H' G' ∧ Q G') X.xe s
def gUSub (to ti : UTE) (t : U → U → U → Gp → (Gp → Prop) → UX → Prop) : UTG := fun w us G Q E => to us G (fun o G1 => ti us G1 (fun i G2 => t o i w G2 (fun G3 => Q us G3) E) E) E
theorem gu_sub {o i : Expr} {to ti : UTE} {t : U → U → U → Gp → (Gp → Prop) → UX → Prop} (ho : EU X W o to) (hi : EU X W i ti) (hs : StU X W t)
    (ha : ∀ v, assign (.Subscript o i pos) X.env v = (do
      let ov ← holding [v] (eval o X.env)
      let iv ← holding [v, ov] (eval i X.env)
      standAt pos
      holding [v, ov, iv] (setItem ov iv v)
      release [v, ov, iv] [])) : GU X W (.Subscript o i pos) (gUSub to ti t) [] := by
  refine ⟨fun pins s σ H v u w us G Q E I r ru rs rp h hx => ?_⟩
  rw [ha]
  refine wpAny_bind (wpAny_holding (thn (ho.run pins s σ H us G _ E I rs rp h hx) fun ov s1 ⟨x, H1, I1, r1, p, G1, x1, rp1, rup, q1⟩ => ?_))
  have hx1 : ∀ c d H', LX X.K H1 G1 E c d H' → W c d σ H' := fun c d H' h' => hx c d H' (h'.trans x1)
  refine wpAny_bind (wpAny_holding (thn (hi.run pins s1 σ H1 us G1 _ E I1 (rs.ext x1 rp) rp1 q1 hx1) fun iv s2 ⟨y, H2, I2, r2, q, G2, x2, rp2, ruq, q2⟩ => ?_))
  refine wpAny_bind (wpAny_standAt (wpAny_bind (wpAny_holding (thn (hs pins s2 σ H2 x y v ov iv u p q w G2 _ E I2 r1 r2 r (rup.ext x2 rp1) ruq ((ru.ext x1 rp).ext x2 rp1) rp2 q2 fun c d H' h' => hx1 c d H' (h'.trans x2)) fun _ s3 ⟨H3, G3, I3, x3, rp3, q3⟩ => ?_))))
  exact wpAny_release ⟨σ, H3, I3, ⟨us, G3, (x1.trans x2).trans x3, rp3, ((rs.ext x1 rp).ext x2 rp1).ext x3 rp2, q3⟩, Out.refl _ _⟩
def setU0 (o i v : U) (G : Gp) (Q : Gp → Prop) (_ : UX) : Prop := match o, i with
  | .ref a, .int k => ∃ us j, G a = some (.lst us) ∧ ixN us.length k = some j ∧ Q (gup G a (.lst (us.set j v)))
  | _, _ => False
theorem stu0 : StU X W setU0 := by
  intro pins s σ H o i v ov iv u a b c G Q E I ro ri rv ra rb rc rp h hx
  cases a with
  | ref p =>
    cases b with
    | int k =>
      obtain ⟨us, j, g, hj, q⟩ := h
      obtain ⟨vs, e, r⟩ := rp.lst g
      refine thn (set_list pins s σ H o i v ov iv u (fun H' => ∃ G', Ext H G H' G' ∧ Rep X.K H' G' ∧ Q G') I ro ri rv ⟨p, vs, k, j, ra, rb, e, by rw [r.length]; exact hj, ?_⟩) fun _ s' ⟨H', I', G', x1, r1, q1⟩ => ⟨H', G', I', x1, r1, q1⟩
      obtain ⟨u', G', x1, r1, _, q1⟩ := lv_setl (Q := fun _ G' => Q G') (u := .non) (v := .non) rp g (r.set rc j) rfl q
      exact ⟨G', x1, r1, q1⟩
    | _ => exact h.elim
  | _ => exact (show False by cases b <;> exact h).elim
def tUAsg (te : UTE) (g : UTG) : UTS := fun D us G => te us G (fun x G1 => g x us G1 D.nx (fun x G1 => D.ex x us G1)) (fun x G1 => D.ex x us G1)
theorem su_asg {tg e : Expr} {te : UTE} {g : UTG} {sl : List Nat} (he : EU X W e te) (hg : GU X W tg g sl) (hs : swapsWithSole [tg] e pos.line X.env = pure false) (hw : swappedStores [tg] e X.env = pure none)
    (h1 : (assignEach [tg] X.env).map (·.2) = [assign tg X.env]) : SU X W (.Assign [tg] e pos) (tUAsg te g) := by
  refine ⟨fun pins s σ H us G D I rs rp h hx => ?_⟩
  have hx0 : ∀ c d H', LX X.K H G (fun x G1 => D.ex x us G1) c d H' → W c d σ H' := fun c d H' h' => hx c d σ H' (LXS.of rs rp h')
  refine wpAny_Assign_stores (thn (he.run pins s σ H us G _ _ I rs rp h hx0) fun v s1 ⟨x, H1, I1, r1, p, G1, x1, rp1, ru, q1⟩ => ?_) hs hw
  rw [h1]
  exact thn (hg.run pins s1 σ H1 x v p us G1 _ _ I1 r1 ru (rs.ext x1 rp) rp1 q1 fun c d H' h' => hx0 c d H' (h'.trans x1)) fun _ s2 ⟨σ2, H2, I2, q2, _⟩ => ⟨σ2, H2, I2, q2.trans x1⟩
theorem su_set {i : Nat} {x : Str} {pos' : Pos} (hN : X.N.Nodup) (hi : X.N[i]? = some x) (hx : Loc X.env.scope x) (he : EU X W e te) (hs : swapsWith e (some (.Name x pos')) pos.line X.env = pure false) (hf : X.fn x = true ∨ X.env.scope.names.lookup x = some .local) :
    SU X W (.Assign [.Name x pos'] e pos) (tUAsg te (gUName i)) :=
  .of (ps_set hN hi hx he.pe hs hf) fun σ H us G D rs rp h hx => ⟨us, G, _, _, rs, rp, h, fun v H' ⟨u, G1, x1, r1, ru, q⟩ => ⟨us.set i (some u), G1, x1, r1, RelS.set ru i (rs.ext x1 rp), q⟩, fun c d H' h' => hx c d σ H' (LXS.of rs rp h')⟩
def setAll (us : USt) : List Nat → List U → USt
  | i :: is, w :: ws => setAll (us.set i (some w)) is ws
  | _, _ => us
def tUPar (is : List Nat) (ta : UTA) : UTS := fun D us G => ta us G (fun ws G1 => ws.length = is.length ∧ D.nx (setAll us is.reverse ws.reverse) G1) (fun x G1 => D.ex x us G1)
theorem par_store {E : Value → Shared → Prop} {pins : List (Addr × Obj)} (hN : X.N.Nodup) {Q : Unit → Shared → Prop} : ∀ (xs : List Str) (is : List Nat) (vs : List V) (us : List Value) (ws : List U) (ss : USt) (G : Gp) (s : Shared) (σ : L2.St) (H : Hp),
    xs.length = is.length → ws.length = is.length → (∀ (k : Nat) x i, xs[k]? = some x → is[k]? = some i → X.N[i]? = some x ∧ X.env.scope.names.lookup x = some .local) → Inv X pins σ H s → Vals vs us → RelUs X.K H ws vs → RelS X.K H ss σ → Rep X.K H G →
    (∀ s' σ', Inv X pins σ' H s' → RelS X.K H (setAll ss is ws) σ' → Q () s') → wpAny (model X.prog X.w) X.A (assignInOrder (xs.map fun n v => bindName X.env n v) us) Q E s
  | [], [], vs, us, ws, ss, G, s, σ, H, _, h2, _, I, rv, rw', rs, rp, q => by
    have : ws = [] := List.eq_nil_of_length_eq_zero h2
    subst this
    have e' : vs = [] := rw'
    subst e'
    cases rv
    exact assignInOrder_nil (q s σ I rs)
  | x :: xs, i :: is, vs, us, [], ss, G, s, σ, H, _, h2, _, I, rv, rw', rs, rp, q => by cases h2
  | x :: xs, i :: is, vs, us, w :: ws, ss, G, s, σ, H, h1, h2, hk, I, rv, rw', rs, rp, q => by
    obtain ⟨v, vr, rfl, hv, hr⟩ := rw'
    cases rv with
    | cons r rr =>
      obtain ⟨hi, hl⟩ := hk 0 x i rfl rfl
      rw [List.map_cons]
      refine assignInOrder_cons (wpAny_bindName (store_ok I hN hi (.inl hl) r (fun s2 I2 => ?_) (.inr hl)))
      exact par_store hN xs is vr _ ws _ G s2 _ H (by simpa using h1) (by simpa using h2) (fun k y j e1 e2 => hk (k + 1) y j e1 e2) I2 rr hr (RelS.set hv i rs) rp q
  | [], _ :: _, _, _, _, _, _, _, _, _, h1, _, _, _, _, _, _, _, _ => by cases h1
  | _ :: _, [], _, _, _, _, _, _, _, _, h1, _, _, _, _, _, _, _, _ => by cases h1
theorem su_par {ts es : List Expr} {kt k2 : Nat} {pt pt2 : Pos} {xs : List Str} {is : List Nat} {ta : UTA} (hc : X.calm = true) (hN : X.N.Nodup) (hl : xs.length = is.length) (h23 : is.length ≤ 3)
    (hk : ∀ (k : Nat) x i, xs[k]? = some x → is[k]? = some i → X.N[i]? = some x ∧ X.env.scope.names.lookup x = some .local) (ha : AU X W es ta)
    (hw : swappedStores [.Tuple ts kt pt] (.Tuple es k2 pt2) X.env = pure (some xs)) (hs : swapsWithSole [.Tuple ts kt pt] (.Tuple es k2 pt2) pos.line X.env = pure false) : SU X W (.Assign [.Tuple ts kt pt] (.Tuple es k2 pt2) pos) (tUPar is ta) := by
  refine ⟨fun pins s σ H us G D I rs rp h hx => ?_⟩
  have hx0 : ∀ c d H', LX X.K H G (fun x G1 => D.ex x us G1) c d H' → W c d σ H' := fun c d H' h' => hx c d σ H' (LXS.of rs rp h')
  rw [exec_Assign_arm]
  refine wpAny_bind (wpAny_standAt ?_)
  rw [hs]
  refine wpAny_bind (wpAny_pure ?_)
  rw [if_neg (by decide)]
  refine wpAny_bind (Tuple_ (thn (ha.run _ pins s σ H us G _ _ I rs rp h hx0) fun vals s1 ⟨vs, H1, I1, r1, ws, G1, x1, rp1, ru, hlen, q1⟩ => ?_))
  have lv : vals.length = is.length := by rw [← r1.length, ru.length, hlen]
  refine wpAny_newObj_type ?_ (by show vals.toArray.size ≤ sizeLine; rw [List.size_toArray, lv, sizeLine_eq]; omega)
  have I2 : Inv X pins σ H1 { s1 with heap := s1.heap.push { cls := .type "tuple", data := .seq vals.toArray } } := I1.kept (t' := s1.toks) fun b o e => Heap.get?_push_of_some _ e
  rw [hw]
  refine wpAny_bind (wpAny_pure ?_)
  show wpAny (model X.prog X.w) X.A (do rule "assign.swapped-stores"; let items ← unpackItems (.ref s1.heap.objs.size) xs.length none; assignInOrder (xs.reverse.map fun n v => bindName X.env n v) items.reverse; pure Flow.next) _ _ _
  have e1 : vals.toArray.size = xs.length := by rw [List.size_toArray, lv, hl]
  rw [← e1]
  refine wpAny_bind (wpAny_rule (wpAny_bind (unpackItems_tuple (items := vals.toArray) (I.ok.hd hc) (IsTup.new s1.heap _) fun h' hx' => ?_)))
  have I3 := I2.kept (h' := h') (t' := s1.toks) fun b o e => hx' b o (Nat.ne_of_lt (Heap.lt_size e)) e
  refine wpAny_bind (par_store hN xs.reverse is.reverse vs.reverse _ ws.reverse us G1 _ σ H1 (by simp [hl]) (by simp [hlen]) (fun k y j h1 h2 => ?_) I3 (by simpa using r1.reverse) ru.reverse (rs.ext x1 rp) rp1 fun s2 σ' I4 rs4 => wpAny_pure ⟨σ', H1, I4, _, G1, x1, rp1, rs4, q1⟩)
  have kl : k < xs.length := by
    have := (List.getElem?_eq_some_iff.mp h1).1
    simpa using this
  rw [List.getElem?_reverse (by omega)] at h1
  rw [List.getElem?_reverse (by omega), ← hl] at h2
  exact hk _ y j h1 h2
end
end UL
set_option maxHeartbeats 400000
namespace UL
open PySem PySem.Spec PyProof.Rows L2

abbrev UKI := (Gp → Prop) → List U → Gp → Prop
abbrev UTI := USt → Gp → UKI → UX → Prop
/-- the iterator J gives just these items while chk holds -/
structure ItU (K : PySem.W.Frag) (J : It) (chk : Gp → Prop) (items : List U) (H0 : Hp) (G0 : Gp) : Prop where
  go : ∀ (i : Nat) H G, Ext H0 G0 H G → Rep K H G → chk G → i < items.length → J.go i H ∧ ∀ x H', J.yld i H x H' → ∃ u, items[i]? = some u ∧ Ext H G H' G ∧ Rep K H' G ∧ RelU K H' u x
  stop : ∀ H G, Ext H0 G0 H G → Rep K H G → chk G → J.stop items.length H
def RI (K : PySem.W.Frag) (H : Hp) (G : Gp) (Q : UKI) : It → Hp → Prop := fun J H1 => ∃ chk items G1, Ext H G H1 G1 ∧ Rep K H1 G1 ∧ ItU K J chk items H1 G1 ∧ Q chk items G1
theorem RI.trans {K : PySem.W.Frag} {H H1 : Hp} {G G1 : Gp} (x : Ext H G H1 G1) {Q : UKI} {J : It} {H' : Hp} : RI K H1 G1 Q J H' → RI K H G Q J H' := fun ⟨c, i, G', e, r⟩ => ⟨c, i, G', x.trans e, r⟩
structure IU (X : Cx) (W : WX) (tg iter : Expr) (t : UTI) : Prop where
  run : ∀ (pins : List (Addr × Obj)) (s : Shared) (σ : L2.St) (H : Hp) (us : USt) (G : Gp) (Q : UKI) (E : UX), Inv X pins σ H s → RelS X.K H us σ → Rep X.K H G → t us G Q E → (∀ c d H', LX X.K H G E c d H' → W c d σ H') →
    wpAny (model X.prog X.w) X.A (eval iter X.env) (fun v s1 => wpAny (model X.prog X.w) X.A (pyIter v) (PIE X pins σ tg (RI X.K H G Q)) X.xe s1) X.xe s
def lI (K : PySem.W.Frag) (W : WX) (t : UTI) : TI := fun σ H R => ∃ us G Qu Eu, RelS K H us σ ∧ Rep K H G ∧ t us G Qu Eu ∧ (∀ J H', RI K H G Qu J H' → R J H') ∧ ∀ c d H', LX K H G Eu c d H' → W c d σ H'
theorem pie_imp {X : Cx} {pins : List (Addr × Obj)} {σ : L2.St} {tg : Expr} {R R' : It → Hp → Prop} {v : Value} {s : Shared} (h : ∀ J H, R J H → R' J H) : PIE X pins σ tg R v s → PIE X pins σ tg R' v s :=
  fun ⟨it, fp, tn, J, H', e, I, T, st, f, r⟩ => ⟨it, fp, tn, J, H', e, I, T, st, f, h _ _ r⟩
theorem IU.pi {X : Cx} {W : WX} {tg iter : Expr} {t : UTI} (h : IU X W tg iter t) : PI X tg iter (lI X.K W t) :=
  ⟨fun pins s σ H R I ⟨us, G, Qu, Eu, rs, rp, ht, hq, hx⟩ => thn (h.run pins s σ H us G Qu Eu I rs rp ht hx) fun v s1 h1 => thn h1 fun _ _ h2 => pie_imp hq h2⟩
section
variable {K : PySem.W.Frag} {H0 : Hp} {G0 : Gp}
theorem itu_list {a : Addr} {us : List U} : ItU K (Itl K a) (fun G => G a = some (.lst us)) us H0 G0 := by
  refine ⟨fun i H G x r g hi => ?_, fun H G x r g => ?_⟩
  · obtain ⟨vs, e, rv⟩ := r.lst g
    obtain ⟨v, ev, ru⟩ := rv.get (List.getElem?_eq_getElem hi)
    refine ⟨⟨vs, v, .of e, ev⟩, fun y H' ⟨eH, hy⟩ => ?_⟩
    subst eH
    have := hy vs (.of e)
    rw [ev] at this
    cases this
    exact ⟨_, List.getElem?_eq_getElem hi, .refl _ _, r, ru⟩
  · obtain ⟨vs, e, rv⟩ := r.lst g
    exact ⟨vs, .of e, by rw [rv.length]; exact Nat.le_refl _⟩
theorem itu_rol {a : Addr} {us : List U} {vs : List V} (h : RoL K H0 a vs) (rv : RelUs K H0 us vs) (r0 : Rep K H0 G0) : ItU K (Itl K a) (fun _ => True) us H0 G0 := by
  refine ⟨fun i H G x r _ hi => ?_, fun H G x r _ => ?_⟩
  · obtain ⟨v, ev, ru⟩ := rv.get (List.getElem?_eq_getElem hi)
    have h' := (x.roL r0 h).sq
    refine ⟨⟨vs, v, h', ev⟩, fun y H' ⟨eH, hy⟩ => ?_⟩
    subst eH
    have := hy vs h'
    rw [ev] at this
    cases this
    exact ⟨_, List.getElem?_eq_getElem hi, .refl _ _, r, ru.ext x r0⟩
  · exact ⟨vs, (x.roL r0 h).sq, by rw [rv.length]; exact Nat.le_refl _⟩
theorem itu_tup {a : Addr} {us : List U} {vs : List V} (h : SqT K H0 a vs) (rv : RelUs K H0 us vs) (r0 : Rep K H0 G0) : ItU K (Itt K a) (fun _ => True) us H0 G0 := by
  refine ⟨fun i H G x r _ hi => ?_, fun H G x r _ => ?_⟩
  · obtain ⟨v, ev, ru⟩ := rv.get (List.getElem?_eq_getElem hi)
    have h' := x.sqT r0 h
    refine ⟨⟨vs, v, h', ev⟩, fun y H' ⟨eH, hy⟩ => ?_⟩
    subst eH
    have := hy vs h'
    rw [ev] at this
    cases this
    exact ⟨_, List.getElem?_eq_getElem hi, .refl _ _, r, ru.ext x r0⟩
  · exact ⟨vs, x.sqT r0 h, by rw [rv.length]; exact Nat.le_refl _⟩
def sgs (l : List Nat) : List U := l.map fun c => .str [c]
theorem itu_str {l : List Nat} : ItU K (Its ⟨l.toArray⟩) (fun _ => True) (sgs l) H0 G0 := by
  have sz : (sgs l).length = l.length := List.length_map _
  refine ⟨fun i H G x r _ hi => ?_, fun H G x r _ => ?_⟩
  · refine ⟨show i < l.toArray.size by rw [List.size_toArray]; omega, fun y H' ⟨eH, c, hc, hy⟩ => ?_⟩
    subst eH hy
    have hc' : l[i]? = some c := by simpa using hc
    exact ⟨.str [c], by unfold sgs; rw [List.getElem?_map, hc']; rfl, .refl _ _, r, rfl⟩
  · show l.toArray.size ≤ (sgs l).length
    rw [List.size_toArray, sz]
    exact Nat.le_refl _
def rngs (lo : Int) (n : Nat) : List U := (List.range n).map fun i => .int (lo + (i : Nat))
theorem itu_range {lo : Int} {n : Nat} : ItU K (Itr lo n) (fun _ => True) (rngs lo n) H0 G0 := by
  have sz : (rngs lo n).length = n := by unfold rngs; simp
  refine ⟨fun i H G x r _ hi => ?_, fun H G x r _ => ?_⟩
  · refine ⟨by rw [sz] at hi; exact hi, fun y H' ⟨eH, hy⟩ => ?_⟩
    subst eH hy
    refine ⟨.int (lo + (i : Nat)), ?_, .refl _ _, r, rfl⟩
    unfold rngs
    rw [List.getElem?_map, List.getElem?_range (by omega)]
    rfl
  · show n ≤ (rngs lo n).length
    rw [sz]
    exact Nat.le_refl _
end
section
variable {X : Cx} {W : WX} {tg e : Expr} {te : UTE} {ta : UTA} {pos p : Pos}
/-- any value that may be walked -/
def iterU (u : U) (G : Gp) (Q : UKI) : Prop := match u with
  | .ref a => ∃ us, G a = some (.lst us) ∧ Q (fun G => G a = some (.lst us)) us G
  | .tup us => Q (fun _ => True) us G
  | .rol us => Q (fun _ => True) us G
  | .str l => Q (fun _ => True) (sgs l) G
  | _ => False
theorem pit_list {pins : List (Addr × Obj)} {σ : L2.St} {H : Hp} {s : Shared} {R : It → Hp → Prop} {E : Value → Shared → Prop} {a : Addr} {xs : List V} (I : Inv X pins σ H s) (hq : SqL X.K H a xs) (q : R (Itl X.K a) H) : wpAny (model X.prog X.w) X.A (pyIter (.ref a)) (PIE X pins σ tg R) E s := by
  obtain ⟨its, rv, pl, hz⟩ := I.list hq
  exact wpAny_pyIter_list pl.isList (pi_one (tk := s.toks) I _ (turn_list a _) ⟨_, Heap.get?_push_size _ rfl, rfl, rfl⟩ q)
theorem pit_tup {pins : List (Addr × Obj)} {σ : L2.St} {H : Hp} {s : Shared} {R : It → Hp → Prop} {E : Value → Shared → Prop} {a : Addr} {xs : List V} (I : Inv X pins σ H s) (hq : SqT X.K H a xs) (q : R (Itt X.K a) H) : wpAny (model X.prog X.w) X.A (pyIter (.ref a)) (PIE X pins σ tg R) E s := by
  obtain ⟨its, rv, pl, hz⟩ := I.tuple hq
  exact wpAny_pyIter_tuple (show s.heap.IsTuple a its.toArray from pl) (pi_one (tk := s.toks) I _ (turn_tuple a _) ⟨_, Heap.get?_push_size _ rfl, rfl, rfl⟩ q)
theorem pit_str {pins : List (Addr × Obj)} {σ : L2.St} {H : Hp} {s : Shared} {R : It → Hp → Prop} {E : Value → Shared → Prop} {x : Str} {t : Tok} (I : Inv X pins σ H s) (q : R (Its x) H) : wpAny (model X.prog X.w) X.A (pyIter (.str x t)) (PIE X pins σ tg R) E s := by
  cases ha : x.cps.all (· < 128)
  · exact wpAny_pyIter_wide ha (pi_one (tk := s.toks) I _ (turn_str _ x t "str_iterator" (.inr rfl)) ⟨_, Heap.get?_push_size _ rfl, rfl, rfl⟩ q)
  · exact wpAny_pyIter_ascii ha (pi_one (tk := s.toks) I _ (turn_str _ x t "str_ascii_iterator" (.inl rfl)) ⟨_, Heap.get?_push_size _ rfl, rfl, rfl⟩ q)
theorem pit_any {pins : List (Addr × Obj)} {σ : L2.St} {H : Hp} {s : Shared} {E : Value → Shared → Prop} {u : U} {v : V} {w : Value} {G : Gp} {Q : UKI} (I : Inv X pins σ H s) (rp : Rep X.K H G) (ru : RelU X.K H u v) (rv : RelV v w) (h : iterU u G Q) :
    wpAny (model X.prog X.w) X.A (pyIter w) (PIE X pins σ tg (RI X.K H G Q)) E s := by
  cases u with
  | ref a =>
    obtain ⟨us, g, q⟩ := h
    rw [show v = .ref a from ru] at rv
    obtain rfl : w = Value.ref a := rv
    obtain ⟨vs, e, r⟩ := rp.lst g
    exact pit_list I (.of e) ⟨_, us, G, .refl _ _, rp, itu_list, q⟩
  | tup us =>
    obtain ⟨a, vs, rfl, t, r⟩ := ru.tup_of
    obtain rfl : w = Value.ref a := rv
    exact pit_tup I t ⟨_, us, G, .refl _ _, rp, itu_tup t r rp, h⟩
  | rol us =>
    obtain ⟨a, vs, rfl, t, r⟩ := (show ∃ a vs, v = .ref a ∧ RoL X.K H a vs ∧ RelUs X.K H us vs from ru)
    obtain rfl : w = Value.ref a := rv
    exact pit_list I t.sq ⟨_, us, G, .refl _ _, rp, itu_rol t r rp, h⟩
  | str l =>
    rw [show v = .str ⟨l.toArray⟩ from ru] at rv
    obtain ⟨t, rfl⟩ := rv
    exact pit_str I ⟨_, sgs l, G, .refl _ _, rp, itu_str, h⟩
  | _ => exact h.elim
def tIAny (te : UTE) : UTI := fun us G Q E => te us G (fun u G1 => iterU u G1 Q) E
theorem iu_any (he : EU X W e te) : IU X W tg e (tIAny te) := by
  refine ⟨fun pins s σ H us G Q E I rs rp h hx => ?_⟩
  refine thn (he.run pins s σ H us G _ E I rs rp h hx) fun v s1 ⟨x, H1, I1, r1, u, G1, x1, rp1, ru, q1⟩ => ?_
  exact thn (pit_any I1 rp1 ru r1 q1) fun _ _ h => pie_imp (fun _ _ h => h.trans x1) h
def rngA (u : U) (G : Gp) (Q : UKI) : Prop := match u with
  | .int j => (-(2 ^ 62) ≤ j ∧ j < 2 ^ 62) ∧ Q (fun _ => True) (rngs 0 j.toNat) G
  | _ => False
def rngQ1 (Q : UKI) (ws : List U) (G : Gp) : Prop := match ws with
  | [u] => rngA u G Q
  | _ => False
def tIRng1 (ta : UTE) : UTI := fun us G Q E => ta us G (fun u G1 => rngA u G1 Q) E
theorem iu_range1 {a : Expr} (hg : Gl X "range") (hm : X.mg "range" = none) (ha : EU X W a te) (hs : starEach [a] X.env = (false, eval a X.env) :: starEach [] X.env) : IU X W tg (.Call (.Name "range" p) [a] [] pos) (tIRng1 te) := by
  refine ⟨fun pins s σ H us G Q E I rs rp h hx => ?_⟩
  refine Call_ (ld_blt I hg hm boot_range (PyProof.Rows.callWith_type1 (thn ((au_cons ha au_nil hs).run pos pins s σ H us G (rngQ1 Q) E I rs rp h hx) fun vals s1 ⟨vs, H1, I1, r1, ws, G1, x1, rp1, ru, q1⟩ => ?_) hs rfl))
  cases ws with
  | nil => exact q1.elim
  | cons u r =>
    cases r with
    | cons _ _ => exact q1.elim
    | nil =>
      obtain ⟨v, vr, e1, ev, e2⟩ := ru
      have e2' : vr = [] := e2
      subst e1 e2'
      cases u with
      | int j =>
        rw [show v = .int j from ev] at r1
        cases r1 with
        | cons r rr =>
          cases rr
          obtain ⟨t, rfl⟩ := r
          obtain ⟨⟨q2, q3⟩, q⟩ := q1
          exact call_range_1 (range_it I1 (by omega) (by omega) q2 q3 ⟨_, _, G1, x1, rp1, itu_range, by simpa using q⟩)
      | _ => exact q1.elim
end

def forU (tg : UTG) (body : UTS) (chk : Gp → Prop) : List U → UTS
  | [] => fun D us G => chk G ∧ D.nx us G
  | x :: xs => fun D us G => chk G ∧ tg x us G (fun us1 G1 => body { D with nx := forU tg body chk xs D, ct := forU tg body chk xs D, bk := D.nx } us1 G1) (fun x G1 => D.ex x us G1)
def tUFor (ti : UTI) (tg : UTG) (body : UTS) : UTS := fun D us G => ti us G (fun chk items G1 => forU tg body chk items D us G1) (fun x G1 => D.ex x us G1)
def lG (K : PySem.W.Frag) (W : WX) (t : UTG) (sl : List Nat) : TG := fun v σ H Q => ∃ w us G Qu Eu, RelU K H w v ∧ RelS K H us σ ∧ Rep K H G ∧ t w us G Qu Eu ∧ (∀ σ' H', LS K H G Qu σ' H' → Out sl σ σ' → Q σ' H') ∧ ∀ c d H', LX K H G Eu c d H' → W c d σ H'
theorem GU.pg {X : Cx} {W : WX} {tg : Expr} {t : UTG} {sl : List Nat} (h : GU X W tg t sl) : PG X tg (lG X.K W t sl) :=
  ⟨fun pins s σ H v u Q I r ⟨w, us, G, Qu, Eu, ru, rs, rp, ht, hq, hx⟩ => thn (h.run pins s σ H v u w us G Qu Eu I r ru rs rp ht hx) fun _ s' ⟨σ', H', I', q, o⟩ => ⟨σ', H', I', hq _ _ q o⟩⟩
theorem drop_cons {α : Type} {xs : List α} {i : Nat} {x : α} (h : xs[i]? = some x) : xs.drop i = x :: xs.drop (i + 1) := by
  obtain ⟨hi, e⟩ := List.getElem?_eq_some_iff.mp h
  rw [List.drop_eq_getElem_cons hi, e]
theorem su_for {X : Cx} {W : WX} {iter tg : Expr} {body : List Stmt} {ti : UTI} {g : UTG} {sl : List Nat} {tb : UTS} {pos : Pos} (hp : PassesOwn (model X.prog X.w) X.A X.env X.xe) (hc : X.calm = true) (hi : IU X W tg iter ti) (hg : GU X W tg g sl) (hb : SsU X W body tb)
    (hs : ∀ x, foldedSetIterable iter X.env x = pure x) : SU X W (.For tg iter body [] pos) (tUFor ti g tb) := by
  refine .of (ps_for hp hc hi.pi hg.pg hb.pss hs) fun σ H us G D rs rp h hx => ⟨us, G, _, _, rs, rp, h, fun J H1 ⟨chk, items, G1, x1, rp1, it, q⟩ => ?_, fun c d H' h' => hx c d σ H' (LXS.of rs rp h')⟩
  refine ⟨fun i m σ' H' => m = items.length - i ∧ i ≤ items.length ∧ ∃ us' G', Ext H1 G1 H' G' ∧ RelS X.K H' us' σ' ∧ Rep X.K H' G' ∧ forU g tb chk (items.drop i) D us' G', ⟨_, rfl, Nat.zero_le _, us, G1, .refl _ _, rs.ext x1 rp, rp1, by simpa using q⟩, ?_⟩
  rintro i m σ' H' ⟨rfl, hi, us', G', x2, rs', rp', q'⟩
  by_cases hlt : i < items.length
  · obtain ⟨u, eu⟩ : ∃ u, items[i]? = some u := ⟨_, List.getElem?_eq_getElem hlt⟩
    rw [drop_cons eu] at q'
    obtain ⟨hchk, q'⟩ := q'
    obtain ⟨hgo, hy⟩ := it.go i H' G' x2 rp' hchk hlt
    refine .inr ⟨hgo, LS X.K H' G' (forU g tb chk (items.drop (i + 1)) D), fun σ2 H2 ⟨us2, G2, x3, rp2, rs2, q2⟩ => ⟨items.length - (i + 1), by omega, rfl, hlt, us2, G2, x2.trans x3, rs2, rp2, q2⟩, fun x H2 y => ?_⟩
    obtain ⟨w, ew, x3, rp3, rw'⟩ := hy x H2 y
    rw [eu] at ew
    cases ew
    have rs3 := rs'.ext x3 rp'
    refine ⟨u, us', G', _, _, rw', rs3, rp3, q', fun σ4 H4 ⟨us4, G4, x4, rp4, rs4, q4⟩ _ => ?_, fun c d H4 h' => hx c d _ H4 (((LXS.of rs3 rp3 h').trans x3).trans (x1.trans x2))⟩
    have xa := x3.trans x4
    have xb := (x1.trans x2).trans xa
    exact ⟨us4, G4, _, rs4, rp4, q4, fun _ _ h => h.trans xa, fun _ _ h => h.trans xb, fun _ _ h => h.trans xb, fun _ _ h => h.trans xa, fun c d σ5 H5 h' => hx c d σ5 H5 (h'.trans xb)⟩
  · have e : i = items.length := by omega
    subst e
    rw [List.drop_length] at q'
    exact .inl ⟨it.stop H' G' x2 rp' q'.1, us', G', x1.trans x2, rp', rs', q'.2⟩

def F0 : UX := fun _ _ => False
def W0 : WX := fun _ _ _ _ => False
def lcU (tg : UTG) (tt : UTT) (te : UTE) (chk : Gp → Prop) (us : USt) (Q : List U → Gp → Prop) : List U → List U → Gp → Prop
  | [], acc, G => chk G ∧ Q acc G
  | x :: xs, acc, G => chk G ∧ tg x us G (fun us1 G1 => tt us1 G1 (fun b G2 => bif b then te us1 G2 (fun y G3 => acc.length < 1000000 ∧ lcU tg tt te chk us Q xs (acc ++ [y]) G3) F0 else lcU tg tt te chk us Q xs acc G2) F0) F0
def tULc (ti : UTI) (tg : UTG) (tt : UTT) (te : UTE) (own : List Nat) : UTE := fun us G Q E => ti us G (fun chk items G1 => lcU tg tt te chk (uwipe us own) (fun acc G2 => ∀ p, G2 p = none → Q (.ref p) (gup G2 p (.lst acc))) items [] G1) E
/-- a clause's tests -/
structure FsU (X : Cx) (W : WX) (ifs : List Expr) (t : UTT) : Prop where
  run : ∀ (pins : List (Addr × Obj)) (s : Shared) (σ : L2.St) (H : Hp) (us : USt) (G : Gp) (Q : Bool → Gp → Prop) (E : UX), Inv X pins σ H s → RelS X.K H us σ → Rep X.K H G → t us G Q E → (∀ c d H', LX X.K H G E c d H' → W c d σ H') →
    wpAny (model X.prog X.w) X.A (forIn ifs true fun c r => if r = true then do let ok ← isTrue c X.env (eval c X.env); pure (ForInStep.yield ok) else pure (ForInStep.yield r)) (TP X pins σ (LB X.K H G Q)) X.xe s
theorem fsu_nil {X : Cx} {W : WX} : FsU X W [] (fun _ G Q _ => Q true G) := ⟨fun _ _ _ H _ G Q E I _ rp h _ => wpAny_tests_nil ⟨H, I, G, .refl _ _, rp, h⟩⟩
theorem FsU.pts {X : Cx} {W : WX} {ifs : List Expr} {t : UTT} (h : FsU X W ifs t) : PTs X ifs (lT X.K W t) := ⟨fun pins s σ H Q I ⟨us, G, Qu, Eu, rs, rp, ht, hq, hx⟩ => thn (h.run pins s σ H us G Qu Eu I rs rp ht hx) fun v s' ⟨H', I', q⟩ => ⟨H', I', hq _ _ q⟩⟩
theorem lx_false {K : PySem.W.Frag} {H : Hp} {G : Gp} {c : Value} {d : Option Addr} {H' : Hp} : LX K H G F0 c d H' → False := fun ⟨_, _, _, _, _, z⟩ => z
section
variable {X : Cx} {W : WX} {elt tg iter : Expr} {ifs : List Expr} {scope : Scope} {own : List (Str × Nat)} {pos spos : Pos} {ti : UTI} {g : UTG} {tt : UTT} {te : UTE} {sl : List Nat}
theorem lc_read {K : PySem.W.Frag} {σ : L2.St} {H H1 : Hp} {us : USt} {G G1 : Gp} {J : It} {chk : Gp → Prop} {items : List U} {vs : List Nat} {Q : UK} (hsl : ∀ i ∈ sl, i ∈ vs) (rs : RelS K H us σ) (rp : Rep K H G) (x1 : Ext H G H1 G1) (rp1 : Rep K H1 G1) (it : ItU K J chk items H1 G1)
    (q : lcU g tt te chk (uwipe us vs) (fun acc G2 => ∀ p, G2 p = none → Q (.ref p) (gup G2 p (.lst acc))) items [] G1) : ∀ D, H1 D = none → ∃ Wv : Nat → Nat → Hp → Prop, (∃ m, Wv 0 m (upd H1 D (.lst []))) ∧ ∀ i m H, Wv i m H →
      (J.stop i H ∧ LV K H1 G1 Q (.ref D) H) ∨ (J.go i H ∧ ∃ Nx : Hp → Prop, (∀ H', Nx H' → ∃ m', m' < m ∧ Wv (i + 1) m' H') ∧ ∀ x H', J.yld i H x H' → lG K W0 g sl x (wipe σ vs) H' fun σ2 H2 => wipe σ2 vs = wipe σ vs ∧ lT K W0 tt σ2 H2 fun b H3 =>
        if b = true then lE K W0 te σ2 H3 fun y H4 => ∃ acc, H4 D = some (.lst acc) ∧ acc.length < sizeLine ∧ Nx (upd H4 D (.lst (acc ++ [y]))) else Nx H3) := by
  intro D hD
  have x0 : Ext H1 G1 (upd H1 D (.lst [])) G1 := (rp1.laid0 hD).2
  have r0 : Rep K (upd H1 D (.lst [])) G1 := (rp1.laid0 hD).1
  have gD : G1 D = none := rp1.fresh hD
  have rsw : RelS K H1 (uwipe us vs) (L2.wipe σ vs) := (rs.ext x1 rp).wipe vs
  have grow : ∀ {H5 : Hp} {G5 : Gp} {o : HO}, Ext H1 G1 H5 G5 → Ext H1 G1 (upd H5 D o) G5 := fun {H5 G5 o} x b u hb gb => by
    obtain ⟨z1, z2⟩ := x b u hb gb
    exact ⟨by rw [upd_ne (ne_of_none hb hD)]; exact z1, z2⟩
  refine ⟨fun i m H' => m = items.length - i ∧ i ≤ items.length ∧ ∃ G' acc accv, Ext H1 G1 H' G' ∧ Rep K H' G' ∧ G' D = none ∧ H' D = some (.lst accv) ∧ RelUs K H' acc accv ∧ lcU g tt te chk (uwipe us vs) (fun acc G2 => ∀ p, G2 p = none → Q (.ref p) (gup G2 p (.lst acc))) (items.drop i) acc G',
    ⟨_, rfl, Nat.zero_le _, G1, [], [], x0, r0, gD, upd_same, rfl, by simpa using q⟩, ?_⟩
  rintro i m H' ⟨rfl, hi, G', acc, accv, x2, rp2, gD2, hD2, ra, q2⟩
  by_cases hlt : i < items.length
  · obtain ⟨u, eu⟩ : ∃ u, items[i]? = some u := ⟨_, List.getElem?_eq_getElem hlt⟩
    rw [drop_cons eu] at q2
    obtain ⟨hchk, q2⟩ := q2
    obtain ⟨hgo, hy⟩ := it.go i H' G' x2 rp2 hchk hlt
    refine .inr ⟨hgo, fun H5 => ∃ G5 acc5 accv5, Ext H1 G1 H5 G5 ∧ Rep K H5 G5 ∧ G5 D = none ∧ H5 D = some (.lst accv5) ∧ RelUs K H5 acc5 accv5 ∧ lcU g tt te chk (uwipe us vs) (fun acc G2 => ∀ p, G2 p = none → Q (.ref p) (gup G2 p (.lst acc))) (items.drop (i + 1)) acc5 G5,
      fun H5 ⟨G5, a5, v5, x5, r5, g5, h5, ra5, q5⟩ => ⟨items.length - (i + 1), by omega, rfl, hlt, G5, a5, v5, x5, r5, g5, h5, ra5, q5⟩, fun x H3 y => ?_⟩
    obtain ⟨w, ew, x3, rp3, rw'⟩ := hy x H3 y
    rw [eu] at ew
    cases ew
    have rs3 : RelS K H3 (uwipe us vs) (L2.wipe σ vs) := (rsw.ext x2 rp1).ext x3 rp2
    refine ⟨u, uwipe us vs, G', _, _, rw', rs3, rp3, q2, fun σ4 H4 ⟨us4, G4, x4, rp4, rs4, q4⟩ ho => ⟨by rw [ho.wipe hsl, wipe_wipe], us4, G4, _, _, rs4, rp4, q4, fun b H5 ⟨G5, x5, rp5, q5⟩ => ?_, fun c d H' h' => (lx_false h').elim⟩, fun c d H' h' => (lx_false h').elim⟩
    have xa := (x3.trans x4).trans x5
    have hD5 := xa D _ hD2 gD2
    cases b with
    | true =>
      refine iteT ?_
      refine ⟨us4, G5, _, _, rs4.ext x5 rp4, rp5, q5, fun y H6 ⟨z, G6, x6, rp6, rz, hz, q6⟩ => ?_, fun c d H' h' => (lx_false h').elim⟩
      have xb := xa.trans x6
      have hD6 := xb D _ hD2 gD2
      have ra6 : RelUs K H6 acc accv := ra.ext xb rp2
      obtain ⟨hT, hR, hX⟩ := own_upd (K := K) (ys := accv ++ [y]) hD6.1
      exact ⟨accv, hD6.1, by rw [ra.length]; exact lim_lt hz, G6, acc ++ [z], accv ++ [y], grow (x2.trans xb), rp6.own hD6.1 hD6.2, hD6.2, upd_same, (ra6.append (.one rz)).mono hT hR hX, q6⟩
    | false =>
      refine iteF ?_
      exact ⟨G5, acc, accv, x2.trans xa, rp5, hD5.2, hD5.1, ra.ext xa rp2, q5⟩
  · have e : i = items.length := by omega
    subst e
    rw [List.drop_length] at q2
    refine .inl ⟨it.stop H' G' x2 rp2 q2.1, .ref D, gup G' D (.lst acc), fun b o hb gb => ?_, fun b o e => ?_, rfl, q2.2 D gD2⟩
    · obtain ⟨z1, z2⟩ := x2 b o hb gb
      exact ⟨z1, by rw [gup_ne (ne_of_none hb hD)]; exact z2⟩
    · by_cases hb : b = D
      · subst hb
        rw [gup_same] at e
        cases e
        exact ⟨accv, hD2, ra⟩
      · rw [gup_ne hb] at e
        exact rp2 b o e
theorem eu_lc (hc : X.calm = true) (hN : X.N.Nodup) (hi : IU X W tg iter ti) (ok : BlkOk X.N X.env.scope scope own) (hsl : ∀ i ∈ sl, i ∈ own.map (·.2))
    (hg : ∀ (s : Shared) (H : Hp) (C : Addr) (cl : List (Str × Addr)) (fp : List Addr), GU (X.blk s H scope (compEnvC scope cl C X.env) fp) W0 tg g sl) (ht : ∀ (s : Shared) (H : Hp) (C : Addr) (cl : List (Str × Addr)) (fp : List Addr), FsU (X.blk s H scope (compEnvC scope cl C X.env) fp) W0 ifs tt)
    (he : ∀ (s : Shared) (H : Hp) (C : Addr) (cl : List (Str × Addr)) (fp : List Addr), EU (X.blk s H scope (compEnvC scope cl C X.env) fp) W0 elt te) (hs : ∀ x, foldedSetIterable iter X.env x = pure x) :
    EU X W (.ListComp elt [⟨tg, iter, ifs, 0⟩] scope pos) (tULc ti g tt te (own.map (·.2))) := by
  refine .of (pe_lc (te := lE X.K W0 te) (tt := lT X.K W0 tt) (g := lG X.K W0 g sl) hc hN hi.pi ok (fun s H C cl fp => (hg s H C cl fp).pg) (fun s H C cl fp => (ht s H C cl fp).pts) (fun s H C cl fp => (he s H C cl fp).pe) hs) fun σ H us G Q E rs rp h hx => ?_
  refine ⟨us, G, _, _, rs, rp, h, fun J H1 ⟨chk, items, G1, x1, rp1, it, q⟩ => fun D hD => ?_, hx⟩
  obtain ⟨Wv, h1, h2⟩ := lc_read hsl rs rp x1 rp1 it q D hD
  refine ⟨Wv, h1, fun i m H' w => ?_⟩
  rcases h2 i m H' w with ⟨a, b⟩ | z
  · exact .inl ⟨a, b.trans x1⟩
  · exact .inr z
end
end UL
set_option maxHeartbeats 400000
namespace UL
open PySem PySem.Spec PyProof.Rows L2 PySem.W

section
variable {α : Type}
/-- the keywords' values behind the positional ones; none where one is refused -/
def kwAdd (names : List Str) : List (Str × α) → List (Str × α) → Option (List (Str × α))
  | slots, [] => some slots
  | slots, (k, v) :: r => if names.contains k then (if (slots.lookup k).isSome then none else kwAdd names (slots ++ [(k, v)]) r) else none
def dfAdd : List (Str × α) → List (Str × α) → List (Str × α)
  | slots, [] => slots
  | slots, (k, v) :: r => dfAdd (if (slots.lookup k).isNone then slots ++ [(k, v)] else slots) r
def kdAdd (kd : List (Str × α)) : List (Str × α) → List Str → Option (List (Str × α))
  | slots, [] => some slots
  | slots, k :: r => if (slots.lookup k).isNone then (match kd.lookup k with
    | some v => kdAdd kd (slots ++ [(k, v)]) r
    | none => none) else kdAdd kd slots r
def getAll (slots : List (Str × α)) : List Str → Option (List α)
  | [] => some []
  | n :: r => match slots.lookup n, getAll slots r with
    | some v, some vs => some (v :: vs)
    | _, _ => none
def bindV (normal kwonly : List Str) (us : List α) (kws : List (Str × α)) (dv : List α) (kd : List (Str × α)) : Option (List α) :=
  if us.length ≤ normal.length ∧ dv.length ≤ normal.length then
    match kwAdd (normal ++ kwonly) (normal.zip us) kws with
    | none => none
    | some s1 => if ((normal.take (normal.length - dv.length)).filter fun n => (s1.lookup n).isNone).isEmpty then
        match kdAdd kd (dfAdd s1 ((normal.drop (normal.length - dv.length)).zip dv)) kwonly with
        | none => none
        | some s2 => getAll s2 (normal ++ kwonly)
      else none
  else none
end
theorem getAll_zip {α : Type} {slots : List (Str × α)} : ∀ {ns : List Str} {vs : List α}, getAll slots ns = some vs → (ns.filterMap fun n => (slots.lookup n).map (n, ·)) = ns.zip vs
  | [], vs, h => by
    cases h
    rfl
  | n :: ns, vs, h => by
    unfold getAll at h
    cases e1 : slots.lookup n with
    | none =>
      rw [e1] at h
      cases h
    | some v =>
      cases e2 : getAll slots ns with
      | none =>
        rw [e1, e2] at h
        cases h
      | some ws =>
        rw [e1, e2] at h
        cases h
        rw [List.filterMap_cons, e1]
        show (n, v) :: _ = _
        rw [getAll_zip e2]
        rfl
theorem looks_forIn {M : Model} {h : Heap} {α β : Type} {f : α → β → Sem (ForInStep β)} : ∀ (l : List α) (b r : β) (g : β → List α → β → Prop), (∀ b x l r, g b (x :: l) r → ∃ b', Looks M h (f x b) (.yield b') ∧ g b' l r) → (∀ b r, g b [] r → b = r) → g b l r → Looks M h (forIn l b f) r
  | [], b, r, g, _, h0, hh => by
    rw [List.forIn_nil, h0 b r hh]
    exact .now
  | x :: l, b, r, g, hs, h0, hh => by
    obtain ⟨b', e, h'⟩ := hs b x l r hh
    rw [List.forIn_cons]
    exact e.andThen (looks_forIn l b' r g hs h0 h')
theorem bind_gen {M : Model} {h : Heap} {fd : FuncData} {us : List Value} {kws : List (Str × Value)} {normal kwonly : List Str} {dv : List Value} {kd : List (Str × Value)} {zs : List Value}
    (h1 : fd.params.posonlyargs = []) (h2 : fd.params.args.map (·.arg) = normal) (h3 : fd.params.kwonlyargs.map (·.arg) = kwonly) (h4 : fd.params.vararg = none) (h5 : fd.params.kwarg = none)
    (hd : ∃ o : Option (Array Value), Looks M h (seqItems? fd.defaults) o ∧ (o.getD #[]).toList = dv)
    (hk : ∀ k v, kd.lookup k = some v → ∃ D, fd.kwdefaults = .ref D ∧ Looks M h (nsGet D k) (some v))
    (e : bindV normal kwonly us kws dv kd = some zs) : Looks M h (bindArgs fd ⟨us, kws⟩) ((normal ++ kwonly).zip zs) := by
  unfold bindV at e
  split at e
  · rename_i hl
    obtain ⟨hl1, hl2⟩ := hl
    split at e
    · cases e
    · rename_i s1 e1
      split at e
      · rename_i hm
        split at e
        · cases e
        · rename_i s2 e2
          obtain ⟨o, ho, eo⟩ := hd
          unfold bindArgs
          simp only [h1, h2, h3, h4, h5, List.map_nil, List.nil_append]
          refine Looks.andThen (a := (s1, [])) (looks_forIn _ _ _ (fun b l r => b.2 = [] ∧ r.2 = [] ∧ kwAdd (normal ++ kwonly) b.1 l = some r.1) ?_ ?_ ⟨rfl, rfl, e1⟩) ?_
          · rintro ⟨b1, b2⟩ ⟨k, v⟩ l ⟨r1, r2⟩ ⟨hb, hr, hh⟩
            dsimp only at hb hr hh
            subst hb hr
            unfold kwAdd at hh
            split at hh
            · rename_i hc
              split at hh
              · cases hh
              · rename_i hn
                refine ⟨(b1 ++ [(k, v)], []), ?_, rfl, rfl, hh⟩
                have hc' : (normal.contains k || kwonly.contains k) = true := by
                  rw [List.contains_append] at hc
                  exact hc
                simp only [hc', if_true]
                rw [if_neg hn]
                exact .now
            · cases hh
          · rintro ⟨b1, b2⟩ ⟨r1, r2⟩ ⟨hb, hr, hh⟩
            dsimp only at hb hr hh
            subst hb hr
            cases hh
            rfl
          · dsimp only
            refine ho.andThen ?_
            simp only [eo]
            have hg : (decide (us.length > normal.length) && (none : Option Arg).isNone) = false := by
              rw [decide_eq_false (by omega)]
              rfl
            rw [if_neg (by rw [hg]; exact Bool.false_ne_true)]
            have hdrop : List.drop (dv.length - normal.length) dv = dv := by
              rw [show dv.length - normal.length = 0 by omega]
              rfl
            simp only [hdrop]
            rw [if_neg (by rw [hm]; decide)]
            refine Looks.andThen (a := dfAdd s1 ((normal.drop (normal.length - dv.length)).zip dv)) (looks_forIn _ _ _ (fun b l r => dfAdd b l = r) ?_ ?_ rfl) ?_
            · rintro b ⟨k, v⟩ l r hh
              unfold dfAdd at hh
              refine ⟨_, ?_, hh⟩
              dsimp only
              split
              · exact .now
              · exact .now
            · intro b r hh
              exact hh
            · refine Looks.andThen (a := (s2, [])) (looks_forIn _ _ _ (fun b l r => b.2 = [] ∧ r.2 = [] ∧ kdAdd kd b.1 l = some r.1) ?_ ?_ ⟨rfl, rfl, e2⟩) ?_
              · rintro ⟨b1, b2⟩ k l ⟨r1, r2⟩ ⟨hb, hr, hh⟩
                dsimp only at hb hr hh
                subst hb hr
                unfold kdAdd at hh
                dsimp only
                split at hh
                · rename_i hn
                  rw [if_pos hn]
                  split at hh
                  · rename_i v hv
                    obtain ⟨D, eD, lD⟩ := hk k v hv
                    refine ⟨(b1 ++ [(k, v)], []), ?_, rfl, rfl, hh⟩
                    rw [eD]
                    exact lD.andThen .now
                  · cases hh
                · rename_i hn
                  rw [if_neg hn]
                  exact ⟨(b1, []), .now, rfl, rfl, hh⟩
              · rintro ⟨b1, b2⟩ ⟨r1, r2⟩ ⟨hb, hr, hh⟩
                dsimp only at hb hr hh
                subst hb hr
                cases hh
                rfl
              · dsimp only
                rw [if_neg (by decide)]
                exact .of_pure (by rw [getAll_zip e])
      · cases e
  · cases e
end UL
set_option maxHeartbeats 400000
namespace UL
open PySem PySem.Spec PyProof.Rows L2 PySem.W

structure RoomU (k : Nat) (A : Around) : Prop where
  rm : Room k A
  gd : A.guards = some []
theorem RoomU.mono {j k : Nat} {A : Around} (r : RoomU k A) (h : j ≤ k) : RoomU j A := ⟨r.rm.mono h, r.gd⟩
theorem RoomU.deeper {k : Nat} {A : Around} (r : RoomU (k + 1) A) (env : Env) : RoomU k (A.deeper env) := ⟨r.rm.deeper env, r.gd⟩
theorem RoomU.in1 {k : Nat} {A : Around} (r : RoomU (k + 1) A) : RoomU k A.in1 := ⟨r.rm.in1, r.gd⟩
theorem make_guards {A : Around} {C : Addr} {us : List Value} {kw : List (Str × Value)} (h : A.guards = some []) : (A.under (.builtin "type.__call__" ⟨.ref C :: us, kw⟩)).guards = some [] := by
  simp [Around.under, Code.guards, Code.isGuard, guardIds, pushGuards, h]
theorem RoomU.make {k : Nat} {A : Around} (r : RoomU (k + 1) A) (C : Addr) (us : List Value) (kw : List (Str × Value)) : RoomU k (A.under (.builtin "type.__call__" ⟨.ref C :: us, kw⟩)) := ⟨r.rm.make C us kw, make_guards r.gd⟩

abbrev USp := List U → Gp → UK → UX → Prop
structure FnU (P : Program) (w : World) (K : PySem.W.Frag) (mg : Str → Option Value) (base : Heap) (k : Nat) (f : Addr) (fd : FuncData) (ps : List Str) (sp : USp) : Prop where
  run : ∀ (A : Around) (outer : List Env) (s : Shared) (H : Hp) (args : Args) (us : List Value) (vs : List V) (ws : List U) (G : Gp) (Q : UK) (E : UX), RoomU k A → Env0 P w K mg base A outer s H → BindsTo s fd args (ps.zip us) →
    Vals vs us → RelUs K H ws vs → ws.length = ps.length → Rep K H G → sp ws G Q E → codeAny (model P w) A (.call (.ref f) args) (CR (L2N.CX P w) outer P w H s (LV K H G Q) (LX K H G E)) s
theorem FnU.mono {P : Program} {w : World} {K : PySem.W.Frag} {mg : Str → Option Value} {base : Heap} {j k : Nat} {f : Addr} {fd : FuncData} {ps : List Str} {sp : USp} (F : FnU P w K mg base j f fd ps sp) (h : j ≤ k) : FnU P w K mg base k f fd ps sp :=
  ⟨fun A outer s H args us vs ws G Q E hr => F.run A outer s H args us vs ws G Q E (hr.mono h)⟩

def ustart (n : Nat) (ws : List U) : USt := ws.map some ++ List.replicate (n - ws.length) none
theorem RelS.nones {K : PySem.W.Frag} {H : Hp} : ∀ m : Nat, RelS K H (List.replicate m none) (List.replicate m none)
  | 0 => rfl
  | m + 1 => by
    rw [List.replicate_succ, List.replicate_succ]
    exact ⟨none, List.replicate m none, rfl, RelS.nones m⟩
theorem relS_start {K : PySem.W.Frag} {H : Hp} {n : Nat} {N : List Str} (hn : N.length = n) {ws : List U} {vs : List V} (h : RelUs K H ws vs) : RelS K H (ustart n ws) (L2.start N vs) := by
  have go : ∀ (m : Nat) {ws : List U} {vs : List V}, RelUs K H ws vs → RelS K H (ws.map some ++ List.replicate m none) (vs.map some ++ List.replicate m none) := by
    intro m ws
    induction ws with
    | nil =>
      intro vs h
      have e : vs = [] := h
      subst e
      exact RelS.nones m
    | cons w ws ih =>
      intro vs h
      obtain ⟨v, r, rfl, h1, h2⟩ := h
      exact ⟨v, _, rfl, h1, ih h2⟩
  unfold ustart L2.start
  rw [h.length, hn]
  exact go _ h

/-- a part of what is known -/
def Sub (G2 G1 : Gp) : Prop := ∀ a o, G2 a = some o → G1 a = some o
theorem Sub.refl (G : Gp) : Sub G G := fun _ _ h => h
theorem Sub.trans {G1 G2 G3 : Gp} (x : Sub G1 G2) (y : Sub G2 G3) : Sub G1 G3 := fun a o h => y a o (x a o h)
theorem Sub.rep {K : PySem.W.Frag} {H : Hp} {G1 G2 : Gp} (x : Sub G2 G1) (r : Rep K H G1) : Rep K H G2 := fun a o h => r a o (x a o h)
theorem Sub.ext {H H' : Hp} {G G1 G2 : Gp} (x : Sub G2 G1) (e : Ext H G H' G1) : Ext H G H' G2 := fun a o h g => by
  obtain ⟨h1, h2⟩ := e a o h g
  refine ⟨h1, ?_⟩
  cases z : G2 a with
  | none => rfl
  | some u =>
    rw [x a u z] at h2
    cases h2
/-- at the end a def may forget -/
def KF (Q : UK) : UK := fun u G => ∃ G2, Sub G2 G ∧ Q u G2
theorem KF.now {Q : UK} {u : U} {G : Gp} (h : Q u G) : KF Q u G := ⟨G, .refl G, h⟩
theorem lv_forget {K : PySem.W.Frag} {H H' : Hp} {G : Gp} {Q : UK} {v : V} : LV K H G (KF Q) v H' → LV K H G Q v H' := fun ⟨u, G', x, r, ru, G2, s, q⟩ => ⟨u, G2, s.ext x, s.rep r, ru, q⟩
def KX (E : UX) : UX := fun x G => ∃ G2, Sub G2 G ∧ E x G2
theorem KX.now {E : UX} {x : UExc} {G : Gp} (h : E x G) : KX E x G := ⟨G, .refl G, h⟩
theorem KX.of {E : UX} {x : UExc} {G G2 : Gp} (s : Sub G2 G) (h : E x G2) : KX E x G := ⟨G2, s, h⟩
def endsU (Q : UK) (E : UX) : UEnds := { nx := fun _ G => KF Q .non G, rt := KF Q, bk := fun _ _ => False, ct := fun _ _ => False, ex := fun x _ G => KX E x G }
/-- the frame of a def's body -/
abbrev wOf (K : PySem.W.Frag) (H : Hp) (G : Gp) (E : UX) : WX := fun c d _ H' => LX K H G E c d H'
abbrev cxU (P : Program) (w : World) (K : PySem.W.Frag) (mg : Str → Option Value) (base : Heap) (N : List Str) (qual : Str) (scope : Scope) (f : Addr) (cdv : Value) (A : Around) (outer : List Env) (s : Shared) (H : Hp) (E : XK) : Cx :=
  cxOf (L2N.CX P w) P w K mg base N qual scope f cdv A outer s H E
theorem takes_u {P : Program} {w : World} {K : PySem.W.Frag} {mg : Str → Option Value} {base : Heap} {N : List Str} {qual : Str} {scope : Scope} {f : Addr} {cdv : Value} {A : Around} {outer : List Env} {s : Shared} {H : Hp} {G : Gp} {E : UX} :
    L2N.Takes (cxU P w K mg base N qual scope f cdv A outer s H (LX K H G E)) (wOf K H G E) := L2N.takes_of rfl rfl rfl rfl

theorem fn_u {P : Program} {w : World} {K : PySem.W.Frag} {mg : Str → Option Value} {base : Heap} {k n : Nat} {f : Addr} {fd : FuncData} {name qual : Str} {params : Arguments} {body : List Stmt} {scope : Scope} {dvs : List V} {kws : List (Str × V)} {N ps : List Str} {sp : USp} {t : UTS}
    (F : FunD K name qual params body scope dvs kws f fd) (S : FnScope N ps scope) (hn : N.length = n)
    (hb : ∀ (cdv : Value) (A : Around) (outer : List Env) (s : Shared) (H : Hp) (G : Gp) (E : UX), RoomU k (A.deeper (envOfC qual scope s.heap.objs.size f cdv)) →
      SsU (cxU P w K mg base N qual scope f cdv A outer s H (LX K H G E)) (wOf K H G E) body t)
    (hsp : ∀ ws G Q E, sp ws G Q E → ws.length = ps.length → t (endsU Q E) (ustart n ws) G) : FnU P w K mg base (k + 1) f fd ps sp := by
  obtain ⟨oc, od, dV, kV, doc, pm, an, cdv, ct, osl, rfl, lk, hcd, _, _⟩ := F.ex
  refine ⟨fun A outer s H args us vs ws G Q E room at0 binds rv ru hlen rp want => ?_⟩
  have hvs : vs.length = ps.length := ru.length.trans hlen
  have inK : K.In s.heap := at0.mod.kin.keeps fun b o e => (at0.bs b o e).1
  have noLim : s.heap.NoLimit := at0.mod.nolimit.keeps fun b o e => (at0.bs b o e).1
  refine codeAny_call_function room.rm.depth (inK _ _ lk) rfl S.co S.gen rfl (PySem.W.codeRec_of inK hcd) (binds _ _ _ _ ?_)
  refine wpAny_newFunctionEnv_cells S.kind (fun q hq => ?_) fun env he s1 x => ?_
  · rcases S.par q.1 (List.of_mem_zip (show (q.1, q.2) ∈ ps.zip us from hq)).1 with z | z
    · exact .inl z
    · exact .inr ⟨z, PySem.W.cellsFrom_some _ _ _ (.inl z)⟩
  subst he
  refine ⟨noLim.keeps x.toInCall.keep, codeAny_func ?_⟩
  have I0 : Inv (cxU P w K mg base N qual scope f cdv A outer s H (LX K H G E)) [] (L2.start N vs) H s1 := inv_start S room.rm.hd at0 hvs rv x
  have body_ := (hb cdv A outer s H G E (room.deeper _)).run [] s1 (L2.start N vs) H (ustart n ws) G (endsU Q E) I0 (relS_start hn ru) rp (hsp ws G Q E want hlen)
    fun c d σ' H' ⟨y, us', G', x1, rp', _, q, G2, sb, z⟩ => ⟨y, G2, sb.ext x1, sb.rep rp', q, z⟩
  have done_ : ∀ {σ' : L2.St} {H' : Hp} {v : V} {u : Value} {s' : Shared}, Inv (cxU P w K mg base N qual scope f cdv A outer s H (LX K H G E)) [] σ' H' s' → RelV v u → LV K H G (KF Q) v H' → L2.CE outer P w H s (LV K H G Q) u s' :=
    fun {σ' H' v u s'} J r q => ⟨v, H', J.os, J.bare, J.base, J.hok, r, lv_forget q⟩
  refine wpAny_mono body_ (fun fl s' hs => ?_) fun e s' hs => hs
  cases fl with
  | next =>
    obtain ⟨σ', H', J, us', G', x1, rp', _, q⟩ := hs
    exact done_ (v := V.non) (u := Value.none) J rfl ⟨.non, G', x1, rp', rfl, q⟩
  | ret u =>
    obtain ⟨v, σ', H', J, r, q⟩ := hs
    exact done_ J r q
  | brk =>
    obtain ⟨_, _, _, _, _, _, _, _, q⟩ := hs
    exact q.elim
  | cont =>
    obtain ⟨_, _, _, _, _, _, _, _, q⟩ := hs
    exact q.elim
end UL
set_option maxHeartbeats 400000
namespace UL
open PySem PySem.Spec PyProof.Rows L2 PySem.W

inductive Src where | p (i : Nat) | k (i : Nat) | d (i : Nat) | q (i : Nat)
  deriving DecidableEq
def Src.get {α : Type} (z : α) (us ws dv kv : List α) : Src → α
  | .p i => us.getD i z
  | .k i => ws.getD i z
  | .d i => dv.getD i z
  | .q i => kv.getD i z
section
variable {α β : Type} (f : α → β)
def mp (l : List (Str × α)) : List (Str × β) := l.map fun q => (q.1, f q.2)
theorem lookup_mp (k : Str) : ∀ l : List (Str × α), (mp f l).lookup k = (l.lookup k).map f
  | [] => rfl
  | (a, b) :: r => by
    show List.lookup k ((a, f b) :: mp f r) = _
    rw [List.lookup_cons, List.lookup_cons]
    cases h : k == a with
    | true => simp [h]
    | false => simp [h, lookup_mp k r]
theorem mp_append (l r : List (Str × α)) : mp f (l ++ r) = mp f l ++ mp f r := List.map_append
theorem zip_mp (l : List Str) (r : List α) : l.zip (r.map f) = mp f (l.zip r) := by
  unfold mp
  induction l generalizing r with
  | nil => rfl
  | cons a l ih =>
    cases r with
    | nil => rfl
    | cons b r => simp [ih]
theorem kwAdd_mp (names : List Str) : ∀ (ks s : List (Str × α)), kwAdd names (mp f s) (mp f ks) = (kwAdd names s ks).map (mp f)
  | [], s => rfl
  | (k, v) :: r, s => by
    show (if names.contains k then (if ((mp f s).lookup k).isSome then none else kwAdd names (mp f s ++ [(k, f v)]) (mp f r)) else none) = _
    rw [lookup_mp, Option.isSome_map, show mp f s ++ [(k, f v)] = mp f (s ++ [(k, v)]) from (mp_append f s [(k, v)]).symm, kwAdd_mp names r]
    rw [kwAdd]
    split
    · split <;> rfl
    · rfl
theorem dfAdd_mp : ∀ (ks s : List (Str × α)), dfAdd (mp f s) (mp f ks) = mp f (dfAdd s ks)
  | [], s => rfl
  | (k, v) :: r, s => by
    show dfAdd (if ((mp f s).lookup k).isNone then mp f s ++ [(k, f v)] else mp f s) (mp f r) = _
    rw [lookup_mp, Option.isNone_map, show mp f s ++ [(k, f v)] = mp f (s ++ [(k, v)]) from (mp_append f s [(k, v)]).symm]
    rw [dfAdd]
    split
    · exact dfAdd_mp r _
    · exact dfAdd_mp r _
theorem kdAdd_mp (kd : List (Str × α)) : ∀ (ks : List Str) (s : List (Str × α)), kdAdd (mp f kd) (mp f s) ks = (kdAdd kd s ks).map (mp f)
  | [], s => rfl
  | k :: r, s => by
    rw [kdAdd, kdAdd, lookup_mp, lookup_mp, Option.isNone_map]
    split
    · cases kd.lookup k with
      | none => rfl
      | some v =>
        show kdAdd (mp f kd) (mp f s ++ [(k, f v)]) r = _
        rw [show mp f s ++ [(k, f v)] = mp f (s ++ [(k, v)]) from (mp_append f s [(k, v)]).symm]
        exact kdAdd_mp kd r _
    · exact kdAdd_mp kd r s
theorem getAll_mp (s : List (Str × α)) : ∀ ks : List Str, getAll (mp f s) ks = (getAll s ks).map (List.map f)
  | [] => rfl
  | k :: r => by
    rw [getAll, getAll, lookup_mp, getAll_mp s r]
    cases s.lookup k <;> cases getAll s r <;> rfl
theorem bindV_mp (normal kwonly : List Str) (us : List α) (kws : List (Str × α)) (dv : List α) (kd : List (Str × α)) :
    bindV normal kwonly (us.map f) (mp f kws) (dv.map f) (mp f kd) = (bindV normal kwonly us kws dv kd).map (List.map f) := by
  unfold bindV
  rw [List.length_map, List.length_map, zip_mp, kwAdd_mp, zip_mp]
  split
  · cases kwAdd (normal ++ kwonly) (normal.zip us) kws with
    | none => rfl
    | some s1 =>
      dsimp only [Option.map]
      have e : (List.filter (fun n => (List.lookup n (mp f s1)).isNone) (List.take (normal.length - dv.length) normal)) = (List.filter (fun n => (List.lookup n s1).isNone) (List.take (normal.length - dv.length) normal)) := by
        congr 1
        funext n
        rw [lookup_mp, Option.isNone_map]
      rw [e, dfAdd_mp, kdAdd_mp]
      split
      · cases kdAdd kd (dfAdd s1 ((normal.drop (normal.length - dv.length)).zip dv)) kwonly with
        | none => rfl
        | some s2 => exact getAll_mp f s2 _
      · rfl
  · rfl
end
theorem range_get {α : Type} (z : α) (us : List α) {n : Nat} (h : us.length = n) : (List.range n).map (fun i => us.getD i z) = us := by
  apply List.ext_getElem
  · simp [h]
  · intro i h1 h2
    simp [List.getElem?_eq_getElem h2]
def planOf (normal kwonly : List Str) (n : Nat) (ks : List Str) (a : Nat) (kn : List Str) : Option (List Src) :=
  bindV normal kwonly ((List.range n).map .p) (ks.zip ((List.range ks.length).map .k)) ((List.range a).map .d) (kn.zip ((List.range kn.length).map .q))
theorem bindV_plan {α : Type} (z : α) {normal kwonly : List Str} {n a : Nat} {ks kn : List Str} {pl : List Src} (e : planOf normal kwonly n ks a kn = some pl) {us ws dv kv : List α} (h1 : us.length = n) (h2 : ws.length = ks.length) (h3 : dv.length = a) (h4 : kv.length = kn.length) :
    bindV normal kwonly us (ks.zip ws) dv (kn.zip kv) = some (pl.map (Src.get z us ws dv kv)) := by
  have q := bindV_mp (Src.get z us ws dv kv) normal kwonly ((List.range n).map Src.p) (ks.zip ((List.range ks.length).map .k)) ((List.range a).map .d) (kn.zip ((List.range kn.length).map .q))
  rw [show bindV normal kwonly ((List.range n).map Src.p) (ks.zip ((List.range ks.length).map .k)) ((List.range a).map .d) (kn.zip ((List.range kn.length).map .q)) = some pl from e] at q
  rw [← zip_mp, ← zip_mp, List.map_map, List.map_map, List.map_map, List.map_map] at q
  rw [show (List.range n).map (Src.get z us ws dv kv ∘ Src.p) = us from range_get z us h1, show (List.range ks.length).map (Src.get z us ws dv kv ∘ Src.k) = ws from range_get z ws h2,
    show (List.range a).map (Src.get z us ws dv kv ∘ Src.d) = dv from range_get z dv h3, show (List.range kn.length).map (Src.get z us ws dv kv ∘ Src.q) = kv from range_get z kv h4] at q
  exact q
theorem paired_getD {α β : Type} {R : α → β → Prop} {z : α} {y : β} (h0 : R z y) : ∀ {l : List α} {r : List β} (i : Nat), Paired R l r → R (l.getD i z) (r.getD i y)
  | _, _, i, .nil => by simpa using h0
  | _, _, 0, .cons h _ => by simpa using h
  | _, _, i + 1, .cons _ t => by simpa using paired_getD h0 i t
theorem RelUs.getD {K : PySem.W.Frag} {H : Hp} : ∀ {us : List U} {vs : List V} (i : Nat), RelUs K H us vs → RelU K H (us.getD i .non) (vs.getD i .non)
  | [], _, i, e => by
    have e' : _ = ([] : List V) := e
    subst e'
    simp [RelU]
  | _ :: _, _, 0, ⟨v, ws, rfl, h, t⟩ => by simpa using h
  | _ :: us, _, i + 1, ⟨v, ws, rfl, h, t⟩ => by simpa using RelUs.getD i t
theorem plan_vals {us ws dv kv : List Value} {vs zs d q : List V} (h1 : Vals vs us) (h2 : Vals zs ws) (h3 : Vals d dv) (h4 : Vals q kv) : ∀ pl : List Src, Vals (pl.map (Src.get .non vs zs d q)) (pl.map (Src.get .none us ws dv kv))
  | [] => .nil
  | .p i :: pl => .cons (paired_getD (R := RelV) (z := V.non) (y := Value.none) rfl i h1) (plan_vals h1 h2 h3 h4 pl)
  | .k i :: pl => .cons (paired_getD (R := RelV) (z := V.non) (y := Value.none) rfl i h2) (plan_vals h1 h2 h3 h4 pl)
  | .d i :: pl => .cons (paired_getD (R := RelV) (z := V.non) (y := Value.none) rfl i h3) (plan_vals h1 h2 h3 h4 pl)
  | .q i :: pl => .cons (paired_getD (R := RelV) (z := V.non) (y := Value.none) rfl i h4) (plan_vals h1 h2 h3 h4 pl)
theorem plan_rel {K : PySem.W.Frag} {H : Hp} {us ws dv kv : List U} {vs zs d q : List V} (h1 : RelUs K H us vs) (h2 : RelUs K H ws zs) (h3 : RelUs K H dv d) (h4 : RelUs K H kv q) : ∀ pl : List Src, RelUs K H (pl.map (Src.get .non us ws dv kv)) (pl.map (Src.get .non vs zs d q))
  | [] => rfl
  | .p i :: pl => ⟨_, _, rfl, h1.getD i, plan_rel h1 h2 h3 h4 pl⟩
  | .k i :: pl => ⟨_, _, rfl, h2.getD i, plan_rel h1 h2 h3 h4 pl⟩
  | .d i :: pl => ⟨_, _, rfl, h3.getD i, plan_rel h1 h2 h3 h4 pl⟩
  | .q i :: pl => ⟨_, _, rfl, h4.getD i, plan_rel h1 h2 h3 h4 pl⟩

def parN (p : Arguments) : List Str := p.args.map (·.arg)
def parK (p : Arguments) : List Str := p.kwonlyargs.map (·.arg)
/-- no parameter behind a slash, none starred -/
structure Plain (p : Arguments) : Prop where
  po : p.posonlyargs = []
  va : p.vararg = none
  kw : p.kwarg = none
theorem lookup_zip_mem {α : Type} {k : Str} {v : α} : ∀ {ks : List Str} {vs : List α}, (ks.zip vs).lookup k = some v → (k, v) ∈ ks.zip vs
  | [], _, h => by simp at h
  | _ :: _, [], h => by simp at h
  | a :: ks, b :: vs, h => by
    rw [List.zip_cons_cons, List.lookup_cons] at h
    cases e : k == a with
    | true =>
      rw [e] at h
      cases h
      rw [beq_iff_eq.mp e]
      exact List.mem_cons_self
    | false =>
      rw [e] at h
      exact List.mem_cons_of_mem _ (lookup_zip_mem h)
/-- how a call with n positional values and keywords ks binds the parameters of the def -/
structure BindU (K : PySem.W.Frag) (fd : FuncData) (ps : List Str) (n : Nat) (ks : List Str) (pl : List Src) (dvs kvs : List V) : Prop where
  ex : ∃ dv kv : List Value, Vals dvs dv ∧ Vals kvs kv ∧ ∀ (s : Shared) (us ws : List Value), K.In s.heap → us.length = n → ws.length = ks.length → BindsTo s fd ⟨us, ks.zip ws⟩ (ps.zip (pl.map (Src.get .none us ws dv kv)))
theorem bind_u {K : PySem.W.Frag} {name qual : Str} {params : Arguments} {body : List Stmt} {scope : Scope} {dvs : List V} {kws : List (Str × V)} {f : Addr} {fd : FuncData} {n : Nat} {ks : List Str} {pl : List Src}
    (F : FunD K name qual params body scope dvs kws f fd) (hp : Plain params) (e : planOf (parN params) (parK params) n ks dvs.length (kws.map (·.1)) = some pl) :
    BindU K fd (parN params ++ parK params) n ks pl dvs (kws.map (·.2)) := by
  obtain ⟨oc, od, dV, kV, doc, pm, an, cdv, ct, osl, rfl, lk, hcd, hD, hK⟩ := F.ex
  have hd : ∃ dv : List Value, Vals dvs dv ∧ ∀ (M : Model) (h : Heap), K.In h → ∃ o : Option (Array Value), Looks M h (seqItems? dV) o ∧ (o.getD #[]).toList = dv := by
    rcases hD with ⟨rfl, rfl⟩ | ⟨_, T, o, its, m, rfl, lT, oT, rT⟩
    · exact ⟨[], .nil, fun M h _ => ⟨none, .of_pure rfl, rfl⟩⟩
    · refine ⟨its, rT, fun M h X => ⟨some its.toArray, fun A Q E s kp q => ?_, by simp⟩⟩
      exact wpAny_seqItems (kp _ _ (X _ _ lT)) oT q
  have hk : ∃ kv : List Value, Vals (kws.map (·.2)) kv ∧ ∀ (M : Model) (h : Heap), K.In h → ∀ k v, ((kws.map (·.1)).zip kv).lookup k = some v → ∃ D, kV = .ref D ∧ Looks M h (nsGet D k) (some v) := by
    rcases hK with rfl | ⟨D, rfl, hq⟩
    · exact ⟨[], .nil, fun M h _ k v z => by simp at z⟩
    · obtain ⟨kv, _, rk, hks⟩ := kwd_vals hq
      exact ⟨kv, rk, fun M h X k v z => ⟨D, rfl, looks_nsIn X (hks (k, v) (lookup_zip_mem z))⟩⟩
  obtain ⟨dv, rd, hd⟩ := hd
  obtain ⟨kv, rk, hk⟩ := hk
  refine ⟨dv, kv, rd, rk, fun s us ws X l1 l2 => BindsTo.of_looks fun M => ?_⟩
  exact bind_gen (fd := PySem.W.fnOf name qual params body scope dV kV doc pm an cdv ct) hp.po rfl rfl hp.va hp.kw (hd M _ X) (hk M _ X) (bindV_plan .none e l1 l2 rd.length.symm (by rw [← rk.length, List.length_map, List.length_map]))
end UL
set_option maxHeartbeats 400000
namespace UL
open PySem PySem.Spec PyProof.Rows L2 PySem.W

structure KU (X : Cx) (W : WX) (kws : List Keyword) (t : UTA) : Prop where
  run : ∀ (pos : Pos) (pins : List (Addr × Obj)) (s : Shared) (σ : L2.St) (H : Hp) (us : USt) (G : Gp) (Q : List U → Gp → Prop) (E : UX), Inv X pins σ H s → RelS X.K H us σ → Rep X.K H G → t us G Q E →
    (∀ c d H', LX X.K H G E c d H' → W c d σ H') → wpAny (model X.prog X.w) X.A (evalAll ((backToKw pos (keywordEach kws X.env)).map (·.2))) (AP X pins σ (LA X.K H G Q)) X.xe s
section
variable {X : Cx} {W : WX} {e : Expr} {es : List Expr} {kws : List Keyword} {te : UTE} {t tk ta : UTA} {nm : Option Str} {pos p kpos apos : Pos}
theorem ku_nil : KU X W [] tUNil := ⟨fun _ _ s σ H us G Q E I rs rp h _ => wpAny_evalAll_nil ⟨[], H, I, .nil, [], G, .refl _ _, rp, rfl, h⟩⟩
theorem ku_cons (ha : EU X W e te) (hr : KU X W kws t) : KU X W (⟨nm, e, kpos⟩ :: kws) (tUCons te t) := by
  refine ⟨fun pos pins s σ H us G Q E I rs rp h hx => ?_⟩
  show wpAny _ _ (evalAll ((do let v ← eval e X.env; standAt pos; pure v) :: (backToKw pos (keywordEach kws X.env)).map (·.2))) _ _ s
  refine wpAny_evalAll_cons (wpAny_bind (thn (ha.run pins s σ H us G _ E I rs rp h hx) fun u s1 ⟨x, H1, I1, r1, w, G1, x1, rp1, ru, q1⟩ => wpAny_bind (wpAny_standAt (wpAny_pure ?_))))
  refine thn (hr.run pos pins s1 σ H1 us G1 _ E I1 (rs.ext x1 rp) rp1 q1 fun c d H' z => hx c d H' (z.trans x1)) fun vs s2 ⟨xs, H2, I2, r2, ws, G2, x2, rp2, ru2, q2⟩ => ?_
  exact ⟨x :: xs, H2, I2, .cons r1 r2, w :: ws, G2, x1.trans x2, rp2, ⟨x, xs, rfl, ru.ext x2 rp1, ru2⟩, q2⟩

/-- the first argument is not starred; no argument: no value -/
def Unst (env : Env) : List Expr → UTA → Prop
  | [], t => ∀ us G Q E, t us G Q E → Q [] G
  | e :: r, _ => starEach (e :: r) env = (false, eval e env) :: starEach r env
theorem unst_nil {env : Env} : Unst env [] tUNil := fun _ _ _ _ h => h
/-- values come, then the callee runs -/
theorem call_with {f : Value} {first : List Value} {ks : List Str} (hk : PySem.W.keepIn X.K f = true) (ha : AU X W es ta) (hkw : KU X W kws tk) (hst : Unst X.env es ta)
    (hall : (backToKw pos (keywordEach kws X.env)).all (·.1.isSome) = true) (hks : (backToKw pos (keywordEach kws X.env)).filterMap (·.1) = ks)
    (hpl : ((backTo pos (starEach es X.env)).any (·.1) || (backToKw pos (keywordEach kws X.env)).any (·.1.isNone)) = false)
    {pins : List (Addr × Obj)} {s : Shared} {σ : L2.St} {H : Hp} {us : USt} {G : Gp} {R : List U → List U → Gp → Prop} {Q : Value → Shared → Prop} {E : UX} (I : Inv X pins σ H s) (rs : RelS X.K H us σ) (rp : Rep X.K H G)
    (h : ta us G (fun vs G1 => tk us G1 (fun zs G2 => R vs zs G2) E) E) (hx : ∀ c d H', LX X.K H G E c d H' → W c d σ H')
    (go : ∀ (s2 : Shared) (H2 : Hp) (G2 : Gp) (vs zs : List U) (vv zv : List V) (vl zl : List Value), Inv X pins σ H2 s2 → Ext H G H2 G2 → Rep X.K H2 G2 → Vals vv vl → Vals zv zl → RelUs X.K H2 vs vv → RelUs X.K H2 zs zv → R vs zs G2 →
      wpAny (model X.prog X.w) X.A (call f (first ++ vl) (ks.zip zl)) Q X.xe s2) :
    wpAny (model X.prog X.w) X.A (callWith pos f first (backTo pos (starEach es X.env)) (backToKw pos (keywordEach kws X.env))) Q X.xe s := by
  have kwp : ∀ {s1 : Shared} {H1 : Hp} {G1 : Gp} {vs : List U} {vv : List V} {vl : List Value}, Inv X pins σ H1 s1 → Ext H G H1 G1 → Rep X.K H1 G1 → Vals vv vl → RelUs X.K H1 vs vv → tk us G1 (fun zs G2 => R vs zs G2) E →
      wpAny (model X.prog X.w) X.A (evalAll ((backToKw pos (keywordEach kws X.env)).map (·.2))) (fun zl s2 => X.K.In s2.heap ∧ wpAny (model X.prog X.w) X.A (call f (first ++ vl) (((backToKw pos (keywordEach kws X.env)).filterMap (·.1)).zip zl)) Q X.xe s2) X.xe s1 := by
    intro s1 H1 G1 vs vv vl I1 x1 rp1 rv ru q
    refine thn (hkw.run pos pins s1 σ H1 us G1 _ E I1 (rs.ext x1 rp) rp1 q fun c d H' z => hx c d H' (z.trans x1)) fun zl s2 ⟨zv, H2, I2, rz, zs, G2, x2, rp2, ru2, q2⟩ => ⟨I2.kIn, ?_⟩
    rw [hks]
    exact go s2 H2 G2 vs zs vv zv vl zl I2 (x1.trans x2) rp2 rv rz (ru.ext x2 rp1) ru2 q2
  cases es with
  | nil =>
    refine PySem.W.callWith_KW0 (h₀ := X.base) I.ok.mod.kin hk hall ?_ hpl
    exact kwp (vs := []) (vv := []) (vl := []) I (.refl _ _) rp .nil rfl (hst _ _ _ _ h)
  | cons e r =>
    exact PySem.W.callWith_KW (h₀ := X.base) I.ok.mod.kin hk hall (thn (ha.run pos pins s σ H us G _ E I rs rp h hx) fun vl s1 ⟨vv, H1, I1, rv, vs, G1, x1, rp1, ru, q⟩ => kwp I1 x1 rp1 rv ru q) hpl hst

variable {k n : Nat} {f : Addr} {fd : FuncData} {ps ks : List Str} {sp : USp} {pl : List Src} {dvs kvs : List V} {udv ukv : List U}
theorem run_uA {A : Around} {pins : List (Addr × Obj)} {s2 : Shared} {σ : L2.St} {H H2 : Hp} {G G2 : Gp} {Q : UK} {E : UX} {vs zs : List U} {vv zv : List V} {vl zl : List Value}
    (F : FnU X.prog X.w X.K X.mg X.base k f fd ps sp) (hr : RoomU k A) (frA : A.frames = some X.stack) (hb : BindU X.K fd ps n ks pl dvs kvs) (hd : ∀ H, RelUs X.K H udv dvs) (hk : ∀ H, RelUs X.K H ukv kvs) (tk : L2N.Takes X W)
    (I : Inv X pins σ H2 s2) (x : Ext H G H2 G2) (rp : Rep X.K H2 G2) (rv : Vals vv vl) (rz : Vals zv zl) (ru : RelUs X.K H2 vs vv) (ruz : RelUs X.K H2 zs zv) (l1 : vs.length = n) (l2 : zs.length = ks.length) (l3 : pl.length = ps.length)
    (h : sp (pl.map (Src.get .non vs zs udv ukv)) G2 Q E) (hx : ∀ c d H', LX X.K H G E c d H' → W c d σ H') :
    wpAny (model X.prog X.w) A (call (.ref f) vl (ks.zip zl)) (EP X pins σ (LV X.K H G Q)) X.xe s2 := by
  obtain ⟨dv, kv, rd, rk, bt⟩ := hb.ex
  have bt2 := bt s2 vl zl I.kIn (by rw [← rv.length, ru.length, l1]) (by rw [← rz.length, ruz.length, l2])
  have lv := plan_vals rv rz rd rk pl
  have lu := plan_rel ru ruz (hd H2) (hk H2) pl
  refine wpAny_call (codeAny_mono (F.run A X.stack s2 H2 ⟨vl, ks.zip zl⟩ _ _ _ G2 Q E hr ⟨frA, I.env0.mod, I.env0.bs, I.env0.bsz, I.env0.funs, I.env0.frf, I.env0.hok, I.env0.bare⟩ bt2 lv lu (by rw [List.length_map, l3]) rp h) fun r s' hq => ?_)
  cases r with
  | error e => exact tk e s' (L2N.XE.of_call I (fun c d H' z => hx c d H' (z.trans x)) hq)
  | ok fl =>
    cases fl with
    | ret u => exact ep_imp (fun v H' q => q.trans x) (I.after hq)
    | next => exact False.elim hq
    | brk => exact False.elim hq
    | cont => exact False.elim hq

theorem run_u {pins : List (Addr × Obj)} {s2 : Shared} {σ : L2.St} {H H2 : Hp} {G G2 : Gp} {Q : UK} {E : UX} {vs zs : List U} {vv zv : List V} {vl zl : List Value}
    (F : FnU X.prog X.w X.K X.mg X.base k f fd ps sp) (hr : RoomU k X.A) (hb : BindU X.K fd ps n ks pl dvs kvs) (hd : ∀ H, RelUs X.K H udv dvs) (hk : ∀ H, RelUs X.K H ukv kvs) (tk : L2N.Takes X W)
    (I : Inv X pins σ H2 s2) (x : Ext H G H2 G2) (rp : Rep X.K H2 G2) (rv : Vals vv vl) (rz : Vals zv zl) (ru : RelUs X.K H2 vs vv) (ruz : RelUs X.K H2 zs zv) (l1 : vs.length = n) (l2 : zs.length = ks.length) (l3 : pl.length = ps.length)
    (h : sp (pl.map (Src.get .non vs zs udv ukv)) G2 Q E) (hx : ∀ c d H', LX X.K H G E c d H' → W c d σ H') :
    wpAny (model X.prog X.w) X.A (call (.ref f) vl (ks.zip zl)) (EP X pins σ (LV X.K H G Q)) X.xe s2 :=
  run_uA F hr I.ok.frames hb hd hk tk I x rp rv rz ru ruz l1 l2 l3 h hx
def tUDef (sp : USp) (n m : Nat) (pl : List Src) (udv ukv : List U) (t tk : UTA) : UTE := fun us G Q E => t us G (fun vs G1 => tk us G1 (fun zs G2 => vs.length = n ∧ zs.length = m ∧ sp (pl.map (Src.get .non vs zs udv ukv)) G2 Q E) E) E
theorem eu_call {x : Str} (F : FnU X.prog X.w X.K X.mg X.base k f fd ps sp) (hr : RoomU k X.A) (hg : Gl X x) (hm : X.mg x = some (.ref f)) (hkp : PySem.W.keepIn X.K (.ref f) = true) (hb : BindU X.K fd ps n ks pl dvs kvs)
    (hd : ∀ H, RelUs X.K H udv dvs) (hk : ∀ H, RelUs X.K H ukv kvs) (hT : L2N.Takes X W) (l3 : pl.length = ps.length) (ha : AU X W es ta) (hkw : KU X W kws tk) (hst : Unst X.env es ta)
    (hall : (backToKw pos (keywordEach kws X.env)).all (·.1.isSome) = true) (hks : (backToKw pos (keywordEach kws X.env)).filterMap (·.1) = ks)
    (hpl : ((backTo pos (starEach es X.env)).any (·.1) || (backToKw pos (keywordEach kws X.env)).any (·.1.isNone)) = false) (hdb : (x == ("__debug__" : Str)) = false) :
    EU X W (.Call (.Name x p) es kws pos) (tUDef sp n ks.length pl udv ukv ta tk) := by
  refine ⟨fun pins s σ H us G Q E I rs rp h hx => ?_⟩
  refine wpAny_Call_Name_kw (ld_glob I hg hm ?_ hdb)
  refine call_with (first := []) hkp ha hkw hst hall hks hpl I rs rp h hx fun s2 H2 G2 vs zs vv zv vl zl I2 x2 rp2 rv rz ru ruz ⟨l1, l2, q⟩ => ?_
  exact run_u F hr hb hd hk hT I2 x2 rp2 rv rz ru ruz l1 l2 l3 q hx
end
end UL
set_option maxHeartbeats 400000
namespace UL
open PySem PySem.Spec PyProof.Rows L2

section
variable {K : PySem.W.Frag} {H : Hp} {G : Gp}
theorem relUs1 {u : U} {xs : List V} (h : RelUs K H [u] xs) : ∃ x, xs = [x] ∧ RelU K H u x := by
  obtain ⟨v, ws, rfl, h1, h2⟩ := h
  have e : ws = [] := h2
  subst e
  exact ⟨v, rfl, h1⟩
theorem relUs2 {u w : U} {xs : List V} (h : RelUs K H [u, w] xs) : ∃ x y, xs = [x, y] ∧ RelU K H u x ∧ RelU K H w y := by
  obtain ⟨v, ws, rfl, h1, h2⟩ := h
  obtain ⟨y, rfl, h3⟩ := relUs1 h2
  exact ⟨v, y, rfl, h1, h3⟩
end
def u1 (f : U → Gp → UK → Prop) : URC := fun as G Q _ => match as with
  | [u] => f u G Q
  | _ => False
def u2 (f : U → U → Gp → UK → Prop) : URC := fun as G Q _ => match as with
  | [u, w] => f u w G Q
  | _ => False
theorem u1_of {f : U → Gp → UK → Prop} {as : List U} {G : Gp} {Q : UK} {E : UX} (h : u1 f as G Q E) : ∃ u, as = [u] ∧ f u G Q := by
  rcases as with _ | ⟨a, _ | ⟨b, r⟩⟩
  · exact h.elim
  · exact ⟨a, rfl, h⟩
  · exact h.elim
theorem u2_of {f : U → U → Gp → UK → Prop} {as : List U} {G : Gp} {Q : UK} {E : UX} (h : u2 f as G Q E) : ∃ u w, as = [u, w] ∧ f u w G Q := by
  rcases as with _ | ⟨a, _ | ⟨b, _ | ⟨c, r⟩⟩⟩
  · exact h.elim
  · exact h.elim
  · exact ⟨a, b, rfl, h⟩
  · exact h.elim
def absV : U → Gp → UK → Prop := fun u G Q => match u with
  | .int i => Q (.int (if i < 0 then -i else i)) G
  | _ => False
def maxV : U → U → Gp → UK → Prop := fun u w G Q => match u, w with
  | .int i, .int j => Q (.int (if j > i then j else i)) G
  | _, _ => False
def minV : U → U → Gp → UK → Prop := fun u w G Q => match u, w with
  | .int i, .int j => Q (.int (if j < i then j else i)) G
  | _, _ => False
def intV : U → Gp → UK → Prop := fun u G Q => match u with
  | .int i => Q (.int i) G
  | .bl k => Q (.int (if k then 1 else 0)) G
  | _ => False
/-- the items of a list or tuple -/
def seqOf (G : Gp) : U → Option (List U)
  | .tup us => some us
  | .rol us => some us
  | .ref a => match G a with
    | some (.lst us) => some us
    | _ => none
  | _ => none
def lenV : U → Gp → UK → Prop := fun u G Q => match u with
  | .str l => l.length ≤ 1000000 ∧ Q (.int l.length) G
  | .ref a => (match G a with
    | some (.lst us) => Q (.int us.length) G
    | some (.dct us) => Q (.int us.length) G
    | _ => False)
  | .tup us => Q (.int us.length) G
  | .rol us => Q (.int us.length) G
  | _ => False
def tupleV : U → Gp → UK → Prop := fun u G Q => match seqOf G u with
  | some us => Q (.tup us) G
  | none => False
def listV : U → Gp → UK → Prop := fun u G Q => match seqOf G u with
  | some us => ∀ p, G p = none → Q (.ref p) (gup G p (.lst us))
  | none => False
/-- what repr shows of data: its text fits -/
def Shows (G : Gp) (u : U) (d : PyData) : Prop := Dat G u d ∧ d.showable = true ∧ d.depth ≤ 40 ∧ d.shown.length ≤ sizeLine
theorem seq_rel {K : PySem.W.Frag} {H : Hp} {G : Gp} {u : U} {x : V} {us : List U} (rp : Rep K H G) (r : RelU K H u x) (h : seqOf G u = some us) : ∃ p vs, x = .ref p ∧ RelUs K H us vs ∧ (SqL K H p vs ∨ (SqT K H p vs ∧ u = .tup us)) := by
  cases u with
  | tup ws =>
    cases h
    obtain ⟨a, vs, rfl, t, ru⟩ := r.tup_of
    exact ⟨a, vs, rfl, ru, .inr ⟨t, rfl⟩⟩
  | rol ws =>
    cases h
    obtain ⟨a, vs, rfl, t, ru⟩ := r
    exact ⟨a, vs, rfl, ru, .inl t.sq⟩
  | ref a =>
    have h' : (match G a with
      | some (.lst us) => some us
      | _ => none) = some us := h
    cases g : G a with
    | none => rw [g] at h'; cases h'
    | some o =>
      rw [g] at h'
      cases o with
      | lst ws =>
        cases h'
        obtain ⟨vs, e1, ru⟩ := rp.lst g
        exact ⟨a, vs, r, ru, .inl (.of e1)⟩
      | _ => cases h'
  | _ => cases h
theorem relKV_length {K : PySem.W.Frag} {H : Hp} : ∀ {us : List (U × U)} {vs : List (Key × V)}, RelKV K H us vs → vs.length = us.length
  | [], vs, h => by
    have e : vs = [] := h
    subst e
    rfl
  | _ :: us, _, ⟨_, _, ws, rfl, _, _, t⟩ => by
    show ws.length + 1 = us.length + 1
    rw [relKV_length t]
mutual
theorem Dp.noDict {K : PySem.W.Frag} {H : Hp} : ∀ (d : PyData) (v : V), Dp K H v d → d.hasDict = false
  | .none, _, _ => by simp only [PyData.hasDict]
  | .bool _, _, _ => by simp only [PyData.hasDict]
  | .int _, _, _ => by simp only [PyData.hasDict]
  | .str _, _, _ => by simp only [PyData.hasDict]
  | .list ds, _, h => by
    cases h with
    | lst _ ha =>
      simp only [PyData.hasDict]
      exact Dp.noDictAll ds _ ha
  | .tuple ds, _, h => by
    cases h with
    | tup _ ha =>
      simp only [PyData.hasDict]
      exact Dp.noDictAll ds _ ha
  | .dict _, _, h => by cases h
theorem Dp.noDictAll {K : PySem.W.Frag} {H : Hp} : ∀ (ds : List PyData) (vs : List V), DpAll K H vs ds → PyData.hasDictAll ds = false
  | [], _, _ => by simp only [PyData.hasDictAll]
  | d :: ds, _, h => by
    cases h with
    | cons h1 h2 => simp only [PyData.hasDictAll, Dp.noDict d _ h1, Dp.noDictAll ds _ h2, Bool.or_self]
end
section
variable {X : Cx} {W : WX}
theorem cu_abs : CallU X W (.builtin "abs") (u1 absV) := .of call_abs fun xs H as G Q E r rp h => by
  obtain ⟨u, rfl, q⟩ := u1_of h
  clear h
  obtain ⟨x, rfl, e⟩ := relUs1 r
  cases u <;> try exact q.elim
  case int i => exact ⟨i, by rw [show x = .int i from e], lv_int rp q⟩
theorem cu_max (hc : X.calm = true) : CallU X W (.builtin "max") (u2 maxV) := .of (call_max2 hc) fun xs H as G Q E r rp h => by
  obtain ⟨u, w, rfl, q⟩ := u2_of h
  clear h
  obtain ⟨x, y, rfl, e, e'⟩ := relUs2 r
  cases u <;> try exact q.elim
  cases w <;> try exact q.elim
  case int.int i j => exact ⟨i, j, by rw [show x = .int i from e, show y = .int j from e'], lv_int rp q⟩
theorem cu_min (hc : X.calm = true) : CallU X W (.builtin "min") (u2 minV) := .of (call_min2 hc) fun xs H as G Q E r rp h => by
  obtain ⟨u, w, rfl, q⟩ := u2_of h
  clear h
  obtain ⟨x, y, rfl, e, e'⟩ := relUs2 r
  cases u <;> try exact q.elim
  cases w <;> try exact q.elim
  case int.int i j => exact ⟨i, j, by rw [show x = .int i from e, show y = .int j from e'], lv_int rp q⟩
theorem cu_int : CallU X W (.type "int") (u1 intV) := .of call_int1 fun xs H as G Q E r rp h => by
  obtain ⟨u, rfl, q⟩ := u1_of h
  clear h
  obtain ⟨x, rfl, e⟩ := relUs1 r
  cases u <;> try exact q.elim
  case int i => exact .inl ⟨i, by rw [show x = .int i from e], lv_int rp q⟩
  case bl i => exact .inr ⟨i, by rw [show x = .bl i from e], lv_int rp q⟩
theorem cu_len : CallU X W (.builtin "len") (u1 lenV) := .of (call_len.or call_lenD) fun xs H as G Q E r rp h => by
  obtain ⟨u, rfl, q⟩ := u1_of h
  clear h
  obtain ⟨x, rfl, e⟩ := relUs1 r
  cases u <;> try exact q.elim
  case str l => exact .inl ⟨x, l.length, rfl, by rw [show x = .str ⟨l.toArray⟩ from e]; exact ⟨lim_line q.1, rfl⟩, lv_int rp q.2⟩
  case tup us =>
    obtain ⟨a, vs, rfl, t, ru⟩ := e.tup_of
    exact .inl ⟨_, us.length, rfl, .inr ⟨vs, t, ru.length.symm⟩, lv_int rp q⟩
  case rol us =>
    obtain ⟨a, vs, rfl, t, ru⟩ := e
    exact .inl ⟨_, us.length, rfl, .inl ⟨vs, t.sq, ru.length.symm⟩, lv_int rp q⟩
  case ref a =>
    have h' : (match G a with
      | some (.lst us) => Q (.int us.length) G
      | some (.dct us) => Q (.int us.length) G
      | _ => False) := q
    have ex : x = .ref a := e
    subst ex
    cases g : G a with
    | none =>
      rw [g] at h'
      exact h'.elim
    | some o =>
      rw [g] at h'
      cases o with
      | lst us =>
        obtain ⟨vs, e1, ru⟩ := rp.lst g
        exact .inl ⟨_, us.length, rfl, .inl ⟨vs, .of e1, ru.length.symm⟩, lv_int rp h'⟩
      | dct us =>
        obtain ⟨vs, e1, ru⟩ := rp.dct g
        exact .inr ⟨a, vs, rfl, e1, by rw [relKV_length ru]; exact lv_int rp h'⟩
      | dcr od gs kvs => exact h'.elim
      | ins c fs => exact h'.elim
      | xcp c fs => exact h'.elim
theorem cu_tuple : CallU X W (.type "tuple") (u1 tupleV) := .of call_tuple_of fun xs H as G Q E r rp h => by
  obtain ⟨u, rfl, q⟩ := u1_of h
  clear h
  obtain ⟨x, rfl, e⟩ := relUs1 r
  unfold tupleV at q
  cases g : seqOf G u with
  | none => rw [g] at q; exact q.elim
  | some us =>
    rw [g] at q
    obtain ⟨p, vs, rfl, ru, t⟩ := seq_rel rp e g
    rcases t with t | ⟨t, _⟩
    · exact ⟨p, vs, rfl, .inl ⟨t, fun l hl => lv_tup rp ru hl q⟩⟩
    · exact ⟨p, vs, rfl, .inr ⟨t, lv_old rp t ru q⟩⟩
theorem cu_list : CallU X W (.type "list") (u1 listV) := .of call_list_of fun xs H as G Q E r rp h => by
  obtain ⟨u, rfl, q⟩ := u1_of h
  clear h
  obtain ⟨x, rfl, e⟩ := relUs1 r
  unfold listV at q
  cases g : seqOf G u with
  | none => rw [g] at q; exact q.elim
  | some us =>
    rw [g] at q
    obtain ⟨p, vs, rfl, ru, t⟩ := seq_rel rp e g
    exact ⟨p, vs, rfl, t.imp id (·.1), fun l hl => lv_lst rp ru hl (q l (rp.fresh hl))⟩
end
end UL
set_option maxHeartbeats 400000
namespace UL
open PySem PySem.Spec PyProof.Rows L2

abbrev URM := U → List U → Gp → UK → UX → Prop
theorem MtU.of {X : Cx} {W : WX} {id : String} {r : URM} {rv : V → List V → Hp → VK → Prop} (h : MtM X id rv) (k : ∀ x xs H a as G Q E, RelU X.K H a x → RelUs X.K H as xs → Rep X.K H G → r a as G Q E → rv x xs H (LV X.K H G Q)) : MtU X W id r :=
  fun pins s σ H x xs v us a as G Q E I rx rv' ra ras rp hr _ => h pins s σ H x xs v us _ I rx rv' (k x xs H a as G Q E ra ras rp hr)
/-- the receiver is a list -/
def onLst (f : Addr → List U → List U → Gp → UK → Prop) : URM := fun x as G Q _ => match x with
  | .ref a => match G a with
    | some (.lst us) => f a us as G Q
    | _ => False
  | _ => False
theorem onLst_of {f : Addr → List U → List U → Gp → UK → Prop} {x : U} {as : List U} {G : Gp} {Q : UK} {E : UX} (h : onLst f x as G Q E) : ∃ a us, x = .ref a ∧ G a = some (.lst us) ∧ f a us as G Q := by
  cases x <;> try exact h.elim
  case ref a =>
    have h' : (match G a with
      | some (.lst us) => f a us as G Q
      | _ => False) := h
    cases g : G a with
    | none =>
      rw [g] at h'
      exact h'.elim
    | some o =>
      rw [g] at h'
      cases o with
      | lst us => exact ⟨a, us, rfl, g, h'⟩
      | _ => exact h'.elim
def appendL : Addr → List U → List U → Gp → UK → Prop := fun a us as G Q => match as with
  | [y] => us.length < 1000000 ∧ Q .non (gup G a (.lst (us ++ [y])))
  | _ => False
section
variable {X : Cx} {W : WX}
theorem mu_append : MtU X W "list.append" (onLst appendL) := .of mt_append fun x xs H u as G Q E ru ras rp h => by
  obtain ⟨a, us, rfl, g, h⟩ := onLst_of h
  rcases as with _ | ⟨y, _ | ⟨z, r⟩⟩
  · exact h.elim
  · obtain ⟨yv, rfl, ry⟩ := relUs1 ras
    obtain ⟨vs, e, rv⟩ := rp.lst g
    exact ⟨a, vs, yv, ru, rfl, e, by rw [rv.length]; exact lim_lt h.1, lv_setl (u := .non) rp g (rv.append (.one ry)) rfl h.2⟩
  · exact h.elim
end

def IntU (ns : List Int) : List U := ns.map .int
theorem relUs_ints {K : PySem.W.Frag} {H : Hp} : ∀ ns : List Int, RelUs K H (IntU ns) (ns.map V.int)
  | [] => rfl
  | n :: ns => ⟨.int n, _, rfl, rfl, relUs_ints ns⟩
theorem law_u {P : Program} {w : World} {K : PySem.W.Frag} {mg mb : Str → Option Value} {k : Nat} {fa a : Addr} {fd : FuncData} {x : Str} {sp : USp} {s1 : Shared} {vs : List Value} {ns : List Int}
    (inK : K.In s1.heap) (glo : s1.heap.Ns mainGlobals mg) (blt : s1.heap.Ns builtinsNs mb) (bb : ∀ x : Str, x ≠ "__name__" → mb x = bootBuiltins x) (lim : s1.heap.NoLimit) (noGen : s1.gens = #[])
    (at_ : s1.heap.get? a = some { cls := .type "list", data := .seq vs.toArray }) (ints_ : IntsAre vs ns) (short : ns.length ≤ sizeLine) (room : RoomU k callerA)
    (F : ∀ base : Heap, K.In base → base.Ns mainGlobals mg → FnU P w K mg base k fa fd [x] sp) (bind1 : ∀ (s : Shared) (u : Value), BindsTo s fd ⟨[u], []⟩ [(x, u)])
    (want : sp [.rol (IntU ns)] (fun _ => none) (fun v _ => v = .bl true) fun _ _ => False) :
    codeAny (model P w) callerA (.call (.ref fa) ⟨[.ref a], []⟩) (fun r s' => r = .ok (.ret (.bool true)) ∧ OldK s1.heap s'.heap ∧ s'.os = s1.os ∧ AllBare s'.gens) s1 := by
  have rv := vals_ints ints_
  have lenV := ints_.length
  -- H: nothing is tracked but, at most, the script
  suffices main : ∀ H : Hp, (∀ b, b ≠ a → H b = none) → (H a = none ∨ (H a = some (.frz { cls := .type "list", data := .seq vs.toArray } (.lst (ns.map V.int))) ∧ K.lookup a = none)) → RoL K H a (ns.map V.int) → HOk P w H s1.heap →
      codeAny (model P w) callerA (.call (.ref fa) ⟨[.ref a], []⟩) (fun r s' => r = .ok (.ret (.bool true)) ∧ OldK s1.heap s'.heap ∧ s'.os = s1.os ∧ AllBare s'.gens) s1 by
    cases kl : K.lookup a with
    | some o =>
      have e := inK a o kl
      rw [at_] at e
      cases e
      exact main (fun _ => none) (fun _ _ => rfl) (.inl rfl) (.inr ⟨_, vs.toArray, _, kl, rfl, rfl, rfl, by rw [List.size_toArray, lenV]; exact short, by simpa using rv⟩) fun b u z => nomatch (show (none : Option HO) = some u from z)
    | none =>
      have here : (fun b => if b = a then some (HO.frz { cls := .type "list", data := .seq vs.toArray } (.lst (ns.map V.int))) else none : Hp) a = some (HO.frz { cls := .type "list", data := .seq vs.toArray } (.lst (ns.map V.int))) := if_pos rfl
      refine main (fun b => if b = a then some (.frz { cls := .type "list", data := .seq vs.toArray } (.lst (ns.map V.int))) else none) (fun b hb => if_neg hb) (.inr ⟨here, kl⟩) (.inl ⟨_, here⟩) fun b u z => ?_
      by_cases hb : b = a
      · subst hb
        cases here.symm.trans z
        exact ⟨at_, by rw [List.length_map]; exact short, vs, _, rv, at_⟩
      · cases (if_neg hb).symm.trans z
  intro H off on rl hok
  have isSeq : ∀ {b : Addr} {o : Obj}, s1.heap.get? b = some o → (∀ n, o ≠ { cls := .type "list", data := .seq vs.toArray n }) → H b = none := fun {b o} e ne => by
    by_cases hb : b = a
    · subst hb
      rw [at_] at e
      cases e
      exact absurd rfl (ne _)
    · exact off b hb
  have nsB : ∀ {b : Addr} {m : Str → Option Value}, s1.heap.Ns b m → (hidT s1.heap H).Ns b m := fun {b m} ⟨o, es, ep, e, d, r⟩ =>
    ⟨o, es, ep, hidT_get e (isSeq e fun n z => by rw [z] at d; exact nomatch (show Data.seq vs.toArray n = Data.dict es ep from d)), d, r⟩
  have kB : K.In (hidT s1.heap H) := fun b o e => hidT_get (inK b o e) (by
    by_cases hb : b = a
    · subst hb
      rcases on with z | ⟨_, z⟩
      · exact z
      · rw [e] at z
        cases z
    · exact off b hb)
  obtain ⟨mc, c1, c2⟩ := lim
  have at0 : Env0 P w K mg (hidT s1.heap H) callerA [] s1 H := ⟨rfl, ⟨kB, nsB glo, ⟨mb, nsB blt, bb⟩, mc, nsB c1, c2⟩, fun b o e => of_hidT e, Nat.le_of_eq (hidT_size _ _), trivial, (fun b hb => nomatch hb), hok, .of_eq noGen⟩
  have rp : Rep K H (fun _ => none) := fun b o z => nomatch (show (none : Option Ob) = some o from z)
  refine codeAny_mono ((F _ kB (nsB glo)).run callerA [] s1 H ⟨[.ref a], []⟩ [.ref a] [.ref a] [.rol (IntU ns)] (fun _ => none) _ _ room at0 (bind1 s1 (.ref a)) (.cons rfl .nil) ⟨.ref a, [], rfl, ⟨a, ns.map V.int, rfl, rl, relUs_ints ns⟩, rfl⟩ rfl rp want) fun r s' h => ?_
  cases r with
  | error e =>
    obtain ⟨_, _, H', c, d, _, _, _, _, _, _, _, y, G', _, _, _, z⟩ := h
    exact z.elim
  | ok fl =>
    cases fl with
    | next => exact False.elim h
    | brk => exact False.elim h
    | cont => exact False.elim h
    | ret u =>
      obtain ⟨v, H', os, bare, un, hok', r', w', G', _, _, rw', e⟩ := h
      have e' : w' = .bl true := e
      subst e'
      have ev : v = .bl true := rw'
      subst ev
      obtain rfl : u = Value.bool true := r'
      refine ⟨rfl, OldK.of_keep fun b o e => ?_, os, bare⟩
      by_cases hb : b = a
      · subst hb
        rcases on with z | ⟨z, _⟩
        · exact un.keep b o e z (fun q => nomatch q) (fun q => nomatch q)
        · obtain ⟨e1, _⟩ := hok b _ z
          obtain ⟨e2, _⟩ := hok' b _ (un.frzs b _ _ z)
          rw [e] at e1
          cases e1
          exact e2
      · exact un.keep b o e (off b hb) (fun q => nomatch q) (fun q => nomatch q)
theorem walk_u {l : PySem.W.OpenLaw} {n k : Nat} {q : Program} {loose : List Str} {XP : (Str → Option Value) → Heap → Prop} {YP : World → Heap → Prop} {d : DefRec} {x : Str} {sp : USp}
    (hn : l.most = some n) (hn2 : n ≤ sizeLine) (hdf : d.params.defaults = []) (room : RoomU k callerA)
    (F : ∀ (w : World) (mg : Str → Option Value) (fa : Addr) (h : Heap), YP w h → h.Ns mainGlobals mg → mg d.name = some (.ref fa) →
      ∃ (K : PySem.W.Frag) (fd : FuncData), K.In h ∧ (∀ (s : Shared) (u : Value), BindsTo s fd ⟨[u], []⟩ [(x, u)]) ∧ ∀ base : Heap, K.In base → base.Ns mainGlobals mg → FnU l.prog w K mg base k fa fd [x] sp)
    (want : ∀ ns : List Int, ns.length ≤ n → (∀ z ∈ ns, Builtin.Int.intBits z ≤ 1048576) → sp [.rol (IntU ns)] (fun _ => none) (fun v _ => v = .bl true) fun _ _ => False) :
    PySem.W.WalkO q loose XP YP l.row.toRowW d [] (fun f vs => PySem.call f vs) := by
  refine Att.attach_callB hn hdf fun w s₀ s1 mg mb fa o pm cd doc a vs ns G Y ho hd hcd hmg hobj hints hlen hbits hg => ?_
  obtain ⟨K, fd, inK, hb, hF⟩ := F w mg fa _ Y G.T.g hmg
  exact law_u inK G.T.g G.T.b G.T.builtins G.T.nolimit hg hobj hints (Nat.le_trans hlen hn2) room hF hb (want ns hlen hbits)
end UL
set_option maxHeartbeats 400000
namespace UL
open PySem PySem.Spec PyProof.Rows L2

structure DD where
  at_ : PySem.W.Frag → Addr
  name : Str
  qual : Str
  params : Arguments
  body : List Stmt
  scope : Scope
  dfl : List He.Dv := []
  kwd : List (Str × He.Dv) := []
def DD.dvs (K : PySem.W.Frag) (d : DD) : List V := d.dfl.map (He.Dv.v K)
def DD.kws (K : PySem.W.Frag) (d : DD) : List (Str × V) := d.kwd.map fun z => (z.1, z.2.v K)
def gAt (x : String) (K : PySem.W.Frag) : Addr := He.ga K (S x)
def mAt (c m : String) (K : PySem.W.Frag) : Addr := He.ma K (He.ga K (S c)) (S m)
def codeOf (d : FuncData) : He.FnW := some (d.name, d.qualname, d.params, d.body, d.scope, d.globals, d.closure, d.builtins)
def told (K : PySem.W.Frag) (a : Addr) : He.FnW := (K.lookup a).bind fun o => match o.data with
  | .func z => codeOf z
  | _ => none
def DD.due (d : DD) : He.FnW := some (d.name, d.qual, d.params, .stmts d.body, d.scope, mainGlobals, [], builtinsNs)
def DD.fit (K : PySem.W.Frag) (d : DD) : Bool := PySem.W.keepIn K (.ref (d.at_ K)) && (match (K.lookup (d.at_ K)).map (fun o : Obj => o.data) with
  | some (.func z) => PySem.W.codeIn K z.code d.qual && He.dflB K z.defaults (d.dvs K) && He.kwdB K z.kwdefaults (d.kws K)
  | _ => false)
theorem DD.funD {K : PySem.W.Frag} {d : DD} (e : told K (d.at_ K) = d.due) (c : d.fit K = true) : ∃ z, FunD K d.name d.qual d.params d.body d.scope (d.dvs K) (d.kws K) (d.at_ K) z := by
  unfold DD.fit at c
  rw [Bool.and_eq_true] at c
  obtain ⟨kp, c⟩ := c
  unfold told at e
  cases hl : K.lookup (d.at_ K) with
  | none => rw [hl] at c; cases c
  | some o =>
    rw [hl] at c e
    obtain ⟨ocl, odi, oda, osl⟩ := o
    cases oda <;> try (cases c; done)
    rename_i z
    simp only [Option.map_some, Bool.and_eq_true] at c
    obtain ⟨⟨c1, c2⟩, c3⟩ := c
    have e2 : codeOf z = d.due := e
    unfold codeOf DD.due at e2
    obtain ⟨z1, z2, z3, z4, z5, z6, z7, z8, z9, z10, z11, z12, z13, z14, z15⟩ := z
    simp only [Option.some.injEq, Prod.mk.injEq] at e2
    obtain ⟨rfl, rfl, rfl, rfl, rfl, rfl, rfl, rfl⟩ := e2
    exact ⟨_, ⟨ocl, odi, z8, z9, z10, z11, z12, z13, z14, osl, rfl, hl, c1, He.dflB_ok c2, He.kwdB_ok c3⟩, kp⟩
end UL
set_option maxHeartbeats 400000
namespace UL
open PySem PySem.Spec PyProof.Rows L2

def fdOf (K : PySem.W.Frag) (a : Addr) : FuncData := match K.lookup a with
  | some ⟨_, _, .func fd, _⟩ => fd
  | _ => default
structure FunK (K : PySem.W.Frag) (d : DD) : Prop where
  D : FunD K d.name d.qual d.params d.body d.scope (d.dvs K) (d.kws K) (d.at_ K) (fdOf K (d.at_ K))
theorem funK {K : PySem.W.Frag} {d : DD} (h : ∃ fd, FunD K d.name d.qual d.params d.body d.scope (d.dvs K) (d.kws K) (d.at_ K) fd) : FunK K d := by
  obtain ⟨fd, F⟩ := h
  obtain ⟨oc, od, dV, kV, doc, pm, an, cdv, ct, osl, e, lk, r⟩ := F.ex
  have z : fdOf K (d.at_ K) = fd := by
    unfold fdOf
    rw [lk]
  exact ⟨by rw [z]; exact F⟩
structure Known (P : Program) (w : World) (K : PySem.W.Frag) (mg : Str → Option Value) (base : Heap) (d : DD) (k : Nat) (sp : USp) : Prop where
  F : FnU P w K mg base k (d.at_ K) (fdOf K (d.at_ K)) (parN d.params ++ parK d.params) sp
  D : FunD K d.name d.qual d.params d.body d.scope (d.dvs K) (d.kws K) (d.at_ K) (fdOf K (d.at_ K))
def uOf : He.Dv → U
  | .bl b => .bl b
  | .int i => .int i
  | .str x => .str x.cps.toList
  | .ty n => .ty n
  | _ => .non
def plainD : He.Dv → Bool
  | .non => true
  | .bl _ => true
  | .int _ => true
  | .str _ => true
  | .ty _ => true
  | _ => false
theorem rel_dv {K : PySem.W.Frag} {H : Hp} (d : He.Dv) (h : plainD d = true) : RelU K H (uOf d) (d.v K) := by
  cases d <;> first
    | rfl
    | cases h
theorem relUs_dv {K : PySem.W.Frag} {H : Hp} : ∀ l : List He.Dv, l.all plainD = true → RelUs K H (l.map uOf) (l.map (He.Dv.v K))
  | [], _ => rfl
  | d :: l, h => by
    rw [List.all_cons, Bool.and_eq_true] at h
    exact ⟨_, _, rfl, rel_dv d h.1, relUs_dv l h.2⟩
theorem relUs_kd {K : PySem.W.Frag} {H : Hp} : ∀ l : List (Str × He.Dv), l.all (fun q => plainD q.2) = true → RelUs K H (l.map fun q => uOf q.2) ((l.map fun q => (q.1, q.2.v K)).map (·.2))
  | [], _ => rfl
  | d :: l, h => by
    rw [List.all_cons, Bool.and_eq_true] at h
    exact ⟨_, _, rfl, rel_dv d.2 h.1, relUs_kd l h.2⟩
theorem takes_W0 {X : Cx} : L2N.Takes X W0 := fun u s' ⟨_, _, _, _, _, _, _, _, _, _, _, _, _, _, _, _, z⟩ => z.elim
def blkB (N : List Str) (sc scope : Scope) (own : List (Str × Nat)) : Bool :=
  decide (scope.kind = .function) && (scope.names.all (fun y => decide (scope.names.lookup y.1 = some y.2)) && (own.all (fun p => decide (N[p.2]? = some p.1)) &&
    (scope.names.all (fun y => !decide (y.2 = .free) || (decide (sc.names.lookup y.1 = some .cell) || decide (sc.names.lookup y.1 = some .free))) &&
      scope.names.all (fun y => !(decide (y.2 = .local) || decide (y.2 = .cell)) || ((own.map (·.1)).contains y.1 || !N.contains y.1)))))
theorem blk_of {N : List Str} {sc scope : Scope} {own : List (Str × Nat)} (h : blkB N sc scope own = true) : BlkOk N sc scope own := by
  unfold blkB at h
  simp only [Bool.and_eq_true, List.all_eq_true, decide_eq_true_eq, Bool.or_eq_true, Bool.not_eq_true', decide_eq_false_iff_not, List.contains_iff_mem] at h
  obtain ⟨h1, h2, h3, h4, h5⟩ := h
  refine ⟨h1, h2, h3, fun y hy e => (h4 y hy).resolve_left fun z => z e, fun y hy e => ?_⟩
  rcases h5 y hy with z | z | z
  · rcases e with e | e
    · rw [e] at z
      simp at z
    · rw [e] at z
      simp at z
  · exact .inl z
  · refine .inr fun q => ?_
    rw [← List.contains_iff_mem, z] at q
    cases q
def tUTest (t : UTE) : UTT := fun us G Q E => t us G (kBl Q) E
def KS (P : USt → Gp → Prop) : USt → Gp → Prop := fun us G => ∃ G2, Sub G2 G ∧ P us G2
theorem KS.now {P : USt → Gp → Prop} {us : USt} {G : Gp} (h : P us G) : KS P us G := ⟨G, .refl G, h⟩
def tUCut (t : UTS) : UTS := fun D us G => ∃ M : USt → Gp → Prop, (∀ us G, M us G → KS D.nx us G) ∧ t { D with nx := M } us G
/-- a condition with a cut behind it -/
def CondE (k : Bool) (x y : UK → UX → Prop) (Q : UK) (E : UX) : Prop := ∃ M : UK, (∀ u G, M u G → KF Q u G) ∧ bif k then x M E else y M E
def CondS (k : Bool) (x y : UEnds → Prop) (D : UEnds) : Prop := ∃ M : USt → Gp → Prop, (∀ us G, M us G → KS D.nx us G) ∧ bif k then x { D with nx := M } else y { D with nx := M }
def tUIfC (c : UTT) (ta tb : UTE) : UTE := fun us G Q E => c us G (fun k G1 => CondE k (ta us G1) (tb us G1) Q E) E
def tUIfSC (c : UTT) (t u : UTS) : UTS := fun D us G => c us G (fun k G1 => CondS k (fun D' => t D' us G1) (fun D' => u D' us G1) D) (fun x G1 => D.ex x us G1)
theorem lv_weak {K : PySem.W.Frag} {H H' : Hp} {G : Gp} {M Q : UK} (le : ∀ u G, M u G → KF Q u G) {v : V} (q : LV K H G M v H') : LV K H G Q v H' := by
  obtain ⟨u, G', a, b, c, m⟩ := q
  obtain ⟨G2, sb, n⟩ := le _ _ m
  exact ⟨u, G2, sb.ext a, sb.rep b, c, n⟩
theorem eu_ifC {X : Cx} {W : WX} {c a b : Expr} {tc : UTT} {ta tb : UTE} {pos : Pos} (hc : TU X W c tc) (ha : EU X W a ta) (hb : EU X W b tb) : EU X W (.IfExp c a b pos) (tUIfC tc ta tb) := by
  refine ⟨fun pins s σ H us G Q E I rs rp h hx => ?_⟩
  refine wpAny_IfExp (thn (hc.run pins s σ H us G _ E I rs rp h hx) fun d s1 ⟨H1, I1, G1, x1, r1, M, le, q1⟩ => ?_)
  cases d with
  | true => exact thn (ha.run pins s1 σ H1 us G1 M E I1 (rs.ext x1 rp) r1 q1 fun c d H' h' => hx c d H' (h'.trans x1)) fun _ _ h => ep_imp (fun _ _ h => lv_weak le (h.trans x1)) h
  | false => exact thn (hb.run pins s1 σ H1 us G1 M E I1 (rs.ext x1 rp) r1 q1 fun c d H' h' => hx c d H' (h'.trans x1)) fun _ _ h => ep_imp (fun _ _ h => lv_weak le (h.trans x1)) h
theorem ls_weak {K : PySem.W.Frag} {H H' : Hp} {G : Gp} {M Q : USt → Gp → Prop} (le : ∀ u G, M u G → KS Q u G) {σ' : L2.St} (q : LS K H G M σ' H') : LS K H G Q σ' H' := by
  obtain ⟨u, G', a, b, c, m⟩ := q
  obtain ⟨G2, sb, n⟩ := le _ _ m
  exact ⟨u, G2, sb.ext a, sb.rep b, c, n⟩
theorem su_ifC {X : Cx} {W : WX} {c : Expr} {a b : List Stmt} {tc : UTT} {t u : UTS} {pos : Pos} (hc : TU X W c tc) (ha : SsU X W a t) (hb : SsU X W b u) : SU X W (.If c a b pos) (tUIfSC tc t u) := by
  refine .of (ps_if hc.pt ha.pss hb.pss) fun σ H us G D rs rp h hx => ⟨us, G, _, _, rs, rp, h, fun v H' ⟨G1, x1, r1, M, le, q⟩ => ?_, fun c d H' h' => hx c d σ H' (LXS.of rs rp h')⟩
  cases v with
  | true =>
    rw [if_pos rfl]
    exact ⟨us, G1, _, rs.ext x1 rp, r1, q, fun _ _ h => ls_weak le (h.trans x1), fun _ _ h => h.trans x1, fun _ _ h => h.trans x1, fun _ _ h => h.trans x1, fun c d σ' H' h' => hx c d σ' H' (h'.trans x1)⟩
  | false =>
    rw [if_neg Bool.false_ne_true]
    exact ⟨us, G1, _, rs.ext x1 rp, r1, q, fun _ _ h => ls_weak le (h.trans x1), fun _ _ h => h.trans x1, fun _ _ h => h.trans x1, fun _ _ h => h.trans x1, fun c d σ' H' h' => hx c d σ' H' (h'.trans x1)⟩
theorem condT {x y : UK → UX → Prop} {Q : UK} {E : UX} (h : x Q E) : CondE true x y Q E := ⟨Q, fun _ _ h => KF.now h, h⟩
theorem condF {x y : UK → UX → Prop} {Q : UK} {E : UX} (h : y Q E) : CondE false x y Q E := ⟨Q, fun _ _ h => KF.now h, h⟩
theorem scondT {x y : UEnds → Prop} {D : UEnds} (h : x D) : CondS true x y D := ⟨D.nx, fun _ _ h => KS.now h, h⟩
theorem scondF {x y : UEnds → Prop} {D : UEnds} (h : y D) : CondS false x y D := ⟨D.nx, fun _ _ h => KS.now h, h⟩
theorem scond2 {k : Bool} {x y : UEnds → Prop} {D : UEnds} (h1 : k = true → x D) (h2 : k = false → y D) : CondS k x y D := by
  cases k with
  | true => exact scondT (h1 rfl)
  | false => exact scondF (h2 rfl)
theorem dscond2 {p : Prop} [Decidable p] {x y : UEnds → Prop} {D : UEnds} (h1 : p → x D) (h2 : ¬p → y D) : CondS (decide p) x y D :=
  scond2 (fun e => h1 (of_decide_eq_true e)) fun e => h2 (of_decide_eq_false e)
/-- both ways lead to M -/
theorem condM {k : Bool} {x y : UK → UX → Prop} {Q : UK} {E : UX} (M : UK) (h1 : k = true → x (KF M) E) (h2 : k = false → y (KF M) E) (h : ∀ u G, M u G → Q u G) : CondE k x y Q E :=
  ⟨KF M, fun u G ⟨G2, s, m⟩ => ⟨G2, s, h u G2 m⟩, by cases k with
    | true => exact h1 rfl
    | false => exact h2 rfl⟩
theorem scondM {k : Bool} {x y : UEnds → Prop} {D : UEnds} (M : USt → Gp → Prop) (h1 : k = true → x { D with nx := KS M }) (h2 : k = false → y { D with nx := KS M }) (h : ∀ us G, M us G → D.nx us G) : CondS k x y D :=
  ⟨KS M, fun u G ⟨G2, s, m⟩ => ⟨G2, s, h u G2 m⟩, by cases k with
    | true => exact h1 rfl
    | false => exact h2 rfl⟩
theorem cut {t : UTS} {D : UEnds} {us : USt} {G : Gp} (M : USt → Gp → Prop) (h : t { D with nx := KS M } us G) (k : ∀ us G, M us G → D.nx us G) : tUCut t D us G := ⟨_, fun us G ⟨G2, s, m⟩ => ⟨G2, s, k us G2 m⟩, h⟩
section
variable {X : Cx} {W : WX} {es : List Expr} {kws : List Keyword} {tk ta : UTA} {pos p : Pos} {k k' n : Nat} {ks : List Str} {sp : USp} {pl : List Src} {x : Str} {d : DD}
/-- a call of a def of the module -/
theorem eu_def (kn : Known X.prog X.w X.K X.mg X.base d k sp) (hr : RoomU k X.A) (hg : Gl X x) (hm : X.mg x = some (.ref (d.at_ X.K))) (hP : Plain d.params) (e : planOf (parN d.params) (parK d.params) n ks d.dfl.length (d.kwd.map (·.1)) = some pl)
    (hd : d.dfl.all plainD = true) (hk : d.kwd.all (fun q => plainD q.2) = true) (hT : L2N.Takes X W) (l3 : pl.length = (parN d.params ++ parK d.params).length) (ha : AU X W es ta) (hkw : KU X W kws tk) (hst : Unst X.env es ta)
    (hall : (backToKw pos (keywordEach kws X.env)).all (·.1.isSome) = true) (hks : (backToKw pos (keywordEach kws X.env)).filterMap (·.1) = ks)
    (hpl : ((backTo pos (starEach es X.env)).any (·.1) || (backToKw pos (keywordEach kws X.env)).any (·.1.isNone)) = false) (hdb : (x == ("__debug__" : Str)) = false) :
    EU X W (.Call (.Name x p) es kws pos) (tUDef sp n ks.length pl (d.dfl.map uOf) (d.kwd.map fun q => uOf q.2) ta tk) := by
  have b := bind_u (n := n) (ks := ks) (pl := pl) kn.D hP (by
    unfold DD.dvs DD.kws
    rw [List.length_map, List.map_map]
    exact e)
  exact eu_call kn.F hr hg hm kn.D.kp b (fun _ => relUs_dv _ hd) (fun _ => relUs_kd _ hk) hT l3 ha hkw hst hall hks hpl hdb
end
end UL
set_option maxHeartbeats 400000
namespace UL
open PySem PySem.Spec PyProof.Rows L2 PySem.W

theorem S_list (s : String) : (S s).cps.toList = s.toList.map Char.toNat := by
  show (PySem.cpsOfBytes 0 0 s.toByteArray.data.toList).toArray.toList = _
  rw [PySem.cpsOfBytes_string]
theorem S_inj {a b : String} (h : S a = S b) : a = b := by
  have e : a.toList.map Char.toNat = b.toList.map Char.toNat := by rw [← S_list, ← S_list, h]
  have e2 : a.toList = b.toList := by
    have go : ∀ (l m : List Char), l.map Char.toNat = m.map Char.toNat → l = m := by
      intro l
      induction l with
      | nil =>
        intro m h
        cases m with
        | nil => rfl
        | cons _ _ => cases h
      | cons x l ih =>
        intro m h
        cases m with
        | nil => cases h
        | cons y m =>
          simp only [List.map_cons, List.cons.injEq] at h
          have e : x = y := Char.ext (UInt32.toNat_inj.mp h.1)
          rw [e, ih m h.2]
    exact go _ _ e
  exact String.toList_inj.mp e2
theorem RelF.get {K : PySem.W.Frag} {H : Hp} {C : Addr} {f : String} {u : U} : ∀ {fs : List (String × U)} {gs : List (Str × V)}, RelF K H C fs gs → fget fs f = some u → ∃ v, gs.lookup (S f) = some v ∧ RelU K H u v ∧ NoAttr K C (S f)
  | [], _, _, h => by cases h
  | (g, w) :: r, _, ⟨v, ws, rfl, rw_, na, t⟩, h => by
    unfold fget at h
    by_cases e : g = f
    · subst e
      rw [if_pos rfl] at h
      cases h
      exact ⟨v, by rw [List.lookup_cons]; simp, rw_, na⟩
    · rw [if_neg e] at h
      obtain ⟨v', h1, h2, h3⟩ := RelF.get t h
      have ne : (S f == S g) = false := beq_eq_false_iff_ne.mpr fun z => e (S_inj z.symm)
      exact ⟨v', by rw [List.lookup_cons, ne]; exact h1, h2, h3⟩
theorem RelF.none {K : PySem.W.Frag} {H : Hp} {C : Addr} {f : String} : ∀ {fs : List (String × U)} {gs : List (Str × V)}, RelF K H C fs gs → fget fs f = none → gs.lookup (S f) = none
  | [], _, e, _ => by
    have e' : _ = ([] : List (Str × V)) := e
    subst e'
    rfl
  | (g, w) :: r, _, ⟨v, ws, rfl, rw_, na, t⟩, h => by
    unfold fget at h
    by_cases e : g = f
    · subst e
      rw [if_pos rfl] at h
      cases h
    · rw [if_neg e] at h
      have ne : (S f == S g) = false := beq_eq_false_iff_ne.mpr fun z => e (S_inj z.symm)
      rw [List.lookup_cons, ne]
      exact RelF.none t h
theorem RelF.put {K : PySem.W.Frag} {H : Hp} {C : Addr} {f : String} {u : U} {v : V} (hu : RelU K H u v) (na : NoAttr K C (S f)) : ∀ {fs : List (String × U)} {gs : List (Str × V)}, RelF K H C fs gs → RelF K H C (fput fs f u) (putF (S f) v gs)
  | [], _, e => by
    have e' : _ = ([] : List (Str × V)) := e
    subst e'
    exact ⟨v, [], rfl, hu, na, rfl⟩
  | (g, w) :: r, _, ⟨z, ws, rfl, rw_, na', t⟩ => by
    unfold fput putF
    by_cases e : g = f
    · subst e
      rw [if_pos rfl, if_pos rfl]
      exact ⟨v, ws, rfl, hu, na, t⟩
    · have ne : ¬ S g = S f := fun q => e (S_inj q)
      rw [if_neg e, if_neg ne]
      exact ⟨z, _, rfl, rw_, na', RelF.put hu na t⟩
theorem RelF.length {K : PySem.W.Frag} {H : Hp} {C : Addr} : ∀ {fs : List (String × U)} {gs : List (Str × V)}, RelF K H C fs gs → gs.length = fs.length
  | [], _, e => by
    have e' : _ = ([] : List (Str × V)) := e
    subst e'
    rfl
  | _ :: r, _, ⟨_, ws, rfl, _, _, t⟩ => by
    show ws.length + 1 = r.length + 1
    rw [RelF.length t]

/-- e.f -/
def fldU (f : String) : U → Gp → UK → Prop := fun x G Q => match x with
  | .ref a => (match G a with
    | some (.ins _ fs) => (match fget fs f with
      | some u => Q u G
      | none => False)
    | _ => False)
  | _ => False
def tUFld (f : String) (te : UTE) : UTE := fun us G Q E => te us G (fun x G1 => fldU f x G1 Q) E
theorem fldU_of {f : String} {x : U} {G : Gp} {Q : UK} (h : fldU f x G Q) : ∃ a c fs u, x = .ref a ∧ G a = some (.ins c fs) ∧ fget fs f = some u ∧ Q u G := by
  cases x <;> try exact h.elim
  case ref a =>
    unfold fldU at h
    dsimp only at h
    split at h
    · rename_i c fs g
      split at h
      · rename_i u e
        exact ⟨a, c, fs, u, rfl, g, e, h⟩
      · exact h.elim
    · exact h.elim
section
variable {X : Cx} {W : WX} {e : Expr} {te : UTE} {f : String} {pos : Pos}
theorem eu_fld (he : EU X W e te) (hb : attributeBase e (S f) X.env (eval e X.env) = eval e X.env) : EU X W (.Attribute e (S f) pos) (tUFld f te) := by
  refine .of (pe_fld he.pe hb) fun σ H us G Q E rs rp h hx => ⟨us, G, _, E, rs, rp, h, fun v H1 ⟨u, G1, x1, r1, ru, q1⟩ => ?_, hx⟩
  obtain ⟨a, c, fs, w, rfl, g, hf, q⟩ := fldU_of q1
  obtain ⟨dx, gs, hh, rf⟩ := r1.ins g
  obtain ⟨z, l, rz, na⟩ := rf.get hf
  exact ⟨a, _, dx, gs, z, ru, hh, (r1.clsK g).cls, na, l, (LV.here r1 rz q).trans x1⟩
/-- o.f = w -/
def setF (f : String) (x w : U) (G : Gp) (Z : Gp → Prop) : Prop := match x with
  | .ref a => (match G a with
    | some (.ins c fs) => f ∈ fldsOf c ∧ fs.length < 100 ∧ Z (gup G a (.ins c (fput fs f w)))
    | _ => False)
  | _ => False
theorem setF_of {x w : U} {G : Gp} {Z : Gp → Prop} (h : setF f x w G Z) : ∃ a c fs, x = .ref a ∧ G a = some (.ins c fs) ∧ f ∈ fldsOf c ∧ fs.length < 100 ∧ Z (gup G a (.ins c (fput fs f w))) := by
  cases x <;> try exact h.elim
  case ref a =>
    unfold setF at h
    dsimp only at h
    split at h
    · rename_i c fs g
      exact ⟨a, c, fs, rfl, g, h⟩
    · exact h.elim
def gUFld (f : String) (to : UTE) : UTG := fun w us G Q E => to us G (fun x G1 => setF f x w G1 fun G2 => Q us G2) E
theorem rep_setF {K : PySem.W.Frag} {H : Hp} {G : Gp} {a dx : Addr} {c : String} {fs : List (String × U)} {gs : List (Str × V)} {u : U} {v : V} (r : Rep K H G) (g : G a = some (.ins c fs)) (rf : RelF K H (He.ga K (S c)) fs gs) (hu : RelU K H u v) (na : NoAttr K (He.ga K (S c)) (S f)) :
    Rep K (upd H a (.ins (He.ga K (S c)) dx (putF (S f) v gs))) (gup G a (.ins c (fput fs f u))) ∧ Ext H G (upd H a (.ins (He.ga K (S c)) dx (putF (S f) v gs))) (gup G a (.ins c (fput fs f u))) := by
  have x0 : Ext H G (upd H a (.ins (He.ga K (S c)) dx (putF (S f) v gs))) (gup G a (.ins c (fput fs f u))) := fun b o h gb => by
    have ne : b ≠ a := fun z => by rw [z, g] at gb; cases gb
    exact ⟨by rw [upd_ne ne]; exact h, by rw [gup_ne ne]; exact gb⟩
  exact r.write g ⟨r.clsK g, dx, _, upd_same, (RelF.put hu na rf).ext x0 r⟩
theorem su_fld {o value : Expr} {to tv : UTE} {pos' : Pos} (ho : EU X W o to) (hv : EU X W value tv)
    (hs : swapsWith value (some (.Attribute o (S f) pos')) pos.line X.env = pure false) : SU X W (.Assign [.Attribute o (S f) pos'] value pos) (tUAsg tv (gUFld f to)) := by
  refine .of (ps_fld ho.pe hv.pe hs) fun σ H us G D rs rp h hx => ?_
  have hx0 : ∀ c d H', LX X.K H G (fun x G1 => D.ex x us G1) c d H' → W c d σ H' := fun c d H' h' => hx c d σ H' (LXS.of rs rp h')
  refine ⟨us, G, _, _, rs, rp, h, fun y H1 ⟨w, G1, x1, r1, rw_, q1⟩ => ?_, hx0⟩
  refine ⟨us, G1, _, _, rs.ext x1 rp, r1, q1, fun x H2 ⟨u, G2, x2, r2, ru, q2⟩ => ?_, fun c d H' h' => hx0 c d H' (h'.trans x1)⟩
  obtain ⟨a, c, fs, rfl, g, hm, hl, q⟩ := setF_of q2
  obtain ⟨dx, gs, hh, rf⟩ := r2.ins g
  have k1 := (r2.clsK g).cls
  have k2 := (r2.clsK g).noat hm
  obtain ⟨r3, x3⟩ := rep_setF (dx := dx) r2 g rf (rw_.ext x2 r1) k2
  exact ⟨a, _, dx, gs, ru, hh, k1, k2, by rw [rf.length]; omega, us, _, (x1.trans x2).trans x3, r3, ((rs.ext x1 rp).ext x2 r1).ext x3 r2, q⟩
end
end UL
set_option maxHeartbeats 400000
namespace UL
open PySem PySem.Spec PyProof.Rows L2 PySem.W

abbrev MAp := U → List U → List U → Gp → UK → UX → Prop
/-- the method m of an instance of the class named c, called with n values behind it and the keywords ks -/
structure MCall (X : Cx) (W : WX) (m : Str) (n : Nat) (ks : List Str) (c : String) (ap : MAp) : Prop where
  cls : Cls X.K (He.ga X.K (S c))
  go : ∃ f, Meth X.K (He.ga X.K (S c)) m f ∧ ∀ (A : Around), (A = X.A ∨ A = X.A.in1 ∨ A = X.A.in1.in1) → ∀ (pins : List (Addr × Obj)) (s2 : Shared) (σ : L2.St) (H H2 : Hp) (G G2 : Gp) (Q : UK) (E : UX) (a : Addr) (vs zs : List U) (vv zv : List V) (vl zl : List Value), Inv X pins σ H2 s2 → Ext H G H2 G2 → Rep X.K H2 G2 →
    Vals vv vl → Vals zv zl → RelUs X.K H2 vs vv → RelUs X.K H2 zs zv → vs.length = n → zs.length = ks.length → ap (.ref a) vs zs G2 Q E → (∀ c d H', LX X.K H G E c d H' → W c d σ H') →
    wpAny (model X.prog X.w) A (call (.ref f) (.ref a :: vl) (ks.zip zl)) (EP X pins σ (LV X.K H G Q)) X.xe s2
def apOf (sp : USp) (pl : List Src) (ud uk : List U) : MAp := fun self vs zs G Q E => sp (pl.map (Src.get .non (self :: vs) zs ud uk)) G Q E
section
variable {X : Cx} {W : WX} {es : List Expr} {kws : List Keyword} {e o : Expr} {to te ta' tb : UTE} {tk ta : UTA} {pos p apos : Pos} {k n : Nat} {ks : List Str} {sp : USp} {pl : List Src} {x m : Str} {d : DD} {c : String} {ap : MAp}
theorem mcall (kn : Known X.prog X.w X.K X.mg X.base d k sp) (hr : RoomU (k + 2) X.A) (cls : Cls X.K (He.ga X.K (S c))) (meth : Meth X.K (He.ga X.K (S c)) m (d.at_ X.K)) (hP : Plain d.params)
    (e : planOf (parN d.params) (parK d.params) (n + 1) ks d.dfl.length (d.kwd.map (·.1)) = some pl) (hd : d.dfl.all plainD = true) (hk : d.kwd.all (fun q => plainD q.2) = true) (hT : L2N.Takes X W) (l3 : pl.length = (parN d.params ++ parK d.params).length) :
    MCall X W m n ks c (apOf sp pl (d.dfl.map uOf) (d.kwd.map fun q => uOf q.2)) := by
  have b := bind_u (n := n + 1) (ks := ks) (pl := pl) kn.D hP (by
    unfold DD.dvs DD.kws
    rw [List.length_map, List.map_map]
    exact e)
  refine ⟨cls, _, meth, fun A hA pins s2 σ H H2 G G2 Q E a vs zs vv zv vl zl I x rp rv rz ru ruz l1 l2 h hx => ?_⟩
  have hrA : RoomU k A := by
    rcases hA with rfl | rfl | rfl
    · exact hr.mono (by omega)
    · exact (hr.in1).mono (by omega)
    · exact hr.in1.in1
  have frA : A.frames = some X.stack := by
    rcases hA with rfl | rfl | rfl <;> exact I.ok.frames
  exact run_uA (vv := .ref a :: vv) (vs := .ref a :: vs) (vl := .ref a :: vl) kn.F hrA frA b (fun _ => relUs_dv _ hd) (fun _ => relUs_kd _ hk) hT I x rp (.cons rfl rv) rz ⟨_, _, rfl, rfl, ru⟩ ruz (by rw [List.length_cons, l1]) l2 l3 h hx
theorem inst_at {pins : List (Addr × Obj)} {σ : L2.St} {H : Hp} {G : Gp} {s : Shared} {a : Addr} {fs : List (String × U)} (I : Inv X pins σ H s) (rp : Rep X.K H G) (g : G a = some (.ins c fs)) : ∃ ox od, InstAt s.heap a ox (He.ga X.K (S c)) (some od) := by
  obtain ⟨dx, gs, hh, _⟩ := rp.ins g
  obtain ⟨mA, O, _⟩ := ins_get I.hok hh
  obtain ⟨od, J, _⟩ := O.look
  exact ⟨_, od, J⟩
/-- the operand is an instance: its class's entry -/
def ownU (tab : List (String × MAp)) (m : String) (x : U) (ys : List U) (G : Gp) (Q : UK) (E : UX) : Prop := match x with
  | .ref a => (match G a with
    | some (.ins c fs) => (match tab.lookup c with
      | some ap => ap (.ref a) ys [] G Q E
      | none => False)
    | _ => False)
  | _ => False
theorem ownU_of {tab : List (String × MAp)} {m : String} {x : U} {ys : List U} {G : Gp} {Q : UK} {E : UX} (h : ownU tab m x ys G Q E) : ∃ a c fs ap, x = .ref a ∧ G a = some (.ins c fs) ∧ tab.lookup c = some ap ∧ ap (.ref a) ys [] G Q E := by
  cases x <;> try exact h.elim
  rename_i a
  unfold ownU at h
  dsimp only at h
  split at h
  · rename_i c fs g
    split at h
    · rename_i ap hl
      exact ⟨a, c, fs, ap, rfl, g, hl, h⟩
    · exact h.elim
  · exact h.elim
def isInsU (x : U) (G : Gp) : Bool := match x with
  | .ref a => (match G a with
    | some (.ins _ _) => true
    | _ => false)
  | _ => false
/-- x in o, x not in o, o with a __contains__ -/
def truQ (neg : Bool) (Q : UK) : UK := fun u G => truU u G fun b G1 => Q (.bl (if neg then !b else b)) G1
def orIn (neg : Bool) (r : UR2) (tab : List (String × MAp)) : UR2 := fun x y G Q E => (isInsU y G = false ∧ r x y G Q E) ∨ ownU tab "__contains__" y [x] G (truQ neg Q) E
theorem tru_run {pins : List (Addr × Obj)} {σ : L2.St} {H : Hp} {G : Gp} {Q : UK} {neg : Bool} {v : Value} {s : Shared} (h : EP X pins σ (LV X.K H G (truQ neg Q)) v s) :
    wpAny (model X.prog X.w) X.A (truthy v) (fun b s' => EP X pins σ (LV X.K H G Q) (.bool (if neg then !b else b)) s') X.xe s := by
  obtain ⟨z, H1, I1, rz, u, G1, x1, rp1, ru, q⟩ := h
  have hW : ∀ c d H', LX X.K H1 G1 (fun _ _ => False) c d H' → W0 c d σ H' := fun c d H' ⟨_, _, _, _, _, q⟩ => q.elim
  exact thn (tr_u (W := W0) pins s σ H1 z v u G1 _ (fun _ _ => False) I1 rz ru rp1 q hW) fun b s2 ⟨H2, I2, G2, x2, rp2, q2⟩ => ⟨.bl (if neg then !b else b), H2, I2, rfl, .bl (if neg then !b else b), G2, x1.trans x2, rp2, rfl, q2⟩
theorem ou_inOwn {r : UR2} {tab : List (String × MAp)} (h0 : OpU X W (compareOp .In) r) (hm : ∀ c ap, tab.lookup c = some ap → MCall X W (S "__contains__") 1 [] c ap) : OpU X W (compareOp .In) (orIn false r tab) := by
  intro pins s σ H x y v u a b G Q E I rx ry ra rb rp h hx
  rcases h with ⟨_, h⟩ | h
  · exact h0 pins s σ H x y v u a b G Q E I rx ry ra rb rp h hx
  · obtain ⟨p, c, fs, ap, rfl, g, hl, h⟩ := ownU_of h
    obtain ⟨cl, f, mt, go⟩ := hm c ap hl
    have ey : y = .ref p := rb
    subst ey
    obtain rfl : u = Value.ref p := ry
    obtain ⟨ox, od, J⟩ := inst_at I rp g
    obtain ⟨mm, F⟩ := I.fr
    exact in_K F I.mod.kin J mt.at_ mt.fn (thn (go X.A (.inl rfl) pins s σ H H G G _ E p [a] [] [x] [] [v] [] I (.refl _ _) rp (.cons rx .nil) .nil (.one ra) rfl rfl rfl h hx) fun z s' q => tru_run (neg := false) q)
end
end UL
set_option maxHeartbeats 400000
namespace UL
open PySem PySem.Spec PyProof.Rows L2 PySem.W

section
variable {X : Cx} {W : WX} {es : List Expr} {kws : List Keyword} {e o : Expr} {to te ta' tb : UTE} {tk ta : UTA} {pos p apos : Pos} {k n : Nat} {ks : List Str} {sp : USp} {pl : List Src} {x m : Str} {d : DD} {c : String} {ap : MAp}
theorem eu_ty {T : String} (hg : Gl X x) (hm : X.mg x = none) (hv : bootBuiltins x = some (.type T)) (hn : x ≠ "__name__") (hd : (x == ("__debug__" : Str)) = false) : EU X W (.Name x pos) (tUC (.ty T)) := eu_c (pe_bltn (v := .ty T) hg hm hv rfl hn hd) fun _ => rfl
theorem eu_gint {i : Int} (hg : Gl X x) (hm : ∃ t, X.mg x = some (.int i t)) (hd : (x == ("__debug__" : Str)) = false) : EU X W (.Name x pos) (tUC (.int i)) := by
  obtain ⟨t, hm⟩ := hm
  exact eu_c (pe_glob (v := .int i) hg hm ⟨t, rfl⟩ hd) fun _ => rfl
def tUMake (c : String) (sp : USp) (n m : Nat) (pl : List Src) (ud uk : List U) (t tk : UTA) : UTE := fun us G Q E => t us G (fun vs G1 => tk us G1 (fun zs G2 => vs.length + 1 = n ∧ zs.length = m ∧ ∀ a, G2 a = none →
  sp (pl.map (Src.get .non (.ref a :: vs) zs ud uk)) (gup G2 a (.ins c [])) (fun v G3 => v = .non ∧ Q (.ref a) G3) E) E) E
theorem rep_made {K : PySem.W.Frag} {H : Hp} {G : Gp} {a dx : Addr} (ck : ClsK K c) (r : Rep K H G) (h1 : H a = none) (h2 : H dx = none) (ne : dx ≠ a) :
    Rep K (upd (upd H dx (.own a)) a (.ins (He.ga K (S c)) dx [])) (gup G a (.ins c [])) ∧ Ext H G (upd (upd H dx (.own a)) a (.ins (He.ga K (S c)) dx [])) (gup G a (.ins c [])) := by
  obtain ⟨r1, x1⟩ := r.laid0 (u := .own a) h2
  have h1' : upd H dx (.own a) a = none := by rw [upd_ne ne.symm]; exact h1
  obtain ⟨r2, x2⟩ := r1.laid (u := .ins (He.ga K (S c)) dx []) (o := .ins c []) h1' ⟨ck, dx, [], upd_same, rfl⟩
  exact ⟨r2, x1.trans x2⟩
theorem eu_make (ck : ClsK X.K c) (kn : Known X.prog X.w X.K X.mg X.base d k sp) (hr : RoomU (k + 1) X.A) (hg : Gl X (S c)) (hm : X.mg (S c) = some (.ref (He.ga X.K (S c)))) (M : Mk X.K (He.ga X.K (S c)) (d.at_ X.K)) (hP : Plain d.params)
    (e : planOf (parN d.params) (parK d.params) n ks d.dfl.length (d.kwd.map (·.1)) = some pl) (hd : d.dfl.all plainD = true) (hk : d.kwd.all (fun q => plainD q.2) = true) (hT : L2N.Takes X W) (l3 : pl.length = (parN d.params ++ parK d.params).length)
    (ha : AU X W es ta) (hkw : KU X W kws tk) (hst : Unst X.env es ta) (hall : (backToKw pos (keywordEach kws X.env)).all (·.1.isSome) = true) (hks : (backToKw pos (keywordEach kws X.env)).filterMap (·.1) = ks)
    (hpl : ((backTo pos (starEach es X.env)).any (·.1) || (backToKw pos (keywordEach kws X.env)).any (·.1.isNone)) = false) (hdb : (S c == ("__debug__" : Str)) = false) :
    EU X W (.Call (.Name (S c) p) es kws pos) (tUMake c sp n ks.length pl (d.dfl.map uOf) (d.kwd.map fun q => uOf q.2) ta tk) := by
  have b := bind_u (n := n) (ks := ks) (pl := pl) kn.D hP (by
    unfold DD.dvs DD.kws
    rw [List.length_map, List.map_map]
    exact e)
  obtain ⟨dv, kv, rd, rk, bt⟩ := b.ex
  refine ⟨fun pins s σ H us G Q E I rs rp h hx => ?_⟩
  refine wpAny_Call_Name_kw (ld_glob I hg hm ?_ hdb)
  refine call_with (first := []) M.kp ha hkw hst hall hks hpl I rs rp h hx fun s2 H2 G2 vs zs vv zv vl zl I2 x2 rp2 rv rz ru ruz ⟨l1, l2, q⟩ => ?_
  have f1 : H2 (s2.heap.objs.size + 1) = none := I2.hok.fresh (Nat.le_succ _)
  have f2 : H2 s2.heap.objs.size = none := I2.hok.fresh (Nat.le_refl _)
  have ne : s2.heap.objs.size ≠ s2.heap.objs.size + 1 := Nat.ne_of_lt (Nat.lt_succ_self _)
  have q1 := q (s2.heap.objs.size + 1) (rp2.fresh f1)
  obtain ⟨rp3, x3⟩ := rep_made (c := c) ck rp2 f1 f2 ne
  have I3 := Inv.made (C := He.ga X.K (S c)) I2
  have ru3 := ru.ext x3 rp2
  have ruz3 := ruz.ext x3 rp2
  have rv3 : Vals (V.ref (s2.heap.objs.size + 1) :: vv) (Value.ref (s2.heap.objs.size + 1) :: vl) := .cons rfl rv
  have ru4 : RelUs X.K _ (U.ref (s2.heap.objs.size + 1) :: vs) (V.ref (s2.heap.objs.size + 1) :: vv) := ⟨_, _, rfl, rfl, ru3⟩
  refine wpAny_call (make_map (f := d.at_ X.K) I2.kIn M.makes M.init (beq_iff_eq.mp M.fn) (codeAny_mono (kn.F.run _ X.stack _ _ ⟨Value.ref (s2.heap.objs.size + 1) :: vl, ks.zip zl⟩ _ _ _ _ _ E (hr.make _ vl (ks.zip zl)) (I3.env0.make _ vl (ks.zip zl))
    (bt _ (Value.ref (s2.heap.objs.size + 1) :: vl) zl I3.kIn (by rw [List.length_cons, ← rv.length, ru.length, l1]) (by rw [← rz.length, ruz.length, l2])) (plan_vals rv3 rz rd rk pl) (plan_rel ru4 ruz3 (relUs_dv _ hd) (relUs_kd _ hk) pl) (by rw [List.length_map, l3]) rp3 q1) fun r s' hq => ?_))
  have xx := x2.trans x3
  cases r with
  | error er => exact hT er s' (L2N.XE.of_call I3 (fun c d H' z => hx c d H' (z.trans xx)) hq)
  | ok fl =>
    cases fl with
    | ret u =>
      obtain ⟨v, H', I4, rv', w, G', x4, rp4, rw_, ew, q4⟩ := I3.after hq
      subst ew
      have ev : v = .non := rw_
      subst ev
      exact ⟨rv', ⟨V.ref (s2.heap.objs.size + 1), H', I4, rfl, .ref (s2.heap.objs.size + 1), G', xx.trans x4, rp4, rfl, q4⟩⟩
    | next => exact False.elim hq
    | brk => exact False.elim hq
    | cont => exact False.elim hq
def lenQ (Q : UK) : UK := fun u G => match u with
  | .int i => (0 ≤ i ∧ i < 1000000) ∧ Q (.int i) G
  | _ => False
def orC (r : URC) (tab : List (String × MAp)) (f : UK → UK) : URC := fun as G Q E => match as with
  | [x] => (isInsU x G = false ∧ r [x] G Q E) ∨ ownU tab "" x [] G (f Q) E
  | _ => False
theorem orC_of {r : URC} {tab : List (String × MAp)} {f : UK → UK} {as : List U} {G : Gp} {Q : UK} {E : UX} (h : orC r tab f as G Q E) : ∃ x, as = [x] ∧ ((isInsU x G = false ∧ r [x] G Q E) ∨ ownU tab "" x [] G (f Q) E) := by
  rcases as with _ | ⟨a, _ | ⟨b, r⟩⟩
  · exact h.elim
  · exact ⟨a, rfl, h⟩
  · exact h.elim
theorem cu_lenOwn {r : URC} {tab : List (String × MAp)} (h0 : CallU X W (.builtin "len") r) (hm : ∀ c ap, tab.lookup c = some ap → MCall X W (S "__len__") 0 [] c ap) : CallU X W (.builtin "len") (orC r tab lenQ) := by
  intro pins s σ H xs us as G Q E I rx ra rp h hx
  obtain ⟨w, rfl, h⟩ := orC_of h
  rcases h with ⟨_, h⟩ | h
  · exact h0 pins s σ H xs us [w] G Q E I rx ra rp h hx
  · obtain ⟨a, c, fs, ap, rfl, g, hl, h⟩ := ownU_of h
    obtain ⟨cl, f, mt, go⟩ := hm c ap hl
    obtain ⟨z, rfl, ez⟩ := relUs1 ra
    have ez' : z = .ref a := ez
    subst ez'
    obtain ⟨u, rfl, eu⟩ := vals1 rx
    obtain rfl : u = Value.ref a := eu
    obtain ⟨ox, od, J⟩ := inst_at I rp g
    obtain ⟨mm, F⟩ := I.fr
    refine len_K F I.mod.kin J mt.at_ mt.fn (thn (go X.A.in1 (.inr (.inl rfl)) pins s σ H H G G _ E a [] [] [] [] [] [] I (.refl _ _) rp .nil .nil rfl rfl rfl rfl h hx) fun v s' ⟨y, H', I', ry, w, G', x', rp', rw_, q⟩ => ?_)
    cases w <;> try exact q.elim
    rename_i q0 i
    obtain ⟨⟨q1, q2⟩, q⟩ := q
    have ey : y = .int i := rw_
    subst ey
    obtain ⟨t, rfl⟩ := (show ∃ t, v = Value.int i t from ry)
    exact ⟨⟨q1, by omega⟩, .int i, H', I'.tok _, ⟨_, rfl⟩, .int i, G', x', rp', rfl, q⟩
end
end UL
set_option maxHeartbeats 400000
namespace UL
open PySem PySem.Spec PyProof.Rows L2 PySem.W

inductive TD where | b (n : String) | o (c : String)
  deriving DecidableEq
def TD.v (K : PySem.W.Frag) : TD → Value
  | .b n => .type n
  | .o c => .ref (He.ga K (S c))
def tdOf (G : Gp) : U → Option TD
  | .non => some (.b "NoneType")
  | .bl _ => some (.b "bool")
  | .int _ => some (.b "int")
  | .str _ => some (.b "str")
  | .tup _ => some (.b "tuple")
  | .rol _ => some (.b "list")
  | .ref a => match G a with
    | some (.lst _) => some (.b "list")
    | some (.dct _) => some (.b "dict")
    | some (.dcr _ _ _) => some (.b "dict")
    | some (.ins c _) => some (.o c)
    | some (.xcp _ _) => none
    | none => none
  | _ => none
def tdC : U → Option TD
  | .ty n => some (.b n)
  | .glo c => some (.o c)
  | _ => none
theorem tdC_of {K : PySem.W.Frag} {H : Hp} {c : U} {z : V} {t : TD} (h : tdC c = some t) (r : RelU K H c z) : ClsV z (t.v K) := by
  cases c <;> try cases h
  · rw [show z = .ty _ from r]
    exact .ty _
  · rw [show z = .ref _ from r]
    exact .own _
theorem ty_frz {K : PySem.W.Frag} {H : Hp} {a : Addr} {xs : List V} (h : RoL K H a xs) : TyX K H (.ref a) (.type "list") := by
  rcases h with ⟨o, h⟩ | ⟨o, its, n, h1, h2, _⟩
  · exact .base (.frz h)
  · exact .kList h1 h2
theorem ty_tup {K : PySem.W.Frag} {H : Hp} {a : Addr} {xs : List V} (h : SqT K H a xs) : TyX K H (.ref a) (.type "tuple") := by
  rcases h with h | ⟨o, its, n, h1, h2, _⟩
  · rcases h with h | ⟨o, h⟩
    · exact .base (.tup h)
    · exact .fTuple h
  · exact .kTuple h1 h2
theorem tdOf_of {K : PySem.W.Frag} {H : Hp} {G : Gp} {x : U} {z : V} {t : TD} (rp : Rep K H G) (h : tdOf G x = some t) (r : RelU K H x z) : TyX K H z (t.v K) := by
  cases x with
  | non => cases h; rw [show z = .non from r]; exact .base .non
  | bl b => cases h; rw [show z = .bl b from r]; exact .base (.bl b)
  | int b => cases h; rw [show z = .int b from r]; exact .base (.int b)
  | str b => cases h; rw [show z = .str ⟨b.toArray⟩ from r]; exact .base (.str _)
  | tup us =>
    cases h
    obtain ⟨a, vs, rfl, t, _⟩ := r.tup_of
    exact ty_tup t
  | rol us =>
    cases h
    obtain ⟨a, vs, rfl, t, _⟩ := r
    exact ty_frz t
  | ref a =>
    rw [show z = .ref a from r]
    unfold tdOf at h
    dsimp only at h
    split at h
    · rename_i g
      cases h
      obtain ⟨vs, e, _⟩ := rp.lst g
      exact .base (.lst e)
    · rename_i g
      cases h
      obtain ⟨vs, e, _⟩ := rp.dct g
      exact .base (.dK e)
    · rename_i g
      cases h
      obtain ⟨e, _⟩ := rp _ _ g
      exact .fDict e
    · rename_i c fs g
      cases h
      obtain ⟨dx, gs, e, _⟩ := rp.ins g
      have k := (rp.clsK g).all
      exact .base (.ins e (rp.clsK g).cls k.2.1.1 k.2.1.2.1 k.2.1.2.2.1 k.2.1.2.2.2)
    · cases h
    · cases h
  | ty n => cases h
  | glo c => cases h
  | exc => cases h
def isiF : TD → TD → Bool
  | .b t, .b c => decide (t = c) || (decide (t = "bool") && decide (c = "int"))
  | .o t, .o c => decide (t = c)
  | _, _ => false
/-- what may stand behind the comma: built-in types, classes of ds -/
def isiOk (ds : List String) : TD → Prop
  | .b c => c ∈ tyNames
  | .o c => c ∈ ds ∧ c ∈ clsNames
def isiK (ds : List String) (t c : Option TD) (Q : Bool → Prop) : Prop := match t, c with
  | some t, some d => isiOk ds d ∧ Q (isiF t d)
  | _, _ => False
def isiV (ds : List String) : U → U → Gp → UK → Prop := fun x c G Q => isiK ds (tdOf G x) (tdC c) fun b => Q (.bl b) G
/-- a class of the text as what isinstance asks for -/
def tgtB (d : String) (K : PySem.W.Frag) : Bool := presB d K && ((clsIn K (He.ga K (S d))).isSome && decide (typeIn K (.ref (He.ga K (S d))) = some (.type "type")))
theorem kit_bb {K : PySem.W.Frag} : ∀ t ∈ ["NoneType", "bool", "int", "str", "tuple", "list", "dict"], ∀ c ∈ tyNames, kitOne K (.type t) (.type c) = some (isiF (.b t) (.b c)) := by
  intro t ht c hc
  refine L2.kit_ty (K := K) (a := t) (b := c) ?_
  have h : (["NoneType", "bool", "int", "str", "tuple", "list", "dict"].all fun t => tyNames.all fun c => decide (L2.kitB t c = some (isiF (.b t) (.b c)))) = true := by decide +kernel
  exact of_decide_eq_true (List.all_eq_true.mp (List.all_eq_true.mp h t ht) c hc)
theorem kit_bo {K : PySem.W.Frag} {d : String} (h : tgtB d K = true) : ∀ t ∈ ["NoneType", "bool", "int", "str", "tuple", "list", "dict"], kitOne K (.type t) (.ref (He.ga K (S d))) = some false := by
  intro t ht
  unfold tgtB at h
  simp only [Bool.and_eq_true, decide_eq_true_eq] at h
  have e : (Value.type t == Value.ref (He.ga K (S d))) = false := beq_eq_false_iff_ne.mpr fun z => nomatch z
  unfold kitOne kitCls
  rw [e]
  simp only [Bool.false_eq_true, if_false]
  rw [h.2.1, h.2.2]
  simp only [beq_self_eq_true, Bool.and_self, if_true]
  unfold subIn
  dsimp only
  have h2 : (["NoneType", "bool", "int", "str", "tuple", "list", "dict"].all fun t => match PySem.fastBuiltinMro t with
      | some l => l.all fun v => match v with
        | .ref _ => false
        | _ => true
      | none => false) = true := by decide +kernel
  have h3 := List.all_eq_true.mp h2 t ht
  split at h3
  · rename_i l hl
    rw [hl]
    simp only [Option.map_some, Option.some.injEq]
    cases hc : l.contains (Value.ref (He.ga K (S d))) with
    | false => rfl
    | true =>
      have := List.all_eq_true.mp h3 _ (List.contains_iff_mem.mp hc)
      cases this
  · cases h3
theorem tdOf_b {G : Gp} {x : U} {n : String} (h : tdOf G x = some (.b n)) : n ∈ ["NoneType", "bool", "int", "str", "tuple", "list", "dict"] := by
  cases x with
  | ref a =>
    unfold tdOf at h
    dsimp only at h
    split at h <;> cases h <;> decide
  | non => cases h; decide
  | bl b => cases h; decide
  | int b => cases h; decide
  | str b => cases h; decide
  | tup b => cases h; decide
  | rol b => cases h; decide
  | ty n => cases h
  | glo n => cases h
  | exc => cases h
theorem tdOf_o {G : Gp} {x : U} {n : String} (h : tdOf G x = some (.o n)) : ∃ a fs, x = .ref a ∧ G a = some (.ins n fs) := by
  cases x with
  | ref a =>
    unfold tdOf at h
    dsimp only at h
    split at h <;> cases h
    rename_i fs g
    exact ⟨a, _, rfl, g⟩
  | _ => cases h
section
variable {X : Cx} {W : WX}
theorem cu_isi {ds : List String} (hd : ∀ d ∈ ds, tgtB d X.K = true) : CallU X W (.builtin "isinstance") (u2 (isiV ds)) := .of call_isi fun xs H as G Q E r rp h => by
  obtain ⟨u, w, rfl, q⟩ := u2_of h
  clear h
  obtain ⟨x, y, rfl, e, e'⟩ := relUs2 r
  unfold isiV isiK at q
  split at q
  · rename_i t d ht hd'
    obtain ⟨ok, q⟩ := q
    refine ⟨x, y, _, _, isiF t d, rfl, tdC_of hd' e', tdOf_of rp ht e, ?_, lv_bl rp q⟩
    cases t with
    | b n =>
      cases d with
      | b m => exact kit_bb n (tdOf_b ht) m ok
      | o c => exact kit_bo (hd c ok.1) n (tdOf_b ht)
    | o n =>
      obtain ⟨a, fs, rfl, g⟩ := tdOf_o ht
      have k := (rp.clsK g).all
      cases d with
      | b m => exact k.2.2.2.2.2.1 m ok
      | o c =>
        have hp := hd c ok.1
        unfold tgtB at hp
        rw [Bool.and_eq_true] at hp
        exact k.2.2.2.2.2.2 c ok.2 hp.1
  · exact q.elim
end

section
variable {prog : Program} {w : World} {A : Around} {E : Value → Shared → Prop} {s : Shared} {K : PySem.W.Frag} {x y C : Addr} {ox oy : Obj} {od : Option Obj}
end
section
variable {X : Cx} {W : WX}
end
end UL
set_option maxHeartbeats 400000
namespace UL
open PySem PySem.Spec PyProof.Rows L2 PySem.W

def joinN (a : List Nat) : List (List Nat) → List Nat
  | [] => []
  | [x] => x
  | x :: y :: r => x ++ (a ++ joinN a (y :: r))
theorem joinN_nil : ∀ l : List (List Nat), joinN [] l = l.flatten
  | [] => rfl
  | [x] => by simp [joinN]
  | x :: y :: r => by
    rw [joinN, joinN_nil (y :: r)]
    rfl
def strsU : List U → Option (List (List Nat))
  | [] => some []
  | .str l :: r => (strsU r).map (l :: ·)
  | _ :: _ => none
/-- a.join(items) -/
def joinU : URM := fun x as G Q _ => match x, as with
  | .str a, [y] => (match seqOf G y with
    | some us => (match strsU us with
      | some ls => (ls.map List.length).sum + ls.length * a.length ≤ 1000000 ∧ Q (.str (joinN a ls)) G
      | none => False)
    | none => False)
  | _, _ => False
section
variable {X : Cx} {W : WX}
def strV : U → Gp → UK → Prop := fun u G Q => match u with
  | .str l => Q (.str l) G
  | .int i => i.natAbs.log2 < 1920 ∧ Q (.str (Str.ofString (toString i)).cps.toList) G
  | _ => False
def fmtV : U → Gp → UK → Prop := fun u G Q => match u with
  | .str l => l.length ≤ 1000000 ∧ Q (.str l) G
  | .int i => i.natAbs.log2 < 1920 ∧ Q (.str (Str.ofString (toString i)).cps.toList) G
  | _ => False
def tUFmt (te : UTE) : UTE := fun us G Q E => te us G (fun x G1 => fmtV x G1 Q) E
/-- the parts one behind the other -/
def tUJs : List UTE → List Nat → USt → Gp → UK → UX → Prop
  | [], acc, _, G, Q, _ => Q (.str acc) G
  | t :: ts, acc, us, G, Q, E => t us G (fun x G1 => match x with
    | .str l => acc.length + l.length ≤ 1000000 ∧ tUJs ts (acc ++ l) us G1 Q E
    | _ => False) E
end
end UL
set_option maxHeartbeats 4000000
namespace UL
open PySem PySem.Spec PyProof.Rows L2 PySem.W

structure OexG (K : PySem.W.Frag) (C : Addr) : Prop where
  cls : ∃ B newId initId bmB nm q N bs bm sn sub ab col dd k0 k1 k2 k3 k5, K.lookup C = some (excClassObj nm q C N bs bm true sn sub ab col dd k0 k1 k2 k3 k5 newId) ∧ excTail bmB bm = true ∧ ExcBaseFacts B newId initId bmB ∧ StoreFacts B bmB "object.__setattr__" "object"
  sa : PySem.W.findIn K (.ref C) "__setattr__" = some (some (.builtin "object.__setattr__"))
  exC : PySem.W.subIn K (.ref C) (.type "BaseException") = some true
  tyC : PySem.W.typeIn K (.ref C) = some (.type "type")
  kC : PySem.W.keepIn K (.ref C) = true

section
open PySem.Builtin PySem.Builtin.ObjectAttr
variable {prog : Program} {w : World} {A : Around} {E : Value → Shared → Prop} {R : Result → Shared → Prop} {hp : Heap} {g : Array GenState} {d : Drawn} {t : Nat} {os : OsState} {K : PySem.W.Frag} {name : Str} {tk : Tok} {v : Value} {x C : Addr} {fv : Array Value} {cd : ClassData} {B : String} {bmB : List Value}
theorem over_of {bm : List Value} (hcd : clsIn K C = some cd) (hm : cd.mro = .ref C :: bm) (ht : excTail bmB bm = true) : excOver K C bmB = true := by
  unfold excOver
  rw [hcd]
  show (match cd.mro with | .ref C' :: bm => C' == C && excTail bmB bm | _ => false) = true
  rw [hm]
  show (C == C && excTail bmB bm) = true
  rw [ht]
  simp
theorem taker_of (ha : findIn K (.ref C) name = some none) : takerIn K C name = some none := by
  unfold takerIn
  rw [ha]
  rfl
theorem osaG_new (SF : StoreFacts B bmB "object.__setattr__" "object") (X : K.In hp) (hx : hp.get? x = some { cls := .ref C, data := .fields fv }) (hcd : clsIn K C = some cd) (ho : excOver K C bmB = true) (hh : cd.hasDict = true) (ha : findIn K (.ref C) name = some none)
    (hq : ∀ h' tk' dx, (∀ b o, b ≠ x → hp.get? b = some o → h'.get? b = some o) → hp.objs.size ≤ dx → dx ≠ x → h'.get? x = some { cls := .ref C, dict := some dx, data := .fields fv } →
      h'.Ns1 dx (fun y => if y = name then some v else none) → R (.ok (.ret .none)) ⟨h', g, d, tk', os⟩) :
    codeAny (model prog w) A (.call (.builtin "object.__setattr__") ⟨[.ref x, .str name tk, v], []⟩) R ⟨hp, g, d, t, os⟩ := by
  have hxs : x ≠ hp.objs.size := Nat.ne_of_lt (Heap.lt_size hx)
  have hcls : Looks (model prog w) hp (classData C) cd := looks_clsIn X hcd
  refine osa_openX (s := ⟨hp, g, d, t, os⟩) (od := none) (r := none) SF X ⟨hx, rfl, rfl, trivial⟩ ho (taker_of ha) fun b => ?_
  show wpAny _ _ (storeInOwnDict (.ref x) (.ref C) (.str name tk) name v b) _ _ _
  obtain ⟨nm, bs, mro, ns, qn, hd, sn, sb, ab, col, del⟩ := cd
  dsimp only at hh
  subst hh
  unfold storeInOwnDict ownDictForStores
  repeat (first | with_reducible refine PySem.HandSPX.store_in_new ?_ ?_ | with_reducible refine wpAny_loadPart_at hx ?_ | with_reducible refine hcls.at ?_ | wp_step)
  · exact ⟨_, #[], _, (Heap.get?_update_ne _ _ _ _ hxs.symm).trans (Heap.get?_push_at rfl rfl), rfl, fun e he => absurd he (by simp), fun _ => rfl⟩
  · intro h' tk' hn' hs
    have hx₁ : (hp.push { cls := .type "dict", data := .dict #[] }).get? x = some { cls := .ref C, data := .fields fv } := Heap.get?_push_of_some _ hx
    refine hq h' tk' hp.objs.size (fun b o hb ho => ?_) (Nat.le_refl _) hxs.symm ?_ hn'
    · exact (hs.2 b (Nat.ne_of_lt (Heap.lt_size ho))).trans ((Heap.get?_update_ne _ _ _ _ hb).trans (Heap.get?_push_of_some _ ho))
    · exact (hs.2 x hxs).trans (Heap.get?_update_self _ hx₁ rfl)
theorem osaG_old {dx : Addr} {m0 : Str → Option Value} {nl : List Str} (SF : StoreFacts B bmB "object.__setattr__" "object")
    (X : K.In hp) (hx : hp.get? x = some { cls := .ref C, dict := some dx, data := .fields fv }) (hns : hp.Ns1 dx m0) (hw : Within m0 nl) (hz : nl.length ≤ 1000) (hcd : clsIn K C = some cd) (ho : excOver K C bmB = true) (hh : cd.hasDict = true)
    (ha : findIn K (.ref C) name = some none)
    (hq : ∀ h' tk', (∀ b o, b ≠ dx → hp.get? b = some o → h'.get? b = some o) → h'.Ns1 dx (fun y => if y = name then some v else m0 y) → R (.ok (.ret .none)) ⟨h', g, d, tk', os⟩) :
    codeAny (model prog w) A (.call (.builtin "object.__setattr__") ⟨[.ref x, .str name tk, v], []⟩) R ⟨hp, g, d, t, os⟩ := by
  obtain ⟨oD, esD, epD, hoD, hdD, _⟩ := hns.count hw
  have hcls : Looks (model prog w) hp (classData C) cd := looks_clsIn X hcd
  refine osa_openX (s := ⟨hp, g, d, t, os⟩) (od := some oD) (r := none) SF X ⟨hx, rfl, rfl, hoD⟩ ho (taker_of ha) fun b => ?_
  show wpAny _ _ (storeInOwnDict (.ref x) (.ref C) (.str name tk) name v b) _ _ _
  obtain ⟨nm, bs, mro, ns, qn, hd, sn, sb, ab, col, del⟩ := cd
  dsimp only at hh
  subst hh
  unfold storeInOwnDict ownDictForStores
  repeat (first | with_reducible refine PySem.OEX.store_in_old hns hw hz ?_ | with_reducible refine wpAny_loadPart_at hx ?_ | with_reducible refine hcls.at ?_ | wp_step)
  intro h' tk' hn' hs
  exact hq h' tk' (fun b o hb ho => (hs.2 b hb).trans ho) hn'
end

theorem OexG.cdata {K : PySem.W.Frag} {C : Addr} (T : OexG K C) : ∃ B bmB cd, StoreFacts B bmB "object.__setattr__" "object" ∧ clsIn K C = some cd ∧ excOver K C bmB = true ∧ cd.hasDict = true := by
  obtain ⟨B, newId, initId, bmB, nm, q, N, bs, bm, sn, sub, ab, col, dd, k0, k1, k2, k3, k5, hC, ht, FB, SF⟩ := T.cls
  have hcl : PySem.W.clsIn K C = some { name := nm, bases := bs, mro := .ref C :: bm, ns := N, qualname := q, hasDict := true, slotNames := sn, subclasses := sub, abstract := ab, collection := col, hasDel := false } := by unfold PySem.W.clsIn; rw [hC] <;> rfl
  exact ⟨B, bmB, _, SF, hcl, over_of hcl rfl ht, rfl⟩

section
variable {X : Cx} {pins : List (Addr × Obj)} {σ : L2.St} {H : Hp} {s : Shared} {a C dx : Addr} {f : Str} {y : V} {u : Value} {fs : List (Str × V)} {Q : Unit → Shared → Prop} {E : Value → Shared → Prop} {A : Around}
/-- self.f = y, the first one -/
theorem ostG_new (T : OexG X.K C) (I : Inv X pins σ H s) (e : H a = some (exo a C none)) (hno : PySem.W.findIn X.K (.ref C) f = some none) (ry : RelV y u)
    (h : ∀ dx s', H dx = none → dx ≠ a → Inv X pins σ (upd (upd H dx (exd dx [(f, y)])) a (exo a C (some dx))) s' → Q () s') : wpAny (model X.prog X.w) A (setAttr (.ref a) f u) Q E s := by
  obtain ⟨B, bmB, cd, SF, hcl, hov, hhd⟩ := T.cdata
  obtain ⟨t1, ho⟩ := exo_at I.hok e
  obtain ⟨hp, g, d, t, os⟩ := s
  refine PySem.W.set_plain I.kIn (ox := { cls := .ref C, dict := none, data := .fields #[.ref t1, .none, .none, .none, .bool false, .none] }) (od := none) ⟨ho, rfl, rfl, trivial⟩ T.sa ?_
  refine osaG_new SF I.kIn ho hcl hov hhd hno (fun h' tk' dx k dn dne hx hn => ?_)
  have hnd : H dx = none := I.hok.fresh dn
  have nd : ∀ {b : Addr} {o : Obj}, hp.get? b = some o → b ≠ dx := fun {b o} q => Nat.ne_of_lt (Nat.lt_of_lt_of_le (Heap.lt_size q) dn)
  have na : ∀ {b : Addr}, H b = none → b ≠ a := fun {b} n z => by
    rw [z, e] at n
    cases n
  have Un1 : Un X.fs [] H (upd (upd H dx (exd dx [(f, y)])) a (exo a C (some dx))) hp h' := {
    keep := fun b o q n _ _ => k b o (na n) q
    slot := fun b o q n _ _ => ⟨o.slots, k b o (na n) q⟩
    free := fun b o q n _ => by rw [upd_ne (na n), upd_ne (nd q)]; exact n
    there := fun b o q _ => by
      by_cases hb : b = a
      · exact ⟨_, by rw [hb]; exact hx⟩
      · exact ⟨o, k b o hb q⟩
    tups := fun b xs q => by rw [upd_ne (at_ne e q exo_tup), upd_ne (ne_of_none q hnd)]; exact q
    frzs := fun b o v q => by rw [upd_ne (at_ne e q exo_frz), upd_ne (ne_of_none q hnd)]; exact q
    tbls := fun b ps q => ⟨#[], by rw [upd_ne (at_ne e q exo_tbl), upd_ne (ne_of_none q hnd), q]; simp⟩ }
  refine h dx _ hnd dne (I.un (t' := tk') Un1 fun b o q => ?_)
  by_cases hb : b = a
  · subst hb
    rw [upd_same] at q
    cases q
    exact exo_ok hx
  · rw [upd_ne hb] at q
    by_cases hd : b = dx
    · subst hd
      rw [upd_same] at q
      cases q
      exact exd_ok hn (relO_put (fs := []) ry fun g => True.intro)
    · rw [upd_ne hd] at q
      exact (I.hok b o q).stay (fun c v hc z => k c v (by
          rcases hc with hc | hc
          · rw [hc]
            exact hb
          · exact at_ne e hc exo_own) z)
        (fun c hc => by rw [upd_ne (at_ne e hc exo_own), upd_ne (ne_of_none hc hnd)]; exact hc) (fun c xs hc => by rw [upd_ne (at_ne e hc exo_tup), upd_ne (ne_of_none hc hnd)]; exact hc)
/-- self.f = y, a further one -/
theorem ostG_old (T : OexG X.K C) (I : Inv X pins σ H s) (e : H a = some (exo a C (some dx))) (ed : H dx = some (exd dx fs)) (hl : fs.length ≤ 900) (hno : PySem.W.findIn X.K (.ref C) f = some none) (ry : RelV y u)
    (h : ∀ s', Inv X pins σ (upd H dx (exd dx ((f, y) :: fs))) s' → Q () s') : wpAny (model X.prog X.w) A (setAttr (.ref a) f u) Q E s := by
  obtain ⟨B, bmB, cd, SF, hcl, hov, hhd⟩ := T.cdata
  obtain ⟨t1, ho⟩ := exo_at I.hok e
  obtain ⟨mA, hns, rel⟩ := exd_at I.hok ed
  have hw := within_of rel
  obtain ⟨hp, g, d, t, os⟩ := s
  obtain ⟨oD, _, _, hoD, _, _⟩ := hns.count hw
  refine PySem.W.set_plain I.kIn (ox := { cls := .ref C, dict := some dx, data := .fields #[.ref t1, .none, .none, .none, .bool false, .none] }) (od := some oD) ⟨ho, rfl, rfl, hoD⟩ T.sa ?_
  refine osaG_old SF I.kIn ho hns hw (by rw [List.length_map]; omega) hcl hov hhd hno (fun h' tk' k hn => ?_)
  have hd : ∃ o, h'.get? dx = some o := by
    obtain ⟨o, _, _, e', _⟩ := hn
    exact ⟨o, e'⟩
  exact h _ (I.write (t' := tk') (x := dx) (e := dx) (o := exd dx ((f, y) :: fs)) (by rw [ed]; exact True.intro) (.inl rfl) k hd (exd_ok hn (relO_put ry rel)))
end

def tOstG (K : PySem.W.Frag) (f : Str) (to te : TE) : TS := fun D σ H => te σ H fun y H1 => to σ H1 fun x H2 => ∃ a C : Addr, x = .ref a ∧ OexG K C ∧ PySem.W.findIn K (.ref C) f = some none ∧
  ((H2 a = some (exo a C none) ∧ ∀ dx, H2 dx = none → dx ≠ a → D.nx σ (upd (upd H2 dx (exd dx [(f, y)])) a (exo a C (some dx)))) ∨
    ∃ (dx : Addr) (fs : List (Str × V)), H2 a = some (exo a C (some dx)) ∧ H2 dx = some (exd dx fs) ∧ fs.length ≤ 900 ∧ D.nx σ (upd H2 dx (exd dx ((f, y) :: fs))))
section
variable {X : Cx} {o e : Expr} {es : List Expr} {to te : TE} {ta : TA} {f : Str} {p p' p1 p2 pos : Pos}
theorem ps_ostG (ho : PE X o to) (he : PE X e te) (hs : swapsWith e (some (.Attribute o f p')) pos.line X.env = pure false := by rfl) : PS X (.Assign [.Attribute o f p'] e pos) (tOstG X.K f to te) := by
  refine ⟨fun pins s σ H D I h => ?_⟩
  refine plainObj_wpAny_Assign_Attribute (thn (he.run pins s σ H _ I h) fun v s1 ⟨y, H1, I1, r1, q1⟩ => thn (ho.run pins s1 σ H1 _ I1 q1) fun u s2 ⟨x, H2, I2, r2, a, C, ex, T, hno, q⟩ => ?_) hs
  subst ex
  obtain rfl : u = Value.ref a := r2
  rcases q with ⟨ea, q⟩ | ⟨dx, fs, ea, ed, hl, q⟩
  · exact ostG_new T I2 ea hno r1 fun dx s' n ne J => ⟨σ, _, J, q dx n ne⟩
  · exact ostG_old T I2 ea ed hl hno r1 fun s' J => ⟨σ, _, J, q⟩
theorem pmk_oexG {CX : CXT} {x : Str} {C fI : Addr} {k : Nat} {fd : FuncData} {ps : List Str} {sp : Sp} {ds : List Value} {dvs : List V} (T : OexG X.K C) (iC : PySem.W.findIn X.K (.ref C) "__init__" = some (some (.ref fI))) (tI : PySem.W.typeIn X.K (.ref fI) = some (.type "function"))
    (F1 : FnOk X.prog X.w X.K X.mg X.base CX k fI fd ps sp) (hr : Room (k + 1) X.A) (hb : Binds X.K fd ps ds) (hd : Vals dvs ds) (hx : Passes CX X (fun _ _ _ => False)) (hg : Gl X x) (hm : X.mg x = some (.ref C)) (ha : PA X (e :: es) ta)
    (hdb : (x == ("__debug__" : Str)) = false := by decide) (he : starEach (e :: es) X.env = (false, eval e X.env) :: starEach es X.env := by rfl) (hpl : (backTo pos (starEach es X.env)).any (·.1) = false := by rfl) :
    L2N.PMk X (.Call (.Name x p) (e :: es) [] pos) (tMkO C sp dvs ta) := by
  intro pins s σ H Q I h
  obtain ⟨B, newId, initId, bmB, nm, q, N, bs, bm, sn, sub, ab, col, dd, k0, k1, k2, k3, k5, hC, hbm, FB, SF⟩ := T.cls
  refine wpAny_Call_Name_kw (ld_glob I hg hm ?_ hdb)
  refine PySem.W.callWith_K (h₀ := X.base) I.ok.mod.kin T.kC (thn (ha.run pos pins s σ H _ I h) fun us s1 ⟨vs, H1, I1, r1, hz, q1⟩ => ⟨I1.kIn, ?_⟩) he hpl
  show wpAny _ _ (call (.ref C) us) _ _ _
  obtain ⟨hp, g, dr, tk, os⟩ := s1
  have hsz : hp.objs.size ≤ hp.objs.size + 1 := Nat.le_succ _
  have hn : H1 (hp.objs.size + 1) = none := I1.hok.fresh hsz
  have hq := q1 (hp.objs.size + 1) hn
  have kk : ∀ b o, hp.get? b = some o → ((hp.push (PySem.W.kdv_tup us)).push (PySem.HandSPX.excO C hp.objs.size)).get? b = some o := fun b o e => Heap.get?_push_of_some _ (Heap.get?_push_of_some _ e)
  have hget : ((hp.push (PySem.W.kdv_tup us)).push (PySem.HandSPX.excO C hp.objs.size)).get? (hp.objs.size + 1) = some (PySem.HandSPX.excO C hp.objs.size) := by heap_get
  have I2 : Inv X pins σ (upd H1 (hp.objs.size + 1) (exo (hp.objs.size + 1) C none)) ⟨(hp.push (PySem.W.kdv_tup us)).push (PySem.HandSPX.excO C hp.objs.size), g, dr, tk, os⟩ :=
    I1.laid (t' := tk) (a := hp.objs.size + 1) (o := exo (hp.objs.size + 1) C none) (h' := (hp.push (PySem.W.kdv_tup us)).push (PySem.HandSPX.excO C hp.objs.size)) kk hsz (exo_ok hget)
  have r2 : Vals (V.ref (hp.objs.size + 1) :: (vs ++ dvs)) (Value.ref (hp.objs.size + 1) :: (us ++ ds)) := .cons rfl (r1.append hd)
  have hl : (Value.ref (hp.objs.size + 1) :: us ++ ds).length = ps.length := by
    have e := r2.length
    rw [F1.len _ _ _ _ hq] at e
    exact e.symm
  have hus : us.length ≤ sizeLine := by
    rw [← Paired.length r1, sizeLine_eq]
    omega
  refine wpAny_call (PySem.HandSPX.call_own FB (fun Y => excTail_contains Y bm hbm) (I1.kIn _ _ hC) (PySem.W.looks_findIn I1.kIn iC) (fun self => PySem.W.bind_fn I1.kIn self tI) hus
    (codeAny_mono (F1.run _ X.stack _ _ ⟨Value.ref (hp.objs.size + 1) :: us, []⟩ (Value.ref (hp.objs.size + 1) :: (us ++ ds)) _ _ (fun _ _ _ => False) (hr.make C us []) (I2.env0.make C us []) (hb _ (Value.ref (hp.objs.size + 1) :: us) I2.kIn hl) r2 hq) fun r s' hq' => ?_))
  cases r with
  | error er => exact hx pins σ _ _ er s' I2 hq'
  | ok fl =>
    cases fl with
    | ret u =>
      obtain ⟨v, H2, os2, bare2, un2, hok2, rv, ev, d, fs, ea, ed, hd1, q2⟩ := hq'
      subst ev
      obtain ⟨h2, g2, d2, t2, os'⟩ := s'
      obtain ⟨t0, G, J, kG, ge, hoe, na⟩ := mk_end0 (d2 := d2) (t2 := t2) I1 hsz kk un2 hok2 os2 bare2 ea ed hd1
      exact ⟨rv, ⟨hp.objs.size + 1, _, _, ⟨G, g2, d2, t2, os'⟩, _, .ref C, some d, rfl, J, kG, ge, hoe, ⟨rfl, rfl, fun vs hv => by
        cases hv
        rfl⟩, rfl, rfl, na, rfl, bare2, raises_own T.exC T.tyC, q2⟩⟩
    | next => exact False.elim hq'
    | brk => exact False.elim hq'
    | cont => exact False.elim hq'
end
end UL
set_option maxHeartbeats 400000
namespace UL
open PySem PySem.Spec PyProof.Rows L2 PySem.W

def pairsF (fl : List String) (xs : List V) : List (Str × V) := (fl.map S).zip xs
def spIni (C : Addr) (fl : List String) : Sp := fun vs H Q _ => ∃ a xs, vs = .ref a :: xs ∧ xs.length = fl.length ∧ H a = some (exo a C none) ∧ ∀ dx, H dx = none → dx ≠ a → Q .non (upd (upd H dx (exd dx (pairsF fl xs).reverse)) a (exo a C (some dx)))
section
variable {P : Program} {w : World} {K : PySem.W.Frag} {mg : Str → Option Value} {base : Heap} {name qual : Str} {params : Arguments} {scope : Scope} {fa C : Addr} {fd : FuncData} {x0 x1 x2 x3 : Str} {f1 f2 f3 : String} {p1 p2 p3 p4 q1 q2 q3 q4 r1 r2 r3 r4 : Pos}
def okN (x : Str) : Prop := (x == ("__debug__" : Str)) = false ∧ (x == ("__classdict__" : Str)) = false
theorem vis_of {N ps : List Str} (Sc : FnScope N ps scope) {x : Str} (h : x ∈ ps) : Vis scope x := (Sc.par x h).imp id .inl
theorem ini1 (F : FunD K name qual params [.Assign [.Attribute (.Name x0 p1) (S f1) p2] (.Name x1 p3) p4] scope [] [] fa fd) (Sc : FnScope [x0, x1] [x0, x1] scope) (T : OexG K C) (n1 : findIn K (.ref C) (S f1) = some none) (o0 : okN x0) (o1 : okN x1) :
    FnOk P w K mg base L2.CX0 1 fa fd [x0, x1] (spIni C [f1]) := by
  refine F.ok Sc (fun vs H Q E ⟨a, xs, e, l, _⟩ => ?_) (fun cdv A outer s H vs Q E hr ⟨a, xs, e, l, ha, q⟩ => ⟨tOstG K (S f1) (tVar 0) (tVar 1), PSs.nox (pss_one (ps_ostG (pe_var rfl (vis_of Sc (by simp)) o0.1 o0.2) (pe_var rfl (vis_of Sc (by simp)) o1.1 o1.2) rfl)), ?_⟩)
  · subst e
    simp only [List.length_cons, l, List.length_nil]
  · subst e
    rcases xs with _ | ⟨y, _ | ⟨z, r⟩⟩
    · cases l
    · exact ⟨y, rfl, _, rfl, a, C, rfl, T, n1, .inl ⟨ha, fun dx h1 h2 => q dx h1 h2⟩⟩
    · cases l
end

theorem pairs_look {K : PySem.W.Frag} {H : Hp} {f : String} {u : U} : ∀ {fl : List String} {us : List U} {xs : List V}, RelUs K H us xs → us.length = fl.length → fget (fl.zip us) f = some u → ∃ v, (pairsF fl xs).lookup (S f) = some v ∧ RelU K H u v
  | [], _, _, _, _, h => by cases h
  | g :: fl, [], _, _, l, _ => by cases l
  | g :: fl, w :: us, _, ⟨v, ws, rfl, hv, t⟩, l, h => by
    rw [List.zip_cons_cons, fget] at h
    show ∃ v', List.lookup (S f) ((S g, v) :: pairsF fl ws) = some v' ∧ _
    rw [List.lookup_cons]
    by_cases e : g = f
    · subst e
      rw [if_pos rfl] at h
      cases h
      exact ⟨v, by simp, hv⟩
    · rw [if_neg e] at h
      rw [beq_eq_false_iff_ne.mpr fun z => e (S_inj z.symm)]
      exact pairs_look t (by simpa using l) h
theorem lookup_rev {f : Str} {v : V} : ∀ {l : List (Str × V)}, (l.map (·.1)).Nodup → l.lookup f = some v → l.reverse.lookup f = some v := by
  intro l nd h
  have mem : ∀ {l : List (Str × V)}, l.lookup f = some v → (f, v) ∈ l := by
    intro l
    induction l with
    | nil => intro h; cases h
    | cons q r ih =>
      obtain ⟨a, b⟩ := q
      intro h
      rw [List.lookup_cons] at h
      cases e : f == a with
      | true =>
        rw [e] at h
        cases h
        rw [beq_iff_eq.mp e]
        exact List.mem_cons_self
      | false =>
        rw [e] at h
        exact List.mem_cons_of_mem _ (ih h)
  have uniq : ∀ {l : List (Str × V)}, (l.map (·.1)).Nodup → (f, v) ∈ l → l.lookup f = some v := by
    intro l
    induction l with
    | nil => intro _ h; cases h
    | cons q r ih =>
      obtain ⟨a, b⟩ := q
      intro nd h
      rw [List.map_cons, List.nodup_cons] at nd
      rw [List.lookup_cons]
      rcases List.mem_cons.mp h with e | h
      · cases e
        simp
      · have ne : f ≠ a := fun e => nd.1 (by rw [← e]; exact List.mem_map.mpr ⟨_, h, rfl⟩)
        rw [beq_eq_false_iff_ne.mpr ne]
        exact ih nd.2 h
  exact uniq (by rw [List.map_reverse]; exact (List.reverse_perm _).nodup_iff.mpr nd) (List.mem_reverse.mpr (mem h))
theorem pairs_keys : ∀ {fl : List String} {xs : List V}, xs.length = fl.length → (pairsF fl xs).map (·.1) = fl.map S
  | [], _, _ => rfl
  | f :: fl, [], l => by cases l
  | f :: fl, x :: xs, l => by
    show S f :: (pairsF fl xs).map (·.1) = S f :: fl.map S
    rw [pairs_keys (by simpa using l)]
theorem nodup_S {fl : List String} (h : fl.Nodup) : (fl.map S).Nodup := by
  unfold List.Nodup at h ⊢
  rw [List.pairwise_map]
  exact h.imp fun ne z => ne (S_inj z)
def tURaise (c : String) (fl : List String) (t : UTA) : UTS := fun D us G => t us G (fun vs G1 => vs.length = fl.length ∧ D.ex ⟨c, fl.zip vs⟩ us G1) (fun x G1 => D.ex x us G1)
section
variable {X : Cx} {W : WX} {e : Expr} {es : List Expr} {ta : UTA} {p pos pos' : Pos} {k : Nat} {fd : FuncData} {ps : List Str} {c : String} {fl : List String} {fI : Addr}
theorem su_raise (hc : X.calm = true) (hT : L2N.Takes X W) (T : OexG X.K (He.ga X.K (S c))) (iC : findIn X.K (.ref (He.ga X.K (S c))) "__init__" = some (some (.ref fI))) (tI : typeIn X.K (.ref fI) = some (.type "function")) (F1 : FnOk X.prog X.w X.K X.mg X.base L2.CX0 k fI fd ps (spIni (He.ga X.K (S c)) fl))
    (hr : RoomU (k + 1) X.A) (hb : Binds X.K fd ps []) (hg : Gl X (S c)) (hm : X.mg (S c) = some (.ref (He.ga X.K (S c)))) (nd : fl.Nodup) (hl : fl.length ≤ 1000) (ha : AU X W (e :: es) ta)
    (hdb : (S c == ("__debug__" : Str)) = false) (he : starEach (e :: es) X.env = (false, eval e X.env) :: starEach es X.env) (hpl : (backTo pos (starEach es X.env)).any (·.1) = false) :
    SU X W (.Raise (some (.Call (.Name (S c) p) (e :: es) [] pos)) none pos') (tURaise c fl ta) := by
  refine .of (L2N.ps_raise hc hT (pmk_oexG T iC tI F1 hr.rm hb .nil (fun _ _ _ _ _ _ _ h => h.elim) hg hm ha.pa hdb he hpl)) fun σ H us G D rs rp h hx => ?_
  refine ⟨us, G, _, _, rs, rp, h, fun vs H1 ⟨ws, G1, x1, r1, rw_, l, q⟩ => ?_, fun cc d H' h' => hx cc d σ H' (LXS.of rs rp h')⟩
  have lv : vs.length = fl.length := by rw [rw_.length, l]
  refine ⟨by omega, fun a hn => ⟨a, vs ++ [], rfl, by rw [List.append_nil]; exact lv, upd_same, fun dx hd ne => ⟨rfl, dx, _, upd_same, by rw [upd_ne ne, upd_same], by rw [upd_ne ne] at hd; exact hd, ?_⟩⟩⟩
  have hd1 : H1 dx = none := by rw [upd_ne ne] at hd; exact hd
  refine hx _ _ σ _ ?_
  have at_ : ∀ b, b ≠ dx → b ≠ a → upd (del (upd (upd (upd H1 a (exo a (He.ga X.K (S c)) none)) dx (exd dx (pairsF fl (vs ++ [])).reverse)) a (exo a (He.ga X.K (S c)) (some dx))) a) dx (.xd (pairsF fl (vs ++ [])).reverse) b = H1 b := fun b h1 h2 => by
    rw [upd_ne h1, del_ne h2, upd_ne h2, upd_ne h1, upd_ne h2]
  have x2 : Ext H1 G1 (upd (del (upd (upd (upd H1 a (exo a (He.ga X.K (S c)) none)) dx (exd dx (pairsF fl (vs ++ [])).reverse)) a (exo a (He.ga X.K (S c)) (some dx))) a) dx (.xd (pairsF fl (vs ++ [])).reverse)) G1 := fun b o hb gb => by
    have h1 : b ≠ dx := fun z => by rw [z, hd1] at hb; cases hb
    have h2 : b ≠ a := fun z => by rw [z, hn] at hb; cases hb
    exact ⟨by rw [at_ b h1 h2]; exact hb, gb⟩
  have hT' : ∀ b xs, SqT X.K H1 b xs → SqT X.K _ b xs := fun b xs z => x2.sqT r1 z
  have r2 : Rep X.K (upd (del (upd (upd (upd H1 a (exo a (He.ga X.K (S c)) none)) dx (exd dx (pairsF fl (vs ++ [])).reverse)) a (exo a (He.ga X.K (S c)) (some dx))) a) dx (.xd (pairsF fl (vs ++ [])).reverse)) G1 := fun b o gb => by
    obtain ⟨u, hu⟩ := r1.there gb
    have h1 : b ≠ dx := fun z => by rw [z, hd1] at hu; cases hu
    have h2 : b ≠ a := fun z => by rw [z, hn] at hu; cases hu
    exact (r1 b o gb).move x2 r1 (at_ b h1 h2)
  refine ⟨⟨c, fl.zip ws⟩, us, G1, x1.trans x2, r2, (rs.ext x1 rp).ext x2 r1, ⟨rfl, .inr ⟨dx, _, rfl, upd_same, fun f u hf => ?_⟩⟩, q⟩
  obtain ⟨v, e1, e2⟩ := pairs_look (rw_.ext x2 r1) l hf
  refine ⟨v, ?_, e2⟩
  rw [List.append_nil]
  exact lookup_rev (by rw [pairs_keys lv]; exact nodup_S nd) e1
end
end UL
set_option maxHeartbeats 400000
namespace UL
open PySem PySem.Spec PyProof.Rows L2 PySem.W

abbrev AlX : Type := Bool × List He.FnW
def obsX (fx : List (PySem.W.Frag → Bool)) (fa : List He.Fa) (fn : List DD) (K : PySem.W.Frag) : AlX := (fx.all (fun f => f K) && (fa.all (fun f => f.ok K) && fn.all fun d => d.fit K), fn.map fun d => told K (d.at_ K))
structure SaysX (fx : List (PySem.W.Frag → Bool)) (fa : List He.Fa) (fn : List DD) (K : PySem.W.Frag) : Prop where
  all : (fx.all (fun f => f K) && (fa.all (fun f => f.ok K) && fn.all fun d => d.fit K)) = true
  code : (fn.map fun d => told K (d.at_ K)) = fn.map DD.due
section
variable {fx : List (PySem.W.Frag → Bool)} {fa : List He.Fa} {fn : List DD} {K : PySem.W.Frag}
theorem SaysX.fact (c : SaysX fx fa fn K) (i : Nat) {f : PySem.W.Frag → Bool} (h : fx[i]? = some f) : f K = true :=
  List.all_eq_true.mp (Bool.and_eq_true _ _ ▸ c.all).1 f (List.mem_of_getElem? h)
theorem SaysX.he (c : SaysX fx fa fn K) (i : Nat) {f : He.Fa} (h : fa[i]? = some f) : f.ok K = true := by
  have h1 := c.all
  rw [Bool.and_eq_true, Bool.and_eq_true] at h1
  exact List.all_eq_true.mp h1.2.1 f (List.mem_of_getElem? h)
theorem SaysX.def_ (c : SaysX fx fa fn K) (i : Nat) {d : DD} (h : fn[i]? = some d) : ∃ z, FunD K d.name d.qual d.params d.body d.scope (d.dvs K) (d.kws K) (d.at_ K) z := by
  have h1 := c.all
  rw [Bool.and_eq_true, Bool.and_eq_true] at h1
  refine DD.funD ?_ (List.all_eq_true.mp h1.2.2 d (List.mem_of_getElem? h))
  have e := congrArg (fun l => l[i]?) c.code
  simp only [List.getElem?_map, h, Option.map_some] at e
  exact Option.some.inj e
end
def bmVE : List Value := [.type "ValueError", .type "Exception", .type "BaseException", .type "object"]
def bmLE : List Value := [.type "LookupError", .type "Exception", .type "BaseException", .type "object"]
def bmRE : List Value := [.type "RuntimeError", .type "Exception", .type "BaseException", .type "object"]
def newB (n : String) (bm : List Value) : Bool := (n == "ValueError.__new__" && excTail bmVE bm) || ((n == "LookupError.__new__" && excTail bmLE bm) || (n == "RuntimeError.__new__" && excTail bmRE bm))
theorem newB_of {n : String} {bm : List Value} (h : newB n bm = true) : ∃ B initId bmB, excTail bmB bm = true ∧ ExcBaseFacts B n initId bmB ∧ StoreFacts B bmB "object.__setattr__" "object" := by
  unfold newB at h
  rw [Bool.or_eq_true, Bool.or_eq_true, Bool.and_eq_true, Bool.and_eq_true, Bool.and_eq_true] at h
  rcases h with ⟨e, q⟩ | ⟨e, q⟩ | ⟨e, q⟩
  · rw [beq_iff_eq.mp e]
    exact ⟨_, _, _, q, F.excBase_ValueError, F.store_ValueError⟩
  · rw [beq_iff_eq.mp e]
    exact ⟨_, _, _, q, F.excBase_LookupError, F.store_LookupError⟩
  · rw [beq_iff_eq.mp e]
    exact ⟨_, _, _, q, F.excBase_RuntimeError, F.store_RuntimeError⟩
def oexB (c : String) (K : PySem.W.Frag) : Bool := (match K.lookup (He.ga K (S c)) with
  | some ⟨.type t, _, .cls cd, sl⟩ => t == "type" && (cd.hasDict && (!cd.hasDel && ((match cd.mro, sl.toList with
    | .ref a :: bm, [_, _, _, _, some (.builtin n), _] => decide (a = He.ga K (S c)) && newB n bm
    | _, _ => false))))
  | _ => false) && (decide (findIn K (.ref (He.ga K (S c))) "__setattr__" = some (some (.builtin "object.__setattr__"))) && (decide (subIn K (.ref (He.ga K (S c))) (.type "BaseException") = some true) &&
    (decide (typeIn K (.ref (He.ga K (S c))) = some (.type "type")) && keepIn K (.ref (He.ga K (S c))))))
theorem oex_of {c : String} {K : PySem.W.Frag} (h : oexB c K = true) : OexG K (He.ga K (S c)) := by
  unfold oexB at h
  rw [Bool.and_eq_true] at h
  obtain ⟨h1, h2⟩ := h
  simp only [Bool.and_eq_true, decide_eq_true_eq] at h2
  obtain ⟨a1, a2, a3, a4⟩ := h2
  refine ⟨?_, a1, a2, a3, a4⟩
  split at h1
  · rename_i t dd cd sl lk
    obtain ⟨nm, bs, mro, N, q, hd, sn, sub, ab, col, dl⟩ := cd
    simp only [Bool.and_eq_true, Bool.not_eq_true'] at h1
    obtain ⟨e1, e2, e3, e4⟩ := h1
    split at e4
    · rename_i a bm k0 k1 k2 k3 n k5 es
      simp only [Bool.and_eq_true, decide_eq_true_eq] at e4
      obtain ⟨e4, e6⟩ := e4
      have e8 : t = "type" := beq_iff_eq.mp e1
      have e9 : sl = #[k0, k1, k2, k3, some (.builtin n), k5] := Array.toList_inj.mp es
      subst e8 e9 e4
      have e2' : hd = true := e2
      have e3' : dl = false := e3
      subst e2' e3'
      obtain ⟨B, initId, bmB, q1, q2, q3⟩ := newB_of e6
      exact ⟨B, n, initId, bmB, nm, q, N, bs, bm, sn, sub, ab, col, dd, k0, k1, k2, k3, k5, lk, q1, q2, q3⟩
    · cases e4
  · cases h1
theorem eu_strN {X : Cx} {W : WX} {s : String} {l : List Nat} {j : Nat} {pos : Pos} (h : (S s).cps.toList = l) : EU X W (.Constant (.str (S s)) j pos) (tUC (.str l)) := by
  rw [← h]
  exact eu_str
def bodyOf : Stmt → List Stmt
  | .ClassDef (body := b) .. => b
  | _ => []
theorem mt0 {X : Cx} {W : WX} {m : Str} {n : Nat} {ks : List Str} {P : String → Prop} : ∀ c' ap', List.lookup c' ([] : List (String × MAp)) = some ap' → MCall X W m n ks c' ap' ∧ P c' := fun _ _ h => by cases h
theorem mtc {X : Cx} {W : WX} {m : Str} {n : Nat} {ks : List Str} {c : String} {ap : MAp} {r : List (String × MAp)} {P : String → Prop} (h : MCall X W m n ks c ap) (p : P c) (t : ∀ c' ap', List.lookup c' r = some ap' → MCall X W m n ks c' ap' ∧ P c') :
    ∀ c' ap', List.lookup c' ((c, ap) :: r) = some ap' → MCall X W m n ks c' ap' ∧ P c' := fun c' ap' e => by
  rw [List.lookup_cons] at e
  cases q : c' == c with
  | true =>
    rw [q] at e
    cases e
    rw [beq_iff_eq.mp q]
    exact ⟨h, p⟩
  | false =>
    rw [q] at e
    exact t c' ap' e
theorem mtl {X : Cx} {W : WX} {m : Str} {n : Nat} {ks : List Str} {r : List (String × MAp)} (t : ∀ c' ap', List.lookup c' r = some ap' → MCall X W m n ks c' ap' ∧ True) : ∀ c' ap', List.lookup c' r = some ap' → MCall X W m n ks c' ap' := fun c' ap' h => (t c' ap' h).1
theorem all0 {α : Type} {P : α → Prop} : ∀ c' ∈ ([] : List α), P c' := fun _ m => by cases m
end UL
set_option maxHeartbeats 1000000
namespace UL
open PySem PySem.Spec PyProof.Rows L2
def lvX (g : Addr → Option Obj) (as : List Addr) : List Addr := (as.flatMap fun a => match g a with
  | some o => He.refsD o
  | none => []).eraseDups
def asX (g : Addr → Option Obj) : Nat → List Addr → List Addr
  | 0, f => f
  | n + 1, f => f ++ asX g n (lvX g f)
def obsYG (n : Nat) (fx : List (PySem.W.Frag → Bool)) (fa : List He.Fa) (fn : List DD) (g : Addr → Option Obj) : AlX := obsX fx fa fn (He.frG g (asX g n [mainGlobals] ++ [cStatics]))
def hookY (n : Nat) (fx : List (PySem.W.Frag → Bool)) (fa : List He.Fa) (fn : List DD) : PySem.W.Hook where
  α := AlX
  obs := fun s => obsYG n fx fa fn s.heap.get?
  val := fun _ => (true, fn.map DD.due)
  says := fun _ h => ∃ K : PySem.W.Frag, K.In h ∧ SaysX fx fa fn K
  of := fun _ _ e => ⟨_, He.frG_in, congrArg Prod.fst e, congrArg Prod.snd e⟩
  keeps := fun _ _ _ ⟨K, hK, c⟩ k => ⟨K, PySem.W.Frag.In.keeps hK k, c⟩
theorem obsYG_eq {n : Nat} {fx : List (PySem.W.Frag → Bool)} {fa : List He.Fa} {fn : List DD} {g : Addr → Option Obj} {s : Shared} (h : ∀ a, g a = s.heap.get? a) : obsYG n fx fa fn g = (hookY n fx fa fn).obs s := by
  have e : g = s.heap.get? := funext h
  rw [e]
  rfl
def dues_ : List DD → List He.FnW
  | [] => []
  | d :: r => d.due :: dues_ r
theorem dues_eq : ∀ fn : List DD, dues_ fn = fn.map DD.due
  | [] => rfl
  | d :: r => congrArg (d.due :: ·) (dues_eq r)
end UL
set_option maxHeartbeats 2000000
namespace K22
open PySem PySem.Spec PyProof.Rows L2 UL
def top (i : Nat) : Stmt := PySem.Challenge.pw_workerworlds_k22_all_cuts.main.body.getD i (.Pass ⟨0, 0, 0, 0⟩)
def clsm (i j : Nat) : Stmt := (bodyOf (top i)).getD j (.Pass ⟨0, 0, 0, 0⟩)
def d_BadSetting___init__ : DD := ⟨mAt "BadSetting" "__init__", "__init__", "BadSetting.__init__", defArgs (clsm 2 0), defBody (clsm 2 0), defScope (clsm 2 0), [], []⟩
def d_is_integer : DD := ⟨gAt "is_integer", "is_integer", "is_integer", defArgs (top 6), defBody (top 6), defScope (top 6), [], []⟩
def d_even_cut : DD := ⟨gAt "even_cut", "even_cut", "even_cut", defArgs (top 7), defBody (top 7), defScope (top 7), [], []⟩
def d_Cuts___init__ : DD := ⟨mAt "Cuts" "__init__", "__init__", "Cuts.__init__", defArgs (clsm 8 0), defBody (clsm 8 0), defScope (clsm 8 0), [], [("chunk", .non)]⟩
def d_Cuts___len__ : DD := ⟨mAt "Cuts" "__len__", "__len__", "Cuts.__len__", defArgs (clsm 8 1), defBody (clsm 8 1), defScope (clsm 8 1), [], []⟩
def d_Cuts___contains__ : DD := ⟨mAt "Cuts" "__contains__", "__contains__", "Cuts.__contains__", defArgs (clsm 8 2), defBody (clsm 8 2), defScope (clsm 8 2), [], []⟩
def d_Cuts_each : DD := ⟨mAt "Cuts" "each", "each", "Cuts.each", defArgs (clsm 8 3), defBody (clsm 8 3), defScope (clsm 8 3), [], []⟩
def d__law_bag : DD := ⟨gAt "_law_bag", "_law_bag", "_law_bag", defArgs (top 10), defBody (top 10), defScope (top 10), [], []⟩
def d__law_take : DD := ⟨gAt "_law_take", "_law_take", "_law_take", defArgs (top 11), defBody (top 11), defScope (top 11), [], []⟩
def d__law_of : DD := ⟨gAt "_law_of", "_law_of", "_law_of", defArgs (top 12), defBody (top 12), defScope (top 12), [], []⟩
def d__law_all : DD := ⟨gAt "_law_all", "_law_all", "_law_all", defArgs (top 13), defBody (top 13), defScope (top 13), [], []⟩
def d__law_even : DD := ⟨gAt "_law_even", "_law_even", "_law_even", defArgs (top 14), defBody (top 14), defScope (top 14), [], []⟩
def d__law_thing : DD := ⟨gAt "_law_thing", "_law_thing", "_law_thing", defArgs (top 15), defBody (top 15), defScope (top 15), [], []⟩
def d__law_is_cut : DD := ⟨gAt "_law_is_cut", "_law_is_cut", "_law_is_cut", defArgs (top 16), defBody (top 16), defScope (top 16), [], []⟩
def d__law_are_right : DD := ⟨gAt "_law_are_right", "_law_are_right", "_law_are_right", defArgs (top 17), defBody (top 17), defScope (top 17), [], []⟩
def d_law : DD := ⟨gAt "law", "law", "law", defArgs (top 18), defBody (top 18), defScope (top 18), [], []⟩
def fn : List DD := [d_BadSetting___init__, d_is_integer, d_even_cut, d_Cuts___init__, d_Cuts___len__, d_Cuts___contains__, d_Cuts_each, d__law_bag, d__law_take, d__law_of, d__law_all, d__law_even, d__law_thing, d__law_is_cut, d__law_are_right, d_law]
def fa : List He.Fa := [.glo "is_integer", .glo "even_cut", .glo "_law_bag", .glo "_law_take", .glo "_law_of", .glo "_law_all", .glo "_law_even", .glo "_law_thing", .glo "_law_is_cut", .glo "_law_are_right", .glo "law", .free "len", .free "min", .free "max", .free "range", .free "list", .free "sum", .free "tuple", .free "isinstance", .free "int", .free "bool", .free "sorted", .free "repr", .free "abs", .int "MOST_SIZE" 9, .int "MOST_ITEMS" 12, .glo "Cuts", .glo "BadSetting", .mkr "Cuts", .meth "Cuts" "__init__", .meth "Cuts" "__len__", .meth "Cuts" "__contains__", .meth "Cuts" "each", .meth "BadSetting" "__init__", .noat "BadSetting" "what"]
def fx : List (PySem.W.Frag → Bool) := [clsB "Cuts", oexB "BadSetting"]
abbrev R : PySem.W.OpenRow := PySem.W.OpenLaw.row PySem.Challenge.rw_workerworlds_k22_all_cuts
abbrev hk : PySem.W.Hook := hookY 5 fx fa fn
def ob (s : PySem.W.SharedT) : AlX := obsYG 5 fx fa fn (HandSHeadRun.getT s)
theorem ob_eq (s : PySem.W.SharedT) : ob s = hk.obs s.abs := obsYG_eq (HandSHeadRun.getT_eq s)
def loose : List Str := (["WorkerworldsError", "BadSetting", "MOST_ITEMS", "MOST_SIZE", "is_integer", "even_cut", "Cuts", "_law_bag", "_law_take", "_law_of", "_law_all", "_law_even", "_law_thing", "_law_is_cut", "_law_are_right"] : List Str)
open HandSHeadRun PySem.W PySem.Calls in
theorem run_a (w : World) (os : OsState) : (endF (stepQ (denQ tabQ) R.prog w) 4000 R.prog w os).map (fun s => looksF R.prog (boot_heap w.params) s.abs) = some true := by
  kernel_rfl
open HandSHeadRun PySem.W PySem.Calls in
theorem run_b (w : World) (os : OsState) : (endF (stepQ (denQ tabQ) R.prog w) 4000 R.prog w os).map (fun s => seenQ (view R.prog [18]) loose (importedModules R.prog.main.body) (fun s => xlAt (view R.prog [18]) [] s && recOk R.toRowW.records s) s.abs) = some (openGood (view R.prog [18]) loose) := by
  kernel_rfl
def kOf_ (s : PySem.W.SharedT) : PySem.W.Frag := He.frG (HandSHeadRun.getT s) (asX (HandSHeadRun.getT s) 5 [mainGlobals] ++ [cStatics])
open HandSHeadRun PySem.W PySem.Calls in
theorem run_c1 (w : World) (os : OsState) : (endF (stepQ (denQ tabQ) R.prog w) 4000 R.prog w os).map (fun s => fx.all (fun f => f (kOf_ s))) = some true := by
  kernel_rfl
open HandSHeadRun PySem.W PySem.Calls in
theorem run_c2 (w : World) (os : OsState) : (endF (stepQ (denQ tabQ) R.prog w) 4000 R.prog w os).map (fun s => fa.all (fun f => f.ok (kOf_ s))) = some true := by
  kernel_rfl
theorem allJ_ {α β : Type} {X : Option α} {h : β → α → Bool} (n : Nat) (l : List β) (e1 : X.map (fun s => (l.take n).all (fun d => h d s)) = some true) (e2 : X.map (fun s => (l.drop n).all (fun d => h d s)) = some true) : X.map (fun s => l.all (fun d => h d s)) = some true := by
  cases X with
  | none => cases e1
  | some x =>
    show some (l.all fun d => h d x) = _
    have e3 : (l.take n).all (fun d => h d x) = true := Option.some.inj e1
    have e4 : (l.drop n).all (fun d => h d x) = true := Option.some.inj e2
    have e5 : ((l.take n ++ l.drop n).all fun d => h d x) = true := by rw [List.all_append, e3, e4]; rfl
    rw [List.take_append_drop] at e5
    rw [e5]
open HandSHeadRun PySem.W PySem.Calls in
theorem run_c31 (w : World) (os : OsState) : (endF (stepQ (denQ tabQ) R.prog w) 4000 R.prog w os).map (fun s => (fn.take 40).all (fun d => d.fit (kOf_ s))) = some true := by
  kernel_rfl
open HandSHeadRun PySem.W PySem.Calls in
theorem run_c32 (w : World) (os : OsState) : (endF (stepQ (denQ tabQ) R.prog w) 4000 R.prog w os).map (fun s => ((fn.drop 40).take 35).all (fun d => d.fit (kOf_ s))) = some true := by
  kernel_rfl
open HandSHeadRun PySem.W PySem.Calls in
theorem run_c33 (w : World) (os : OsState) : (endF (stepQ (denQ tabQ) R.prog w) 4000 R.prog w os).map (fun s => ((fn.drop 40).drop 35).all (fun d => d.fit (kOf_ s))) = some true := by
  kernel_rfl
open HandSHeadRun PySem.W PySem.Calls in
theorem run_c3 (w : World) (os : OsState) : (endF (stepQ (denQ tabQ) R.prog w) 4000 R.prog w os).map (fun s => fn.all (fun d => d.fit (kOf_ s))) = some true :=
  allJ_ (h := fun (d : DD) s => d.fit (kOf_ s)) 40 fn (run_c31 w os) (allJ_ (h := fun (d : DD) s => d.fit (kOf_ s)) 35 _ (run_c32 w os) (run_c33 w os))
open HandSHeadRun PySem.W PySem.Calls in
theorem run_c4 (w : World) (os : OsState) : (endF (stepQ (denQ tabQ) R.prog w) 4000 R.prog w os).map (fun s => fn.map (fun d => told (kOf_ s) (d.at_ (kOf_ s)))) = some (dues_ fn) := by
  kernel_rfl
theorem four_ {α δ : Type} {X : Option α} {f g h : α → Bool} {k : α → δ} {c : δ} (e1 : X.map f = some true) (e2 : X.map g = some true) (e3 : X.map h = some true) (e4 : X.map k = some c) : X.map (fun s => ((f s && (g s && h s)), k s)) = some (true, c) := by
  cases X with
  | none => cases e1
  | some x =>
    show some ((f x && (g x && h x)), k x) = _
    rw [show f x = true from Option.some.inj e1, show g x = true from Option.some.inj e2, show h x = true from Option.some.inj e3, show k x = c from Option.some.inj e4]
    rfl
open HandSHeadRun PySem.W PySem.Calls in
theorem run_c (w : World) (os : OsState) : (endF (stepQ (denQ tabQ) R.prog w) 4000 R.prog w os).map (fun s => ob s) = some (hk.val w) := by
  have e := four_ (run_c1 w os) (run_c2 w os) (run_c3 w os) (run_c4 w os)
  rw [dues_eq] at e
  exact e
theorem three_ {α β γ δ : Type} {X : Option α} {f : α → β} {g : α → γ} {h : α → δ} {a : β} {b : γ} {c : δ} (e1 : X.map f = some a) (e2 : X.map g = some b) (e3 : X.map h = some c) : X.map (fun s => (f s, g s, h s)) = some (a, b, c) := by
  cases X with
  | none => cases e1
  | some x =>
    rw [← Option.some.inj e1, ← Option.some.inj e2, ← Option.some.inj e3]
    rfl
theorem run_ (w : World) : HandSHeadRun.RunEq R (PySem.W.view R.prog [18]) hk ob 4000 loose w := by
  intro os
  exact three_ (run_a w os) (run_b w os) (run_c w os)
end K22
set_option maxHeartbeats 400000
namespace UL
open PySem PySem.Spec PyProof.Rows L2

/-- an argument that simp leaves as it is (a later one hangs on it) -/
abbrev Tag {α : Sort u} (_ : α) : Type := Unit
def condP (b : Bool) (x y : Prop) (_ : Tag x := ()) (_ : Tag y := ()) : Prop := bif b then x else y
def slotK (o : Option (Option U)) (Q : U → Prop) (_ : Tag Q := ()) : Prop := match o with
  | some (some u) => Q u
  | _ => False
def asBl (u : U) (Q : Bool → Prop) (_ : Tag Q := ()) : Prop := match u with
  | .bl b => Q b
  | _ => False
def asInt (u : U) (Q : Int → Prop) (_ : Tag Q := ()) : Prop := match u with
  | .int b => Q b
  | _ => False
def asStr (u : U) (Q : List Nat → Prop) (_ : Tag Q := ()) : Prop := match u with
  | .str b => Q b
  | _ => False
def asRef (u : U) (Q : Addr → Prop) (_ : Tag Q := ()) : Prop := match u with
  | .ref b => Q b
  | _ => False
def getLst (o : Option Ob) (Q : List U → Prop) (_ : Tag Q := ()) : Prop := match o with
  | some (.lst us) => Q us
  | _ => False
def getIns (o : Option Ob) (Q : String → List (String × U) → Prop) (_ : Tag Q := ()) : Prop := match o with
  | some (.ins c fs) => Q c fs
  | _ => False
def getO (o : Option U) (Q : U → Prop) (_ : Tag Q := ()) : Prop := match o with
  | some u => Q u
  | none => False
def getOb (o : Option Ob) (Q : Ob → Prop) (_ : Tag Q := ()) : Prop := match o with
  | some u => Q u
  | none => False
def getUs (o : Option (List U)) (Q : List U → Prop) (_ : Tag Q := ()) : Prop := match o with
  | some u => Q u
  | none => False
def getN (o : Option Nat) (Q : Nat → Prop) (_ : Tag Q := ()) : Prop := match o with
  | some u => Q u
  | none => False
def getLs (o : Option (List (List Nat))) (Q : List (List Nat) → Prop) : Prop := match o with
  | some u => Q u
  | none => False
/-- a promise asked for -/
def Call (sp : USp) (as : List U) (G : Gp) (Q : UK) (E : UX) (_ : Tag Q := ()) (_ : Tag E := ()) : Prop := sp as G Q E
theorem e_condT {x y : Prop} : condP true x y = x := (rfl)
theorem e_condF {x y : Prop} : condP false x y = y := (rfl)
theorem slotK_s {u : U} {Q} : slotK (some (some u)) Q = Q u := (rfl)
theorem asBl_s {u : Bool} {Q} : asBl (.bl u) Q = Q u := (rfl)
theorem asInt_s {u : Int} {Q} : asInt (.int u) Q = Q u := (rfl)
theorem asStr_s {u : List Nat} {Q} : asStr (.str u) Q = Q u := (rfl)
theorem asRef_s {u : Addr} {Q} : asRef (.ref u) Q = Q u := (rfl)
theorem getLst_s {u} {Q} : getLst (some (.lst u)) Q = Q u := (rfl)
theorem getIns_s {c fs} {Q} : getIns (some (.ins c fs)) Q = Q c fs := (rfl)
theorem getOb_s {u} {Q} : getOb (some u) Q = Q u := (rfl)
theorem getO_s {u} {Q} : getO (some u) Q = Q u := (rfl)
theorem getUs_s {u} {Q} : getUs (some u) Q = Q u := (rfl)
theorem getN_s {u} {Q} : getN (some u) Q = Q u := (rfl)
theorem getLs_s {u} {Q} : getLs (some u) Q = Q u := (rfl)
theorem notIns {p : Addr} {G : Gp} (h : ∀ c fs, G p ≠ some (.ins c fs)) : isInsU (.ref p) G = false := by
  unfold isInsU
  dsimp only
  split
  · rename_i e
    exact absurd e (h _ _)
  · rfl
section
variable {us : USt} {G : Gp} {Q : UK} {E : UX} {D : UEnds} {ta tb te to ti' : UTE} {r : UR2} {r1 : UR1} {t u : UTS} {tt tt' : UTT} {B : Bool → Gp → Prop} {tr tk : UTA} {L : List U → Gp → Prop} {g : UTG} {w z : U} {S0 : USt → Gp → Prop} {i : Nat} {sp : USp} {zs vs : List U} {pl : List Src} {f c m : String}
theorem x_var : tUVar i us G Q E = slotK us[i]? fun u => Q u G := (rfl)
theorem x_c : tUC w us G Q E = Q w G := (rfl)
theorem x_op : tUOp r ta tb us G Q E = ta us G (fun x G1 => tb us G1 (fun y G2 => r x y G2 Q E) E) E := (rfl)
theorem x_un : tUUn r1 ta us G Q E = ta us G (fun x G1 => r1 x G1 Q E) E := (rfl)
theorem x_and : tUAnd ta tb us G Q E = ta us G (fun u G1 => asBl u fun b => condP b (tb us G1 Q E) (Q (.bl false) G1)) E := by
  unfold tUAnd
  congr 1
  funext u G1
  cases u <;> try rfl
  rename_i b
  cases b <;> rfl
theorem x_ifC : tUIfC tt ta tb us G Q E = tt us G (fun k G1 => CondE k (ta us G1) (tb us G1) Q E) E := (rfl)
theorem x_nil : tUNil us G L E = L [] G := (rfl)
theorem x_cons : tUCons ta tr us G L E = ta us G (fun u G1 => tr us G1 (fun ws G2 => L (u :: ws) G2) E) E := (rfl)
theorem x_tup : tUTup tr us G Q E = tr us G (fun ws G1 => ws.length ≤ 1000000 ∧ Q (.tup ws) G1) E := (rfl)
theorem x_lst : tULst tr us G Q E = tr us G (fun ws G1 => ws.length ≤ 1000000 ∧ ∀ p, G1 p = none → Q (.ref p) (gup G1 p (.lst ws))) E := (rfl)
theorem x_test : tUTest ta us G B E = ta us G (fun u G1 => asBl u fun b => B b G1) E := (rfl)
theorem x_not : tUNot tt us G B E = tt us G (fun b G1 => B (!b) G1) E := (rfl)
theorem x_bAnd : tBAnd tt tt' us G B E = tt us G (fun b G1 => condP b (tt' us G1 B E) (B false G1)) E := (rfl)
theorem x_bOr : tBOr tt tt' us G B E = tt us G (fun b G1 => condP b (B true G1) (tt' us G1 B E)) E := (rfl)
theorem x_tru {rr : U → Gp → (Bool → Gp → Prop) → UX → Prop} : tUTru rr ta us G B E = ta us G (fun u G1 => rr u G1 B E) E := (rfl)
theorem x_call {rc : URC} : tUCall rc tr us G Q E = tr us G (fun as G1 => rc as G1 Q E) E := (rfl)
theorem x_def {n m : Nat} {d k : List U} : tUDef sp n m pl d k tr tk us G Q E = tr us G (fun vs G1 => tk us G1 (fun zs G2 => vs.length = n ∧ zs.length = m ∧ Call sp (pl.map (Src.get .non vs zs d k)) G2 Q E) E) E := (rfl)
theorem x_bm {T : String} {rm : URM} : tUBM T rm to tr us G Q E = to us G (fun u G1 => tyU T u G1 ∧ tr us G1 (fun as G2 => rm u as G2 Q E) E) E := (rfl)
theorem x_u1 {f : U → Gp → UK → Prop} : u1 f [w] G Q E = f w G Q := (rfl)
theorem x_u2 {f : U → U → Gp → UK → Prop} : u2 f [w, z] G Q E = f w z G Q := (rfl)
theorem x_seq : tUSeq t u D us G = t { D with nx := u D } us G := (rfl)
theorem x_next : tUNext D us G = D.nx us G := (rfl)
theorem x_drop : tUDrop te D us G = te us G (fun _ G1 => D.nx us G1) (fun x G1 => D.ex x us G1) := (rfl)
theorem x_ret : tURet te D us G = te us G D.rt (fun x G1 => D.ex x us G1) := (rfl)
theorem x_ifSC : tUIfSC tt t u D us G = tt us G (fun k G1 => CondS k (fun D' => t D' us G1) (fun D' => u D' us G1) D) (fun x G1 => D.ex x us G1) := (rfl)
theorem x_asg : tUAsg te g D us G = te us G (fun x G1 => g x us G1 D.nx (fun x G1 => D.ex x us G1)) (fun x G1 => D.ex x us G1) := (rfl)
theorem x_par {is : List Nat} : tUPar is tr D us G = tr us G (fun ws G1 => ws.length = is.length ∧ D.nx (setAll us is.reverse ws.reverse) G1) (fun x G1 => D.ex x us G1) := (rfl)
theorem x_gname : gUName i w us G S0 E = S0 (us.set i (some w)) G := (rfl)
theorem x_gsub {st : U → U → U → Gp → (Gp → Prop) → UX → Prop} : gUSub to ti' st w us G S0 E = to us G (fun o G1 => ti' us G1 (fun i G2 => st o i w G2 (fun G3 => S0 us G3) E) E) E := (rfl)
theorem x_sl {tl th : UTO} : tUSl te tl th us G Q E = te us G (fun x G1 => tl us G1 (fun l G2 => th us G2 (fun h G3 => slU x l h G3 Q) E) E) E := (rfl)
theorem x_noPart {O : Option Int → Gp → Prop} : tUNoPart us G O E = O none G := (rfl)
theorem x_part {O : Option Int → Gp → Prop} : tUPart te us G O E = te us G (fun u G1 => asInt u fun i => O (some i) G1) E := by
  unfold tUPart
  congr 1
theorem x_for {ti : UTI} : tUFor ti g t D us G = ti us G (fun chk items G1 => forU g t chk items D us G1) (fun x G1 => D.ex x us G1) := (rfl)
theorem x_rng1 {R : UKI} : tIRng1 ta us G R E = ta us G (fun u G1 => rngA u G1 R) E := (rfl)
theorem x_any {R : UKI} : tIAny ta us G R E = ta us G (fun u G1 => iterU u G1 R) E := (rfl)
theorem x_lc {ti : UTI} {own : List Nat} : tULc ti g tt te own us G Q E = ti us G (fun chk items G1 => lcU g tt te chk (uwipe us own) (fun acc G2 => ∀ p, G2 p = none → Q (.ref p) (gup G2 p (.lst acc))) items [] G1) E := (rfl)
theorem x_fld : tUFld f te us G Q E = te us G (fun x G1 => fldU f x G1 Q) E := (rfl)
theorem x_fldU {a : Addr} : fldU f (.ref a) G Q = getIns (G a) fun _ fs => getO (fget fs f) fun u => Q u G := by
  unfold fldU getIns getO
  all_goals (try dsimp only)
  all_goals (cases G a with
    | none => rfl
    | some o => cases o <;> rfl)
theorem x_gfld : gUFld f to w us G S0 E = to us G (fun x G1 => setF f x w G1 fun G2 => S0 us G2) E := (rfl)
theorem x_setF {a : Addr} {Z : Gp → Prop} : setF f (.ref a) w G Z = getIns (G a) fun c fs => f ∈ fldsOf c ∧ fs.length < 100 ∧ Z (gup G a (.ins c (fput fs f w))) := by
  unfold setF getIns
  all_goals (try dsimp only)
  all_goals (cases G a with
    | none => rfl
    | some o => cases o <;> rfl)
theorem x_make {n nk : Nat} {ud uk : List U} : tUMake c sp n nk pl ud uk tr tk us G Q E = tr us G (fun vs G1 => tk us G1 (fun zs G2 => vs.length + 1 = n ∧ zs.length = nk ∧ ∀ a, G2 a = none → Call sp (pl.map (Src.get .non (.ref a :: vs) zs ud uk)) (gup G2 a (.ins c [])) (fun v G3 => v = .non ∧ Q (.ref a) G3) E) E) E := (rfl)
theorem x_raise {fl : List String} : tURaise c fl tr D us G = tr us G (fun vs G1 => vs.length = fl.length ∧ D.ex ⟨c, fl.zip vs⟩ us G1) (fun x G1 => D.ex x us G1) := (rfl)
variable {a b i' j : Int} {x y : List Nat} {xs ys : List U} {p q : Addr} {R : UKI}
theorem x_addI : addU (.int a) (.int b) G Q E = Q (.int (a + b)) G := (rfl)
theorem x_addS : addU (.str x) (.str y) G Q E = (x.length + y.length ≤ 1000000 ∧ Q (.str (x ++ y)) G) := (rfl)
theorem x_addT : addU (.tup xs) (.tup ys) G Q E = (xs.length + ys.length ≤ 1000000 ∧ Q (.tup (xs ++ ys)) G) := (rfl)
theorem lst_ex {P : List U → Prop} {o : Option Ob} : (∃ us, o = some (.lst us) ∧ P us) = getLst o P := by
  unfold getLst
  apply propext
  constructor
  · rintro ⟨us, rfl, h⟩
    exact h
  · intro h
    split at h
    · exact ⟨_, rfl, h⟩
    · exact h.elim
theorem x_subI : subU (.int a) (.int b) G Q E = Q (.int (a - b)) G := (rfl)
theorem x_mulI : mulU (.int a) (.int b) G Q E = (CMul a b ∧ Q (.int (a * b)) G) := (rfl)
theorem x_mulT : mulU (.tup xs) (.int b) G Q E = (xs ≠ [] ∧ xs.length ≤ 1000 ∧ 0 ≤ b ∧ b ≤ 1000 ∧ Q (.tup (List.replicate b.toNat xs).flatten) G) := (rfl)
theorem x_mulL : mulU (.ref p) (.int b) G Q E = getLst (G p) fun xs => -(2 ^ 63) ≤ b ∧ b < 2 ^ 63 ∧ xs.length * b.toNat ≤ 1000000 ∧ ∀ r, G r = none → Q (.ref r) (gup G r (.lst (List.replicate b.toNat xs).flatten)) := lst_ex
theorem x_modI : modU (.int a) (.int b) G Q E = (0 < b ∧ Q (.int (a % b)) G) := (rfl)
theorem x_fdivI : fdivU (.int a) (.int b) G Q E = ((0 < b ∧ b < 1073741824) ∧ Q (.int (a / b)) G) := (rfl)
theorem x_powI : powU (.int a) (.int b) G Q E = (CPow a b ∧ Q (.int (a ^ b.toNat)) G) := (rfl)
theorem x_shlI : shlU (.int a) (.int b) G Q E = (CPow a b ∧ Q (.int (a * 2 ^ b.toNat)) G) := (rfl)
theorem x_negI : negU (.int a) G Q E = Q (.int (-a)) G := (rfl)
theorem x_notU : notU w G Q E = truU w G fun b G1 => Q (.bl (!b)) G1 := (rfl)
theorem x_eqI : eqU (.int a) (.int b) G Q E = Q (.bl (decide (a = b))) G := (rfl)
theorem x_neI : neU (.int a) (.int b) G Q E = Q (.bl (!decide (a = b))) G := (rfl)
theorem x_eqS : eqU (.str x) (.str y) G Q E = Q (.bl (decide (x = y))) G := (rfl)
theorem x_neS : neU (.str x) (.str y) G Q E = Q (.bl (!decide (x = y))) G := (rfl)
theorem x_ltI : ltU (.int a) (.int b) G Q E = Q (.bl (decide (a < b))) G := (rfl)
theorem x_leI : leU (.int a) (.int b) G Q E = Q (.bl (decide (a ≤ b))) G := (rfl)
theorem x_gtI : gtU (.int a) (.int b) G Q E = Q (.bl (decide (b < a))) G := (rfl)
theorem x_geI : geU (.int a) (.int b) G Q E = Q (.bl (decide (b ≤ a))) G := (rfl)
theorem x_leS : leU (.str x) (.str y) G Q E = Q (.bl (!decide (y < x))) G := (rfl)
theorem x_inS : inU (.str x) (.str y) G Q E = ∃ k, x = [k] ∧ Q (.bl (decide (k ∈ y))) G := (rfl)
theorem x_notInS : notInU (.str x) (.str y) G Q E = ∃ k, x = [k] ∧ Q (.bl (!decide (k ∈ y))) G := (rfl)
theorem x_inS1 {c : Nat} : inU (.str [c]) (.str y) G Q E = Q (.bl (decide (c ∈ y))) G := by
  rw [x_inS]
  apply propext
  constructor
  · rintro ⟨k, e, h⟩
    cases e
    exact h
  · exact fun h => ⟨c, rfl, h⟩
theorem x_notInS1 {c : Nat} : notInU (.str [c]) (.str y) G Q E = Q (.bl (!decide (c ∈ y))) G := by
  rw [x_notInS]
  apply propext
  constructor
  · rintro ⟨k, e, h⟩
    cases e
    exact h
  · exact fun h => ⟨c, rfl, h⟩
theorem x_isN : isU w .non G Q E = Q (.bl (isNonU w)) G := by cases w <;> rfl
theorem x_isNotN : isNotU w .non G Q E = Q (.bl (!isNonU w)) G := by cases w <;> rfl
theorem isNon_n : isNonU .non = true := (rfl)
theorem isNon_i : isNonU (.int a) = false := (rfl)
theorem x_ixR : ixU0 (.rol xs) (.int a) G Q E = getO (atI xs a) fun u => Q u G := by
  show (∃ u, atI xs a = some u ∧ Q u G) = _
  apply propext
  cases atI xs a <;> simp [getO]
theorem x_ixT : ixU0 (.tup xs) (.int a) G Q E = getO (atI xs a) fun u => Q u G := by
  show (∃ u, atI xs a = some u ∧ Q u G) = _
  apply propext
  cases atI xs a <;> simp [getO]
theorem x_ixL : ixU0 (.ref p) (.int a) G Q E = getLst (G p) fun xs => getO (atI xs a) fun u => Q u G := by
  rw [← lst_ex]
  apply propext
  constructor
  · rintro ⟨us, u, h1, h2, h3⟩
    exact ⟨us, h1, by rw [h2]; exact h3⟩
  · rintro ⟨us, h1, h⟩
    cases e : atI us a with
    | none => rw [e] at h; exact h.elim
    | some u => rw [e] at h; exact ⟨us, u, h1, e, h⟩
theorem x_ixS : ixU0 (.str x) (.int a) G Q E = (x.length ≤ 1000000 ∧ getN (atI x a) fun c => Q (.str [c]) G) := by
  show (x.length ≤ 1000000 ∧ ∃ c, atI x a = some c ∧ Q (.str [c]) G) = _
  apply propext
  cases atI x a <;> simp [getN]
theorem x_setL {Z : Gp → Prop} : setU0 (.ref p) (.int a) w G Z E = getLst (G p) fun xs => getN (ixN xs.length a) fun j => Z (gup G p (.lst (xs.set j w))) := by
  rw [← lst_ex]
  apply propext
  constructor
  · rintro ⟨us, j, h1, h2, h3⟩
    exact ⟨us, h1, by rw [h2]; exact h3⟩
  · rintro ⟨us, h1, h⟩
    cases e : ixN us.length a with
    | none => rw [e] at h; exact h.elim
    | some j => rw [e] at h; exact ⟨us, j, h1, e, h⟩
theorem x_abs : absV (.int a) G Q = Q (.int (if a < 0 then -a else a)) G := (rfl)
theorem x_max : maxV (.int a) (.int b) G Q = Q (.int (if b > a then b else a)) G := (rfl)
theorem x_min : minV (.int a) (.int b) G Q = Q (.int (if b < a then b else a)) G := (rfl)
theorem x_int : intV (.int a) G Q = Q (.int a) G := (rfl)
theorem x_intB {k : Bool} : intV (.bl k) G Q = Q (.int (if k then 1 else 0)) G := (rfl)
theorem x_lenR : lenV (.rol xs) G Q = Q (.int xs.length) G := (rfl)
theorem x_lenT : lenV (.tup xs) G Q = Q (.int xs.length) G := (rfl)
theorem x_lenS : lenV (.str x) G Q = (x.length ≤ 1000000 ∧ Q (.int x.length) G) := (rfl)
def lenOb (o : Ob) (Q : Nat → Prop) (_ : Tag Q := ()) : Prop := match o with
  | .lst us => Q us.length
  | .dct us => Q us.length
  | _ => False
theorem lenOb_l {us : List U} {Q : Nat → Prop} : lenOb (.lst us) Q = Q us.length := (rfl)
theorem x_lenL : lenV (.ref p) G Q = getOb (G p) fun o => lenOb o fun n => Q (.int n) G := by
  unfold lenV getOb lenOb
  all_goals (try dsimp only)
  all_goals (cases G p with
    | none => rfl
    | some o => cases o <;> rfl)
theorem x_tupleL : tupleV (.ref p) G Q = getLst (G p) fun us => Q (.tup us) G := by
  unfold tupleV seqOf getLst
  all_goals (try dsimp only)
  all_goals (cases G p with
    | none => rfl
    | some o => cases o <;> rfl)
theorem x_listT : listV (.tup xs) G Q = ∀ p, G p = none → Q (.ref p) (gup G p (.lst xs)) := (rfl)
theorem x_listL : listV (.ref p) G Q = getLst (G p) fun us => ∀ q, G q = none → Q (.ref q) (gup G q (.lst us)) := by
  unfold listV seqOf getLst
  all_goals (try dsimp only)
  all_goals (cases G p with
    | none => rfl
    | some o => cases o <;> rfl)
theorem x_slR {l h : Option Int} : slU (.rol xs) l h G Q = ∀ p, G p = none → Q (.ref p) (gup G p (.lst (cutU xs l h))) := (rfl)
theorem x_slT {l h : Option Int} : slU (.tup xs) l h G Q = Q (.tup (cutU xs l h)) G := (rfl)
theorem x_slL {l h : Option Int} : slU (.ref p) l h G Q = getLst (G p) fun us => ∀ q, G q = none → Q (.ref q) (gup G q (.lst (cutU us l h))) := lst_ex
/-- a number that a range bears -/
def Rg (a : Int) : Prop := -4611686018427387904 ≤ a ∧ a < 4611686018427387904
theorem x_rngA : rngA (.int a) G R = (Rg a ∧ R (fun _ => True) (rngs 0 a.toNat) G) := (rfl)
theorem x_iterT : iterU (.tup xs) G R = R (fun _ => True) xs G := (rfl)
theorem x_iterS : iterU (.str x) G R = R (fun _ => True) (sgs x) G := (rfl)
theorem x_iterL : iterU (.ref p) G R = getLst (G p) fun us => R (fun G => G p = some (.lst us)) us G := lst_ex
theorem x_append : onLst appendL (.ref p) [w] G Q E = getLst (G p) fun us => us.length < 1000000 ∧ Q .non (gup G p (.lst (us ++ [w]))) := by
  unfold onLst appendL getLst
  all_goals (try dsimp only)
  all_goals (cases G p with
    | none => rfl
    | some o => cases o <;> rfl)
theorem x_tyL : tyU "list" (.ref p) G = getLst (G p) fun _ => True := by
  unfold getLst
  apply propext
  constructor
  · rintro (⟨_, us, h⟩ | ⟨h, _⟩)
    · rw [h]
      trivial
    · exact absurd h (by decide)
  · intro h
    split at h
    · rename_i us e
      exact .inl ⟨rfl, us, e⟩
    · exact h.elim
theorem x_tyS : tyU "str" (.str x) G = True := by
  unfold tyU
  simp
theorem x_join : joinU (.str x) [w] G Q E = getUs (seqOf G w) fun us => getLs (strsU us) fun ls => (ls.map List.length).sum + ls.length * x.length ≤ 1000000 ∧ Q (.str (joinN x ls)) G := by
  unfold joinU getUs getLs
  all_goals (try dsimp only)
  all_goals (cases seqOf G w with
    | none => rfl
    | some us => cases h : strsU us <;> simp only [h])
theorem seq_l : seqOf G (.ref p) = (match G p with | some (.lst us) => some us | _ => none) := (rfl)
def lstO (o : Option Ob) : Option (List U) := match o with | some (.lst us) => some us | _ => none
theorem lstO_s {us : List U} : lstO (some (.lst us)) = some us := (rfl)
theorem x_strS : strV (.str x) G Q = Q (.str x) G := (rfl)
theorem x_fmtS : fmtV (.str x) G Q = (x.length ≤ 1000000 ∧ Q (.str x) G) := (rfl)
theorem x_fmt : tUFmt te us G Q E = te us G (fun x G1 => fmtV x G1 Q) E := (rfl)
theorem x_js0 {acc : List Nat} : tUJs [] acc us G Q E = Q (.str acc) G := (rfl)
theorem x_js {acc : List Nat} {t : UTE} {ts : List UTE} : tUJs (t :: ts) acc us G Q E = t us G (fun x G1 => asStr x fun l => acc.length + l.length ≤ 1000000 ∧ tUJs ts (acc ++ l) us G1 Q E) E := (rfl)
theorem x_truB {T : Bool → Gp → Prop} {k : Bool} : truU (.bl k) G T = T k G := (rfl)
theorem x_ap {ud uk : List U} : apOf sp pl ud uk w vs zs G Q E = Call sp (pl.map (Src.get .non (w :: vs) zs ud uk)) G Q E := (rfl)
def isiH (ds : List String) (t c : Option TD) (Q : Bool → Prop) (_ : Tag Q := ()) : Prop := isiK ds t c Q
theorem x_isi {ds : List String} {x y : U} : isiV ds x y G Q = isiH ds (tdOf G x) (tdC y) fun b => Q (.bl b) G := (rfl)
theorem isiK_s {ds : List String} {t d : TD} {Q : Bool → Prop} : isiH ds (some t) (some d) Q = (isiOk ds d ∧ Q (isiF t d)) := (rfl)
theorem isi_bb {t d : String} : isiF (.b t) (.b d) = (decide (t = d) || (decide (t = "bool") && decide (d = "int"))) := (rfl)
theorem isiOk_b {ds : List String} {d : String} : isiOk ds (.b d) = (d ∈ tyNames) := (rfl)
theorem td_S : tdOf G (.str x) = some (.b "str") := (rfl)
theorem td_I : tdOf G (.int a) = some (.b "int") := (rfl)
theorem td_B {k : Bool} : tdOf G (.bl k) = some (.b "bool") := (rfl)
theorem td_N : tdOf G .non = some (.b "NoneType") := (rfl)
theorem td_T : tdOf G (.tup zs) = some (.b "tuple") := (rfl)
def tdOb (o : Option Ob) : Option TD := match o with | some (.lst _) => some (.b "list") | some (.dct _) => some (.b "dict") | some (.dcr _ _ _) => some (.b "dict") | some (.ins c _) => some (.o c) | some (.xcp _ _) => none | none => none
theorem td_R : tdOf G (.ref p) = tdOb (G p) := (rfl)
theorem tdC_t : tdC (.ty f) = some (.b f) := (rfl)
theorem fget_nil : fget [] f = none := (rfl)
theorem fget_cons {g : String} {fs : List (String × U)} : fget ((g, w) :: fs) f = if g = f then some w else fget fs f := (rfl)
theorem fput_nil : fput [] f w = [(f, w)] := (rfl)
theorem fput_cons {g : String} {z : U} {fs : List (String × U)} : fput ((g, z) :: fs) f w = if g = f then (g, w) :: fs else (g, z) :: fput fs f w := (rfl)
theorem src_p {n : Nat} {z : U} {us ws dv kv : List U} : Src.get z us ws dv kv (.p n) = us.getD n z := (rfl)
theorem src_k {n : Nat} {z : U} {us ws dv kv : List U} : Src.get z us ws dv kv (.k n) = ws.getD n z := (rfl)
theorem src_q {n : Nat} {z : U} {us ws dv kv : List U} : Src.get z us ws dv kv (.q n) = kv.getD n z := (rfl)
theorem getD_0 {α : Type} {a z : α} {l : List α} : (a :: l).getD 0 z = a := (rfl)
theorem getD_s {α : Type} {a z : α} {l : List α} {n : Nat} : (a :: l).getD (n + 1) z = l.getD n z := (rfl)
theorem setAll_nil {us : USt} {ws : List U} : setAll us [] ws = us := by cases ws <;> rfl
theorem setAll_cons {us : USt} {i : Nat} {is : List Nat} {w : U} {ws : List U} : setAll us (i :: is) (w :: ws) = setAll (us.set i (some w)) is ws := (rfl)
theorem uwipe_nil {us : USt} : uwipe us [] = us := (rfl)
theorem uwipe_cons {us : USt} {i : Nat} {is : List Nat} : uwipe us (i :: is) = (uwipe us is).set i none := (rfl)
theorem len_cons {α : Type} {a : α} {l : List α} : (a :: l).length = l.length + 1 := (rfl)
end
theorem gup_gup {G : Gp} {a : Addr} {o u : Ob} : gup (gup G a o) a u = gup G a u := by
  funext b
  unfold gup
  split <;> rfl
theorem gup_none {G : Gp} {a b : Addr} {o : Ob} (h : gup G a o b = none) : b ≠ a ∧ G b = none := by
  by_cases e : b = a
  · subst e
    rw [gup_same] at h
    cases h
  · exact ⟨e, (gup_ne e).symm.trans h⟩
theorem ne_of_known {G : Gp} {a b : Addr} {u : Ob} (g : G b = some u) (h : G a = none) : b ≠ a := fun e => by
  rw [e, h] at g
  cases g

theorem Sub.drop {G : Gp} {a : Addr} {o : Ob} (h : G a = none) : Sub G (gup G a o) := fun b u g => by
  rw [gup_ne fun e => by rw [e, h] at g; cases g]
  exact g
theorem Sub.gup {G1 G2 : Gp} (x : Sub G1 G2) {a : Addr} {o : Ob} : Sub (UL.gup G1 a o) (UL.gup G2 a o) := fun b u g => by
  by_cases e : b = a
  · subst e
    rw [gup_same] at g ⊢
    exact g
  · rw [gup_ne e] at g ⊢
    exact x b u g
theorem for_ind {tg : UTG} {body : UTS} {chk : Gp → Prop} {D : UEnds} (I : List U → USt → Gp → Prop)
    (h : ∀ x xs us G N, (∀ us' G', I xs us' G' → N us' G') → I (x :: xs) us G → chk G ∧ tg x us G (fun us1 G1 => body { D with nx := N, ct := N, bk := D.nx } us1 G1) (fun x G1 => D.ex x us G1))
    (h0 : ∀ us G, I [] us G → chk G ∧ D.nx us G) : ∀ items us G, I items us G → forU tg body chk items D us G
  | [], us, G, i => h0 us G i
  | x :: xs, us, G, i => h x xs us G (forU tg body chk xs D) (fun us' G' z => for_ind I h h0 xs us' G' z) i
theorem rngs_cons {lo : Int} {n : Nat} : rngs lo (n + 1) = .int lo :: rngs (lo + 1) n := by
  unfold rngs
  rw [List.range_succ_eq_map, List.map_cons, List.map_map]
  congr 1
  · simp
  · apply List.map_congr_left
    intro i _
    simp only [Function.comp]
    congr 1
    omega
theorem rngs_zero {lo : Int} : rngs lo 0 = [] := (rfl)
theorem for_rng {tg : UTG} {body : UTS} {D : UEnds} {lo : Int} {n : Nat} (I : Nat → USt → Gp → Prop)
    (h : ∀ k us G N, k < n → (∀ us' G', I (k + 1) us' G' → N us' G') → I k us G → tg (.int (lo + k)) us G (fun us1 G1 => body { D with nx := N, ct := N, bk := D.nx } us1 G1) (fun x G1 => D.ex x us G1))
    (h0 : ∀ us G, I n us G → D.nx us G) {us : USt} {G : Gp} (hi : I 0 us G) : forU tg body (fun _ => True) (rngs lo n) D us G := by
  refine for_ind (fun items us G => ∃ k, k ≤ n ∧ items = rngs (lo + k) (n - k) ∧ I k us G) (fun x xs us G N hN ⟨k, hk, e, i⟩ => ?_) (fun us G ⟨k, hk, e, i⟩ => ?_) _ us G ⟨0, Nat.zero_le _, by simp, hi⟩
  · have hlt : k < n := by
      by_cases z : k < n
      · exact z
      · have e0 : n - k = 0 := by omega
        rw [e0, rngs_zero] at e
        cases e
    obtain ⟨m, em⟩ : ∃ m, n - k = m + 1 := ⟨n - k - 1, by omega⟩
    rw [em, rngs_cons] at e
    cases e
    refine ⟨True.intro, h k us G N hlt (fun us' G' i' => hN us' G' ⟨k + 1, hlt, ?_, i'⟩) i⟩
    rw [show n - (k + 1) = m by omega]
    congr 1
    omega
  · have e0 : k = n := by
      by_cases z : k < n
      · obtain ⟨m, em⟩ : ∃ m, n - k = m + 1 := ⟨n - k - 1, by omega⟩
        rw [em, rngs_cons] at e
        cases e
      · omega
    subst e0
    exact ⟨True.intro, h0 us G i⟩
theorem for_ix {tg : UTG} {body : UTS} {chk : Gp → Prop} {D : UEnds} {items : List U} (I : Nat → USt → Gp → Prop)
    (h : ∀ (k : Nat) (hk : k < items.length) us G N, (∀ us' G', I (k + 1) us' G' → N us' G') → I k us G → chk G ∧ tg items[k] us G (fun us1 G1 => body { D with nx := N, ct := N, bk := D.nx } us1 G1) (fun x G1 => D.ex x us G1))
    (h0 : ∀ us G, I items.length us G → chk G ∧ D.nx us G) {us : USt} {G : Gp} (hi : I 0 us G) : forU tg body chk items D us G := by
  refine for_ind (fun its us G => ∃ k, k ≤ items.length ∧ its = items.drop k ∧ I k us G) (fun x xs us G N hN ⟨k, hk, e, i⟩ => ?_) (fun us G ⟨k, hk, e, i⟩ => ?_) _ us G ⟨0, Nat.zero_le _, rfl, hi⟩
  · have hlt : k < items.length := by
      by_cases z : k < items.length
      · exact z
      · rw [List.drop_eq_nil_of_le (by omega)] at e
        cases e
    rw [List.drop_eq_getElem_cons hlt] at e
    cases e
    exact h k hlt us G N (fun us' G' i' => hN us' G' ⟨k + 1, hlt, rfl, i'⟩) i
  · have e0 : k = items.length := by
      by_cases z : k < items.length
      · rw [List.drop_eq_getElem_cons z] at e
        cases e
      · omega
    subst e0
    exact h0 us G i
theorem lc_ind {tg : UTG} {tt : UTT} {te : UTE} {chk : Gp → Prop} {us : USt} {Q : List U → Gp → Prop} (I : List U → List U → Gp → Prop)
    (h : ∀ x xs acc G (N : List U → Gp → Prop), (∀ acc' G', I xs acc' G' → N acc' G') → I (x :: xs) acc G → chk G ∧ tg x us G (fun us1 G1 => tt us1 G1 (fun b G2 => bif b then te us1 G2 (fun y G3 => acc.length < 1000000 ∧ N (acc ++ [y]) G3) F0 else N acc G2) F0) F0)
    (h0 : ∀ acc G, I [] acc G → chk G ∧ Q acc G) : ∀ items acc G, I items acc G → lcU tg tt te chk us Q items acc G
  | [], acc, G, i => h0 acc G i
  | x :: xs, acc, G, i => h x xs acc G (lcU tg tt te chk us Q xs) (fun acc' G' z => lc_ind I h h0 xs acc' G' z) i
theorem ixN_nn {n : Nat} {i : Int} (h0 : 0 ≤ i) (h1 : i < n) : ixN n i = some i.toNat := by
  unfold ixN
  rw [if_pos h0, if_pos h1]
theorem atI_nn {α : Type} {xs : List α} {i : Int} (h0 : 0 ≤ i) (h1 : i < xs.length) : atI xs i = xs[i.toNat]? := by
  unfold atI
  rw [ixN_nn h0 h1]
  rfl
theorem atI_0 {α : Type} {x : α} {xs : List α} : atI (x :: xs) 0 = some x := by
  rw [atI_nn (by omega) (by simp)]
  rfl
theorem atI_1 {α : Type} {x y : α} {xs : List α} : atI (x :: y :: xs) 1 = some y := by
  rw [atI_nn (by omega) (by simp; omega)]
  rfl
theorem atI_2 {α : Type} {x y z : α} {xs : List α} : atI (x :: y :: z :: xs) 2 = some z := by
  rw [atI_nn (by omega) (by simp; omega)]
  rfl
theorem atI_3 {α : Type} {x y z w : α} {xs : List α} : atI (x :: y :: z :: w :: xs) 3 = some w := by
  rw [atI_nn (by omega) (by simp; omega)]
  rfl
theorem cmul_l {i j : Int} (h : -(2 ^ 64) < i ∧ i < 2 ^ 64) : CMul i j := .inl h
theorem cmul_r {i j : Int} (h : -(2 ^ 64) < j ∧ j < 2 ^ 64) : CMul i j := .inr h
theorem rg_of {a : Int} (h1 : -1000000000000 ≤ a) (h2 : a ≤ 1000000000000) : Rg a := ⟨by omega, by omega⟩
theorem intU_len (ns : List Int) : (IntU ns).length = ns.length := List.length_map _
theorem intU_at {ns : List Int} {i : Int} (h0 : 0 ≤ i) (h1 : i < ns.length) : ∃ z, z ∈ ns ∧ atI (IntU ns) i = some (.int z) := by
  rw [atI_nn h0 (by rw [intU_len]; exact h1)]
  have hl : i.toNat < ns.length := by omega
  refine ⟨ns[i.toNat], List.getElem_mem hl, ?_⟩
  unfold IntU
  rw [List.getElem?_map, List.getElem?_eq_getElem hl]
  rfl
theorem cutU_ints (ns : List Int) (l h : Option Int) : ∃ ms, cutU (IntU ns) l h = IntU ms := by
  unfold cutU IntU
  exact ⟨(ns.drop (HT.sIx (ns.map U.int).length 0 l)).take (HT.sIx (ns.map U.int).length (ns.map U.int).length h - HT.sIx (ns.map U.int).length 0 l), by rw [List.map_take, List.map_drop]⟩
theorem dats_ints {G : Gp} : ∀ ns : List Int, Dats G (IntU ns) (ns.map PyData.int)
  | [] => .nil
  | n :: ns => .cons (.int n) (dats_ints ns)
theorem canLay_ints : ∀ ns : List Int, PyData.canLayAll0 (ns.map PyData.int) = true
  | [] => by simp [PyData.canLayAll0]
  | n :: ns => by simp [PyData.canLayAll0, PyData.canLay0, canLay_ints ns]
theorem depth_ints : ∀ ns : List Int, PyData.depthAll (ns.map PyData.int) ≤ 0
  | [] => by simp [PyData.depthAll]
  | n :: ns => by simp [PyData.depthAll, PyData.depth]; exact Nat.le_zero.mp (depth_ints ns)
theorem shaped_tup (ns : List Int) : SeqAt.shaped (.tuple (ns.map PyData.int)) = true := by
  have := depth_ints ns
  simp [SeqAt.shaped, PyData.canLay0, canLay_ints, PyData.depth]
  omega
theorem shaped_lst (ns : List Int) : SeqAt.shaped (.list (ns.map PyData.int)) = true := by
  have := depth_ints ns
  simp [SeqAt.shaped, PyData.canLay0, canLay_ints, PyData.depth]
  omega
theorem eqv_ints : ∀ ns ms : List Int, PyData.eqvAll (ns.map PyData.int) (ms.map PyData.int) = decide (ns = ms)
  | [], [] => by simp [PyData.eqvAll]
  | [], _ :: _ => by simp [PyData.eqvAll]
  | _ :: _, [] => by simp [PyData.eqvAll]
  | n :: ns, m :: ms => by
    simp [PyData.eqvAll, PyData.eqv, eqv_ints ns ms]
    rw [Bool.eq_iff_iff]
    simp
theorem small_ints : ∀ ns : List Int, (∀ n ∈ ns, n.natAbs < 1000000) → PyData.showableAll (ns.map PyData.int) = true ∧ PyData.leavesShortAll 13 (ns.map PyData.int) = true ∧ PyData.weightAll (ns.map PyData.int) ≤ 21 * ns.length
  | [], _ => by simp [PyData.showableAll, PyData.leavesShortAll, PyData.weightAll]
  | n :: ns, h => by
    have h1 : n.natAbs < 1000000 := h n (by simp)
    obtain ⟨i1, i2, i3⟩ := small_ints ns fun m hm => h m (by simp [hm])
    have h2 : n.natAbs.log2 < 20 := by
      by_cases z : n.natAbs = 0
      · rw [z]; decide
      · exact (Nat.log2_lt z).mpr (Nat.lt_of_lt_of_le h1 (by decide))
    have h3 : (PyData.shown (.int n)).length ≤ 13 := PyData.shown_int_le2 (by omega) (by omega)
    refine ⟨?_, ?_, ?_⟩
    · simp [PyData.showableAll, PyData.showable, i1]
      omega
    · simp [PyData.leavesShortAll, PyData.leavesShort, i2, h3]
    · simp only [List.map_cons, PyData.weightAll, PyData.weight, List.length_cons]
      split <;> omega
theorem ne_lists {G : Gp} {p q : Addr} {ns ms : List Int} {Q : UK} {E : UX} (h1 : G p = some (.lst (IntU ns))) (h2 : G q = some (.lst (IntU ms))) (h : Q (.bl (!decide (ns = ms))) G) : neU (.ref p) (.ref q) G Q E := by
  refine ⟨_, _, .lst h1 (dats_ints ns), .lst h2 (dats_ints ms), shaped_lst ns, shaped_lst ms, ?_⟩
  simp only [PyData.eqv, eqv_ints]
  exact h
theorem eq_tups {G : Gp} {ns ms : List Int} {Q : UK} {E : UX} (h : Q (.bl (decide (ns = ms))) G) : eqU (.tup (IntU ns)) (.tup (IntU ms)) G Q E := by
  refine ⟨_, _, .tup (dats_ints ns), .tup (dats_ints ms), shaped_tup ns, shaped_tup ms, ?_⟩
  simp only [PyData.eqv, eqv_ints]
  exact h
theorem lim_line' {n : Nat} (h : n ≤ 16000000) : n ≤ sizeLine := by rw [sizeLine_eq]; omega
theorem e_strsOnes : ∀ l : List Nat, strsU (sgs l) = some (l.map fun c => [c])
  | [] => rfl
  | c :: l => by
    show (strsU (sgs l)).map (_ :: ·) = _
    rw [e_strsOnes l]
    rfl
theorem e_joinOnes {l : List Nat} : joinN [] (l.map fun c => [c]) = l := by
  rw [joinN_nil]
  induction l with
  | nil => rfl
  | cons c l ih => rw [List.map_cons, List.flatten_cons, ih]; rfl
theorem e_sumOnes {l : List Nat} : ((l.map fun c => [c]).map List.length).sum = l.length := by
  induction l with
  | nil => rfl
  | cons c l ih =>
    rw [List.map_cons, List.map_cons, List.sum_cons, ih]
    simp; omega
def C26 : List Nat := (List.range 26).map (· + 97)
def B26 : List Nat := (List.range 26).map (· + 65)
def M52 : List Nat := B26 ++ C26
theorem gup_neS {G : Gp} {a b : Addr} {o : Ob} (h : a ≠ b) : gup G a o b = G b := gup_ne h.symm
theorem gup_nN {G : Gp} {a b : Addr} {o : Ob} (h : ¬b = a) : gup G a o b = G b := gup_ne h
theorem gup_nNS {G : Gp} {a b : Addr} {o : Ob} (h : ¬a = b) : gup G a o b = G b := gup_ne fun e => h e.symm
theorem KF.drop {Q : UK} {u : U} {G : Gp} {a : Addr} {o : Ob} (h : G a = none) (k : KF Q u G) : KF Q u (gup G a o) := by
  obtain ⟨G2, s, q⟩ := k
  exact ⟨G2, s.trans (Sub.drop h), q⟩
theorem KS.drop {Q : USt → Gp → Prop} {u : USt} {G : Gp} {a : Addr} {o : Ob} (h : G a = none) (k : KS Q u G) : KS Q u (gup G a o) := by
  obtain ⟨G2, s, q⟩ := k
  exact ⟨G2, s.trans (Sub.drop h), q⟩
theorem KX.drop {E : UX} {x : UExc} {G : Gp} {a : Addr} {o : Ob} (h : G a = none) (k : KX E x G) : KX E x (gup G a o) := by
  obtain ⟨G2, s, q⟩ := k
  exact ⟨G2, s.trans (Sub.drop h), q⟩
theorem KF.of {Q : UK} {u : U} {G G2 : Gp} (s : Sub G2 G) (q : Q u G2) : KF Q u G := ⟨G2, s, q⟩
theorem KS.of {Q : USt → Gp → Prop} {u : USt} {G G2 : Gp} (s : Sub G2 G) (q : Q u G2) : KS Q u G := ⟨G2, s, q⟩
theorem Sub.up {G1 G2 : Gp} (x : Sub G1 G2) {a : Addr} {o : Ob} (h : G2 a = some o) : Sub (UL.gup G1 a o) G2 := fun b u g => by
  by_cases e : b = a
  · subst e
    rw [gup_same] at g
    rw [h]
    exact g
  · rw [gup_ne e] at g
    exact x b u g
/-- all that A knows beyond S is known to B -/
def SubE (S : Addr → Prop) (A B : Gp) : Prop := ∀ x o, ¬S x → A x = some o → B x = some o
theorem SubE.refl {S : Addr → Prop} {A : Gp} : SubE S A A := fun _ _ _ h => h
theorem Sub.ofE {A B : Gp} (h : SubE (fun _ => False) A B) : Sub A B := fun x o g => h x o id g
theorem SubE.left {S : Addr → Prop} {A B : Gp} {p : Addr} {o : Ob} (h : SubE (fun x => x = p ∨ S x) A B) (hb : S p ∨ B p = some o) : SubE S (UL.gup A p o) B := fun x u hs g => by
  by_cases e : x = p
  · subst e
    rw [gup_same] at g
    rcases hb with z | z
    · exact absurd z hs
    · rw [z]; exact g
  · rw [gup_ne e] at g
    exact h x u (fun z => z.elim e hs) g
theorem SubE.put {S : Addr → Prop} {A B : Gp} {a : Addr} {o : Ob} (h : SubE S A B) (ha : S a ∨ A a = none ∨ A a = some o) : SubE S A (UL.gup B a o) := fun x u hs g => by
  by_cases e : x = a
  · subst e
    rw [gup_same]
    rcases ha with z | z | z
    · exact absurd z hs
    · rw [z] at g; cases g
    · exact z.symm.trans g
  · rw [gup_ne e]
    exact h x u hs g
theorem SubE.drop {S : Addr → Prop} {A B : Gp} {a : Addr} {o : Ob} (h : SubE S A B) (ha : B a = none) (hA : SubE S A B → A a = none ∨ S a) : SubE S A (UL.gup B a o) := h.put ((hA h).elim (fun z => .inr (.inl z)) .inl)
theorem dcond {p : Prop} [Decidable p] {X Y : Prop} (h1 : p → X) (h2 : ¬p → Y) : condP (decide p) X Y := by
  unfold condP
  by_cases h : p
  · rw [decide_eq_true h]; exact h1 h
  · rw [decide_eq_false h]; exact h2 h
end UL
set_option maxHeartbeats 400000
namespace UL
open PySem PySem.Spec PyProof.Rows L2

def addI : UR2 := fun x y G Q _ => match x, y with
  | .int i, .int j => Q (.int (i + j)) G
  | .str a, .str b => a.length + b.length ≤ 1000000 ∧ Q (.str (a ++ b)) G
  | .ref a, .ref b => ∃ xs ys, G a = some (.lst xs) ∧ G b = some (.lst ys) ∧ xs.length + ys.length ≤ 1000000 ∧ Q (.ref a) (gup G a (.lst (xs ++ ys)))
  | _, _ => False
section
variable {X : Cx} {W : WX} {pos : Pos}
theorem ou_iadd : OpU X W (inplaceOp .Add) addI := by
  intro pins s σ H x y v u a b G Q E I rx ry ra rb rp hr hx
  cases a <;> cases b <;> try exact hr.elim
  case int.int i j => exact iop_add pins s σ H x y v u _ I rx ry ⟨i, j, ra, rb, lv_int rp hr⟩
  case str.str i j =>
    refine iop_add_str pins s σ H x y v u _ I rx ry ⟨_, _, ra, rb, ?_, ?_⟩
    · show i.toArray.size + j.toArray.size ≤ sizeLine
      simp only [List.size_toArray]
      exact lim_line hr.1
    · exact (by rw [str_app]; exact lv_str rp hr.2)
  case ref.ref i j =>
    obtain ⟨xs, ys, g1, g2, hl, hr⟩ := hr
    obtain ⟨vs, e1, r1⟩ := rp.lst g1
    obtain ⟨ws, e2, r2⟩ := rp.lst g2
    exact iop_ext pins s σ H x y v u _ I rx ry ⟨i, j, vs, ws, ra, rb, e1, e2, by rw [r1.length, r2.length]; exact lim_line hl, lv_setl (u := .ref i) rp g1 (r1.append r2) rfl hr⟩
/-- name op= e -/
def tUAug (i : Nat) (te : UTE) (r : UR2) : UTS := fun D us G => match us[i]? with
  | some (some x) => te us G (fun y G1 => r x y G1 (fun z G2 => D.nx (us.set i (some z)) G2) (fun x G1 => D.ex x us G1)) (fun x G1 => D.ex x us G1)
  | _ => False
def getI0 : UR2 := fun x y G Q _ => match x, y with
  | .ref a, .int i => ∃ us u, G a = some (.lst us) ∧ atI us i = some u ∧ Q u G
  | _, _ => False
theorem ge_list : OpU X W getItem getI0 := by
  intro pins s σ H x y v u a b G Q E I rx ry ra rb rp hr hx
  cases a <;> cases b <;> try exact hr.elim
  case ref.int p i =>
    obtain ⟨us, w, g, hi, q⟩ := hr
    obtain ⟨vs, e, r⟩ := rp.lst g
    obtain ⟨z, hz, rz⟩ := atI_rel r hi
    have ex : x = .ref p := ra
    have ey : y = .int i := rb
    subst ex ey
    cases rx
    obtain ⟨t, rfl⟩ := ry
    obtain ⟨its, rr, pl, hsz⟩ := I.list (.of e)
    obtain ⟨j, h1, h2, h3, h4, h5⟩ := atI_get hz
    obtain ⟨w', ew, rw'⟩ := rr.get h2
    have hl := rr.length
    have hn := line63
    have fin : EP X pins σ (LV X.K H G Q) w' s := ⟨z, H, I, rw', .here rp rz q⟩
    by_cases h0 : 0 ≤ i
    · have hj : i.toNat = j := by
        rw [seqIndex_of h0 h5] at h1
        exact Option.some.inj h1
      exact wpAny_getItem_list pl.isList h0 (by omega) (by rw [hj]; simpa using ew) fin
    · have hj : (i + (its.toArray.size : Int)).toNat = j := by
        rw [seqIndex_neg (by omega) h4] at h1
        rw [List.size_toArray, ← hl]
        exact Option.some.inj h1
      exact wpAny_getItem_list_neg pl.isList (by omega) (by rw [List.size_toArray] <;> omega) (by omega) (by rw [hj]; simpa using ew) fin
/-- o[i] op= e -/
def tUAugS (to ti te : UTE) (tg r : UR2) (st : U → U → U → Gp → (Gp → Prop) → UX → Prop) : UTS := fun D us G =>
  to us G (fun o G1 => ti us G1 (fun i G2 => tg o i G2 (fun x G3 => te us G3 (fun y G4 => r x y G4 (fun z G5 => st o i z G5 (fun G6 => D.nx us G6) (fun x G1 => D.ex x us G1)) (fun x G1 => D.ex x us G1)) (fun x G1 => D.ex x us G1)) (fun x G1 => D.ex x us G1)) (fun x G1 => D.ex x us G1)) (fun x G1 => D.ex x us G1)
theorem su_augS {o i e : Expr} {to ti te : UTE} {tg r : UR2} {st : U → U → U → Gp → (Gp → Prop) → UX → Prop} {op : Operator} {tpos : Pos} (ho : EU X W o to) (hi : EU X W i ti) (hg : OpU X W getItem tg) (he : EU X W e te) (hp : OpU X W (inplaceOp op) r) (hs : StU X W st)
    (ha : ∀ ov iv new, augStore i ov iv new = (do holding [new, ov, iv] (setItem ov iv new); release [new, ov, iv] []; pure .next)) : SU X W (.AugAssign (.Subscript o i tpos) op e pos) (tUAugS to ti te tg r st) := by
  refine ⟨fun pins s σ H us G D I rs rp h hw => ?_⟩
  have hx0 : ∀ c d H', LX X.K H G (fun x G1 => D.ex x us G1) c d H' → W c d σ H' := fun c d H' h' => hw c d σ H' (LXS.of rs rp h')
  refine wpAny_AugAssign_SubscriptAny (thn (ho.run pins s σ H us G _ _ I rs rp h hx0) fun ov s1 ⟨v1, H1, I1, r1, p1, G1, x1, rp1, ru1, q1⟩ => ?_) ha
  have rs1 := rs.ext x1 rp
  have hx1 : ∀ c d H', LX X.K H1 G1 (fun x G1 => D.ex x us G1) c d H' → W c d σ H' := fun c d H' h' => hx0 c d H' (h'.trans x1)
  refine thn (hi.run pins s1 σ H1 us G1 _ _ I1 rs1 rp1 q1 hx1) fun iv s2 ⟨v2, H2, I2, r2, p2, G2, x2, rp2, ru2, q2⟩ => ?_
  have rs2 := rs1.ext x2 rp1
  have hx2 : ∀ c d H', LX X.K H2 G2 (fun x G1 => D.ex x us G1) c d H' → W c d σ H' := fun c d H' h' => hx1 c d H' (h'.trans x2)
  refine thn (hg pins s2 σ H2 v1 v2 ov iv p1 p2 G2 _ _ I2 r1 r2 (ru1.ext x2 rp1) ru2 rp2 q2 hx2) fun old s3 ⟨v3, H3, I3, r3, p3, G3, x3, rp3, ru3, q3⟩ => ?_
  have rs3 := rs2.ext x3 rp2
  have hx3 : ∀ c d H', LX X.K H3 G3 (fun x G1 => D.ex x us G1) c d H' → W c d σ H' := fun c d H' h' => hx2 c d H' (h'.trans x3)
  refine thn (he.run pins s3 σ H3 us G3 _ _ I3 rs3 rp3 q3 hx3) fun v s4 ⟨v4, H4, I4, r4, p4, G4, x4, rp4, ru4, q4⟩ => ?_
  have rs4 := rs3.ext x4 rp3
  have hx4 : ∀ c d H', LX X.K H4 G4 (fun x G1 => D.ex x us G1) c d H' → W c d σ H' := fun c d H' h' => hx3 c d H' (h'.trans x4)
  refine thn (hp pins s4 σ H4 v3 v4 old v p3 p4 G4 _ _ I4 r3 r4 (ru3.ext x4 rp3) ru4 rp4 q4 hx4) fun new s5 ⟨v5, H5, I5, r5, p5, G5, x5, rp5, ru5, q5⟩ => ?_
  have rs5 := rs4.ext x5 rp4
  have hx5 : ∀ c d H', LX X.K H5 G5 (fun x G1 => D.ex x us G1) c d H' → W c d σ H' := fun c d H' h' => hx4 c d H' (h'.trans x5)
  have xx := (((x1.trans x2).trans x3).trans x4).trans x5
  refine thn (hs pins s5 σ H5 v1 v2 v5 ov iv new p1 p2 p5 G5 _ _ I5 r1 r2 r5 ((((ru1.ext x2 rp1).ext x3 rp2).ext x4 rp3).ext x5 rp4) (((ru2.ext x3 rp2).ext x4 rp3).ext x5 rp4) ru5 rp5 q5 hx5) fun _ s6 ⟨H6, G6, I6, x6, rp6, q6⟩ => ?_
  exact ⟨σ, H6, I6, us, G6, xx.trans x6, rp6, rs5.ext x6 rp5, q6⟩

end
end UL
set_option maxHeartbeats 400000
namespace UL
open PySem PySem.Spec PyProof.Rows L2

section
variable {X : Cx} {W : WX} {es : List Expr} {kws : List Keyword} {e o : Expr} {to te : UTE} {tk ta : UTA} {pos p apos : Pos} {k n : Nat} {ks : List Str} {sp : USp} {pl : List Src} {d : DD} {c m : String}
theorem x_aug {us : USt} {G : Gp} {D : UEnds} {i : Nat} {r : UR2} : tUAug i te r D us G = slotK us[i]? fun x => te us G (fun y G1 => r x y G1 (fun z G2 => D.nx (us.set i (some z)) G2) (fun x G1 => D.ex x us G1)) (fun x G1 => D.ex x us G1) := (rfl)
theorem x_augS {us : USt} {G : Gp} {D : UEnds} {ti : UTE} {tg r : UR2} {st : U → U → U → Gp → (Gp → Prop) → UX → Prop} : tUAugS to ti te tg r st D us G =
  to us G (fun o G1 => ti us G1 (fun i G2 => tg o i G2 (fun x G3 => te us G3 (fun y G4 => r x y G4 (fun z G5 => st o i z G5 (fun G6 => D.nx us G6) (fun x G1 => D.ex x us G1)) (fun x G1 => D.ex x us G1)) (fun x G1 => D.ex x us G1)) (fun x G1 => D.ex x us G1)) (fun x G1 => D.ex x us G1)) (fun x G1 => D.ex x us G1) := (rfl)
theorem x_getI {G : Gp} {Q : UK} {E : UX} {p : Addr} {i : Int} : getI0 (.ref p) (.int i) G Q E = getLst (G p) fun xs => getO (atI xs i) fun u => Q u G := x_ixL (E := E)
theorem x_iaddI {G : Gp} {Q : UK} {E : UX} {a b : Int} : addI (.int a) (.int b) G Q E = Q (.int (a + b)) G := (rfl)
end
end UL
set_option maxHeartbeats 400000
namespace UL
open PySem PySem.Spec PyProof.Rows L2
def insOr (o : Option Ob) (K : String → Prop) (R : Prop) (_ : Tag K := ()) (_ : Tag R := ()) : Prop := match o with
  | some (.ins c _) => K c
  | _ => R
def orInI (neg : Bool) (r : UR2) (c : String) (e : MAp) : UR2 := fun x y G Q E => match y with
  | .ref p => insOr (G p) (fun d => d = c ∧ e (.ref p) [x] [] G (truQ neg Q) E) (r x (.ref p) G Q E)
  | y => r x y G Q E
def orCI (r : URC) (c : String) (e : MAp) (f : UK → UK) : URC := fun as G Q E => match as with
  | [.ref p] => insOr (G p) (fun d => d = c ∧ e (.ref p) [] [] G (f Q) E) (r [.ref p] G Q E)
  | [x] => r [x] G Q E
  | _ => False
theorem insOr_of {o : Option Ob} {K : String → Prop} {R : Prop} (h : insOr o K R) : (∃ c fs, o = some (.ins c fs) ∧ K c) ∨ ((∀ c fs, o ≠ some (.ins c fs)) ∧ R) := by
  unfold insOr at h
  split at h
  · exact .inl ⟨_, _, rfl, h⟩
  · rename_i hn
    exact .inr ⟨fun c fs e => hn _ _ e, h⟩
theorem ownU_one {c m : String} {e : MAp} {p : Addr} {fs : List (String × U)} {ys : List U} {G : Gp} {Q : UK} {E : UX} (g : G p = some (.ins c fs)) (h : e (.ref p) ys [] G Q E) : ownU [(c, e)] m (.ref p) ys G Q E := by
  unfold ownU
  dsimp only
  rw [g]
  dsimp only
  rw [List.lookup_cons_self]
  exact h
theorem orInI_of {neg : Bool} {r : UR2} {c : String} {e : MAp} {x y : U} {G : Gp} {Q : UK} {E : UX} (h : orInI neg r c e x y G Q E) : orIn neg r [(c, e)] x y G Q E := by
  unfold orInI at h
  split at h
  · rename_i p
    rcases insOr_of h with ⟨d, fs, g, rfl, k⟩ | ⟨n, k⟩
    · exact .inr (ownU_one g k)
    · exact .inl ⟨notIns n, k⟩
  · rename_i hn
    refine .inl ⟨?_, h⟩
    cases y <;> first | rfl | exact (hn _ rfl).elim
theorem orCI_of {r : URC} {c : String} {e : MAp} {f : UK → UK} {as : List U} {G : Gp} {Q : UK} {E : UX} (h : orCI r c e f as G Q E) : orC r [(c, e)] f as G Q E := by
  unfold orCI at h
  split at h
  · rename_i p
    rcases insOr_of h with ⟨d, fs, g, rfl, k⟩ | ⟨n, k⟩
    · exact .inr (ownU_one g k)
    · exact .inl ⟨notIns n, k⟩
  · rename_i x hn
    refine .inl ⟨?_, h⟩
    cases x <;> first | rfl | exact (hn _ rfl).elim
  · exact h.elim
theorem CallU.imp {X : Cx} {W : WX} {f : Value} {r r' : URC} (h : CallU X W f r) (k : ∀ as G Q E, r' as G Q E → r as G Q E) : CallU X W f r' :=
  fun pins s σ H xs us as G Q E I rx ra rp hr hx => h pins s σ H xs us as G Q E I rx ra rp (k _ _ _ _ hr) hx
section
variable {X : Cx} {W : WX} {c : String} {e : MAp}
theorem ou_inI {r : UR2} (h0 : OpU X W (compareOp .In) r) (hm : ∀ c' ap, ([(c, e)] : List (String × MAp)).lookup c' = some ap → MCall X W (S "__contains__") 1 [] c' ap) : OpU X W (compareOp .In) (orInI false r c e) := (ou_inOwn h0 hm).imp fun _ _ _ _ _ h => orInI_of h
theorem cu_lenI {r : URC} (h0 : CallU X W (.builtin "len") r) (hm : ∀ c' ap, ([(c, e)] : List (String × MAp)).lookup c' = some ap → MCall X W (S "__len__") 0 [] c' ap) : CallU X W (.builtin "len") (orCI r c e lenQ) := (cu_lenOwn h0 hm).imp fun _ _ _ _ h => orCI_of h
end
section
variable {us : USt} {G : Gp} {Q : UK} {E : UX} {r : UR2} {rc : URC} {c : String} {e : MAp} {f : UK → UK} {x : U} {p : Addr} {neg b : Bool} {l : List Nat} {xs : List U} {i : Int}
theorem x_inRI : orInI neg r c e x (.ref p) G Q E = insOr (G p) (fun d => d = c ∧ e (.ref p) [x] [] G (truQ neg Q) E) (r x (.ref p) G Q E) := (rfl)
theorem x_cRI : orCI rc c e f [.ref p] G Q E = insOr (G p) (fun d => d = c ∧ e (.ref p) [] [] G (f Q) E) (rc [.ref p] G Q E) := (rfl)
theorem e_insOr_l {ys : List U} {K : String → Prop} {R : Prop} : insOr (some (.lst ys)) K R = R := (rfl)
theorem x_truQB : truQ neg Q (.bl b) G = Q (.bl (if neg then !b else b)) G := (rfl)
theorem x_lenQ : lenQ Q (.int i) G = ((0 ≤ i ∧ i < 1000000) ∧ Q (.int i) G) := (rfl)
end
end UL
set_option maxHeartbeats 400000
namespace UL
open PySem PySem.Spec PyProof.Rows L2
section
variable {G : Gp} {Q : UK} {E : UX} {a b : Bool} {i : Int} {l : List Nat}
theorem dat_bl {d : PyData} (h : Dat G (.bl a) d) : d = .bool a := by cases h; rfl
theorem shaped_bl : SeqAt.shaped (.bool a) = true := by simp [SeqAt.shaped, PyData.canLay0, PyData.depth]
theorem e_beqB {a b : Bool} : (a == b) = decide (a = b) := by cases a <;> cases b <;> rfl
theorem x_neB : neU (.bl a) (.bl b) G Q E = Q (.bl (!decide (a = b))) G := by
  apply propext
  constructor
  · rintro ⟨d, e, h1, h2, _, _, q⟩
    rw [dat_bl h1, dat_bl h2] at q
    rw [PyData.eqv, e_beqB] at q
    exact q
  · exact fun q => ⟨_, _, .bl a, .bl b, shaped_bl, shaped_bl, by rw [PyData.eqv, e_beqB]; exact q⟩
end
end UL
set_option maxHeartbeats 400000
namespace UL
open PySem PySem.Spec PyProof.Rows L2
section
variable {K : PySem.W.Frag} {H0 : Hp} {G0 : Gp} {a b : Addr} {us ws : List U}
end
section
variable {X : Cx} {W : WX} {te tb : UTE} {p pos tpos : Pos} {elts : List Expr} {kk : Nat}
end
section
variable {us : USt} {G : Gp} {E : UX} {R : UKI} {ta tb : UTE} {p q : Addr} {xs ys : List U}
end
end UL
set_option maxHeartbeats 400000
namespace UL
open PySem PySem.Spec PyProof.Rows L2
def hitK (c' c : String) (b : Bool) (K : PySem.W.Frag) : Bool := decide (PySem.W.exmOne K (.ref (He.ga K (S c'))) (.ref (He.ga K (S c))) = some b)
section
variable {us : USt} {G : Gp} {Q : UK} {E : UX} {D : UEnds} {hits : List (String × Bool)} {i : Nat} {tb : UTS} {ts : Addr → Option Addr → String → UTS} {c k f : String} {fs : List (String × U)} {a : Addr} {d : Option Addr} {te : UTE} {cs fl : List String} {ws : List U} {P R : Prop} {b : Bool} {l : List (String × Bool)} {u : U}
end
end UL
set_option maxHeartbeats 400000
namespace UL
open PySem PySem.Spec PyProof.Rows L2
section
variable {us : USt} {G : Gp} {E : UX} {R : UKI} {ta : UTE} {p : Addr} {xs : List U} {l : List Nat}
end
end UL
set_option maxHeartbeats 400000
namespace UL
open PySem PySem.Spec PyProof.Rows L2
def reprA : U → Gp → UK → Prop := fun u G Q => ∃ d, Shows G u d ∧ Q (.str d.shown.cps.toList) G
theorem cu_reprA {X : Cx} {W : WX} (hu : X.A.units + 64 < cLine) (hg : X.A.guards = some []) : CallU X W (.builtin "repr") (u1 reprA) := by
  intro pins s σ H xs us as G Q E I rx ra rp hr hx
  obtain ⟨u, rfl, d, ⟨hd, hs, hdp, hz⟩, q⟩ := u1_of hr
  obtain ⟨x, rfl, rux⟩ := relUs1 ra
  obtain ⟨v, rfl, rv⟩ := vals1 rx
  have dp := hd.dp rp d u x rux
  obtain ⟨as', rd⟩ := Dp.reads I d x v dp rv
  have fin : ∀ {t : Tok} {h' : Heap} {tk : Tok}, (∀ b o, s.heap.get? b = some o → h'.get? b = some o) → EP X pins σ (LV X.K H G Q) (.str d.shown t) { s with heap := h', toks := tk } := fun {t h' tk} hk => ⟨.str d.shown, H, I.kept hk, ⟨t, rfl⟩, lv_str (l := d.shown.cps.toList) rp q⟩
  have big : ∀ a, v = .ref a → wpAny (model X.prog X.w) X.A (call (.builtin "repr") [v]) (EP X pins σ (LV X.K H G Q)) X.xe s := by
    rintro a rfl
    exact PySem.repr_of_reads' rd hs (PyData.noDict_hsm (Dp.noDict d x dp)) hg (by omega) (fun _ _ e => e) (fun h' t tk hk => fin hk) hz
  cases hd with
  | non =>
    have e : x = .non := rux
    subst e
    obtain rfl : v = Value.none := rv
    exact PySem.P.repr_of_none (fin fun _ _ z => z)
  | bl b =>
    have e : x = .bl b := rux
    subst e
    obtain rfl : v = Value.bool b := rv
    exact PySem.P.repr_of_bool (fin fun _ _ z => z)
  | int i =>
    have e : x = .int i := rux
    subst e
    obtain ⟨t, rfl⟩ := rv
    exact PySem.P.repr_of_int (by simpa [PyData.showable] using hs) (fin fun _ _ z => z)
  | str l =>
    have e : x = .str ⟨l.toArray⟩ := rux
    subst e
    obtain ⟨t, rfl⟩ := rv
    exact PySem.P.repr_of_str (fin fun _ _ z => z) hz
  | tup _ =>
    obtain ⟨a, vs, rfl, _⟩ := rux.tup_of
    exact big a rv
  | lst _ _ =>
    rename_i a us ds _ _
    have e : x = .ref a := rux
    subst e
    exact big a rv
end UL
set_option maxHeartbeats 400000
namespace UL
open PySem PySem.Spec PyProof.Rows L2
section
variable {G : Gp} {Q : UK} {u w : U} {a : Addr} {d : Option Addr} {c c' : String} {t t' : TD} {v : Bool} {tab : List (String × TD × Bool)} {fl : List String} {vs : List U}
end
end UL
set_option maxHeartbeats 400000
namespace UL
open PySem PySem.Spec PyProof.Rows L2
def asBlK (u : U) (t f : Prop) (_ : Tag t := ()) (_ : Tag f := ()) : Prop := match u with
  | .bl true => t
  | .bl false => f
  | _ => False
def tUChain (r r' : UR2) (ta tb tc : UTE) : UTE := fun us G Q E => ta us G (fun x G1 => tb us G1 (fun y G2 => r x y G2 (fun k G3 => asBlK k (tc us G3 (fun z G4 => r' y z G4 Q E) E) (Q (.bl false) G3)) E) E) E
section
variable {X : Cx} {W : WX} {a b c : Expr} {ta tb tc : UTE} {op op' : CmpOp} {r r' : UR2} {pos : Pos}
theorem eu_chain (ho : OpU X W (compareOp op) r) (ho' : OpU X W (compareOp op') r') (ha : EU X W a ta) (hb : EU X W b tb) (hc : EU X W c tc) (hm : lastMarks [op, op'] [b, c] = false) : EU X W (.Compare a [op, op'] [b, c] pos) (tUChain r r' ta tb tc) := by
  refine ⟨fun pins s σ H us G Q E I rs rp h hx => ?_⟩
  refine Compare_chain (thn (ha.run pins s σ H us G _ E I rs rp h hx) fun v s1 ⟨x, H1, I1, r1, p, G1, x1, rp1, rp', q1⟩ => chain_link (thn (hb.run pins s1 σ H1 us G1 _ E I1 (rs.ext x1 rp) rp1 q1 fun c d H' h => hx c d H' (h.trans x1)) fun u s2 ⟨y, H2, I2, r2, q, G2, x2, rp2, rq, q2⟩ =>
    thn (ho pins s2 σ H2 x y v u p q G2 _ E I2 r1 r2 (rp'.ext x2 rp1) rq rp2 q2 fun c d H' h => hx c d H' (h.trans (x1.trans x2))) fun d s3 ⟨z, H3, I3, r3, w, G3, x3, rp3, rw_, q3⟩ => ?_)) hm
  cases w <;> try exact q3.elim
  rename_i k
  obtain rfl : z = V.bl k := rw_
  cases r3
  refine wpAny_truthy_bool ?_
  have xx := (x1.trans x2).trans x3
  cases k with
  | false => exact ite_ff ⟨.bl false, H3, I3, rfl, .bl false, G3, xx, rp3, rfl, q3⟩
  | true => exact ite_tt (chain_last (thn (hc.run pins s3 σ H3 us G3 _ E I3 (((rs.ext x1 rp).ext x2 rp1).ext x3 rp2) rp3 q3 fun c d H' h => hx c d H' (h.trans xx)) fun w' s4 ⟨z', H4, I4, r4, q', G4, x4, rp4, rq', q4⟩ =>
      thn (ho' pins s4 σ H4 y z' u w' q q' G4 Q E I4 r2 r4 ((rq.ext x3 rp2).ext x4 rp3) rq' rp4 q4 fun c d H' h => hx c d H' (h.trans (xx.trans x4))) fun _ _ h => lv_pins (xx.trans x4) h))
end
section
variable {us : USt} {G : Gp} {Q : UK} {E : UX} {ta tb tc : UTE} {r r' : UR2} {t f : Prop}
theorem x_chain : tUChain r r' ta tb tc us G Q E = ta us G (fun x G1 => tb us G1 (fun y G2 => r x y G2 (fun k G3 => asBlK k (tc us G3 (fun z G4 => r' y z G4 Q E) E) (Q (.bl false) G3)) E) E) E := (rfl)
theorem e_asBlK {b : Bool} : asBlK (.bl b) t f = condP b t f := by cases b <;> rfl
end
end UL
set_option maxHeartbeats 400000
namespace UL
open PySem PySem.Spec PyProof.Rows L2
abbrev kS (l : List Nat) : Key := .inr ⟨l.toArray⟩
section
variable {K : PySem.W.Frag} {H : Hp} {l : List Nat}
end
theorem getO_of {o : Option U} {Q : U → Prop} (h : getO o Q) : ∃ u, o = some u ∧ Q u := by
  unfold getO at h
  split at h
  · exact ⟨_, rfl, h⟩
  · exact h.elim
section
variable {X : Cx} {W : WX}
end
section
variable {X : Cx} {W : WX}
end
section
variable {us : USt} {G : Gp} {Q : UK} {E : UX} {D : UEnds} {p : Addr} {l m : List Nat} {a : Int} {xs : List U} {w : U} {Z : Gp → Prop} {to ti : UTE} {kvs : List (U × U)} {k u : U} {K : List (U × U) → Prop} {R : Prop}
end
end UL
set_option maxHeartbeats 400000
namespace UL
open PySem PySem.Spec PyProof.Rows L2
section
variable {G : Gp} {Q : UK} {p : Addr} {xs : List U} {l : List Nat}
end
end UL
set_option maxHeartbeats 400000
namespace UL
open PySem PySem.Spec PyProof.Rows L2
structure FnStU (P : Program) (w : World) (K : PySem.W.Frag) (mg : Str → Option Value) (base : Heap) (k : Nat) (f : Addr) (sp : USp) : Prop where
  run : ∀ (A : Around) (outer : List Env) (s : Shared) (H : Hp) (us : List Value) (vs : List V) (ws : List U) (G : Gp) (Q : UK) (E : UX), RoomU k A → Env0 P w K mg base A outer s H →
    Vals vs us → RelUs K H ws vs → Rep K H G → ws.length ≤ 1000000 → sp [.tup ws] G Q E → codeAny (model P w) A (.call (.ref f) ⟨us, []⟩) (CR (L2N.CX P w) outer P w H s (LV K H G Q) (LX K H G E)) s
theorem FnStU.mono {P : Program} {w : World} {K : PySem.W.Frag} {mg : Str → Option Value} {base : Heap} {j k : Nat} {f : Addr} {sp : USp} (F : FnStU P w K mg base j f sp) (h : j ≤ k) : FnStU P w K mg base k f sp :=
  ⟨fun A outer s H us vs ws G Q E hr => F.run A outer s H us vs ws G Q E (hr.mono h)⟩
section
variable {X : Cx} {W : WX} {es : List Expr} {o : Expr} {to : UTE} {ta : UTA} {pos apos : Pos} {k : Nat} {sp : USp} {d : DD} {c m : String}
end
end UL
set_option maxHeartbeats 400000
namespace UL
open PySem PySem.Spec PyProof.Rows L2 PySem.W
abbrev US3 := U → U → U → Gp → (Gp → Prop) → UX → Prop
section
variable {X : Cx} {W : WX} {c : String} {e : MAp} {r : UR2} {a b : Expr} {ta tb : UTE} {pos : Pos}
end
section
variable {G : Gp} {Q : UK} {E : UX} {r : UR2} {r3 : US3} {c : String} {e : MAp} {x y z : U} {p : Addr} {l : List Nat} {xs : List U} {Z : Gp → Prop}
end
end UL
set_option maxHeartbeats 400000
namespace UL
open PySem PySem.Spec PyProof.Rows L2
section
variable {G : Gp} {Q : UK} {p : Addr} {us : List U} {ls : List (List Nat)}
end
section
variable {X : Cx} {W : WX}
end
section
variable {G : Gp} {Q : UK} {E : UX} {p : Addr} {l : List Nat} {w : U} {i : Int}
end
end UL
set_option maxHeartbeats 400000
namespace UL
open PySem PySem.Spec PyProof.Rows L2
section
variable {G : Gp} {Q : UK} {E : UX} {p q : Addr} {xs : List U} {l m : List Nat}
end
end UL
set_option maxHeartbeats 400000
namespace UL
open PySem PySem.Spec PyProof.Rows L2
section
abbrev Clause := Value × Option (Str × Nat) × (Addr → Value → Option Addr → TS)
inductive ClOk (X : Cx) : List ExceptHandler → List Clause → Prop
  | nil : ClOk X [] []
  | cons {x : Str} {c : Value} {o : Option (Str × Nat)} {ts : Addr → Value → Option Addr → TS} {b₀ : Stmt} {suite : List Stmt} {np p : Pos} {hds : List ExceptHandler} {l : List Clause} (hc : Names X x c)
      (ho : ∀ n i, o = some (n, i) → X.N[i]? = some n ∧ X.env.kindOf n = some .local)
      (hsu : ∀ (a : Addr) (oe : Obj) (cls : Value) (d : Option Addr) (pn : List (Addr × Obj)), L2N.Zn cls d oe → (∃ vs, oe.data = .fields vs) → PSs (X.suite a ((a, oe) :: pn)) (b₀ :: suite) (ts a cls d)) (r : ClOk X hds l) :
      ClOk X (.ExceptHandler (some (.Name x np)) (o.map (·.1)) (b₀ :: suite) p :: hds) ((c, o, ts) :: l)
variable {X : Cx} {body : List Stmt} {h₀ : ExceptHandler} {hds : List ExceptHandler} {l : List Clause} {pos : Pos} {tb : WX → TS} {Wout : WX}
end
abbrev UClause := List (String × Bool) × Option Nat × (Addr → Option Addr → String → UTS)
inductive UClOk (X : Cx) : List ExceptHandler → List UClause → List Clause → Prop
  | nil : UClOk X [] [] []
  | cons {x : Str} {c : String} {no : Option (Str × Nat)} {ts : Addr → Option Addr → String → UTS} {hits : List (String × Bool)} {b₀ : Stmt} {suite : List Stmt} {np p : Pos} {hds : List ExceptHandler} {l : List UClause} {l2 : List Clause} (hc : Names X x (.ref (He.ga X.K (S c))))
      (ho : ∀ n i, no = some (n, i) → X.N[i]? = some n ∧ X.env.kindOf n = some .local) (hh : ∀ p ∈ hits, hitK p.1 c p.2 X.K = true)
      (hsu : ∀ (a : Addr) (oe : Obj) (c : String) (d : Option Addr) (pn : List (Addr × Obj)), L2N.Zn (.ref (He.ga X.K (S c))) d oe → (∃ vs, oe.data = .fields vs) → SsU (X.suite a ((a, oe) :: pn)) W0 (b₀ :: suite) (ts a d c))
      (r : UClOk X hds l l2) : UClOk X (.ExceptHandler (some (.Name x np)) (no.map (·.1)) (b₀ :: suite) p :: hds) ((hits, no.map (·.2), ts) :: l)
        ((.ref (He.ga X.K (S c)), no, fun a cls d D' σ' H' => ∃ c', cls = .ref (He.ga X.K (S c')) ∧ lS X.K W0 (ts a d c') D' σ' H') :: l2)
theorem UClOk.cl {X : Cx} {hds : List ExceptHandler} {l : List UClause} {l2 : List Clause} (h : UClOk X hds l l2) : ClOk X hds l2 := by
  induction h with
  | nil => exact .nil
  | cons hc ho hh hsu r ih =>
    refine .cons hc ho (fun a oe cls d pn hz hv => ⟨fun pins s σ H D I ⟨c', e, l⟩ => ?_⟩) ih
    subst e
    exact (hsu a oe c' d pn hz hv).pss.run pins s σ H D I l
section
variable {D : UEnds} {us : USt} {G : Gp} {tb : UTS} {cs : List UClause} {hits : List (String × Bool)} {o : Option Nat} {ts : Addr → Option Addr → String → UTS} {c : String} {fs : List (String × U)} {i : Nat} {u : U}
end
end UL
set_option maxHeartbeats 400000
namespace UL
open PySem PySem.Spec PyProof.Rows L2
theorem ext_tup_meets (l : Addr) (items : Array Value) (n : Nat) (b : Addr) (items2 : Array Value) (n2 : Nat) (hs0 : ¬(!items.isEmpty && Builtin.List.listTooLong (items.size + items2.size)) = true) (hs1 : items.size ≤ sizeLine) (hs2 : items.size + items2.size ≤ sizeLine + 1) :
    Meets (Builtin.«list.extend» ⟨[.ref l, .ref b], []⟩) (fun _ R s => s.heap.get? l = some { cls := .type "list", dict := none, data := .seq items n, slots := #[] } ∧ (∃ o, s.heap.get? b = some o ∧ o.cls = .type "tuple" ∧ o.data = .seq items2 n2) ∧ R (.ok (.ret Value.none)) { s with heap := s.heap.update l (Obj.mapSeq fun x => x ++ items2), toks := s.toks }) :=
  .of_wp fun prog w A R s h => by
    obtain ⟨hp, g, d, tk, os⟩ := s; obtain ⟨hl, ⟨⟨oc, od, odd, os⟩, hb, hc, hd⟩, h⟩ := h
    obtain rfl : oc = _ := hc
    obtain rfl : odd = _ := hd
    have f1 := AutoSeq1.idx_int; have f2 := AutoSeq1.sub_tuple_tuple; have f3 := AutoSeq1.sub_list_list; have f4 := AutoSeq1.sub_tuple_list; have f5 := AutoSeq1.sub_list_tuple
    have hz' : (items ++ items2).size ≤ sizeLine + 1 := by rw [Array.size_append]; exact hs2
    wp_walk using (wpAny_updateSeq hl rfl (hz := hs1) (_hz' := hz')), AutoSeq1.wpAny_loadPart' hl, AutoSeq1.wpAny_loadPart' hb; exact ⟨_, rfl, h⟩
def rExtendT (K : PySem.W.Frag) : V → List V → Hp → VK → Prop := fun x vs H Q => ∃ l b xs zs, x = .ref l ∧ vs = [.ref b] ∧ H l = some (.lst xs) ∧ SqT K H b zs ∧ xs.length + zs.length ≤ sizeLine ∧ Q .non (upd H l (.lst (xs ++ zs)))
theorem mt_extendT {X : Cx} : MtM X "list.extend" (rExtendT X.K) := by
  intro pins s σ H x vs v us Q I rx rv h
  obtain ⟨l, b, xs, zs, rfl, rfl, hH, hB, hz, q⟩ := h
  cases rx
  obtain ⟨u, rfl, ru⟩ := rv.one
  cases ru
  obtain ⟨z, its, n, r, hl, e⟩ := I.lstM hH
  obtain ⟨its2, r2, ⟨o2, e2, c2, n2, d2⟩, hl2⟩ := I.tuple hB
  have l2 := r2.length
  have hsz : its.toArray.size + its2.toArray.size ≤ sizeLine := by rw [List.size_toArray, List.size_toArray]; omega
  have hlong : ¬ (!its.toArray.isEmpty && Builtin.List.listTooLong (its.toArray.size + its2.toArray.size)) = true := by
    rw [notLongL hsz, Bool.and_false]
    exact Bool.false_ne_true
  refine call_meets F.slot_list_extend ⟨_, e, rfl⟩ F.entry_list_extend (F.args_list_extend_2 _ _)
    (ext_tup_meets l its.toArray n b its2.toArray n2 hlong (by rw [List.size_toArray]; omega) (by omega)) ⟨e, ⟨o2, e2, c2, d2⟩, ?_⟩
  refine ⟨.non, _, I.lset (its' := its ++ its2) hH e (by simp) (r.append r2) ?_, rfl, q⟩
  rw [List.length_append]
  omega
def extendL : Addr → List U → List U → Gp → UK → Prop := fun a us as G Q => match as with
  | [.tup ws] => us.length + ws.length ≤ 1000000 ∧ Q .non (gup G a (.lst (us ++ ws)))
  | [.ref b] => getLst (G b) fun ws => us.length + ws.length ≤ 1000000 ∧ Q .non (gup G a (.lst (us ++ ws)))
  | _ => False
theorem mu_extend {X : Cx} {W : WX} : MtU X W "list.extend" (onLst extendL) := by
  intro pins s σ H x xs v us u as G Q E I rx rv' ra ras rp h hx
  obtain ⟨a, ls, rfl, g, h⟩ := onLst_of h
  obtain ⟨vs, e, rvs⟩ := rp.lst g
  obtain rfl : x = .ref a := ra
  rcases as with _ | ⟨y, _ | ⟨z, r⟩⟩
  · exact h.elim
  · obtain ⟨yv, rfl, ry⟩ := relUs1 ras
    cases y <;> try exact h.elim
    case tup ws =>
      obtain ⟨b, zs, rfl, hb, rz⟩ := ry
      exact mt_extendT pins s σ H _ _ v us _ I rx rv' ⟨a, b, vs, zs, rfl, rfl, e, hb, by rw [rvs.length, rz.length]; exact lim_line h.1, lv_setl (u := .non) rp g (rvs.append rz) rfl h.2⟩
    case ref =>
      rename_i b _
      obtain rfl : yv = .ref b := ry
      have h' : getLst (G b) fun ws => ls.length + ws.length ≤ 1000000 ∧ Q .non (gup G a (.lst (ls ++ ws))) := h
      rw [← lst_ex] at h'
      obtain ⟨ws, gb, h1, h2⟩ := h'
      obtain ⟨zs, e2, rz⟩ := rp.lst gb
      exact mt_extend pins s σ H _ _ v us _ I rx rv' ⟨a, b, vs, zs, rfl, rfl, e, e2, by rw [rvs.length, rz.length]; exact lim_line h1, lv_setl (u := .non) rp g (rvs.append rz) rfl h2⟩
  · cases y <;> exact h.elim
def tUListRg (ta : UTE) : UTE := fun us G Q E => ta us G (fun u G1 => match u with
  | .int n => (0 ≤ n ∧ n ≤ 1000000) ∧ ∀ p, G1 p = none → Q (.ref p) (gup G1 p (.lst (rngs 0 n.toNat)))
  | _ => False) E
theorem relUs_intV {K : PySem.W.Frag} {H : Hp} (f : Nat → Int) : ∀ l : List Nat, RelUs K H (l.map fun i => U.int (f i)) (l.map fun i => V.int (f i))
  | [] => rfl
  | i :: l => ⟨.int (f i), _, rfl, rfl, relUs_intV f l⟩
theorem relUs_rngs {K : PySem.W.Frag} {H : Hp} (n : Int) : RelUs K H (rngs 0 n.toNat) (rgV 0 n) := by
  unfold rngs rgV
  rw [Int.sub_zero]
  exact relUs_intV (fun i => 0 + (i : Nat)) _
theorem eu_listRg {X : Cx} {W : WX} {e : Expr} {ta : UTE} {p p2 pos pos2 : Pos} (hc : X.calm = true) (hg : Gl X "list") (hm : X.mg "list" = none) (hg2 : Gl X "range") (hm2 : X.mg "range" = none) (he : EU X W e ta)
    (na2 : starEach [e] X.env = (false, eval e X.env) :: starEach [] X.env)
    (na : starEach [.Call (.Name "range" p2) [e] [] pos2] X.env = (false, eval (.Call (.Name "range" p2) [e] [] pos2) X.env) :: starEach [] X.env) :
    EU X W (.Call (.Name "list" p) [.Call (.Name "range" p2) [e] [] pos2] [] pos) (tUListRg ta) :=
  .of (pe_listRg hc hg hm (prg_1 hg2 hm2 he.pe na2) na) fun σ H us G Q E rs rp h hx => by
    refine ⟨us, G, _, E, rs, rp, h, fun v H1 ⟨u, G1, x1, rp1, ru, q⟩ => ?_, hx⟩
    cases u <;> try exact q.elim
    rename_i n
    obtain ⟨hn, q⟩ := q
    obtain rfl : v = .int n := ru
    refine ⟨n, rfl, .of_le (Int.le_refl 0) (by omega) (by omega) hn.1, fun a ha => ?_⟩
    · have z := q a (rp1.fresh ha)
      obtain ⟨u, G', x2, rp2, ru2, q2⟩ := lv_lst rp1 (relUs_rngs n) ha z
      exact ⟨u, G', x1.trans x2, rp2, ru2, q2⟩
section
variable {us : USt} {G : Gp} {Q : UK} {E : UX} {ta : UTE} {p b : Addr} {a c n : Int} {ws : List U}
theorem x_extendR : onLst extendL (.ref p) [.ref b] G Q E = getLst (G p) fun us => getLst (G b) fun ws => us.length + ws.length ≤ 1000000 ∧ Q .non (gup G p (.lst (us ++ ws))) := by
  unfold onLst getLst
  cases h : G p with
  | none => simp only [h]
  | some o => cases o <;> simp only [h, extendL, getLst]
def asRgL (u : U) (G1 : Gp) (Q : UK) (_ : Tag Q := ()) : Prop := match u with
  | .int n => (0 ≤ n ∧ n ≤ 1000000) ∧ ∀ p, G1 p = none → Q (.ref p) (gup G1 p (.lst (rngs 0 n.toNat)))
  | _ => False
theorem x_asRgL : asRgL (.int n) G Q = ((0 ≤ n ∧ n ≤ 1000000) ∧ ∀ p, G p = none → Q (.ref p) (gup G p (.lst (rngs 0 n.toNat)))) := (rfl)
theorem x_listRg : tUListRg ta us G Q E = ta us G (fun u G1 => asRgL u G1 Q) E := (rfl)
end
end UL
set_option maxHeartbeats 400000
namespace UL
open PySem PySem.Spec PyProof.Rows L2
section
variable {K : PySem.W.Frag} {H0 : Hp} {G0 : Gp} {d : Addr} {od : Obj} {gs : List (Key × V)} {kvs : List (U × U)}
end
def itemsD (u : U) (G : Gp) (Q : UKI) : Prop := match u with
  | .ref d => match G d with
    | some (.dcr od gs kvs) => Q (fun G => G d = some (.dcr od gs kvs)) (kvs.map fun p => .tup [p.1, p.2]) G
    | _ => False
  | _ => False
section
variable {X : Cx} {W : WX} {tg e : Expr} {te : UTE}
end
section
variable {us : USt} {G : Gp} {Q : UK} {R : UKI} {E : UX} {D : UEnds} {p : Addr} {kvs : List (U × U)} {te : UTE} {t : UTE} {ts : UTS} {od : Obj} {gs : List (Key × V)} {Z : Obj → List (Key × V) → List (U × U) → Prop}
end
end UL
set_option maxHeartbeats 400000
namespace UL
open PySem PySem.Spec PyProof.Rows L2 PySem.W

end UL
set_option maxHeartbeats 400000
namespace UL
open PySem PySem.Spec PyProof.Rows L2 PySem.W

section
variable {X : Cx} {W : WX}
end
end UL
set_option maxHeartbeats 1000000
namespace PySem
open Sem (wp)
section
variable {prog : Program} {w : World} {A : Around} {E : Value → Shared → Prop} {s : Shared}
end
end PySem
namespace UL
open PySem PySem.Spec PyProof.Rows L2
section
variable {us : USt} {G : Gp} {E : UX} {R : UKI} {ta : UTE} {p : Addr} {xs : List U} {l : List Nat}
end
end UL
set_option maxHeartbeats 1000000
namespace UL
open PySem PySem.Spec PyProof.Rows L2 HT

section
variable {prog : Program} {w : World} {A : Around} {E : Value → Shared → Prop} {s : Shared}
end
end UL
set_option maxHeartbeats 400000
namespace UL
open PySem PySem.Spec PyProof.Rows L2 PySem.W

end UL
set_option maxHeartbeats 400000
namespace UL
open PySem PySem.Spec PyProof.Rows L2

def nS (s : Str) : List Nat := s.cps.toList
section
variable {X : Cx} {W : WX}
end
section
variable {G : Gp} {Q : UK} {E : UX} {p : Addr} {l m : List Nat} {bs : List Bool}
end
end UL
set_option maxHeartbeats 400000
namespace UL
open PySem PySem.Spec PyProof.Rows L2

section
variable {G : Gp} {Q : UK} {E : UX} {x : List Nat} {ls : List (List Nat)}
end
end UL
set_option maxHeartbeats 400000
namespace UL
open PySem PySem.Spec PyProof.Rows L2

section
variable {G : Gp} {Q : UK} {E : UX} {x : List Nat} {l : List Nat} {ls : List (List Nat)} {p q : Addr} {K : Bool → Prop}
end
section
variable {X : Cx} {W : WX}
end
section
variable {G : Gp} {Q : UK} {E : UX} {p q : Addr} {x y : List Nat} {xs ys : List U} {a b : Int} {z w : U} {k : Bool}
end
section
variable {G : Gp} {K : Bool → Prop} {as bs : List (List Nat)} {l : List Nat} {ks : List Bool}
end
section
variable {X : Cx} {W : WX}
end
def popL : Addr → List U → List U → Gp → UK → Prop := fun a us as G Q => match as with
  | [] => getO us[us.length - 1]? fun y => Q y (gup G a (.lst us.dropLast))
  | [.int i] => (0 ≤ i ∧ i < 1000000) ∧ getO us[i.toNat]? fun y => Q y (gup G a (.lst (us.eraseIdx i.toNat)))
  | _ => False
section
variable {X : Cx} {W : WX}
theorem mu_popL : MtU X W "list.pop" (onLst popL) := by
  intro pins s σ H x xs v vs u as G Q E I rx rxs ra ras rp h hx
  obtain ⟨a, us, rfl, g, h⟩ := onLst_of h
  unfold popL at h
  split at h
  · obtain ⟨y, hy, q⟩ := getO_of h
    obtain ⟨ws, e, rv⟩ := rp.lst g
    obtain ⟨z, hz, rz⟩ := rv.get hy
    exact mt_pop pins s σ H x xs v vs _ I rx rxs ⟨a, ws, z, ra, ras, e, by rw [rv.length]; exact hz, lv_setl rp g rv.dropLast rz q⟩
  · rename_i i _h0
    obtain ⟨⟨h1, h2⟩, h⟩ := h
    obtain ⟨y, hy, q⟩ := getO_of h
    obtain ⟨ws, e, rv⟩ := rp.lst g
    obtain ⟨z, hz, rz⟩ := rv.get hy
    obtain ⟨iv, rfl, ri⟩ := relUs1 ras
    have hl : i.toNat < ws.length := by
      obtain ⟨q1, _⟩ := List.getElem?_eq_some_iff.mp hz
      exact q1
    refine mt_popAt pins s σ H x _ v vs _ I rx rxs ⟨a, ws, i, i.toNat, z, ra, by rw [show iv = .int i from ri], e, by omega, by omega, ?_, hz, lv_setl rp g (rv.eraseIdx _) rz q⟩
    unfold seqIndex?
    have : ¬ i < 0 := by omega
    simp [this]
    omega
  · exact h.elim
end
section
variable {G : Gp} {Q : UK} {E : UX} {p : Addr} {i : Int}
theorem x_popL0 : onLst popL (.ref p) [] G Q E = getLst (G p) fun us => getO us[us.length - 1]? fun y => Q y (gup G p (.lst us.dropLast)) := by
  unfold onLst getLst
  cases h : G p with
  | none => simp only [h]
  | some o => cases o <;> simp only [h, popL]
end
end UL
set_option maxHeartbeats 400000
namespace UL
open PySem PySem.Spec PyProof.Rows L2

section
variable {prog : Program} {w : World} {A : Around} {E : Value → Shared → Prop} {s : Shared}
end
section
variable {X : Cx} {W : WX} {pos : Pos}
end
section
variable {us : USt} {G : Gp} {E : UX} {S0 : USt → Gp → Prop} {n : Nat} {ts : UTGs} {ws : List U} {p : Addr}
end
end UL
set_option maxHeartbeats 400000
namespace UL
open PySem PySem.Spec PyProof.Rows L2

def u3 (f : U → U → U → Gp → UK → Prop) : URC := fun as G Q _ => match as with
  | [a, b, c] => f a b c G Q
  | _ => False
section
variable {X : Cx} {W : WX}
end
section
variable {G : Gp} {Q : UK} {E : UX} {i j k : Int} {f : U → U → U → Gp → UK → Prop} {a b c : U}
end
end UL
set_option maxHeartbeats 400000
namespace UL
open PySem PySem.Spec PyProof.Rows L2

section
variable {X : Cx} {W : WX}
end
section
variable {G : Gp} {Q : UK} {E : UX} {p : Addr} {k : List Nat}
end
section
variable {X : Cx} {W : WX} {e : Expr} {es : List Expr} {te : UTE} {tr : UTA} {p : Pos}
end
section
variable {G : Gp} {us : USt} {L : List U → Gp → Prop} {E : UX} {te : UTE} {tr : UTA}
end
end UL
set_option maxHeartbeats 4000000
namespace UL
open PySem PySem.Spec PyProof.Rows L2
def keyS (e : Int × Value) : Str := match e.2 with | .str k _ => k | _ => ⟨#[]⟩
def GoodS (w : World) (e : Int × Value) : Prop := ∃ k tk, e.2 = Value.str k tk ∧ e.1 = hashStr w k
def SetS (w : World) (h : Heap) (a : Addr) (S : Str → Bool) (n : Nat) : Prop :=
  ∃ o es ep t, h.get? a = some o ∧ o.ExactSet ∧ o.data = .set es ep t ∧ (∀ e ∈ es.toList, GoodS w e) ∧ (es.toList.map keyS).Nodup ∧ (∀ k, S k = true ↔ k ∈ es.toList.map keyS) ∧
    es.size < scanBound ∧ t.fits es.size = true ∧ es.size = n ∧ Ris t.place.toList ∧ (w.params.followText "set-order" = true ∨ t.led = true)
section
variable {P : Program} {w : World} {h h' : Heap} {a : Addr} {S : Str → Bool} {n : Nat}
theorem SetS.at (R : SetS w h a S n) (k : ∀ o, h.get? a = some o → h'.get? a = some o) : SetS w h' a S n := by
  obtain ⟨o, es, ep, t, ho, r⟩ := R
  exact ⟨o, es, ep, t, k o ho, r⟩
theorem SetS.congr {S' : Str → Bool} (R : SetS w h a S n) (e : ∀ k, S' k = S k) : SetS w h a S' n := by
  have q : S' = S := funext e
  rw [q]; exact R
end
section
variable {P : Program} {w : World} {A : Around} {E : Value → Shared → Prop} {s : Shared} {a : Addr} {S : Str → Bool} {n : Nat}
end
section
variable {P : Program} {w : World} {A : Around} {E : Value → Shared → Prop} {s : Shared}
end
end UL
namespace UL
open PySem PySem.Spec PyProof.Rows L2
section
variable {us : USt} {G : Gp} {Q : UK} {E : UX} {t : UTE} {l : List Nat}
end
end UL
set_option maxHeartbeats 1000000
namespace UL
open PySem PySem.Spec PyProof.Rows L2 HT
end UL
set_option maxHeartbeats 1000000
namespace UL
open PySem PySem.Spec PyProof.Rows L2
section
variable {G : Gp} {Q : UK} {u w : U} {a : Addr} {d : Option Addr} {c c' : String} {t t' : TD} {v : Bool} {tab : List (String × TD × Bool)} {fl : List String} {ws vs : List U} {P P' : Prop}
end
end UL
set_option maxHeartbeats 400000
namespace UL
open PySem PySem.Spec PyProof.Rows L2
section
variable {K : PySem.W.Frag} {H : Hp} {l : Int}
end
section
variable {X : Cx} {W : WX}
end
def tUPairs : List (List Nat × UTE) → USt → Gp → (List (U × U) → Gp → Prop) → UX → Prop
  | [], _, G, Q, _ => Q [] G
  | (l, t) :: r, us, G, Q, E => t us G (fun u G1 => tUPairs r us G1 (fun kvs G2 => Q ((.str l, u) :: kvs) G2) E) E
inductive PPu (X : Cx) (W : WX) : List (Option Expr) → List Expr → List (List Nat × UTE) → Prop where
  | nil : PPu X W [] [] []
  | cons {k v : Expr} {ks : List (Option Expr)} {vs : List Expr} {l : List Nat} {t : UTE} {r : List (List Nat × UTE)} : EU X W k (tUC (.str l)) → EU X W v t → PPu X W ks vs r → PPu X W (some k :: ks) (v :: vs) ((l, t) :: r)
section
variable {X : Cx} {W : WX} {pos : Pos}
/-- what the pairs give: keys by texts, values as known -/
def KVs (K : PySem.W.Frag) (H : Hp) : List (U × U) → List (V × V) → Prop
  | [], ps => ps = []
  | (k, u) :: r, ps => ∃ l v ws, k = .str l ∧ ps = (.str ⟨l.toArray⟩, v) :: ws ∧ RelU K H u v ∧ KVs K H r ws
theorem KVs.ext {K : PySem.W.Frag} {H H' : Hp} {G G' : Gp} (x : Ext H G H' G') (rp : Rep K H G) : ∀ {r : List (U × U)} {ps : List (V × V)}, KVs K H r ps → KVs K H' r ps
  | [], _, h => h
  | (k, u) :: r, _, ⟨l, v, ws, e1, e2, h1, h2⟩ => ⟨l, v, ws, e1, e2, h1.ext x rp, h2.ext x rp⟩
theorem KVs.to {K : PySem.W.Frag} {H : Hp} : ∀ {r : List (U × U)} {ps : List (V × V)}, KVs K H r ps → ∃ gs : List (Key × V), ps = gs.map (fun kv => (kV kv.1, kv.2)) ∧ RelKV K H r gs ∧ gs.length = r.length ∧ ∀ ls : List (List Nat), r.map (·.1) = ls.map U.str → gs.map (·.1) = ls.map kS
  | [], _, h => ⟨[], h, rfl, rfl, fun ls e => by cases ls with | nil => rfl | cons _ _ => cases e⟩
  | (k, u) :: r, _, ⟨l, v, ws, e1, e2, h1, h2⟩ => by
    obtain ⟨gs, e, rk, ln, kk⟩ := KVs.to h2
    refine ⟨(kS l, v) :: gs, by rw [e2, e]; rfl, ⟨kS l, v, gs, rfl, by rw [e1]; rfl, h1, rk⟩, by simp [ln], fun ls eq => ?_⟩
    cases ls with
    | nil => cases eq
    | cons m ls =>
      rw [List.map_cons, List.map_cons] at eq
      injection eq with a b
      have a : k = .str m := a
      rw [e1] at a
      injection a with a
      rw [List.map_cons, List.map_cons, kk ls b, a]
theorem PPu.run {keys : List (Option Expr)} {values : List Expr} {ts : List (List Nat × UTE)} (h : PPu X W keys values ts) : ∃ trs : List (TE × TE), PPs X pos keys values trs ∧ keys.all (·.isSome) = true ∧ keys.length = values.length ∧ keys.length = ts.length ∧
    ∀ (σ : L2.St) (H : Hp) (us : USt) (G : Gp) (Q : List (U × U) → Gp → Prop) (E : UX) (R : List (V × V) → Hp → Prop), RelS X.K H us σ → Rep X.K H G → tUPairs ts us G Q E → (∀ c d H', LX X.K H G E c d H' → W c d σ H') →
      (∀ ps H', (∃ kvs G', Ext H G H' G' ∧ Rep X.K H' G' ∧ KVs X.K H' kvs ps ∧ kvs.map (·.1) = ts.map (fun p => U.str p.1) ∧ Q kvs G') → R ps H') → tPairs trs σ H R := by
  induction h with
  | nil => exact ⟨[], pps_nil, rfl, rfl, rfl, fun σ H us G Q E R rs rp q hx k => k [] H ⟨[], G, .refl _ _, rp, rfl, rfl, q⟩⟩
  | @cons k v ks vs l t r hk hv _ ih =>
    obtain ⟨trs, hp, ha, hl, hl2, go⟩ := ih
    refine ⟨(lE X.K W (tUC (.str l)), lE X.K W t) :: trs, pps_cons hk.pe hv.pe hp, by simpa using ha, by simp [hl], by simp [hl2], fun σ H us G Q E R rs rp q hx kk => ?_⟩
    refine ⟨us, G, _, E, rs, rp, (show tUC (.str l) us G (fun u G1 => u = .str l ∧ G1 = G) E from ⟨rfl, rfl⟩), fun x H1 ⟨u, G1, x1, rp1, ru, eu, eG⟩ => ?_, hx⟩
    subst eu eG
    have ex : x = .str ⟨l.toArray⟩ := ru
    subst ex
    refine ⟨us, G1, _, E, rs.ext x1 rp, rp1, q, fun y H2 ⟨w, G2, x2, rp2, rw_, q2⟩ => ?_, fun c d H' z => hx c d H' (z.trans x1)⟩
    refine go σ H2 us G2 _ E _ ((rs.ext x1 rp).ext x2 rp1) rp2 q2 (fun c d H' z => hx c d H' ((z.trans x2).trans x1)) fun ps H3 ⟨kvs, G3, x3, rp3, rk, ek, q3⟩ => ?_
    exact kk _ H3 ⟨(.str l, w) :: kvs, G3, (x1.trans x2).trans x3, rp3, ⟨l, y, ps, rfl, rfl, rw_.ext x3 rp2, rk⟩, by rw [List.map_cons, List.map_cons, ek], q3⟩
end
section
variable {us : USt} {G : Gp} {Q : UK} {E : UX} {p a : Addr} {l : Int} {m : List Nat} {xs : List U} {w u : U} {Z : Gp → Prop} {kvs : List (U × U)} {K : List (U × U) → Prop} {R : Prop} {t : UTE} {ps : List (List Nat × UTE)} {KQ : List (U × U) → Gp → Prop}
end
end UL
set_option maxHeartbeats 400000
namespace UL
open PySem PySem.Spec PyProof.Rows L2 PySem.W
section
variable {X : Cx} {W : WX} {es : List Expr} {e o fe : Expr} {tf : UTE} {ta : UTA} {pos p apos : Pos} {k n : Nat} {sp : USp} {pl : List Src} {d : DD} {c : String} {ap : MAp}
end
end UL
set_option maxHeartbeats 4000000
namespace UL
open PySem PySem.Spec PyProof.Rows L2
/-- the places where a search begins a run -/
def Runs0 (m : Nat) : Nat → Nat → Nat → Nat
  | 0, i, _ => i
  | n + 1, i, b => Runs0 m n (SetTable.leap m i b).1 (SetTable.leap m i b).2
abbrev ownAt (o : Array (Option Nat)) (j : Nat) : Option Nat := o.getD j (some 0)
theorem free_ok (m : Nat) (o : Array (Option Nat)) (hs : o.size = m + 1) : ∀ (fuel i b n : Nat), n < fuel → ownAt o (Runs0 m n i b) = none → ∃ j, SetTable.layClean.free m o fuel i b = some j ∧ ownAt o j = none
  | 0, _, _, _, h, _ => absurd h (Nat.not_lt_zero _)
  | fuel + 1, i, b, n, h, e => by
    unfold SetTable.layClean.free
    cases f : (List.range (SetTable.runEnd m i + 1 - i)).find? fun k => (o.getD (i + k) (some 0)).isNone with
    | some k =>
      have := List.find?_some f
      exact ⟨i + k, rfl, Option.isNone_iff_eq_none.mp this⟩
    | none =>
      cases n with
      | zero =>
        exfalso
        have h0 := List.find?_eq_none.mp f 0 (List.mem_range.mpr (by unfold SetTable.runEnd; split <;> omega))
        have e0 : ownAt o i = none := e
        rw [Nat.add_zero] at h0
        rw [show o.getD i (some 0) = none from e0] at h0
        exact h0 rfl
      | succ n => exact free_ok m o hs fuel _ _ n (by omega) e
end UL
set_option maxHeartbeats 4000000
namespace UL
open PySem PySem.Spec PyProof.Rows L2
/-- a set's own object -/
def SetD (w : World) (h : Heap) (a : Addr) (S : Str → Bool) (n : Nat) (o : Obj) (es : Array (Int × Value)) (ep : Nat) (t : SetTable) : Prop :=
  h.get? a = some o ∧ o.ExactSet ∧ o.data = .set es ep t ∧ (∀ e ∈ es.toList, GoodS w e) ∧ (es.toList.map keyS).Nodup ∧ (∀ k, S k = true ↔ k ∈ es.toList.map keyS) ∧
    es.size < scanBound ∧ t.fits es.size = true ∧ es.size = n ∧ Ris t.place.toList ∧ (w.params.followText "set-order" = true ∨ t.led = true)
theorem SetD.s {w : World} {h : Heap} {a : Addr} {S : Str → Bool} {n : Nat} {o : Obj} {es : Array (Int × Value)} {ep : Nat} {t : SetTable} (D : SetD w h a S n o es ep t) : SetS w h a S n := ⟨o, es, ep, t, D⟩
section
variable {P : Program} {w : World} {A : Around} {E : Value → Shared → Prop} {s : Shared} {a b : Addr} {S S2 : Str → Bool} {n m : Nat} {o : Obj} {es : Array (Int × Value)} {ep : Nat} {t : SetTable}
theorem SetD.at (D : SetD w s.heap a S n o es ep t) {h' : Heap} (k : h'.get? a = some o) : SetD w h' a S n o es ep t := ⟨k, D.2⟩
theorem SetS.other {h h' : Heap} (R : SetS w h b S n) (hne : b ≠ a) (x : Heap.SameBut a h h') : SetS w h' b S n := R.at fun o ho => by rw [x.2 b hne]; exact ho
end
end UL
set_option maxHeartbeats 4000000
namespace UL
open PySem PySem.Spec PyProof.Rows L2
end UL
set_option maxHeartbeats 4000000
namespace UL
open PySem PySem.Spec PyProof.Rows L2
section
variable {P : Program} {w : World} {A : Around} {E : Value → Shared → Prop} {s : Shared} {a b : Addr} {S S2 : Str → Bool} {n m : Nat}
theorem SetS.ty (R : SetS w s.heap a S n) : s.TypeIs (.ref a) "set" := by
  obtain ⟨o, es, ep, t, ho, hex, _⟩ := R
  exact ⟨o, ho, hex.1⟩
end
end UL
set_option maxHeartbeats 4000000
namespace UL
open PySem PySem.Spec PyProof.Rows L2
end UL
set_option maxHeartbeats 4000000
namespace UL
open PySem PySem.Spec PyProof.Rows L2
section
variable {P : Program} {w : World} {A : Around} {E : Value → Shared → Prop} {s : Shared}
end
theorem vals_ints : ∀ {ns : List Int} {its : List Value}, IntsAre its ns → Vals (ns.map V.int) its
  | _, _, .nil => .nil
  | _, _, .cons n t h => .cons ⟨t, rfl⟩ (vals_ints h)
theorem relUs_intsE {K : PySem.W.Frag} {H : Hp} : ∀ {ns : List Int} {vs : List V}, RelUs K H (IntU ns) vs → vs = ns.map V.int
  | [], vs, h => h
  | n :: ns, _, ⟨v, ws, rfl, h, t⟩ => by
    have e : v = V.int n := h
    rw [e, relUs_intsE t]
    rfl
theorem asRef_ex {u : U} {K : Addr → Prop} (h : asRef u K) : ∃ l, u = .ref l ∧ K l := by
  cases u <;> first | exact ⟨_, rfl, h⟩ | exact False.elim h
theorem getLst_ex {o : Option Ob} {K : List U → Prop} (h : getLst o K) : ∃ l, o = some (.lst l) ∧ K l := by
  unfold getLst at h
  split at h
  · exact ⟨_, rfl, h⟩
  · exact h.elim
section
variable {us : USt} {G : Gp} {Q : UK} {E : UX} {t : UTE}
end
end UL
set_option maxHeartbeats 4000000
namespace UL
open PySem PySem.Spec PyProof.Rows L2
abbrev UD := U × PyData
def REach (K : PySem.W.Frag) (H : Hp) (v : Value) (z : UD) : Prop := ∃ x, RelV x v ∧ RelU K H z.1 x
theorem each_in {K : PySem.W.Frag} {H : Hp} : ∀ {zs : List UD} {xs : List V} {vs : List Value}, RelUs K H (zs.map (·.1)) xs → Vals xs vs → PySem.W.EachIs (REach K H) vs zs
  | [], xs, vs, r, h => by
    have e : xs = [] := r
    subst e
    cases h
    exact .nil
  | z :: zs, _, _, ⟨v, ws, rfl, hv, t⟩, h => by
    cases h with
    | cons a b => exact .cons ⟨v, a, hv⟩ (each_in t b)
theorem each_out {K : PySem.W.Frag} {H : Hp} : ∀ {zs : List UD} {vs : List Value}, PySem.W.EachIs (REach K H) vs zs → ∃ xs, RelUs K H (zs.map (·.1)) xs ∧ Vals xs vs
  | _, _, .nil => ⟨[], rfl, .nil⟩
  | _, _, .cons ⟨v, a, b⟩ t => by
    obtain ⟨xs, r, h⟩ := each_out t
    exact ⟨v :: xs, ⟨v, xs, rfl, b, r⟩, .cons a h⟩
theorem merge_out {zs out : List UD} (hp : out.Perm zs) (hs : out.Pairwise fun a b => PySem.W.dataLt a.2 b.2 = true) : zs.mergeSort (PySem.W.dataLe false fun z : UD => z.2) = out := by
  have T := PySem.W.sortLe_total (listOrd itemOrd) false (fun z : UD => PySem.W.keyToks z.2)
  have lt_asym : ∀ a b : UD, PySem.W.dataLt a.2 b.2 = true → PySem.W.dataLt b.2 a.2 = false := fun a b h => by
    cases h2 : PySem.W.dataLt b.2 a.2 with
    | false => rfl
    | true =>
      have := PyProof.Rows.lex_trans (O := itemOrd) _ _ _ h h2
      rw [PyProof.Rows.lex_irrefl] at this
      cases this
  have pw : out.Pairwise fun a b => PySem.W.dataLe false (fun z : UD => z.2) a b = true := hs.imp fun {a b} h => by
    show (!PySem.W.dataLt b.2 a.2) = true
    rw [lt_asym a b h]
    rfl
  refine List.Perm.eq_of_pairwise (le := fun a b => PySem.W.dataLe false (fun z : UD => z.2) a b = true) (fun a b ha hb h1 h2 => ?_) (List.pairwise_mergeSort T.trans (fun a b => by rw [Bool.or_eq_true]; exact T.total a b) zs) pw ((List.mergeSort_perm zs _).trans hp.symm)
  have ha' : a ∈ out := hp.mem_iff.mpr ((List.mergeSort_perm zs _).mem_iff.mp ha)
  have h1' : PySem.W.dataLt b.2 a.2 = false := by
    have : (!PySem.W.dataLt b.2 a.2) = true := h1
    simpa using this
  have h2' : PySem.W.dataLt a.2 b.2 = false := by
    have : (!PySem.W.dataLt a.2 b.2) = true := h2
    simpa using this
  by_cases e : a = b
  · exact e
  · exfalso
    rcases (List.pairwise_iff_getElem.mp hs) with k
    obtain ⟨i, hi, rfl⟩ := List.getElem_of_mem ha'
    obtain ⟨j, hj, rfl⟩ := List.getElem_of_mem hb
    rcases Nat.lt_trichotomy i j with h | h | h
    · rw [k i j hi hj h] at h2'
      cases h2'
    · subst h
      exact e rfl
    · rw [k j i hj hi h] at h1'
      cases h1'
section
variable {G : Gp} {Q : UK} {p : Addr}
end
end UL
set_option maxHeartbeats 1000000
namespace UL
open PySem PySem.Spec PyProof.Rows L2
section
variable {G : Gp} {Q : UK} {p : Addr}
end
end UL
set_option maxHeartbeats 1000000
namespace UL
open PySem PySem.Spec PyProof.Rows L2 HT
end UL
set_option maxHeartbeats 1000000
namespace UL
open PySem PySem.Spec PyProof.Rows L2
section
variable {P : Program} {w : World} {A : Around} {E : Value → Shared → Prop} {s : Shared} {d : Addr}
end
/-- the names of a call's keywords, as a dict's keys -/
def kwU (ks : List Str) (zs : List U) : List (U × U) := (ks.map fun k => U.str k.cps.toList).zip zs
structure FnKwU (P : Program) (w : World) (K : PySem.W.Frag) (mg : Str → Option Value) (base : Heap) (k : Nat) (f : Addr) (sp : USp) : Prop where
  run : ∀ (A : Around) (outer : List Env) (s : Shared) (H : Hp) (ks : List Str) (zl : List Value) (zv : List V) (zs : List U) (G : Gp) (Q : UK) (E : UX), RoomU k A → Env0 P w K mg base A outer s H →
    Vals zv zl → RelUs K H zs zv → Rep K H G → zs.length = ks.length → ks.length ≤ 3 → ks.Nodup → (∀ d, G d = none → sp [.ref d] (gup G d (.dct (kwU ks zs))) Q E) → codeAny (model P w) A (.call (.ref f) ⟨[], ks.zip zl⟩) (CR (L2N.CX P w) outer P w H s (LV K H G Q) (LX K H G E)) s
theorem FnKwU.mono {P : Program} {w : World} {K : PySem.W.Frag} {mg : Str → Option Value} {base : Heap} {j k : Nat} {f : Addr} {sp : USp} (F : FnKwU P w K mg base j f sp) (h : j ≤ k) : FnKwU P w K mg base k f sp :=
  ⟨fun A outer s H ks zl zv zs G Q E hr => F.run A outer s H ks zl zv zs G Q E (hr.mono h)⟩
section
variable {X : Cx} {W : WX} {o : Expr} {kws : List Keyword} {to : UTE} {tk : UTA} {pos apos : Pos} {k : Nat} {ks : List Str} {sp : USp} {d : DD} {c m : String}
end
end UL
set_option maxHeartbeats 4000000
namespace PySem
namespace HandSPX
open PySem PySem.W PySem.Calls PyProof.Rows
open Builtin Builtin.ObjectAttr
section
variable {M : Model} {A : Around} {E : Value → Shared → Prop} {h : Heap} {g : Array GenState} {d : Drawn} {t : Nat} {os : OsState}
variable {nm q : Str} {C N : Addr} {bs bm bmB : List Value} {hdct : Bool} {sn : List Str} {sub : List Value} {ab : Bool} {col : Option Bool} {dd : Option Addr} {k0 k1 k2 k3 k5 : Option Value} {B newId initId : String}
end
section
variable {prog : Program} {w : World} {A : Around} {E : Value → Shared → Prop} {R : Result → Shared → Prop} {h : Heap} {g : Array GenState} {d : Drawn} {t : Nat} {os : OsState}
variable {nm q : Str} {C N : Addr} {bs bm bmB : List Value} {hdct : Bool} {sn : List Str} {sub : List Value} {ab : Bool} {col : Option Bool} {dd : Option Addr} {k0 k1 k2 k3 k5 : Option Value} {B newId initId : String}
end
end HandSPX
end PySem
namespace UL
open PySem PySem.Spec PyProof.Rows L2 PySem.W
section
variable {X : Cx} {W : WX} {es : List Expr} {kws : List Keyword} {ta tk : UTA} {p pos : Pos} {k n : Nat} {ks : List Str} {pl : List Src} {ps : List Str} {c : String} {fl : List String} {d : DD}
end
end UL
set_option maxHeartbeats 1000000
namespace UL
open PySem PySem.Spec PyProof.Rows L2
section
variable {X : Cx} {W : WX}
end
section
variable {G : Gp} {Q : UK} {E : UX} {p : Addr} {k : Bool} {us us' : List U} {c : String} {fl : List String} {n nk : Nat} {pl : List Src} {ta tk : UTA} {Qt : String → List (String × U) → Prop} {fs : List (String × U)} {ut : USt}
end
end UL
set_option maxHeartbeats 4000000
namespace HotX
open PySem PySem.Spec PyProof.Rows
section
variable {prog : Program} {w : World} {A : Around} {E : Value → Shared → Prop} {s : Shared}
end
end HotX
namespace L2H
open PySem PySem.Spec PyProof.Rows L2 HotX
section
variable {X : Cx} {tg : Expr}
end
end L2H
set_option maxHeartbeats 2000000
namespace UL
open PySem PySem.Spec PyProof.Rows L2 L2H
theorem _root_.L2H.RoomH.units {k : Nat} {A : Around} (r : RoomH k A) : A.units + 64 < cLine := by have := r.un; omega
structure RoomHU (k : Nat) (A : Around) : Prop where
  rm : RoomH k A
  gd : A.guards = some []
theorem RoomHU.mono {j k : Nat} {A : Around} (r : RoomHU k A) (h : j ≤ k) : RoomHU j A := ⟨r.rm.mono h, r.gd⟩
theorem RoomHU.deeper {k : Nat} {A : Around} (r : RoomHU (k + 1) A) (env : Env) : RoomHU k (A.deeper env) := ⟨r.rm.deeper env, r.gd⟩
theorem RoomHU.in1 {k : Nat} {A : Around} (r : RoomHU (k + 1) A) : RoomHU k A.in1 := ⟨⟨by have := r.rm.dp; show A.depth + 3 * k + 5 < _; omega, by have := r.rm.un; show A.units + 1 + 16 * k + 200 < _; omega⟩, r.gd⟩
structure FnHU (P : Program) (w : World) (K : PySem.W.Frag) (mg : Str → Option Value) (base : Heap) (k : Nat) (f : Addr) (fd : FuncData) (ps : List Str) (sp : USp) : Prop where
  run : ∀ (A : Around) (outer : List Env) (s : Shared) (H : Hp) (args : Args) (us : List Value) (vs : List V) (ws : List U) (G : Gp) (Q : UK) (E : UX) (p : Addr × Obj), RoomHU k A → Hot1 A p → PinOk outer H s p → Env0 P w K mg base A outer s H → BindsTo s fd args (ps.zip us) →
    Vals vs us → RelUs K H ws vs → ws.length = ps.length → Rep K H G → sp ws G Q E → codeAny (model P w) A (.call (.ref f) args) (CR (L2N.CX P w) outer P w H s (LV K H G Q) (LX K H G E)) s
theorem FnHU.mono {P : Program} {w : World} {K : PySem.W.Frag} {mg : Str → Option Value} {base : Heap} {j k : Nat} {f : Addr} {fd : FuncData} {ps : List Str} {sp : USp} (F : FnHU P w K mg base j f fd ps sp) (h : j ≤ k) : FnHU P w K mg base k f fd ps sp :=
  ⟨fun A outer s H args us vs ws G Q E p hr => F.run A outer s H args us vs ws G Q E p (hr.mono h)⟩
section
variable {X : Cx} {W : WX} {k n : Nat} {f : Addr} {fd : FuncData} {ps ks : List Str} {sp : USp} {pl : List Src} {dvs kvs : List V} {udv ukv : List U} {c : String} {m x : Str} {d : DD} {es : List Expr} {kws : List Keyword} {ta tk : UTA} {pos p : Pos}
end
end UL
set_option maxHeartbeats 4000000
namespace L2H
open PySem PySem.Spec PyProof.Rows L2 HotX
section
variable {X : Cx} {pins : List (Addr × Obj)} {σ : L2.St} {H : Hp} {s : Shared}
end
section
variable {X : Cx}
end
end L2H
set_option maxHeartbeats 2000000
namespace UL
open PySem PySem.Spec PyProof.Rows L2 L2H
structure IUH (X : Cx) (W : WX) (tg iter : Expr) (t : UTI) : Prop where
  run : ∀ (pins : List (Addr × Obj)) (s : Shared) (σ : L2.St) (H : Hp) (us : USt) (G : Gp) (Q : UKI) (E : UX), Inv X pins σ H s → RelS X.K H us σ → Rep X.K H G → t us G Q E → (∀ c d H', LX X.K H G E c d H' → W c d σ H') →
    wpAny (model X.prog X.w) X.A (eval iter X.env) (fun v s1 => wpAny (model X.prog X.w) X.A (pyIter v) (PIEH X pins σ tg (RI X.K H G Q)) X.xe s1) X.xe s
theorem pieH_imp {X : Cx} {pins : List (Addr × Obj)} {σ : L2.St} {tg : Expr} {R R' : It → Hp → Prop} {v : Value} {s : Shared} (h : ∀ J H, R J H → R' J H) : PIEH X pins σ tg R v s → PIEH X pins σ tg R' v s :=
  fun ⟨it, fp, tn, J, H', e, I, T, st, f, r⟩ => ⟨it, fp, tn, J, H', e, I, T, st, f, h _ _ r⟩
theorem IUH.pi {X : Cx} {W : WX} {tg iter : Expr} {t : UTI} (h : IUH X W tg iter t) : PIH X tg iter (lI X.K W t) :=
  ⟨fun pins s σ H R I ⟨us, G, Qu, Eu, rs, rp, ht, hq, hx⟩ => thn (h.run pins s σ H us G Qu Eu I rs rp ht hx) fun v s1 h1 => thn h1 fun _ _ h2 => pieH_imp hq h2⟩
section
variable {X : Cx} {W : WX} {tg e : Expr} {te : UTE}
end
section
variable {X : Cx} {W : WX} {elt tg iter : Expr} {ifs : List Expr} {scope : Scope} {own : List (Str × Nat)} {pos spos : Pos} {ti : UTI} {g : UTG} {tt : UTT} {te : UTE} {sl : List Nat}
end
end UL
set_option maxHeartbeats 2000000
namespace HotX
open PySem PySem.Spec PyProof.Rows
open Sem (wp)
section
variable {prog : Program} {w : World} {A : Around} {E : Value → Shared → Prop} {s : Shared}
end
end HotX
namespace UL
open PySem PySem.Spec PyProof.Rows L2
section
variable {X : Cx} {W : WX} {pos : Pos}
end
end UL
set_option maxHeartbeats 4000000
namespace HotX
open PySem PySem.Spec PyProof.Rows
section
variable {prog : Program} {w : World} {A : Around} {E : Value → Shared → Prop} {s : Shared}
end
end HotX
namespace L2H
open PySem PySem.Spec PyProof.Rows L2 HotX
end L2H
set_option maxHeartbeats 2000000
namespace UL
open PySem PySem.Spec PyProof.Rows L2
section
variable {X : Cx} {W : WX} {te tb : UTE} {p pos tpos : Pos} {elts : List Expr} {kk : Nat}
end
end UL
set_option maxHeartbeats 4000000
namespace HotX
open PySem PySem.Spec PyProof.Rows PySem.W PySem.Calls
section
variable {prog : Program} {w : World} {A : Around} {E : Value → Shared → Prop} {s : Shared} {K : Type} [DecidableEq K] {knd : KeyKind prog w K}
end
section
variable {prog : Program} {w : World} {A : Around} {E : Value → Shared → Prop} {s : Shared} {T : String} {r d x1 : Addr} {n : Nat} {P : Nat → Value → Prop} {OK : Heap → Prop}
end
section
variable {prog : Program} {w : World} {K : Type} [DecidableEq K] {knd : KeyKind prog w K} {d r x1 : Addr} {kvs : List (K × Value)} {ep : Nat}
end
end HotX
set_option maxHeartbeats 2000000
namespace L2H
open PySem PySem.Spec PyProof.Rows L2
section
variable {X : Cx}
end
end L2H
namespace UL
open PySem PySem.Spec PyProof.Rows L2
end UL
set_option maxHeartbeats 2000000
namespace HotX
open PySem PySem.Spec PyProof.Rows
section
variable {prog : Program} {w : World} {A : Around} {E : Value → Shared → Prop} {s : Shared}
end
end HotX
namespace L2H
open PySem PySem.Spec PyProof.Rows L2 HotX
end L2H
namespace UL
open PySem PySem.Spec PyProof.Rows L2 L2H
section
variable {X : Cx} {W : WX} {tg e : Expr} {te : UTE}
end
end UL
set_option maxHeartbeats 1000000
namespace UL
open PySem PySem.Spec PyProof.Rows L2
section
variable {X : Cx} {W : WX}
end
section
variable {G : Gp} {Q : UK} {E : UX} {p : Addr} {l : List Nat} {d : U}
end
end UL
set_option maxHeartbeats 2000000
namespace GenS
open PySem
open Sem (wp)
def poi : GenState → GenState
  | .suspended _ l c p fs cl => .suspended (fun _ => .unsupported "asleep") l c p fs cl
  | x => x
def isSus : GenState → Prop
  | .suspended .. => True
  | _ => False
def noGen : GenState → Prop
  | .suspended _ _ _ _ fs _ => splitAtGen fs = none
  | _ => True
def noGenE : End → Prop
  | .susp _ _ _ _ _ _ fs => splitAtGen fs = none
  | .ret _ => True
theorem poi_seen (x : GenState) : (poi x).seen = x.seen := by cases x <;> rfl
theorem poi_bare (x : GenState) : (poi x).bare = x.bare := by cases x <;> rfl
theorem noGenE.st {e : End} (h : noGenE e) : noGen e.genState := by
  cases e with
  | ret r => trivial
  | susp => exact h
theorem split_app : ∀ {a b : List Frame}, splitAtGen a = none → splitAtGen b = none → splitAtGen (a ++ b) = none
  | [], b, _, h => h
  | .gen .. :: a, b, h, _ => by simp [splitAtGen] at h
  | .ret k hd g l c p kp :: a, b, h, k2 => by
    have e : splitAtGen a = none := by simpa [splitAtGen] using h
    have := split_app (b := b) e k2
    show (splitAtGen (a ++ b)).map _ = none
    rw [this]
    rfl
theorem split_ret {k : Result → Sem PySem.Fin} {h : Option Value} {g : Bool} {l kp : List Value} {c : Code} {p : Pos} {fs : List Frame} (x : splitAtGen (.ret k h g l c p kp :: fs) = none) : splitAtGen fs = none := by simpa [splitAtGen] using x
/-- no run begins with what is not supported -/
theorem no_run {M : Model} {Γ : Ctx} {p : Pos} {t : Sem PySem.Fin} {fs : List Frame} {s s' : Shared} {e : End} {what : String} (h : Runs M Γ p t fs s e s') : t ≠ .unsupported what := by
  induction h <;> first | assumption | (intro q; cases q)
structure Rel (W : Nat → Option GenState) (s t : Shared) : Prop where
  eq : t = { s with gens := t.gens }
  size : t.gens.size = s.gens.size
  asl : ∀ i x, W i = some x → s.gens[i]? = some x ∧ t.gens[i]? = some (poi x) ∧ isSus x
  oth : ∀ i, W i = none → t.gens[i]? = s.gens[i]? ∧ ∀ x, s.gens[i]? = some x → noGen x
section
variable {W : Nat → Option GenState} {s t : Shared}
theorem Rel.split (r : Rel W s t) : ∃ gt, t = { s with gens := gt } := ⟨_, r.eq⟩
theorem Rel.heap (r : Rel W s t) : t.heap = s.heap := by rw [r.eq]
theorem Rel.toks (r : Rel W s t) : t.toks = s.toks := by rw [r.eq]
theorem Rel.drawn (r : Rel W s t) : t.drawn = s.drawn := by rw [r.eq]
theorem Rel.os (r : Rel W s t) : t.os = s.os := by rw [r.eq]
theorem Rel.setHeap (r : Rel W s t) (h : Heap) : Rel W { s with heap := h } { t with heap := h } := ⟨congrArg (fun u : Shared => { u with heap := h }) r.eq, r.size, r.asl, r.oth⟩
theorem Rel.setToks (r : Rel W s t) (n : Nat) : Rel W { s with toks := n } { t with toks := n } := ⟨congrArg (fun u : Shared => { u with toks := n }) r.eq, r.size, r.asl, r.oth⟩
theorem Rel.setDrawn (r : Rel W s t) (d : Drawn) : Rel W { s with drawn := d } { t with drawn := d } := ⟨congrArg (fun u : Shared => { u with drawn := d }) r.eq, r.size, r.asl, r.oth⟩
theorem Rel.setOs (r : Rel W s t) (o) : Rel W { s with os := o } { t with os := o } := ⟨congrArg (fun u : Shared => { u with os := o }) r.eq, r.size, r.asl, r.oth⟩
theorem Rel.lt (r : Rel W s t) {i : Nat} {x : GenState} (h : W i = some x) : i < s.gens.size := (Array.getElem?_eq_some_iff.mp (r.asl i x h).1).1
theorem Rel.push (r : Rel W s t) (c : Code) : Rel W { s with gens := s.gens.push (.fresh c) } { t with gens := t.gens.push (.fresh c) } := by
  refine ⟨?_, by simp [r.size], fun i x h => ?_, fun i h => ?_⟩
  · have := r.eq
    exact congrArg (fun u : Shared => { u with gens := t.gens.push (.fresh c) }) this
  · have lt := r.lt h
    have lt2 : i < t.gens.size := by rw [r.size]; exact lt
    obtain ⟨h1, h2, h3⟩ := r.asl i x h
    refine ⟨?_, ?_, h3⟩
    · show (s.gens.push (.fresh c))[i]? = _
      rw [Array.getElem?_push, if_neg (Nat.ne_of_lt lt)]
      exact h1
    · show (t.gens.push (.fresh c))[i]? = _
      rw [Array.getElem?_push, if_neg (Nat.ne_of_lt lt2)]
      exact h2
  · show (t.gens.push (.fresh c))[i]? = (s.gens.push (.fresh c))[i]? ∧ ∀ x, (s.gens.push (.fresh c))[i]? = some x → noGen x
    obtain ⟨h1, h2⟩ := r.oth i h
    rw [Array.getElem?_push, Array.getElem?_push, r.size]
    by_cases e : i = s.gens.size
    · rw [if_pos e, if_pos e]
      exact ⟨rfl, fun x hx => by cases hx; trivial⟩
    · rw [if_neg e, if_neg e]
      exact ⟨h1, h2⟩
theorem Rel.set (r : Rel W s t) {g : Nat} (hg : W g = none) {x : GenState} (hx : noGen x) : Rel W (s.setGen g x) (t.setGen g x) := by
  refine ⟨?_, by simp [Shared.setGen, r.size], fun i y h => ?_, fun i h => ?_⟩
  · exact congrArg (fun u : Shared => { u with gens := t.gens.setIfInBounds g x }) r.eq
  · have ne : g ≠ i := fun e => by rw [e, h] at hg; cases hg
    obtain ⟨h1, h2, h3⟩ := r.asl i y h
    refine ⟨?_, ?_, h3⟩
    · show (s.gens.setIfInBounds g x)[i]? = _
      rw [Array.getElem?_setIfInBounds_ne ne]
      exact h1
    · show (t.gens.setIfInBounds g x)[i]? = _
      rw [Array.getElem?_setIfInBounds_ne ne]
      exact h2
  · show (t.gens.setIfInBounds g x)[i]? = (s.gens.setIfInBounds g x)[i]? ∧ ∀ y, (s.gens.setIfInBounds g x)[i]? = some y → noGen y
    obtain ⟨h1, h2⟩ := r.oth i h
    by_cases e : g = i
    · subst e
      rw [Array.getElem?_setIfInBounds_self, Array.getElem?_setIfInBounds_self, r.size]
      refine ⟨rfl, fun y hy => ?_⟩
      split at hy
      · cases hy; exact hx
      · cases hy
    · rw [Array.getElem?_setIfInBounds_ne e, Array.getElem?_setIfInBounds_ne e]
      exact ⟨h1, h2⟩
theorem Rel.at (r : Rel W s t) {g : Nat} {y : GenState} (h : t.gens[g]? = some y) : (W g = none ∧ s.gens[g]? = some y ∧ noGen y) ∨ ∃ x, W g = some x ∧ s.gens[g]? = some x ∧ y = poi x ∧ isSus x := by
  cases e : W g with
  | none =>
    obtain ⟨h1, h2⟩ := r.oth g e
    rw [h] at h1
    exact .inl ⟨rfl, h1.symm, h2 y h1.symm⟩
  | some x =>
    obtain ⟨h1, h2, h3⟩ := r.asl g x e
    rw [h] at h2
    exact .inr ⟨x, rfl, h1, Option.some.inj h2, h3⟩
theorem Rel.awake (r : Rel W s t) {g : Nat} {y : GenState} (h : t.gens[g]? = some y) (ny : ¬ isSus y) : W g = none ∧ s.gens[g]? = some y := by
  rcases r.at h with ⟨h1, h2, _⟩ | ⟨x, _, _, e, hx⟩
  · exact ⟨h1, h2⟩
  · exfalso
    refine ny ?_
    rw [e]
    cases x <;> first | exact hx | trivial
end
theorem runs_kept {M : Model} {W : Nat → Option GenState} {Γ : Ctx} {p : Pos} {tm : Sem PySem.Fin} {fs : List Frame} {t t' : Shared} {e : End} (h : Runs M Γ p tm fs t e t') :
    splitAtGen fs = none → ∀ s, Rel W s t → ∃ s', Runs M Γ p tm fs s e s' ∧ Rel W s' t' ∧ noGenE e := by
  induction h with
  | done => exact fun _ s r => ⟨s, .done, r, trivial⟩
  | raise => exact fun _ s r => ⟨s, .raise, r, trivial⟩
  | again hq _ ih => exact fun _ s r => let ⟨s', a, b, c⟩ := ih rfl s r; ⟨s', .again hq a, b, c⟩
  | rule _ ih => exact fun _ s r => let ⟨s', a, b, c⟩ := ih rfl s r; ⟨s', .rule a, b, c⟩
  | «at» _ ih => exact fun _ s r => let ⟨s', a, b, c⟩ := ih rfl s r; ⟨s', .at a, b, c⟩
  | load ho _ ih => exact fun _ s r => let ⟨s', a, b, c⟩ := ih rfl s r; ⟨s', .load (by rw [← r.heap]; exact ho) a, b, c⟩
  | update ho _ ih =>
    intro _ s r
    obtain ⟨gt, rfl⟩ := r.split
    obtain ⟨s', a, b, c⟩ := ih rfl _ (r.setHeap _)
    exact ⟨s', .update ho a, b, c⟩
  | loadIfAlive _ ih =>
    intro _ s r
    obtain ⟨gt, rfl⟩ := r.split
    obtain ⟨s', a, b, c⟩ := ih rfl s r
    exact ⟨s', .loadIfAlive a, b, c⟩
  | point _ ih => exact fun _ s r => let ⟨s', a, b, c⟩ := ih rfl s r; ⟨s', .point a, b, c⟩
  | alloc _ ih =>
    intro _ s r
    obtain ⟨gt, rfl⟩ := r.split
    obtain ⟨s', a, b, c⟩ := ih rfl _ (r.setHeap _)
    exact ⟨s', .alloc a, b, c⟩
  | fresh _ ih =>
    intro _ s r
    obtain ⟨gt, rfl⟩ := r.split
    obtain ⟨s', a, b, c⟩ := ih rfl _ (r.setToks _)
    exact ⟨s', .fresh a, b, c⟩
  | ask _ ih => exact fun _ s r => let ⟨s', a, b, c⟩ := ih rfl s r; ⟨s', .ask a, b, c⟩
  | choose hn _ ih =>
    intro _ s r
    obtain ⟨gt, rfl⟩ := r.split
    obtain ⟨s', a, b, c⟩ := ih rfl _ (r.setDrawn _)
    exact ⟨s', .choose hn a, b, c⟩
  | os _ ih =>
    intro _ s r
    obtain ⟨gt, rfl⟩ := r.split
    obtain ⟨s', a, b, c⟩ := ih rfl _ (r.setOs _)
    exact ⟨s', .os a, b, c⟩
  | handled _ ih => exact fun _ s r => let ⟨s', a, b, c⟩ := ih rfl s r; ⟨s', .handled a, b, c⟩
  | genState hg _ ih =>
    intro _ s r
    obtain ⟨s', a, b, c⟩ := ih rfl s r
    rcases r.at hg with ⟨_, h2, _⟩ | ⟨x, _, h2, e, _⟩
    · exact ⟨s', .genState h2 a, b, c⟩
    · rw [e, poi_seen] at a
      exact ⟨s', .genState h2 a, b, c⟩
  | stack _ ih => exact fun _ s r => let ⟨s', a, b, c⟩ := ih rfl s r; ⟨s', .stack a, b, c⟩
  | thread _ ih => exact fun _ s r => let ⟨s', a, b, c⟩ := ih rfl s r; ⟨s', .thread a, b, c⟩
  | newGen _ ih => exact fun _ s r => let ⟨s', a, b, c⟩ := ih rfl _ (r.push _); ⟨s', .newGen (by rw [r.size] at a; exact a), b, c⟩
  | call _ _ ih1 ih2 =>
    intro _ s r
    obtain ⟨s1, a1, b1, _⟩ := ih1 rfl s r
    obtain ⟨s2, a2, b2, c2⟩ := ih2 rfl s1 b1
    exact ⟨s2, .call a1 a2, b2, c2⟩
  | callSusp _ ih =>
    intro _ s r
    obtain ⟨s1, a1, b1, c1⟩ := ih rfl s r
    exact ⟨s1, .callSusp a1, b1, split_app c1 rfl⟩
  | yield => exact fun _ s r => ⟨s, .yield, r, rfl⟩
  | resumeFresh hg _ hq _ ih1 ih2 =>
    intro _ s r
    obtain ⟨w, g2⟩ := r.awake hg (fun h => h)
    obtain ⟨s1, a1, b1, c1⟩ := ih1 rfl _ (r.set w (x := .running) trivial)
    obtain ⟨s2, a2, b2, c2⟩ := ih2 rfl _ (b1.set w c1.st)
    exact ⟨s2, .resumeFresh g2 a1 hq a2, b2, c2⟩
  | resumeSuspended hg hr hq _ ih1 ih2 =>
    intro _ s r
    rcases r.at hg with ⟨w, g2, ng⟩ | ⟨x, w, g2, e, hx⟩
    · obtain ⟨s1, a1, b1, c1⟩ := ih1 ng _ (r.set w (x := .running) trivial)
      obtain ⟨s2, a2, b2, c2⟩ := ih2 rfl _ (b1.set w c1.st)
      exact ⟨s2, .resumeSuspended g2 a1 hq a2, b2, c2⟩
    · exfalso
      cases x with
      | suspended k l c p fs cl =>
        cases e
        exact no_run hr rfl
      | _ => exact hx
  | resumeJustStarted hg hv _ ih =>
    intro _ s r
    obtain ⟨w, g2⟩ := r.awake hg (fun h => h)
    obtain ⟨s', a, b, c⟩ := ih rfl s r
    exact ⟨s', .resumeJustStarted g2 hv a, b, c⟩
  | resumeThrowFresh hg _ ih =>
    intro _ s r
    obtain ⟨w, g2⟩ := r.awake hg (fun h => h)
    obtain ⟨s', a, b, c⟩ := ih rfl _ (r.set w (x := .finished) trivial)
    exact ⟨s', .resumeThrowFresh g2 a, b, c⟩
  | resumeRunning hg _ ih =>
    intro _ s r
    obtain ⟨w, g2⟩ := r.awake hg (fun h => h)
    obtain ⟨s', a, b, c⟩ := ih rfl s r
    exact ⟨s', .resumeRunning g2 a, b, c⟩
  | resumeFinished hg _ ih =>
    intro _ s r
    obtain ⟨w, g2⟩ := r.awake hg (fun h => h)
    obtain ⟨s', a, b, c⟩ := ih rfl s r
    exact ⟨s', .resumeFinished g2 a, b, c⟩
  | segRet _ _ ih1 ih2 =>
    intro hf s r
    obtain ⟨s1, a1, b1, _⟩ := ih1 rfl s r
    obtain ⟨s2, a2, b2, c2⟩ := ih2 (split_ret hf) s1 b1
    exact ⟨s2, .segRet a1 a2, b2, c2⟩
  | segGen _ _ _ _ => exact fun hf => by simp [splitAtGen] at hf
  | segSuspOut hn _ ih =>
    intro hf s r
    obtain ⟨s1, a1, b1, c1⟩ := ih rfl s r
    exact ⟨s1, .segSuspOut hn a1, b1, split_app c1 hn⟩
  | segSuspGen hs _ _ _ _ _ => exact fun hf => by rw [hs] at hf; cases hf

theorem returns_kept {M : Model} {W : Nat → Option GenState} {Γ : Ctx} {p : Pos} {t t' : Shared} {r : Result} (h : Returns M Γ p t r t') {s : Shared} (x : Rel W s t) : ∃ s', Returns M Γ p s r s' ∧ Rel W s' t' :=
  let ⟨s', a, b, _⟩ := runs_kept h rfl s x
  ⟨s', a, b⟩
theorem wakes_kept {M : Model} {W : Nat → Option GenState} {Γ : Ctx} {p : Pos} {g : Nat} {r : Resume} {t t' : Shared} {res : GenResult} (h : Wakes M Γ p g r t res t') {s : Shared} (x : Rel W s t) : ∃ s', Wakes M Γ p g r s res s' ∧ Rel W s' t' := by
  unfold Wakes at h
  cases hg : t.gens[g]? with
  | none => rw [hg] at h; exact h.elim
  | some y =>
    rw [hg] at h
    cases y with
    | fresh c =>
      obtain ⟨w, g2⟩ := x.awake hg (fun h => h)
      unfold Wakes
      rw [g2]
      dsimp only at h ⊢
      split at h
      · obtain ⟨e₁, s₁, hr, hq, rfl, rfl⟩ := h
        obtain ⟨s1, a1, b1, c1⟩ := runs_kept hr rfl _ (x.set w (x := .running) trivial)
        exact ⟨_, ⟨e₁, s1, a1, hq, rfl, rfl⟩, b1.set w c1.st⟩
      · obtain ⟨rfl, rfl⟩ := h
        exact ⟨s, ⟨rfl, rfl⟩, x⟩
      · obtain ⟨rfl, rfl⟩ := h
        exact ⟨_, ⟨rfl, rfl⟩, x.set w trivial⟩
    | suspended k l c p fs cl =>
      obtain ⟨e₁, s₁, hr, hq, rfl, rfl⟩ := h
      rcases x.at hg with ⟨w, g2, ng⟩ | ⟨z, w, g2, e, hz⟩
      · unfold Wakes
        rw [g2]
        obtain ⟨s1, a1, b1, c1⟩ := runs_kept hr ng _ (x.set w (x := .running) trivial)
        exact ⟨_, ⟨e₁, s1, a1, hq, rfl, rfl⟩, b1.set w c1.st⟩
      · exfalso
        cases z with
        | suspended k l c p fs cl =>
          cases e
          exact no_run hr rfl
        | _ => exact hz
    | running =>
      obtain ⟨rfl, rfl⟩ := h
      obtain ⟨w, g2⟩ := x.awake hg (fun h => h)
      refine ⟨s, ?_, x⟩
      unfold Wakes
      rw [g2]
      exact ⟨rfl, rfl⟩
    | finished =>
      obtain ⟨rfl, rfl⟩ := h
      obtain ⟨w, g2⟩ := x.awake hg (fun h => h)
      refine ⟨s, ?_, x⟩
      unfold Wakes
      rw [g2]
      exact ⟨rfl, rfl⟩
theorem wp_kept {α : Type} {M : Model} {Γ : Ctx} {W : Nat → Option GenState} (tm : Sem α) : ∀ (Q : α → Pos → Shared → Prop) (E : Value → Pos → Shared → Prop) (p : Pos) (s t : Shared), Rel W s t → wp M Γ tm Q E p t →
    wp M Γ tm (fun a p' s' => ∃ t', Rel W s' t' ∧ Q a p' t') (fun e p' s' => ∃ t', Rel W s' t' ∧ E e p' t') p s := by
  induction tm with
  | pure a => exact fun Q E p s t r h => ⟨t, r, h⟩
  | raise e => exact fun Q E p s t r h => ⟨t, r, h⟩
  | unsupported _ => exact fun Q E p s t r h => h
  | finish _ => exact fun Q E p s t r h => h
  | rule _ k ih => exact fun Q E p s t r h => ih () Q E p s t r h
  | «at» p' k ih => exact fun Q E p s t r h => ih () Q E p' s t r h
  | load a _ k ih =>
    intro Q E p s t r h
    obtain ⟨o, ho, h⟩ := h
    exact ⟨o, by rw [← r.heap]; exact ho, ih o Q E p s t r h⟩
  | update a _ f k ih =>
    intro Q E p s t r h
    obtain ⟨gt, rfl⟩ := r.split
    exact ⟨h.1, ih () Q E p _ _ (r.setHeap _) h.2⟩
  | loadIfAlive a k ih =>
    intro Q E p s t r h
    obtain ⟨gt, rfl⟩ := r.split
    exact ih _ Q E p s _ r h
  | point _ k ih => exact fun Q E p s t r h => ih () Q E p s t r h
  | register _ _ => exact fun Q E p s t r h => h
  | alloc o k ih =>
    intro Q E p s t r h
    obtain ⟨gt, rfl⟩ := r.split
    exact ih _ Q E p _ _ (r.setHeap _) h
  | fresh k ih =>
    intro Q E p s t r h
    obtain ⟨gt, rfl⟩ := r.split
    exact ih _ Q E p _ _ (r.setToks _) h
  | ask k ih => exact fun Q E p s t r h => ih _ Q E p s t r h
  | choose src m k ih =>
    intro Q E p s t r h
    obtain ⟨gt, rfl⟩ := r.split
    exact ⟨h.1, ih _ Q E p _ _ (r.setDrawn _) h.2⟩
  | os q _ k ih =>
    intro Q E p s t r h
    obtain ⟨gt, rfl⟩ := r.split
    exact ih _ Q E p _ _ (r.setOs _) h
  | call c hd _ _ k ih =>
    intro Q E p s t r h
    obtain ⟨res, t', hr, h⟩ := h
    obtain ⟨s', a, b⟩ := returns_kept hr r
    exact ⟨res, s', a, ih res Q E p s' t' b h⟩
  | handled own k ih => exact fun Q E p s t r h => ih _ Q E p s t r h
  | genState g k ih =>
    intro Q E p s t r h
    obtain ⟨st, hg, h⟩ := h
    rcases r.at hg with ⟨_, h2, _⟩ | ⟨x, _, h2, e, _⟩
    · exact ⟨st, h2, ih _ Q E p s t r h⟩
    · rw [e, poi_seen] at h
      exact ⟨x, h2, ih _ Q E p s t r h⟩
  | newGen c k ih =>
    intro Q E p s t r h
    have h : wp M Γ (k t.gens.size) Q E p { t with gens := t.gens.push (.fresh c) } := h
    rw [r.size] at h
    exact ih _ Q E p _ _ (r.push c) h
  | resume g rs _ k ih =>
    intro Q E p s t r h
    obtain ⟨res, t', hw, h⟩ := h
    obtain ⟨s', a, b⟩ := wakes_kept hw r
    exact ⟨res, s', a, ih res Q E p s' t' b h⟩
  | yield _ _ _ _ => exact fun Q E p s t r h => h
  | stack k ih => exact fun Q E p s t r h => ih _ Q E p s t r h
  | fork _ _ => exact fun Q E p s t r h => h
  | thread k ih => exact fun Q E p s t r h => ih _ Q E p s t r h
  | await _ _ _ _ _ => exact fun Q E p s t r h => h
/-- the same state, none that sleeps can be woken -/
def asleep (s : Shared) : Shared := { s with gens := s.gens.map poi }
def slp (s : Shared) (i : Nat) : Option GenState := match s.gens[i]? with
  | some (.suspended k l c p fs cl) => some (.suspended k l c p fs cl)
  | _ => none
theorem rel_asleep (s : Shared) : Rel (slp s) s (asleep s) := by
  refine ⟨rfl, by simp [asleep], fun i x h => ?_, fun i h => ?_⟩
  · unfold slp at h
    split at h
    · rename_i e
      cases h
      refine ⟨e, ?_, trivial⟩
      show (s.gens.map poi)[i]? = _
      rw [Array.getElem?_map, e]
      rfl
    · cases h
  · show (s.gens.map poi)[i]? = _ ∧ _
    rw [Array.getElem?_map]
    unfold slp at h
    cases e : s.gens[i]? with
    | none => exact ⟨rfl, fun x hx => by cases hx⟩
    | some y =>
      rw [e] at h
      cases y with
      | suspended k l c p fs cl => cases h
      | fresh c => exact ⟨rfl, fun x hx => by cases hx; trivial⟩
      | running => exact ⟨rfl, fun x hx => by cases hx; trivial⟩
      | finished => exact ⟨rfl, fun x hx => by cases hx; trivial⟩
/-- what sleeps in s sleeps in s' as it did, all else is as in t' -/
theorem Rel.kept {s s' t' : Shared} (r : Rel (slp s) s' t') {g : Nat} {x : GenState} (h : s.gens[g]? = some x) (hx : isSus x) : s'.gens[g]? = some x := by
  refine (r.asl g x ?_).1
  unfold slp
  rw [h]
  cases x <;> first | rfl | exact hx.elim
theorem Rel.bare {W : Nat → Option GenState} {s t : Shared} (r : Rel W s t) (h : ∀ x ∈ t.gens, x.bare = true) : ∀ x ∈ s.gens, x.bare = true := fun x hx => by
  obtain ⟨i, hi, e⟩ := Array.mem_iff_getElem.mp hx
  have hi2 : s.gens[i]? = some x := by rw [Array.getElem?_eq_getElem hi, e]
  cases w : W i with
  | none =>
    obtain ⟨h1, _⟩ := r.oth i w
    rw [hi2] at h1
    exact h x (Array.mem_of_getElem? h1)
  | some y =>
    obtain ⟨h1, h2, _⟩ := r.asl i y w
    rw [hi2] at h1
    cases h1
    rw [← poi_bare]
    exact h _ (Array.mem_of_getElem? h2)
theorem asleep_bare {s : Shared} (h : ∀ x ∈ s.gens, x.bare = true) : ∀ x ∈ (asleep s).gens, x.bare = true := fun x hx => by
  obtain ⟨y, hy, rfl⟩ := Array.mem_map.mp hx
  rw [poi_bare]
  exact h y hy
theorem wpAny_asleep {α : Type} {M : Model} {A : Around} {s : Shared} {t : Sem α} {Q : α → Shared → Prop} {E : Value → Shared → Prop} (h : wpAny M A t Q E (asleep s)) :
    wpAny M A t (fun a s' => ∃ t', Rel (slp s) s' t' ∧ Q a t') (fun e s' => ∃ t', Rel (slp s) s' t' ∧ E e t') s := fun Γ p hΓ => wp_kept t _ _ p s _ (rel_asleep s) (h Γ p hΓ)
end GenS
set_option maxHeartbeats 2000000
namespace GenS
open PySem
open Sem (wp)
def Sg (M : Model) (A : Around) (Φ : End → Shared → Prop) (c : Code) (t : Sem PySem.Fin) (fs : List Frame) (s : Shared) : Prop :=
  ∀ (Γ : Ctx) (p : Pos), Γ.code = c → Γ.Woken A → ∃ e s', Runs M Γ p t fs s e s' ∧ Φ e s'
section
variable {M : Model} {A : Around} {Φ : End → Shared → Prop} {c : Code} {fs : List Frame} {s : Shared}
theorem Sg.imp {Ψ : End → Shared → Prop} {t : Sem PySem.Fin} (x : Sg M A Φ c t fs s) (f : ∀ e s', Φ e s' → Ψ e s') : Sg M A Ψ c t fs s := fun Γ p e w =>
  let ⟨e1, s1, r, q⟩ := x Γ p e w
  ⟨e1, s1, r, f _ _ q⟩
theorem sg_w {α : Type} {m : Sem α} {k : α → Sem PySem.Fin} {j : Value → Sem PySem.Fin} {gd lv}
    (x : wpAny M (A.over c fs) m (fun a s1 => Sg M A Φ c (k a) fs s1) (fun e s1 => Sg M A Φ c (j e) fs s1) s) : Sg M A Φ c (m.wrap k j gd lv) fs s := by
  intro Γ p e w
  subst e
  refine runs_wrap_of_wp k j gd lv m (x (Γ.over fs) p (w.over fs)) ?_ ?_
  · exact fun a p1 s1 y => y Γ p1 rfl w
  · exact fun a p1 s1 y => y Γ p1 rfl w
theorem sg_at {q : Pos} {k : Unit → Sem PySem.Fin} (x : Sg M A Φ c (k ()) fs s) : Sg M A Φ c (.at q k) fs s := sg_w (m := standAt q) (k := k) (j := .raise) (gd := id) (lv := id) (wpAny_standAt x)
theorem sg_point {l : List Value} {k : Unit → Sem PySem.Fin} (x : Sg M A Φ c (k ()) fs s) : Sg M A Φ c (.point l k) fs s := sg_w (m := point) (k := k) (j := .raise) (gd := id) (lv := fun _ => l) (wpAny_point x)
theorem sg_call {d : Code} {h g l} {k : Result → Sem PySem.Fin} (x : ∀ p, Sg M A Φ d (M.den d) (.ret k h g l c p [] :: fs) s) : Sg M A Φ c (.call d h g l k) fs s := by
  intro Γ p e w
  subst e
  obtain ⟨e1, s1, r, q⟩ := x p (Γ.goto d) p rfl (w.goto d)
  exact ⟨e1, s1, runs_call_seg r, q⟩
theorem sg_leaf {k h g l d q kp} (r : Result) (x : Sg M A Φ d (k r) fs s) : Sg M A Φ c (leafOf r) (.ret k h g l d q kp :: fs) s := by
  intro Γ p e w
  subst e
  obtain ⟨e1, s1, y, z⟩ := x (Γ.goto d) q rfl (w.goto d)
  exact ⟨e1, s1, Runs.pop r y, z⟩
theorem sg_again {d : Code} (hq : d.quiet = true) (x : Sg M A Φ d (M.den d) fs s) : Sg M A Φ c (.pure (.again d)) fs s := by
  intro Γ p e w
  subst e
  obtain ⟨e1, s1, y, z⟩ := x (Γ.goto d) p rfl (w.goto d)
  exact ⟨e1, s1, Runs.head (c₁ := d) (fun _ _ r => .again hq r) y, z⟩
theorem sg_end (r : Result) (x : Φ (.ret r) s) : Sg M A Φ c (leafOf r) [] s := fun Γ p _ _ => ⟨.ret r, s, Runs.leaf r, x⟩
theorem sg_yield {v g l} {k : Resume → Sem PySem.Fin} (hf : splitAtGen fs = none) (x : ∀ p, Φ (.susp v g l k c p fs) s) : Sg M A Φ c (.yield v g l k) fs s := by
  intro Γ p e _
  subst e
  exact ⟨_, s, Runs.yield' fs hf, x p⟩

variable {env : Env} {K : Flow → Sem PySem.Fin} {J : Value → Sem PySem.Fin} {gd : Bool → Bool} {lv : List Value → List Value}
theorem sg_nil (x : Sg M A Φ c (K .next) fs s) : Sg M A Φ c ((execs [] env).wrap K J gd lv) fs s := x
theorem sg_cons {st : Stmt} {rest : List Stmt} (x : Sg M A Φ c ((exec st env).wrap (fun f => match f with | .next => (execs rest env).wrap K J gd lv | f => K f) J gd lv) fs s) : Sg M A Φ c ((execs (st :: rest) env).wrap K J gd lv) fs s := by
  rw [execs_cons_wrap]
  exact x
theorem sg_yieldE {e : Expr} {yp pos : Pos} (hf : splitAtGen fs = none) (hco : env.scope.isCoroutine = false) (hi : interactive env = false)
    (x : wpAny M (A.over c fs) (eval e env) (fun v s1 => ∀ p g l k, (gd false = false → g = false) → (∀ (Ψ : End → Shared → Prop) s2, Sg M A Ψ c (K .next) fs s2 → Sg M A Ψ c (k (.send .none)) fs s2) → Φ (.susp v g l k c p fs) s1)
      (fun e s1 => Sg M A Φ c (J e) fs s1) s) : Sg M A Φ c ((exec (.Expr (.Yield (some e) yp) pos) env).wrap K J gd lv) fs s := by
  rw [exec_Expr env _ pos hi rfl]
  have hy : ∀ v, yieldOut env v = yieldValue v := fun v => by simp only [yieldOut, hco, Bool.false_eq_true, if_false]
  show Sg M A Φ c (.at pos fun _ => ((eval e env >>= fun v => (standAt yp >>= fun _ => yieldOut env v)) >>= fun u => dropValue (.Yield (some e) yp) pos u).wrap K J gd lv) fs s
  simp only [hy]
  apply sg_at
  rw [Sem.bind_eq_wrap', Sem.bind_eq_wrap', Sem.wrap_wrap, Sem.wrap_wrap]
  refine sg_w (wpAny_mono x (fun v s1 y => ?_) fun _ _ z => z)
  apply sg_at
  refine sg_yield hf fun p => y p _ _ _ (fun h => h) fun Ψ s2 z => ?_
  exact z
theorem sg_while0 {test : Expr} {body orelse : List Stmt} {pos : Pos}
    (x : ∀ p (k : Result → Sem PySem.Fin), (∀ f, k (.ok f) = K f) → Sg M A Φ (.whileLoop test body orelse env) (M.den (.whileLoop test body orelse env)) (.ret k none (gd false) (lv []) c p [] :: fs) s) :
    Sg M A Φ c ((exec (.While test body orelse pos) env).wrap K J gd lv) fs s := by
  apply sg_at
  apply sg_call
  intro p
  exact x p _ fun f => rfl
end
section
variable {prog : Program} {w : World} {A : Around} {Φ : End → Shared → Prop} {fs : List Frame} {s : Shared} {env : Env}
theorem sg_func {body : List Stmt} (x : ∀ j, Sg (model prog w) A Φ (.func body env) ((execs body env).wrap (fun f => .pure (.done (.ret (match f with | .ret v => v | _ => .none)))) j id id) fs s) :
    Sg (model prog w) A Φ (.func body env) ((model prog w).den (.func body env)) fs s := by
  show Sg (model prog w) A Φ (.func body env) (.point [] fun _ => ((execs body env).onRaise (leaving env)) >>= _) fs s
  apply sg_point
  rw [Sem.onRaise_eq_wrap, Sem.bind_eq_wrap', Sem.wrap_wrap]
  have := x (fun e => ((leaving env e).bind fun _ => Sem.raise e).wrap (fun f : Flow => .pure (.done (.ret (match f with | .ret v => v | _ => .none)))) .raise id id)
  rw [Sem.wrap_congr (execs body env) _ _ (K' := fun f => .pure (.done (.ret (match f with | .ret v => v | _ => .none)))) (H' := fun e => ((leaving env e).bind fun _ => Sem.raise e).wrap (fun f : Flow => .pure (.done (.ret (match f with | .ret v => v | _ => .none)))) .raise id id) (fun f => by cases f <;> rfl) (fun e => Sem.wrap_congr _ _ _ (fun f => by cases f <;> rfl) fun _ => rfl)]
  exact this
/-- a while loop whose test and body raise nothing -/
theorem sg_whileT {test : Expr} {body : List Stmt}
    (x : wpAny (model prog w) (A.over (.whileLoop test body [] env) fs) (isTrue test env (eval test env)) (fun b s1 => if b = true then
        ∀ j, Sg (model prog w) A Φ (.whileLoop test body [] env) ((execs body env).wrap (fun f => match f with
            | .next | .cont => .pure (.again (.whileLoop test body [] env))
            | .brk => .pure (.done .next)
            | .ret v => .pure (.done (.ret v))) j id id) fs s1
        else Sg (model prog w) A Φ (.whileLoop test body [] env) (.pure (.done .next)) fs s1) (fun _ _ => False) s) :
    Sg (model prog w) A Φ (.whileLoop test body [] env) ((model prog w).den (.whileLoop test body [] env)) fs s := by
  show Sg (model prog w) A Φ _ ((whileTurn test body [] env).onRaise (fun e => do noteFrame e env; theTreesLotGoes e)) fs s
  unfold whileTurn
  rw [Sem.onRaise_eq_wrap, Sem.bind_eq_wrap', Sem.wrap_wrap]
  refine sg_w (wpAny_mono x (fun b s1 y => ?_) fun _ _ z => z.elim)
  cases b with
  | false =>
    rw [if_neg Bool.false_ne_true] at y
    exact y
  | true =>
    rw [if_pos rfl] at y
    show Sg (model prog w) A Φ _ (Sem.wrap _ _ _ _ (if true = true then _ else _)) fs s1
    rw [if_pos rfl, Sem.bind_eq_wrap', Sem.wrap_wrap]
    rw [Sem.wrap_congr (execs body env) _ _ (K' := fun f => match f with
            | .next | .cont => .pure (.again (.whileLoop test body [] env))
            | .brk => .pure (.done .next)
            | .ret v => .pure (.done (.ret v))) (H' := _) (fun f => by cases f <;> rfl) (fun e => rfl)]
    exact y _
end

def Goes (M : Model) (A : Around) (Φ : End → Shared → Prop) (x : GenState) (s : Shared) : Prop := match x with
  | .fresh c => Sg M A Φ c (M.den c) [] s
  | .suspended k _ c _ fs _ => Sg M A Φ c (k (.send .none)) fs s
  | _ => False
theorem resume_s {M : Model} {A : Around} {Φ : End → Shared → Prop} {E : Value → Shared → Prop} {s : Shared} {g : Nat} {x : GenState} {l : List Value} {α : Type} {k : GenResult → Sem α} {Q : α → Shared → Prop} (hg : s.gens[g]? = some x) (go : Goes M A Φ x (s.setGen g .running))
    (hq : ∀ e s1, Φ e s1 → e.quiet = true) (h : ∀ e s1, Φ e s1 → wpAny M A (k e.result) Q E (s1.setGen g e.genState)) : wpAny M A (.resume g (.send .none) l k) Q E s := by
  intro Γ p w
  rw [Sem.wp_resume]
  cases x with
  | fresh c =>
    obtain ⟨e, s1, r, z⟩ := go (Γ.wake c p) p rfl (w.wake c p)
    refine ⟨e.result, s1.setGen g e.genState, ?_, h e s1 z Γ p w⟩
    unfold Wakes
    rw [hg]
    exact ⟨e, s1, r, hq e s1 z, rfl, rfl⟩
  | suspended k0 l0 c p0 fs0 cl =>
    obtain ⟨e, s1, r, z⟩ := go (Γ.wake c p) p0 rfl (w.wake c p)
    refine ⟨e.result, s1.setGen g e.genState, ?_, h e s1 z Γ p w⟩
    unfold Wakes
    rw [hg]
    exact ⟨e, s1, r, hq e s1 z, rfl, rfl⟩
  | running => exact go.elim
  | finished => exact go.elim
/-- next(g): a value comes, or the end -/
theorem next_s {P : Program} {w : World} {A : Around} {E : Value → Shared → Prop} {s : Shared} {Φ : End → Shared → Prop} {a : Addr} {g : Nat} {x : GenState} {Q : Option Value → Shared → Prop} (hh : A.handled = none) (hl : s.heap.NoLimit) (hr : A.depth < recursionLimit)
    (ha : s.heap.IsGen a g) (hg : s.gens[g]? = some x) (go : Goes (model P w) A.in1 Φ x (s.setGen g .running))
    (hY : ∀ v d l k c p fs s1, Φ (.susp v d l k c p fs) s1 → (d || fs.any Frame.guarded) = false ∧ Q (some v) (s1.setGen g (.suspended k l c p fs false)))
    (hR : ∀ r s1, Φ (.ret r) s1 → r = .ok (.ret .none) ∧ ∀ h' : Heap, (∀ b o, s1.heap.get? b = some o → h'.get? b = some o) → Q none { s1.setGen g .finished with heap := h' }) :
    wpAny (model P w) A (pyNext (.ref a)) Q E s := by
  unfold pyNext
  refine wpAny_bind (wpAny_attempt ?_)
  refine wpAny_callSpecial?_slot (name := Str.ofString "__next__") ha.typeIs slot_gen_next ?_
  refine wpAny_call_entry slot_gen_next ha.typeIs entry_gen_next ?_ (args_gen_next _)
  show wpAny _ A.in1 (Builtin.Generator.genWake (.ref a) (.send .none)) _ _ s
  unfold Builtin.Generator.genWake
  refine wpAny_bind ?_
  refine wpAny_holding (wpAny_genNumber ha ?_)
  refine wpAny_bind (wpAny_genState hg ?_)
  cases x with
  | running => exact go.elim
  | finished => exact go.elim
  | _ =>
    refine wpAny_bind (wpAny_roomToWake hl hr ?_)
    show wpAny _ A.in1 (.resume g (.send .none) [] _) _ _ s
    refine resume_s hg go (fun e s1 z => ?_) fun e s1 z => ?_
    · cases e with
      | ret r => rfl
      | susp v d l k c p fs =>
        show (!(d || fs.any Frame.guarded)) = true
        rw [(hY v d l k c p fs s1 z).1]
        rfl
    · cases e with
      | susp v d l k c p fs =>
        have y := hY v d l k c p fs s1 z
        have es : (End.susp v d l k c p fs).genState = .suspended k l c p fs false := by
          show GenState.suspended k l c p fs (d || fs.any Frame.guarded) = _
          rw [y.1]
        rw [es]
        exact wpAny_pure ⟨v, rfl, wpAny_pure y.2⟩
      | ret r =>
        obtain ⟨rfl, q⟩ := hR r s1 z
        show wpAny _ A.in1 (newExc (.type "StopIteration") [] >>= _) _ _ _
        apply wpAny_bind
        simp only [newExc, newTuple]
        refine wpAny_bind (wpAny_newObj_type ?_ (by size_fits))
        refine wpAny_bind (m := firstArgMember _ _) (wpAny_of_eq (a := Value.none) (by first | rfl | (simp only [firstArgMember]; rfl)) ?_)
        refine wpAny_newObj_type ?_ (by size_fits)
        simp only [raiseNew]
        refine wpAny_bind (wpAny_bind (wpAny_handled ?_))
        rw [show A.in1.handled = none from hh]
        apply wpAny_throw
        refine wpAny_bind (wpAny_isInstance (T := "StopIteration") (b := true) ⟨_, Heap.get?_push_size _ rfl, rfl⟩ isSubtype_stop ?_)
        exact wpAny_pure (q _ fun b o y => Heap.get?_push_of_some _ (Heap.get?_push_of_some _ y))
end GenS
set_option maxHeartbeats 2000000
namespace UL
open PySem PySem.Spec PyProof.Rows L2 GenS GenW
structure Gx where
  prog : Program
  w : World
  K : PySem.W.Frag
  mg : Str → Option Value
  base : Heap
  N : List Str
  qual : Str
  scope : Scope
  f : Addr
  cd : Value
  A : Around
  outer : List Env
  L : Addr
  p : Addr
  ob : Ob
  out : List U
abbrev Gx.env (g : Gx) : Env := envOfC g.qual g.scope g.L g.f g.cd
abbrev Gx.cx (g : Gx) (z : Shared) (Ho : Hp) : Cx where
  prog := g.prog
  w := g.w
  K := g.K
  mg := g.mg
  base := g.base
  A := g.A.deeper g.env
  N := g.N
  s_0 := z
  H_0 := Ho
  env := g.env
  outer := g.outer
  stack := g.env :: g.outer
  ex := []
  fn := fun _ => true
  calm := true
  pn := []
  xe := fun _ _ => False
structure GOk (g : Gx) : Prop where
  mod : Mod g.K g.mg g.base
  kind : g.scope.kind = .function
  co : g.scope.isCoroutine = false
  hd : g.A.handled = none
  frames : g.A.frames = some g.outer
  bsz : g.base.objs.size ≤ g.L
  lt : ∀ b ∈ frs g.outer, b < g.L
  cells : g.env.cells = []
  loc : ∀ x, g.scope.names.lookup x ≠ some .cell ∧ g.scope.names.lookup x ≠ some .free

def cutH (h : Heap) (n : Nat) : Heap := { h with objs := h.objs.extract 0 n }
theorem cutH_get {h : Heap} {n b : Nat} (hb : b < n) : (cutH h n).get? b = h.get? b := by
  have e : (h.objs.extract 0 n)[b]? = h.objs[b]? := by
    rw [Array.getElem?_extract]
    simp only [Nat.zero_add, Nat.sub_zero]
    by_cases q : b < h.objs.size
    · rw [if_pos (by omega)]
    · rw [if_neg (by omega), Array.getElem?_eq_none (by omega)]
  show (match (h.objs.extract 0 n)[b]? with | some ⟨_, _, .freed, _⟩ => none | o => o) = (match h.objs[b]? with | some ⟨_, _, .freed, _⟩ => none | o => o)
  rw [e]
theorem cutH_size (h : Heap) (n : Nat) : (cutH h n).objs.size ≤ n := by
  show (h.objs.extract 0 n).size ≤ n
  rw [Array.size_extract]
  omega
theorem cutH_lt {h : Heap} {n b : Nat} {o : Obj} (e : (cutH h n).get? b = some o) : b < n := Nat.lt_of_lt_of_le (Heap.lt_size e) (cutH_size h n)
theorem cutH_of {h : Heap} {n b : Nat} {o : Obj} (e : (cutH h n).get? b = some o) : h.get? b = some o := by
  rw [cutH_get (cutH_lt e)] at e
  exact e
def cutS (n : Nat) (s : Shared) : Shared := { s with heap := cutH s.heap n }
theorem cut_size {h : Heap} {n : Nat} (hn : n ≤ h.objs.size) : (cutH h n).objs.size = n := by
  show (h.objs.extract 0 n).size = n
  rw [Array.size_extract]
  omega
theorem funs_cut {h base : Heap} {n : Nat} : ∀ {l : List Env}, (∀ b ∈ frs l, b < n) → h.FunFrames base l → (cutH h n).FunFrames base l
  | [], _, _ => trivial
  | env :: r, lt, ⟨k, ⟨L, o, hf, hb, ho, hd⟩, t⟩ => by
    have sub : ∀ b ∈ frs r, b ∈ frs (env :: r) := fun b hb => by
      unfold frs
      rw [List.filterMap_cons, hf]
      exact List.mem_cons_of_mem _ hb
    have hL : L < n := lt L (by
      unfold frs
      rw [List.filterMap_cons, hf]
      exact List.mem_cons_self)
    exact ⟨k, ⟨L, o, hf, hb, (cutH_get hL).trans ho, hd⟩, funs_cut (fun b hb => lt b (sub b hb)) t⟩

/-- it stands as it is -/
def exact_ (a : Addr) (o : Obj) : HO := .ext fun h => h.get? a = some o
theorem exact_ok {P : Program} {w : World} {H : Hp} {h : Heap} {a : Addr} {o : Obj} (e : h.get? a = some o) : ObjOk P w H h a (exact_ a o) := ⟨e, ⟨o, e⟩, fun _ _ x y => y _ x⟩
theorem exact_at {P : Program} {w : World} {H : Hp} {h : Heap} {a : Addr} {o : Obj} (x : ObjOk P w H h a (exact_ a o)) : h.get? a = some o := x.1
def hwk (L : Addr) (h : Heap) (Ho : Hp) : Hp := fun b => match Ho b with
  | some u => some u
  | none => if L < b then (h.get? b).map (exact_ b) else none
section
variable {L : Addr} {h : Heap} {Ho : Hp} {b : Addr}
theorem hwk_some {u : HO} (e : Ho b = some u) : hwk L h Ho b = some u := by
  unfold hwk
  rw [e]
theorem hwk_old (e : Ho b = none) (hb : ¬ L < b) : hwk L h Ho b = none := by
  unfold hwk
  rw [e]
  exact if_neg hb
theorem hwk_new {o : Obj} (e : Ho b = none) (hb : L < b) (q : h.get? b = some o) : hwk L h Ho b = some (exact_ b o) := by
  unfold hwk
  rw [e]
  dsimp only
  rw [if_pos hb, q]
  rfl
theorem hwk_dead (e : Ho b = none) (q : h.get? b = none) : hwk L h Ho b = none := by
  unfold hwk
  rw [e]
  dsimp only
  rw [q]
  split <;> rfl
theorem hwk_hok {P : Program} {w : World} (ok : HOk P w Ho h) : HOk P w (hwk L h Ho) h := fun b u e => by
  cases q : Ho b with
  | some v =>
    rw [hwk_some q] at e
    cases e
    exact (ok b _ q).stay (fun _ _ _ z => z) (fun _ z => hwk_some z) fun _ _ z => hwk_some z
  | none =>
    by_cases hb : L < b
    · cases z : h.get? b with
      | none =>
        rw [hwk_dead q z] at e
        cases e
      | some o =>
        rw [hwk_new q hb z] at e
        cases e
        exact exact_ok z
    · rw [hwk_old q hb] at e
      cases e
end

def flatU : U → Bool
  | .non | .bl _ | .int _ | .str _ | .ref _ | .ty _ => true
  | _ => false
def flatS (us : USt) : Bool := us.all fun x => match x with
  | some u => flatU u
  | none => true
section
variable {K : PySem.W.Frag} {H H' : Hp}
theorem flat_rel {u : U} {v : V} (f : flatU u = true) (x : RelU K H u v) : RelU K H' u v := by
  cases u <;> first | exact x | cases f
theorem flat_rels : ∀ {us : List U} {vs : List V}, us.all flatU = true → RelUs K H us vs → RelUs K H' us vs
  | [], _, _, x => x
  | u :: us, _, f, ⟨v, ws, e, x, t⟩ => by
    rw [List.all_cons, Bool.and_eq_true] at f
    exact ⟨v, ws, e, flat_rel f.1 x, flat_rels f.2 t⟩
theorem flat_relS : ∀ {us : USt} {σ : L2.St}, flatS us = true → RelS K H us σ → RelS K H' us σ
  | [], _, _, x => x
  | none :: us, _, f, ⟨v, ws, e, t⟩ => by
    have f : (true && flatS us) = true := f
    exact ⟨v, ws, e, flat_relS (by simpa using f) t⟩
  | some u :: us, _, f, ⟨v, ws, e, x, t⟩ => by
    have f : (flatU u && flatS us) = true := f
    rw [Bool.and_eq_true] at f
    exact ⟨v, ws, e, flat_rel f.1 x, flat_relS f.2 t⟩
theorem flat_relF {C : Addr} : ∀ {fs : List (String × U)} {gs : List (Str × V)}, (fs.all fun x => flatU x.2) = true → RelF K H C fs gs → RelF K H' C fs gs
  | [], _, _, x => x
  | (f, u) :: fs, _, hf, ⟨v, ws, e, x, n, t⟩ => by
    rw [List.all_cons, Bool.and_eq_true] at hf
    exact ⟨v, ws, e, flat_rel hf.1 x, n, flat_relF hf.2 t⟩
end
def flatO : Ob → Bool
  | .lst us => us.all flatU
  | .ins _ fs => fs.all fun x => flatU x.2
  | _ => false
theorem flat_rep {K : PySem.W.Frag} {H H' : Hp} {a : Addr} {o : Ob} (f : flatO o = true) (e : ∀ u, H a = some u → H' a = some u) (x : RepO K H a o) : RepO K H' a o := by
  cases o with
  | lst us =>
    obtain ⟨vs, q, r⟩ := x
    exact ⟨vs, e _ q, flat_rels f r⟩
  | ins c fs =>
    obtain ⟨k, dx, gs, q, r⟩ := x
    exact ⟨k, dx, gs, e _ q, flat_relF f r⟩
  | _ => cases f

def Rn (g : Gx) (z : Shared) (Ho : Hp) (Go : Gp) (us : USt) (G : Gp) (s : Shared) : Prop :=
  ∃ σ H, Inv (g.cx (cutS g.L z) Ho) [] σ H s ∧ RelS g.K H us σ ∧ Rep g.K H G ∧ Ext (hwk g.L z.heap Ho) Go H G
structure Wk (g : Gx) (L0 : Obj) (Gn : Gp) (z : Shared) (Ho : Hp) : Prop where
  bare : AllBare z.gens
  loc : z.heap.get? g.L = some L0
  hok : HOk g.prog g.w Ho z.heap
  rep : Rep g.K Ho Gn
  bs : ∀ b o, g.base.get? b = some o → z.heap.get? b = some o ∧ Ho b = none
  funs : z.heap.FunFrames g.base g.outer
  frf : ∀ b ∈ frs g.outer, Ho b = none
  free : Ho g.L = none
/-- what a sleeping generator knows: its own lists, self -/
structure Yd (g : Gx) (own : List Addr) (Gn : Gp) : Prop where
  self : Gn g.p = some g.ob
  dom : ∀ a o, Gn a = some o → a = g.p ∨ a ∈ own
  lst : ∀ a ∈ own, a ≠ g.p ∧ ∃ us, Gn a = some (.lst us) ∧ us.all flatU = true
def Fi (g : Gx) : Nat → Shared → Hp → Gp → List Addr → End → Shared → Prop
  | 0, z, Ho, Go, own => fun e s => match e with
    | .ret r => r = .ok (.ret .none) ∧ ∃ σ H G, Inv (g.cx (cutS g.L z) Ho) [] σ H s ∧ Rep g.K H G ∧ Ext (hwk g.L z.heap Ho) Go H G ∧ G g.p = some g.ob ∧ ∀ a ∈ own, ∃ us, G a = some (.lst us)
    | .susp .. => False
  | n + 1, z, Ho, Go, own => fun e s => match e with
    | .ret _ => False
    | .susp v d l k c p fs => (d || fs.any Frame.guarded) = false ∧ ∃ σ H G x w L0 Gn own', Inv (g.cx (cutS g.L z) Ho) [] σ H s ∧ Rep g.K H G ∧ Ext (hwk g.L z.heap Ho) Go H G ∧ Sub Gn G ∧ Yd g own' Gn ∧ (∀ a ∈ own, a ∈ own') ∧
      RelV x v ∧ RelU g.K H w x ∧ g.out[g.out.length - (n + 1)]? = some w ∧ s.heap.get? g.L = some L0 ∧ ∀ z' Ho', Wk g L0 Gn z' Ho' → Sg (model g.prog g.w) g.A (Fi g n z' Ho' Gn own') c (k (.send .none)) fs z'
/-- the frame's names, told by its object alone -/
def LocOk (g : Gx) (L0 : Obj) (σ : L2.St) : Prop := σ.length = g.N.length ∧ ∃ m, (∀ h : Heap, h.get? g.L = some L0 → h.Ns g.L m) ∧
  ∀ (i : Nat) (x : Str) (v : V), g.N[i]? = some x → σ[i]? = some (some v) → Vis g.scope x → ∃ u, RelV v u ∧ g.env.kindOf x = some .local ∧ m x = some u
section
variable {g : Gx} {z : Shared} {Ho : Hp} {σ : L2.St} {H : Hp} {s : Shared} {L0 : Obj} {Gn : Gp} {us : USt}
theorem locOk_of (ok : GOk g) {z : Shared} {pins : List (Addr × Obj)} (I : Inv (g.cx z Ho) pins σ H s) (e : s.heap.get? g.L = some L0) : LocOk g L0 σ := by
  obtain ⟨m, ⟨o, es, ep, ho, r⟩, hl⟩ := I.loc
  rw [show s.heap.get? g.L = some o from ho] at e
  cases e
  refine ⟨I.len, m, fun h q => ⟨_, es, ep, q, r⟩, fun i x v h1 h2 h3 => ?_⟩
  obtain ⟨u, rv, lk⟩ := hl i x v h1 h2 h3
  rcases lk with ⟨k1, k2⟩ | ⟨_, c, k2, _⟩
  · exact ⟨u, rv, k1, k2⟩
  · have k2 : g.env.cells.lookup x = some c := k2
    rw [ok.cells] at k2
    cases k2
theorem wake (ok : GOk g) (lo : LocOk g L0 σ) (fs : flatS us = true) {H1 : Hp} (rs : RelS g.K H1 us σ) (fo : ∀ a o, Gn a = some o → flatO o = true) (k : Wk g L0 Gn z Ho) : Rn g z Ho Gn us Gn z := by
  have cl : ∀ x c, g.env.cells.lookup x = some c → False := fun x c e => by
    rw [ok.cells] at e
    cases e
  have hL : g.L < z.heap.objs.size := Heap.lt_size k.loc
  have no : ∀ b : Addr, b ∉ ([] : List Addr) := fun b hb => by cases hb
  have rp : Rep g.K (hwk g.L z.heap Ho) Gn := fun a o e => flat_rep (fo a o e) (fun u q => hwk_some q) (k.rep a o e)
  refine ⟨σ, hwk g.L z.heap Ho, ?_, flat_relS fs rs, rp, .refl _ _⟩
  have okx : (g.cx (cutS g.L z) Ho).Ok := by
    refine ⟨ok.mod, ok.kind, rfl, rfl, cutH_size _ _, fun x y c h _ => (cl x c h).elim, fun x hx => ?_, fun x c _ h => (cl x c h).elim, fun _ => ok.hd, Around.frames_deeper ok.frames, .inr ⟨rfl, rfl⟩, fun b hb => (no b hb).elim, fun b o e => ?_, ?_,
      fun b _ _ => no b, fun b hb => (no b hb).elim, funs_cut ok.lt k.funs, fun b hb => k.frf b hb⟩
    · rcases hx with hx | hx
      · exact ((ok.loc x).1 hx).elim
      · exact ((ok.loc x).2 hx).elim
    · obtain ⟨h1, h2⟩ := k.bs b o e
      exact ⟨(cutH_get (Nat.lt_of_lt_of_le (Heap.lt_size e) ok.bsz)).trans h1, h2⟩
    · show g.base.objs.size ≤ (cutH z.heap g.L).objs.size
      rw [cut_size (Nat.le_of_lt hL)]
      exact ok.bsz
  obtain ⟨hlen, m, hm, hl⟩ := lo
  refine ⟨okx, rfl, k.bare, ⟨fun b o e n _ _ => cutH_of e, fun b o e n _ _ => ⟨o.slots, cutH_of e⟩, fun b o e n _ => hwk_old n (Nat.lt_asymm (cutH_lt e)), fun b o e _ => ⟨o, cutH_of e⟩, fun b xs e => hwk_some e, fun b o u e => hwk_some e, fun b ps e => ⟨#[], by rw [hwk_some e]; simp⟩⟩,
    ⟨m, hm _ k.loc, fun i x v h1 h2 h3 => ?_⟩, fun x c h => (cl x c h).elim, hwk_old k.free (Nat.lt_irrefl _), fun x c h => (cl x c h).elim, fun p hp => absurd (show p ∈ ([] : List (Addr × Obj)) ++ [] from hp) (by simp), hwk_hok k.hok, hlen⟩
  obtain ⟨u, rv, k1, k2⟩ := hl i x v h1 h2 h3
  exact ⟨u, rv, .inl ⟨k1, k2⟩⟩
end

structure GEn where
  nx : Nat → List Addr → USt → Gp → Prop
  rt : Nat → List Addr → Gp → Prop
  bk : Nat → List Addr → USt → Gp → Prop := fun _ _ _ _ => False
  ct : Nat → List Addr → USt → Gp → Prop := fun _ _ _ _ => False
abbrev UGS := GEn → Nat → List Addr → USt → Gp → Prop
def GP (g : Gx) (z : Shared) (Ho : Hp) (Go : Gp) (own : List Addr) (D : GEn) (n : Nat) (f : Flow) (s : Shared) : Prop := match f with
  | .next => ∃ us G, Rn g z Ho Go us G s ∧ D.nx n own us G
  | .brk => ∃ us G, Rn g z Ho Go us G s ∧ D.bk n own us G
  | .cont => ∃ us G, Rn g z Ho Go us G s ∧ D.ct n own us G
  | .ret u => u = .none ∧ ∃ σ H G, (Inv (g.cx (cutS g.L z) Ho) [] σ H s ∧ Rep g.K H G ∧ Ext (hwk g.L z.heap Ho) Go H G) ∧ D.rt n own G
structure GAt (g : Gx) (c : Code) (fs : List Frame) (gd : Bool → Bool) : Prop where
  over : g.A.over c fs = g.A.deeper g.env
  split : splitAtGen fs = none
  guard : fs.any Frame.guarded = false
  gd : gd false = false
def GKn (g : Gx) (c : Code) (fs : List Frame) (K : Flow → Sem PySem.Fin) (D : GEn) : Prop :=
  ∀ n z Ho Go own s f, GP g z Ho Go own D n f s → Sg (model g.prog g.w) g.A (Fi g n z Ho Go own) c (K f) fs s
structure GSt (g : Gx) (st : Stmt) (t : UGS) : Prop where
  run : ∀ c fs K J gd lv n z Ho Go own s us G D, GAt g c fs gd → GKn g c fs K D → Rn g z Ho Go us G s → t D n own us G → Sg (model g.prog g.w) g.A (Fi g n z Ho Go own) c ((exec st g.env).wrap K J gd lv) fs s
structure GSs (g : Gx) (st : List Stmt) (t : UGS) : Prop where
  run : ∀ c fs K J gd lv n z Ho Go own s us G D, GAt g c fs gd → GKn g c fs K D → Rn g z Ho Go us G s → t D n own us G → Sg (model g.prog g.w) g.A (Fi g n z Ho Go own) c ((execs st g.env).wrap K J gd lv) fs s
section
variable {g : Gx} {st : Stmt} {rest : List Stmt} {t u : UGS}
def tGNil : UGS := fun D n own us G => D.nx n own us G
theorem gss_nil : GSs g [] tGNil := ⟨fun c fs K J gd lv n z Ho Go own s us G D a k r h => sg_nil (k n z Ho Go own s .next ⟨us, G, r, h⟩)⟩
def tGSeq (t u : UGS) : UGS := fun D n own us G => t { D with nx := u D } n own us G
theorem gss_cons (x : GSt g st t) (y : GSs g rest u) : GSs g (st :: rest) (tGSeq t u) := by
  refine ⟨fun c fs K J gd lv n z Ho Go own s us G D a k r h => sg_cons (x.run c fs _ J gd lv n z Ho Go own s us G { D with nx := u D } a ?_ r h)⟩
  intro n1 z1 Ho1 Go1 own1 s1 f q
  cases f with
  | next =>
    obtain ⟨us1, G1, r1, q1⟩ := q
    exact y.run c fs K J gd lv n1 z1 Ho1 Go1 own1 s1 us1 G1 D a k r1 q1
  | brk => exact k n1 z1 Ho1 Go1 own1 s1 .brk q
  | cont => exact k n1 z1 Ho1 Go1 own1 s1 .cont q
  | ret v => exact k n1 z1 Ho1 Go1 own1 s1 (.ret v) q
/-- a statement without yield -/
def tGPl (t : UTS) : UGS := fun D n own us G => t { nx := fun us G => D.nx n own us G, rt := fun u G => u = .non ∧ D.rt n own G, bk := fun us G => D.bk n own us G, ct := fun us G => D.ct n own us G, ex := fun _ _ _ => False } us G
theorem gs_pl {t : UTS} (x : ∀ z Ho, SU (g.cx z Ho) W0 st t) : GSt g st (tGPl t) := by
  refine ⟨fun c fs K J gd lv n z Ho Go own s us G D a k r h => ?_⟩
  obtain ⟨σ, H, I, rs, rp, ex⟩ := r
  apply sg_w
  rw [a.over]
  have run := (x (cutS g.L z) Ho).run [] s σ H us G _ I rs rp h fun c d σ' H' ⟨_, _, _, _, _, _, _, q⟩ => q.elim
  refine wpAny_mono run (fun f s1 q => k n z Ho Go own s1 f ?_) fun _ _ q => q.elim
  cases f with
  | next => obtain ⟨σ1, H1, I1, us1, G1, e1, r1, s1, q⟩ := q; exact ⟨us1, G1, ⟨σ1, H1, I1, s1, r1, ex.trans e1⟩, q⟩
  | brk => obtain ⟨σ1, H1, I1, us1, G1, e1, r1, s1, q⟩ := q; exact ⟨us1, G1, ⟨σ1, H1, I1, s1, r1, ex.trans e1⟩, q⟩
  | cont => obtain ⟨σ1, H1, I1, us1, G1, e1, r1, s1, q⟩ := q; exact ⟨us1, G1, ⟨σ1, H1, I1, s1, r1, ex.trans e1⟩, q⟩
  | ret v =>
    obtain ⟨x1, σ1, H1, I1, rv, u1, G1, e1, r1, ru, eu, q⟩ := q
    subst eu
    have e2 : x1 = V.non := ru
    subst e2
    exact ⟨rv, σ1, H1, G1, ⟨I1, r1, ex.trans e1⟩, q⟩
def tGIf (c : UTT) (t u : UGS) : UGS := fun D n own us G => c us G (fun b G1 => bif b then t D n own us G1 else u D n own us G1) (fun _ _ => False)
theorem gs_if {e : Expr} {x y : List Stmt} {pos : Pos} {tc : UTT} (hc : ∀ z Ho, TU (g.cx z Ho) W0 e tc) (hx : GSs g x t) (hy : GSs g y u) : GSt g (.If e x y pos) (tGIf tc t u) := by
  refine ⟨fun c fs K J gd lv n z Ho Go own s us G D a k r h => ?_⟩
  obtain ⟨σ, H, I, rs, rp, ex⟩ := r
  show Sg (model g.prog g.w) g.A _ c (.at pos fun _ => ((isTrue e g.env (eval e g.env)) >>= fun b => if b = true then execs x g.env else execs y g.env).wrap K J gd lv) fs s
  apply sg_at
  rw [Sem.bind_eq_wrap', Sem.wrap_wrap]
  apply sg_w
  rw [a.over]
  refine wpAny_mono ((hc (cutS g.L z) Ho).run [] s σ H us G _ _ I rs rp h fun c d H' ⟨_, _, _, _, _, q⟩ => q.elim) (fun b s1 q => ?_) fun _ _ q => q.elim
  obtain ⟨H1, I1, G1, e1, r1, q⟩ := q
  have r2 : Rn g z Ho Go us G1 s1 := ⟨σ, H1, I1, rs.ext e1 rp, r1, ex.trans e1⟩
  cases b with
  | true =>
    rw [if_pos rfl]
    exact hx.run c fs K J gd lv n z Ho Go own s1 us G1 D a k r2 q
  | false =>
    rw [if_neg Bool.false_ne_true]
    exact hy.run c fs K J gd lv n z Ho Go own s1 us G1 D a k r2 q
/-- yield e: what is handed out, what the generator keeps while it sleeps -/
def tGYl (g : Gx) (te : UTE) : UGS := fun D n own us G => ∃ m, n = m + 1 ∧ te us G (fun w G1 => g.out[g.out.length - (m + 1)]? = some w ∧ flatS us = true ∧ ∃ Gn own', Sub Gn G1 ∧ Yd g own' Gn ∧ (∀ a ∈ own, a ∈ own') ∧ D.nx m own' us Gn) (fun _ _ => False)
theorem gs_yl {e : Expr} {yp pos : Pos} {te : UTE} (ok : GOk g) (fo : flatO g.ob = true) (he : ∀ z Ho, EU (g.cx z Ho) W0 e te) : GSt g (.Expr (.Yield (some e) yp) pos) (tGYl g te) := by
  refine ⟨fun c fs K J gd lv n z Ho Go own s us G D a k r h => ?_⟩
  obtain ⟨m, rfl, h⟩ := h
  obtain ⟨σ, H, I, rs, rp, ex⟩ := r
  refine sg_yieldE a.split ok.co I.quiet ?_
  rw [a.over]
  refine wpAny_mono ((he (cutS g.L z) Ho).run [] s σ H us G _ _ I rs rp h fun c d H' ⟨_, _, _, _, _, q⟩ => q.elim) (fun v s1 q p gg l kk hg hk => ?_) fun _ _ q => q.elim
  obtain ⟨x, H1, I1, rv, w, G1, e1, r1, ru, q1, q2, Gn, own', sb, yd, sub, q⟩ := q
  obtain ⟨L0, hL0⟩ : ∃ L0, s1.heap.get? g.L = some L0 := by
    obtain ⟨_, ⟨o, _, _, ho, _⟩, _⟩ := I1.loc
    exact ⟨o, ho⟩
  refine ⟨?_, σ, H1, G1, x, w, L0, Gn, own', I1, r1, ex.trans e1, sb, yd, sub, rv, ru, q1, hL0, fun z' Ho' k' => hk _ z' ?_⟩
  · rw [hg a.gd, a.guard]
    rfl
  · have fl : ∀ b o, Gn b = some o → flatO o = true := fun b o e => by
      rcases yd.dom b o e with z | z
      · rw [z, yd.self] at e
        cases e
        exact fo
      · obtain ⟨_, us, e2, f⟩ := yd.lst b z
        rw [e] at e2
        cases e2
        exact f
    exact k m z' Ho' Gn own' z' .next ⟨us, Gn, wake ok (locOk_of ok I1 hL0) q2 (rs.ext e1 rp) fl k', q⟩
def tGWh (c : UTT) (tb : UGS) : UGS := fun D n own us G => ∃ V : Nat → Nat → List Addr → USt → Gp → Prop, (∃ m, V m n own us G) ∧ ∀ m n own us G, V m n own us G → c us G (fun b G1 => bif b then tb { D with nx := fun n' own' us' G' => ∃ m', m' < m ∧ V m' n' own' us' G', ct := fun n' own' us' G' => ∃ m', m' < m ∧ V m' n' own' us' G', bk := D.nx } n own us G1 else D.nx n own us G1) (fun _ _ => False)
theorem gs_wh {test : Expr} {body : List Stmt} {pos : Pos} {tc : UTT} {tb : UGS} (hc : ∀ z Ho, TU (g.cx z Ho) W0 test tc) (hb : GSs g body tb) : GSt g (.While test body [] pos) (tGWh tc tb) := by
  refine ⟨fun c fs K J gd lv n z Ho Go own s us G D a k r h => ?_⟩
  obtain ⟨V, ⟨m0, v0⟩, turn⟩ := h
  refine sg_while0 fun p kk hk => ?_
  have a2 : GAt g (.whileLoop test body [] g.env) (.ret kk none (gd false) (lv []) c p [] :: fs) id := by
    refine ⟨(over_loop rfl rfl).trans a.over, ?_, ?_, rfl⟩
    · show (splitAtGen fs).map _ = none
      rw [a.split]
      rfl
    · show (gd false || fs.any Frame.guarded) = false
      rw [a.gd, a.guard]
      rfl
  have loop : ∀ m n z Ho Go own s us G, V m n own us G → Rn g z Ho Go us G s → Sg (model g.prog g.w) g.A (Fi g n z Ho Go own) (.whileLoop test body [] g.env) ((model g.prog g.w).den (.whileLoop test body [] g.env)) (.ret kk none (gd false) (lv []) c p [] :: fs) s := by
    intro m
    induction m using Nat.strongRecOn with
    | ind m ih =>
      intro n z Ho Go own s us G v r
      obtain ⟨σ, H, I, rs, rp, ex⟩ := r
      apply sg_whileT
      rw [a2.over]
      refine wpAny_mono ((hc (cutS g.L z) Ho).run [] s σ H us G _ _ I rs rp (turn m n own us G v) fun c d H' ⟨_, _, _, _, _, q⟩ => q.elim) (fun b s1 q => ?_) fun _ _ q => q.elim
      obtain ⟨H1, I1, G1, e1, r1, q⟩ := q
      have r2 : Rn g z Ho Go us G1 s1 := ⟨σ, H1, I1, rs.ext e1 rp, r1, ex.trans e1⟩
      have out : ∀ {n z Ho Go own s f}, GP g z Ho Go own D n f s → Sg (model g.prog g.w) g.A (Fi g n z Ho Go own) (.whileLoop test body [] g.env) (leafOf (.ok f)) (.ret kk none (gd false) (lv []) c p [] :: fs) s := fun {n z Ho Go own s f} q => by
        refine sg_leaf (.ok f) ?_
        rw [hk f]
        exact k n z Ho Go own s f q
      cases b with
      | false =>
        rw [if_neg Bool.false_ne_true]
        exact out (f := .next) ⟨us, G1, r2, q⟩
      | true =>
        rw [if_pos rfl]
        intro j
        refine hb.run _ _ _ j id id n z Ho Go own s1 us G1 _ a2 ?_ r2 q
        intro n2 z2 Ho2 Go2 own2 s2 f q2
        cases f with
        | next =>
          obtain ⟨us2, G2, r3, m', hm, v'⟩ := q2
          exact sg_again rfl (ih m' hm n2 z2 Ho2 Go2 own2 s2 us2 G2 v' r3)
        | cont =>
          obtain ⟨us2, G2, r3, m', hm, v'⟩ := q2
          exact sg_again rfl (ih m' hm n2 z2 Ho2 Go2 own2 s2 us2 G2 v' r3)
        | brk => exact out (f := .next) q2
        | ret x => exact out (f := .ret x) q2
  exact loop m0 n z Ho Go own s us G v0 r
end
end UL
set_option maxHeartbeats 2000000
namespace UL
open PySem PySem.Spec PyProof.Rows L2 GenS GenW
abbrev gOf (X : Cx) (N : List Str) (qual : Str) (scope : Scope) (f : Addr) (cd : Value) (A : Around) (L p : Addr) (ob : Ob) (out : List U) : Gx := ⟨X.prog, X.w, X.K, X.mg, X.base, N, qual, scope, f, cd, A, X.stack, L, p, ob, out⟩
theorem alive {P : Program} {w : World} {H : Hp} {h : Heap} {a : Addr} {u : HO} (x : ObjOk P w H h a u) : ∃ o, h.get? a = some o := by
  cases u with
  | lst xs => obtain ⟨_, _, _, _, e⟩ := x; exact ⟨_, e⟩
  | tup xs => obtain ⟨_, _, _, o, e, _⟩ := x; exact ⟨o, e⟩
  | dK kvs => obtain ⟨_, _, _, _, o, _, _, e, _⟩ := x; exact ⟨o, e⟩
  | dT kvs => obtain ⟨_, _, _, _, o, _, _, e, _⟩ := x; exact ⟨o, e⟩
  | set S n => obtain ⟨o, _, _, _, e, _⟩ := x; exact ⟨o, e⟩
  | ins C dx fs => obtain ⟨_, _, _, e, _⟩ := x; exact ⟨_, e⟩
  | own y => exact x
  | xd fs => obtain ⟨_, ⟨o, _, _, e, _⟩, _⟩ := x; exact ⟨o, e⟩
  | rng lo hi => obtain ⟨_, _, _, e⟩ := x; exact ⟨_, e⟩
  | frz ob u => obtain ⟨e, _⟩ := x; exact ⟨_, e⟩
  | tbl ps => exact ⟨_, show h.get? a = some _ from x⟩
  | met f y => exact ⟨_, show h.get? a = some _ from x⟩
  | ext φ => exact x.2.1

def lent (p : Addr) (own : List Addr) (H : Hp) : Hp := fun b => if b ∈ own then H b else if b = p then H b else match H b with
  | some (.own c) => if c = p then some (.own c) else none
  | _ => none
section
variable {p : Addr} {own : List Addr} {H : Hp} {b : Addr}
theorem lent_in (h : b ∈ own) : lent p own H b = H b := if_pos h
theorem lent_self : lent p own H p = H p := by
  unfold lent
  by_cases h : p ∈ own
  · exact if_pos h
  · rw [if_neg h, if_pos rfl]
theorem lent_own (e : H b = some (.own p)) : lent p own H b = some (.own p) := by
  unfold lent
  by_cases h : b ∈ own
  · rw [if_pos h]; exact e
  · rw [if_neg h]
    by_cases h2 : b = p
    · rw [if_pos h2]; exact e
    · rw [if_neg h2, e]
      exact if_pos rfl
theorem lent_of {u : HO} (e : lent p own H b = some u) : H b = some u ∧ (b ∈ own ∨ b = p ∨ u = .own p) := by
  unfold lent at e
  by_cases h : b ∈ own
  · rw [if_pos h] at e; exact ⟨e, .inl h⟩
  · rw [if_neg h] at e
    by_cases h2 : b = p
    · rw [if_pos h2] at e; exact ⟨e, .inr (.inl h2)⟩
    · rw [if_neg h2] at e
      split at e
      · rename_i c q
        by_cases h3 : c = p
        · rw [if_pos h3] at e
          cases e
          exact ⟨q, .inr (.inr (by rw [h3]))⟩
        · rw [if_neg h3] at e; cases e
      · cases e
theorem lent_none (e : lent p own H b = none) : (∀ u, H b = some u → b ∉ own ∧ b ≠ p ∧ u ≠ .own p) := fun u q => by
  refine ⟨fun h => ?_, fun h => ?_, fun h => ?_⟩
  · rw [lent_in h, q] at e; cases e
  · subst h
    rw [lent_self, q] at e; cases e
  · subst h
    rw [lent_own q] at e; cases e
end
/-- behind the step -/
def mrg (L : Addr) (L0 : Obj) (Ho : Hp) (h : Heap) (Hc H : Hp) : Hp := fun b => if b = L then some (exact_ L L0) else match Ho b, h.get? b with
  | none, some _ => Hc b
  | _, _ => H b
section
variable {L : Addr} {L0 : Obj} {Ho Hc H : Hp} {h : Heap} {b : Addr}
theorem mrg_L : mrg L L0 Ho h Hc H L = some (exact_ L L0) := if_pos rfl
theorem mrg_c {o : Obj} (n : b ≠ L) (e : Ho b = none) (q : h.get? b = some o) : mrg L L0 Ho h Hc H b = Hc b := by
  unfold mrg
  rw [if_neg n, e, q]
theorem mrg_o {u : HO} (n : b ≠ L) (e : Ho b = some u) : mrg L L0 Ho h Hc H b = H b := by
  unfold mrg
  rw [if_neg n, e]
theorem mrg_d (n : b ≠ L) (q : h.get? b = none) : mrg L L0 Ho h Hc H b = H b := by
  unfold mrg
  rw [if_neg n, q]
  cases Ho b <;> rfl
theorem mrg_H {u : HO} (n : b ≠ L) (hx : ∀ o, Ho b = none → h.get? b = some o → H b ≠ some u) (e : H b = some u) : mrg L L0 Ho h Hc H b = some u := by
  cases q : Ho b with
  | some v => rw [mrg_o n q]; exact e
  | none =>
    cases z : h.get? b with
    | none => rw [mrg_d n z]; exact e
    | some o => exact (hx o q z e).elim
end
structure Con (g : Gx) (own : List Addr) (L0 : Obj) (a : Addr) (ao : Obj) (Gn : Gp) (H : Hp) (G : Gp) : Prop where
  fr : H g.L = some (exact_ g.L L0)
  ge : H a = some (exact_ a ao)
  aL : a ≠ g.L
  frG : G g.L = none
  geG : G a = none
  self : G g.p = some g.ob
  own : ∀ q ∈ own, G q = none ∧ ∃ us vs, Gn q = some (.lst us) ∧ H q = some (.lst vs) ∧ RelUs g.K H us vs
theorem rep_kind {K : PySem.W.Frag} {H : Hp} {a : Addr} {o : Ob} (x : RepO K H a o) : (∃ vs, H a = some (.lst vs)) ∨ (∃ vs, H a = some (.dK vs)) ∨ (∃ c d f, H a = some (.ins c d f)) ∨ (∃ od gs, H a = some (.frz od (.dK gs))) ∨ ∃ c d, H a = some (exo a c d) := by
  cases o with
  | lst us => obtain ⟨vs, e, _⟩ := x; exact .inl ⟨_, e⟩
  | dct us => obtain ⟨vs, e, _⟩ := x; exact .inr (.inl ⟨_, e⟩)
  | dcr od gs kvs => obtain ⟨e, _⟩ := x; exact .inr (.inr (.inr (.inl ⟨_, _, e⟩)))
  | ins c fs => obtain ⟨_, dx, gs, e, _⟩ := x; exact .inr (.inr (.inl ⟨_, _, _, e⟩))
  | xcp c fs => rcases x with ⟨_, e⟩ | ⟨dx, gs, e, _⟩ <;> exact .inr (.inr (.inr (.inr ⟨_, _, e⟩)))
theorem rep_up {K : PySem.W.Frag} {H H' : Hp} {a : Addr} {o : Ob} (e : H' a = H a) (ht : ∀ c xs, H c = some (.tup xs) → H' c = some (.tup xs)) (hf : ∀ c ob xs, H c = some (.frz ob xs) → H' c = some (.frz ob xs)) (hx : ∀ c xs, H c = some (.xd xs) → H' c = some (.xd xs)) (x : RepO K H a o) : RepO K H' a o := by
  have hT : ∀ c xs, SqT K H c xs → SqT K H' c xs := by
    rintro c xs ((t | ⟨ob, t⟩) | t)
    · exact .inl (.inl (ht c _ t))
    · exact .inl (.inr ⟨ob, hf c _ _ t⟩)
    · exact .inr t
  have hR : ∀ c xs, RoL K H c xs → RoL K H' c xs := by
    rintro c xs (⟨ob, t⟩ | t)
    · exact .inl ⟨ob, hf c _ _ t⟩
    · exact .inr t
  cases o with
  | lst us => obtain ⟨vs, q, r⟩ := x; exact ⟨vs, e.trans q, r.mono hT hR hx⟩
  | dct us => obtain ⟨vs, q, r⟩ := x; exact ⟨vs, e.trans q, r.mono hT hR hx⟩
  | dcr od gs kvs => obtain ⟨q, r⟩ := x; exact ⟨e.trans q, r.mono hT hR hx⟩
  | ins c fs => obtain ⟨k, dx, gs, q, r⟩ := x; exact ⟨k, dx, gs, e.trans q, r.mono hT hR hx⟩
  | xcp c fs =>
    rcases x with ⟨e0, q⟩ | ⟨dx, gs, q, q2, r⟩
    · exact .inl ⟨e0, e.trans q⟩
    · exact .inr ⟨dx, gs, e.trans q, hx _ _ q2, RelE.mono hT hR hx r⟩
section
variable {X : Cx} {N : List Str} {qual : Str} {scope : Scope} {f : Addr} {cd : Value} {A : Around} {L p : Addr} {ob : Ob} {out : List U} {pins : List (Addr × Obj)} {σ σg : L2.St} {Hc H : Hp} {Gc Gn G : Gp} {z s' : Shared} {own : List Addr} {L0 L1 ao : Obj} {a : Addr}
theorem wk_c (ok : GOk (gOf X N qual scope f cd A L p ob out)) (fo : flatO ob = true) (I : Inv X pins σ Hc z) (rp : Rep X.K Hc Gc) (yd : Yd (gOf X N qual scope f cd A L p ob out) own Gn) (co : Con (gOf X N qual scope f cd A L p ob out) own L0 a ao Gn Hc Gc) : Wk (gOf X N qual scope f cd A L p ob out) L0 Gn z (lent p own Hc) := by
  have cp : ∃ c fs, ob = .ins c fs ∨ ∃ us, ob = .lst us := by
    cases hb : ob with
    | lst us => exact ⟨"", [], .inr ⟨us, rfl⟩⟩
    | ins c fs => exact ⟨c, fs, .inl rfl⟩
    | _ => rw [hb] at fo; cases fo
  have self : Gc p = some ob := co.self
  refine ⟨I.bare, exact_at (I.hok _ _ co.fr), fun b u e => ?_, fun b o e => ?_, fun b o e => ?_, I.stack, fun b hb => ?_, ?_⟩
  · obtain ⟨e1, _⟩ := lent_of e
    have q := I.hok b u e1
    by_cases hb : b ∈ own
    · obtain ⟨_, us, vs, _, e2, _⟩ := co.own b hb
      rw [e1] at e2
      cases e2
      exact q
    · have e3 := e
      rcases (lent_of e).2 with z1 | z1 | z1
      · exact (hb z1).elim
      · subst z1
        rcases rep_kind (rp _ _ self) with ⟨_, k⟩ | ⟨_, k⟩ | ⟨_, _, _, k⟩ | ⟨_, _, k⟩ | ⟨_, _, k⟩
        · rw [e1] at k; cases k; exact q
        · rw [e1] at k; cases k; exact q
        · rw [e1] at k; cases k
          obtain ⟨q1, q2⟩ := q
          exact ⟨lent_own q1, q2⟩
        · rw [e1] at k; cases k; exact q
        · rw [e1] at k; cases k; exact q
      · subst z1; exact q
  · rcases yd.dom b o e with hb | hb
    · subst hb
      have q := yd.self
      rw [e] at q
      cases q
      exact flat_rep fo (fun u h => lent_self.trans h) (rp _ _ self)
    · obtain ⟨_, us, vs, e1, e2, r⟩ := co.own b hb
      obtain ⟨_, us', e3, fl⟩ := yd.lst b hb
      rw [e] at e1 e3
      cases e3
      cases e1
      exact ⟨vs, (lent_in hb).trans e2, flat_rels fl r⟩
  · obtain ⟨h1, h2⟩ := I.bs b o e
    refine ⟨h1, ?_⟩
    cases q : lent p own Hc b with
    | none => rfl
    | some u => rw [(lent_of q).1] at h2; cases h2
  · have h2 := I.stkFree b hb
    cases q : lent p own Hc b with
    | none => rfl
    | some u => rw [(lent_of q).1] at h2; cases h2
  · show lent p own Hc L = none
    have fr : Hc L = some (exact_ L L0) := co.fr
    cases q : lent p own Hc L with
    | none => rfl
    | some u =>
      obtain ⟨e1, h2⟩ := lent_of q
      rw [fr] at e1
      cases e1
      rcases h2 with h2 | h2 | h2
      · obtain ⟨_, _, _, _, e2, _⟩ := co.own L h2
        rw [fr] at e2; cases e2
      · subst h2
        rcases cp with ⟨c, fs, hb | ⟨us, hb⟩⟩
        · subst hb
          obtain ⟨_, _, _, e2, _⟩ := rp _ _ self
          rw [fr] at e2; cases e2
        · subst hb
          obtain ⟨_, e2, _⟩ := rp _ _ self
          rw [fr] at e2; cases e2
      · cases h2
/-- back with the consumer -/
theorem back_c (ok : GOk (gOf X N qual scope f cd A L p ob out)) {c0 : String} {fs0 : List (String × U)} (hob : ob = .ins c0 fs0) (fo : flatO ob = true) (I : Inv X pins σ Hc z) (rp : Rep X.K Hc Gc) (yd : Yd (gOf X N qual scope f cd A L p ob out) own Gn) (co : Con (gOf X N qual scope f cd A L p ob out) own L0 a ao Gn Hc Gc)
    {z2 : Shared} (hz : z2.heap = z.heap) (ho : z2.os = z.os) (J : Inv (Gx.cx (gOf X N qual scope f cd A L p ob out) (cutS L z2) (lent p own Hc)) [] σg H s') (rg : Rep X.K H G) (ex : Ext (hwk L z2.heap (lent p own Hc)) Gn H G) (hp : G p = some ob) (hown : ∀ q ∈ own, ∃ us, G q = some (.lst us)) (e1 : s'.heap.get? L = some L1) :
    ∃ H', Inv X pins σ H' s' ∧ Rep X.K H' Gc ∧ (∀ b u, Hc b = some u → Gc b = none → b ≠ L → b ∉ own → H' b = some u) ∧ H' L = some (exact_ L L1) ∧ (∀ b vs, H b = some (.lst vs) → H' b = some (.lst vs) ∧ (b ∈ own ∨ Hc b = none)) ∧ ∀ w x, RelU X.K H w x → RelU X.K H' w x := by
  subst hob
  rw [hz] at ex
  have self : Gc p = some (.ins c0 fs0) := co.self
  obtain ⟨ck, dxc, gsc, pc, rfc⟩ := rp _ _ self
  have frL : Hc L = some (exact_ L L0) := co.fr
  -- what the generator's state says of z's objects
  have gnone : ∀ b, lent p own Hc b = none → Gn b = none := fun b e => by
    cases q : Gn b with
    | none => rfl
    | some o =>
      exfalso
      rcases yd.dom b o q with hb | hb
      · have hb : b = p := hb
        subst hb
        rw [lent_self, pc] at e; cases e
      · obtain ⟨_, _, _, _, e2, _⟩ := co.own b hb
        rw [lent_in hb, e2] at e; cases e
  have gown : Gn p ≠ none := fun e => by rw [show Gn p = some _ from yd.self] at e; cases e
  have young : ∀ b o, z.heap.get? b = some o → lent p own Hc b = none → L < b → H b = some (exact_ b o) ∧ s'.heap.get? b = some o := fun b o e n hb => by
    have q := (ex b _ (hwk_new n hb e) (gnone b n)).1
    exact ⟨q, exact_at (J.hok b _ q)⟩
  have oldA : ∀ b o, z.heap.get? b = some o → b < L → (cutS L z2).heap.get? b = some o := fun b o e hb => by
    show (cutH z2.heap L).get? b = some o
    rw [cutH_get hb, hz]
    exact e
  have no : ∀ b : Addr, b ∉ ([] : List Addr) := fun b hb => by cases hb
  have oldN : ∀ b o, z.heap.get? b = some o → lent p own Hc b = none → b < L → H b = none := fun b o e n hb => J.base.free b o (oldA b o e hb) n (no b)
  have kept : ∀ b o, z.heap.get? b = some o → lent p own Hc b = none → b ≠ L → b ∉ frs X.stack → s'.heap.get? b = some o := fun b o e n nL nf => by
    rcases Nat.lt_or_gt_of_ne nL with hb | hb
    · exact J.base.keep b o (oldA b o e hb) n nf (no b)
    · exact (young b o e n hb).2
  -- no other thing of the generator's stands at z's objects
  have other : ∀ b o u, z.heap.get? b = some o → lent p own Hc b = none → b ≠ L → H b = some u → ∃ o', u = exact_ b o' := fun b o u e n nL q => by
    rcases Nat.lt_or_gt_of_ne nL with hb | hb
    · rw [oldN b o e n hb] at q; cases q
    · rw [(young b o e n hb).1] at q
      cases q
      exact ⟨o, rfl⟩
  have freeL : H L = none := J.free
  have dict : ∀ b, Hc b = some (.own p) → H b = some (.own p) := fun b e => by
    refine (ex b _ (hwk_some (lent_own e)) ?_).1
    cases q : Gn b with
    | none => rfl
    | some o =>
      exfalso
      rcases yd.dom b o q with hb | hb
      · have hb : b = p := hb
        subst hb
        rw [pc] at e; cases e
      · obtain ⟨_, _, _, _, e2, _⟩ := co.own b hb
        rw [e] at e2; cases e2
  have Mc : ∀ b u, Hc b = some u → b ≠ L → b ∉ own → b ≠ p → mrg L L1 (lent p own Hc) z.heap Hc H b = some u := fun b u e nL nO nP => by
    cases q : lent p own Hc b with
    | none =>
      obtain ⟨o, eo⟩ := alive (I.hok b u e)
      rw [mrg_c nL q eo]
      exact e
    | some v =>
      obtain ⟨e2, h2⟩ := lent_of q
      rw [e] at e2
      cases e2
      rcases h2 with h2 | h2 | h2
      · exact (nO h2).elim
      · exact (nP h2).elim
      · subst h2
        rw [mrg_o nL q]
        exact dict b e
  have notOwn : ∀ b u, Hc b = some u → (∀ vs, u ≠ .lst vs) → b ∉ own := fun b u e n hb => by
    obtain ⟨_, _, _, _, e2, _⟩ := co.own b hb
    rw [e] at e2
    cases e2
    exact n _ rfl
  have notL : ∀ b u, Hc b = some u → (∀ φ, u ≠ .ext φ) → b ≠ L := fun b u e n hb => by
    rw [hb, frL] at e
    cases e
    exact n _ rfl
  have notP : ∀ b u, Hc b = some u → (∀ c d q, u ≠ .ins c d q) → b ≠ p := fun b u e n hb => by
    rw [hb, pc] at e
    cases e
    exact n _ _ _ rfl
  have Mh : ∀ b u, H b = some u → (∀ φ, u ≠ .ext φ) → mrg L L1 (lent p own Hc) z.heap Hc H b = some u := fun b u e n => by
    have nL : b ≠ L := fun q => by rw [q, freeL] at e; cases e
    refine mrg_H nL (fun o q1 q2 q3 => ?_) e
    obtain ⟨o', e'⟩ := other b o u q2 q1 nL e
    exact n _ e'
  have hokM : HOk X.prog X.w (mrg L L1 (lent p own Hc) z.heap Hc H) s'.heap := fun b u e => by
    by_cases nL : b = L
    · subst nL
      rw [mrg_L] at e
      cases e
      exact exact_ok e1
    have fromH : H b = some u → mrg L L1 (lent p own Hc) z.heap Hc H b = some u → ObjOk X.prog X.w (mrg L L1 (lent p own Hc) z.heap Hc H) s'.heap b u := fun q _ =>
      (J.hok b u q).stay (fun _ _ _ y => y) (fun c y => Mh c _ y fun _ y => by cases y) fun c xs y => Mh c _ y fun _ y => by cases y
    cases q : lent p own Hc b with
    | some v =>
      rw [mrg_o nL q] at e
      exact fromH e (by rw [mrg_o nL q]; exact e)
    | none =>
      cases y : z.heap.get? b with
      | none =>
        rw [mrg_d nL y] at e
        exact fromH e (by rw [mrg_d nL y]; exact e)
      | some o =>
        rw [mrg_c nL q y] at e
        obtain ⟨n1, n2, n3⟩ := lent_none q u e
        have nst : ∀ c v, Hc c = some v → c ∉ frs X.stack := fun c v e2 hc => by
          rw [I.stkFree c hc] at e2; cases e2
        refine (I.hok b u e).stay (fun c v hc y2 => ?_) (fun c y => ?_) fun c xs y => ?_
        · rcases hc with hc | hc
          · subst hc
            exact kept c v y2 q nL (nst c u e)
          · have hp' : c ≠ p := notP c _ hc fun _ _ _ y => by cases y
            have q' : lent p own Hc c = none := by
              cases k : lent p own Hc c with
              | none => rfl
              | some v' =>
                exfalso
                obtain ⟨e2, h2⟩ := lent_of k
                rw [hc] at e2
                cases e2
                rcases h2 with h2 | h2 | h2
                · exact notOwn c _ hc (fun _ y => by cases y) h2
                · exact hp' h2
                · cases h2
                  exact n2 rfl
            exact kept c v y2 q' (notL c _ hc fun _ y => by cases y) (nst c _ hc)
        · exact Mc c _ y (notL c _ y fun _ y => by cases y) (notOwn c _ y fun _ y => by cases y) (notP c _ y fun _ _ _ y => by cases y)
        · exact Mc c _ y (notL c _ y fun _ y => by cases y) (notOwn c _ y fun _ y => by cases y) (notP c _ y fun _ _ _ y => by cases y)
  have thereM : ∀ b o, z.heap.get? b = some o → ∃ o', s'.heap.get? b = some o' := fun b o e => by
    by_cases nL : b = L
    · subst nL
      exact ⟨_, e1⟩
    cases q : lent p own Hc b with
    | none =>
      by_cases hb : b ∈ frs X.stack
      · have hlt : b < L := ok.lt b hb
        exact J.base.there b o (oldA b o e hlt) (no b)
      · exact ⟨o, kept b o e q nL hb⟩
    | some v =>
      obtain ⟨e2, h2⟩ := lent_of q
      rcases h2 with h2 | h2 | h2
      · obtain ⟨us, e3⟩ := hown b h2
        obtain ⟨vs, e4, _⟩ := rg b _ e3
        exact alive (J.hok b _ e4)
      · subst h2
        obtain ⟨_, _, _, e4, _⟩ := rg _ _ hp
        exact alive (J.hok _ _ e4)
      · subst h2
        exact alive (J.hok b _ (dict b e2))
  refine ⟨mrg L L1 (lent p own Hc) z.heap Hc H, ?_, fun b o e => ?_, fun b u e n nL nO => ?_, mrg_L, fun b vs e => ⟨Mh b _ e (fun _ y => by cases y), ?_⟩, fun w x r => r.mono (fun c xs t => ?_) (fun c xs t => ?_) fun d gs t => Mh d _ t (fun _ y => by cases y)⟩
  · refine I.call' (ch := []) (J.os.trans ho) ⟨fun b o e n nf _ => ?_, fun b o e n nf _ => ?_, fun b o e n _ => ?_, fun b o e _ => thereM b o e, fun b xs e => ?_, fun b o u e => ?_, fun b ps e => ⟨#[], ?_⟩⟩ hokM J.bare fun b hb => (no b hb).elim
    · have nL : b ≠ L := fun q => by rw [q, frL] at n; cases n
      refine kept b o e ?_ nL nf
      cases q : lent p own Hc b with
      | none => rfl
      | some v => rw [(lent_of q).1] at n; cases n
    · have q : lent p own Hc b = none := by
        cases q : lent p own Hc b with
        | none => rfl
        | some v => rw [(lent_of q).1] at n; cases n
      exact J.base.slot b o (oldA b o e (ok.lt b nf)) q nf (no b)
    · have nL : b ≠ L := fun q => by rw [q, frL] at n; cases n
      have q : lent p own Hc b = none := by
        cases q : lent p own Hc b with
        | none => rfl
        | some v => rw [(lent_of q).1] at n; cases n
      rw [mrg_c nL q e]
      exact n
    · exact Mc b _ e (notL b _ e fun _ y => by cases y) (notOwn b _ e fun _ y => by cases y) (notP b _ e fun _ _ _ y => by cases y)
    · exact Mc b _ e (notL b _ e fun _ y => by cases y) (notOwn b _ e fun _ y => by cases y) (notP b _ e fun _ _ _ y => by cases y)
    · rw [Mc b _ e (notL b _ e fun _ y => by cases y) (notOwn b _ e fun _ y => by cases y) (notP b _ e fun _ _ _ y => by cases y)]
      simp
  · by_cases hb : b = p
    · subst hb
      rw [self] at e
      cases e
      exact flat_rep fo (fun u y => by
        obtain ⟨_, dx, gs, e4, _⟩ := rg _ _ hp
        rw [e4] at y
        cases y
        exact Mh _ _ e4 fun _ y => by cases y) (rg _ _ hp)
    · have hnO : b ∉ own := fun h => by rw [(co.own b h).1] at e; cases e
      have hq := rp b o e
      obtain ⟨u0, hu0⟩ := rp.there e
      have hnL : b ≠ L := fun h => by
        subst h
        have gl : Gc b = none := co.frG
        rw [gl] at e; cases e
      have em : mrg L L1 (lent p own Hc) z.heap Hc H b = Hc b := by rw [Mc b u0 hu0 hnL hnO hb, hu0]
      have up : ∀ c v, Hc c = some v → (∀ φ, v ≠ .ext φ) → (∀ vs, v ≠ .lst vs) → (∀ c d q, v ≠ .ins c d q) → mrg L L1 (lent p own Hc) z.heap Hc H c = some v := fun c v h n1 n2 n3 => Mc c v h (notL c v h n1) (notOwn c v h n2) (notP c v h n3)
      exact rep_up em (fun c xs h => up c _ h (fun _ y => by cases y) (fun _ y => by cases y) fun _ _ _ y => by cases y) (fun c o xs h => up c _ h (fun _ y => by cases y) (fun _ y => by cases y) fun _ _ _ y => by cases y) (fun c xs h => up c _ h (fun _ y => by cases y) (fun _ y => by cases y) fun _ _ _ y => by cases y) hq
  · exact Mc b u e nL nO fun h => by rw [h, self] at n; cases n
  · by_cases h : b ∈ own
    · exact .inl h
    · right
      cases y : Hc b with
      | none => rfl
      | some u =>
        exfalso
        have nL : b ≠ L := fun q => by rw [q, freeL] at e; cases e
        obtain ⟨o, eo⟩ := alive (I.hok b u y)
        cases q : lent p own Hc b with
        | none =>
          obtain ⟨o', e'⟩ := other b o _ eo q nL e
          cases e'
        | some v =>
          obtain ⟨e2, h2⟩ := lent_of q
          rcases h2 with h2 | h2 | h2
          · exact h h2
          · subst h2
            obtain ⟨_, _, _, e4, _⟩ := rg _ _ hp
            rw [e4] at e; cases e
          · subst h2
            rw [dict b e2] at e; cases e
  · rcases t with (t | ⟨o, t⟩) | t
    · exact .inl (.inl (Mh c _ t fun _ y => by cases y))
    · exact .inl (.inr ⟨o, Mh c _ t fun _ y => by cases y⟩)
    · exact .inr t
  · rcases t with ⟨o, t⟩ | t
    · exact .inl ⟨o, Mh c _ t fun _ y => by cases y⟩
    · exact .inr t
end
end UL
set_option maxHeartbeats 2000000
namespace UL
open PySem PySem.Spec PyProof.Rows L2 GenS GenW
structure Gf where
  N : List Str
  qual : Str
  scope : Scope
  f : Addr
  cd : Value
  L : Addr
  p : Addr
  ob : Ob
  out : List U
abbrev Gf.at (F : Gf) (X : Cx) (A : Around) : Gx := gOf X F.N F.qual F.scope F.f F.cd A F.L F.p F.ob F.out
def Asl (g : Gx) (n : Nat) (x : GenState) (own : List Addr) (L0 : Obj) (Gn : Gp) : Prop := ∀ z Ho, Wk g L0 Gn z Ho → Goes (model g.prog g.w) g.A (Fi g n z Ho Gn own) x z
def IsGO (o : Obj) (i : Nat) : Prop := o.cls = .type "generator" ∧ (∃ x y, o.data = .fields #[.int i 0, x, y]) ∧ o.slots = #[]
theorem IsGO.at {o : Obj} {i : Nat} {h : Heap} {a : Addr} (x : IsGO o i) (e : h.get? a = some o) : h.IsGen a i := by
  obtain ⟨h1, ⟨u, v, h2⟩, h3⟩ := x
  exact ⟨o, u, v, e, h1, h2, h3⟩
section
variable {X : Cx} {pins : List (Addr × Obj)} {σ : L2.St} {H : Hp} {s t : Shared}
theorem inv_gens {G : Array GenState} (I : Inv X pins σ H s) (h : AllBare G) : Inv X pins σ H { s with gens := G } := ⟨I.ok, I.os, h, I.base, I.loc, I.cell, I.free, I.freeC, I.pin, I.hok, I.len⟩
theorem inv_rel {W : Nat → Option GenState} (r : Rel W s t) (I : Inv X pins σ H t) : Inv X pins σ H s := by
  have hb := r.bare I.bare
  obtain ⟨gt, rfl⟩ := r.split
  exact ⟨I.ok, I.os, hb, I.base, I.loc, I.cell, I.free, I.freeC, I.pin, I.hok, I.len⟩
theorem inv_asleep (I : Inv X pins σ H s) : Inv X pins σ H (asleep s) := inv_gens I (asleep_bare I.bare)
/-- what is wanted of an exception does not look at the generators -/
def XeG (E : Value → Shared → Prop) : Prop := ∀ (W : Nat → Option GenState) e s t, Rel W s t → E e t → E e s
theorem xeG_none : XeG fun _ _ => False := fun _ _ _ _ _ h => h
theorem run_asleep {α : Type} {M : Model} {A : Around} {tm : Sem α} {Q Q' : α → Shared → Prop} {E : Value → Shared → Prop} {i : Nat} {x : GenState} (hg : s.gens[i]? = some x) (hx : isSus x) (he : XeG E) (h : wpAny M A tm Q E (asleep s))
    (hQ : ∀ a s1 t1, Rel (slp s) s1 t1 → s1.gens[i]? = some x → Q a t1 → Q' a s1) : wpAny M A tm Q' E s :=
  wpAny_mono (wpAny_asleep h) (fun a s1 ⟨t1, r, q⟩ => hQ a s1 t1 r (r.kept hg hx) q) fun e s1 ⟨t1, r, q⟩ => he _ e s1 t1 r q
end
theorem cx_rel {P : Program} {w : World} {outer : List Env} {H : Hp} {s0 s t : Shared} {E : XK} {u : Value} {W : Nat → Option GenState} (r : Rel W s t) (h : L2N.CX P w outer H s0 E u t) : L2N.CX P w outer H s0 E u s := by
  obtain ⟨a, B, H', c, d, e, fl, ok, ub, na, os, ag, hE⟩ := h
  have hb := r.bare ag
  obtain ⟨gt, rfl⟩ := r.split
  exact ⟨a, B, H', c, d, e, fl, ok, ub, na, os, hb, hE⟩
theorem xeG_u {P : Program} {w : World} {K : PySem.W.Frag} {mg : Str → Option Value} {base : Heap} {N : List Str} {qual : Str} {scope : Scope} {f : Addr} {cdv : Value} {A : Around} {outer : List Env} {s : Shared} {H : Hp} {E : XK} : XeG (cxU P w K mg base N qual scope f cdv A outer s H E).xe := by
  intro W e s1 t1 r h
  have h : wpAny (model P w) (A.deeper (envOfC qual scope s.heap.objs.size f cdv)) (leaving (envOfC qual scope s.heap.objs.size f cdv) e) (fun _ s'' => L2N.CX P w outer H s E e s'') (fun e' s'' => L2N.CX P w outer H s E e' s'') t1 := h
  refine wpAny_mono (fun Γ p k => GenS.wp_kept _ _ _ p s1 t1 r (h Γ p k) : wpAny (model P w) (A.deeper (envOfC qual scope s.heap.objs.size f cdv)) (leaving (envOfC qual scope s.heap.objs.size f cdv) e) (fun _ s'' => ∃ t', Rel W s'' t' ∧ L2N.CX P w outer H s E e t') (fun e' s'' => ∃ t', Rel W s'' t' ∧ L2N.CX P w outer H s E e' t') s1) ?_ ?_
  · exact fun _ s'' ⟨t', r', q⟩ => cx_rel r' q
  · exact fun _ s'' ⟨t', r', q⟩ => cx_rel r' q
/-- what a step keeps of what the consumer knows -/
def Kp (Hc : Hp) (Gc : Gp) (H' : Hp) (L : Addr) (own : List Addr) : Prop := ∀ b u, Hc b = some u → Gc b = none → b ≠ L → b ∉ own → H' b = some u
theorem Con.ext {X : Cx} {F : Gf} {A : Around} {own : List Addr} {L0 ao : Obj} {a : Addr} {Gn : Gp} {H H' : Hp} {G G' : Gp} (co : Con (F.at X A) own L0 a ao Gn H G) (yd : Yd (F.at X A) own Gn) (x : Ext H G H' G') (hs : G' F.p = some F.ob) : Con (F.at X A) own L0 a ao Gn H' G' := by
  refine ⟨(x _ _ co.fr co.frG).1, (x _ _ co.ge co.geG).1, co.aL, (x _ _ co.fr co.frG).2, (x _ _ co.ge co.geG).2, hs, fun q hq => ?_⟩
  obtain ⟨h1, us, vs, h2, h3, h4⟩ := co.own q hq
  obtain ⟨_, us', h5, fl⟩ := yd.lst q hq
  rw [h2] at h5
  cases h5
  exact ⟨(x _ _ h3 h1).2, us, vs, h2, (x _ _ h3 h1).1, flat_rels fl h4⟩
/-- next -/
theorem next_c {X : Cx} {B : Around} {F : Gf} {c0 : String} {fs0 : List (String × U)} {pins : List (Addr × Obj)} {σ : L2.St} {Hc : Hp} {Gc Gn : Gp} {z : Shared} {own : List Addr} {L0 ao : Obj} {a : Addr} {gi n : Nat} {gs : GenState} {E : Value → Shared → Prop} (hh : B.handled = none) (hd : B.depth < recursionLimit)
    (ok : GOk (F.at X B.in1)) (hob : F.ob = .ins c0 fs0) (fo : flatO F.ob = true) (I : Inv X pins σ Hc z) (rp : Rep X.K Hc Gc) (co : Con (F.at X B.in1) own L0 a ao Gn Hc Gc) (yd : Yd (F.at X B.in1) own Gn) (ga : IsGO ao gi) (hg : z.gens[gi]? = some gs) (as : Asl (F.at X B.in1) n gs own L0 Gn) :
    wpAny (model X.prog X.w) B (pyNext (.ref a)) (fun r s' => match n, r with
      | 0, none => ∃ H', Inv X pins σ H' s' ∧ Rep X.K H' Gc ∧ Kp Hc Gc H' F.L own
      | m + 1, some u => ∃ H' x w own' L1 Gn' gs', Inv X pins σ H' s' ∧ Rep X.K H' Gc ∧ Kp Hc Gc H' F.L own ∧ RelV x u ∧ RelU X.K H' w x ∧ F.out[F.out.length - (m + 1)]? = some w ∧ Con (F.at X B.in1) own' L1 a ao Gn' H' Gc ∧ Yd (F.at X B.in1) own' Gn' ∧
          isSus gs' ∧ s'.gens[gi]? = some gs' ∧ Asl (F.at X B.in1) m gs' own' L1 Gn' ∧ ∀ q ∈ own', q ∈ own ∨ Hc q = none
      | _, _ => False) E z := by
  have k := wk_c ok fo I rp yd co
  have k2 : Wk (F.at X B.in1) L0 Gn (z.setGen gi .running) (lent F.p own Hc) := ⟨allBare_setGen I.bare rfl, k.loc, k.hok, k.rep, k.bs, k.funs, k.frf, k.free⟩
  have lt : gi < z.gens.size := (Array.getElem?_eq_some_iff.mp hg).1
  have pG : Gc F.p = some F.ob := co.self
  refine wpAny_gsz (n := gi + 1) lt ?_
  refine next_s hh I.nolimit hd (ga.at (exact_at (I.hok _ _ co.ge))) hg (as _ _ k2) (fun v d l kk c p fs s1 q => ?_) fun r s1 q => ?_
  · cases n with
    | zero => exact q.elim
    | succ m =>
      obtain ⟨h1, σg, H, G, x, w, L1, Gn', own', J, rg, ex, sb, yd', sub, rv, ru, ho, hL1, wk⟩ := q
      refine ⟨h1, fun hsz => ?_⟩
      have hG : G F.p = some F.ob := sb _ _ yd'.self
      obtain ⟨H', I', rp', kp, hL', lst', val⟩ := back_c ok hob fo I rp yd co (z2 := z.setGen gi .running) rfl rfl J rg ex hG (fun q hq => by
        obtain ⟨_, us, h2, _⟩ := yd'.lst q (sub q hq)
        exact ⟨us, sb _ _ h2⟩) hL1
      have lt1 : gi < s1.gens.size := by
        have : gi + 1 ≤ (s1.setGen gi (.suspended kk l c p fs false)).gens.size := hsz
        rw [setGen_size] at this
        exact this
      refine ⟨H', x, w, own', L1, Gn', .suspended kk l c p fs false, inv_gens I' (allBare_setGen I'.bare rfl), rp', kp, rv, val _ _ ru, ho, ⟨hL', ?_, co.aL, co.frG, co.geG, pG, fun q hq => ?_⟩, yd', trivial, setGen_at lt1, fun z' Ho' k' => wk z' Ho' k', fun q hq => ?_⟩
      · refine kp a _ co.ge co.geG co.aL fun hm => ?_
        obtain ⟨_, us, vs, _, h3, _⟩ := co.own a hm
        rw [co.ge] at h3
        cases h3
      · obtain ⟨_, us, h2, fl⟩ := yd'.lst q hq
        obtain ⟨vs, h3, h4⟩ := rg q _ (sb _ _ h2)
        obtain ⟨h5, h6⟩ := lst' q vs h3
        refine ⟨?_, us, vs, h2, h5, flat_rels fl h4⟩
        rcases h6 with h6 | h6
        · exact (co.own q h6).1
        · exact rp.fresh h6
      · obtain ⟨_, us, h2, fl⟩ := yd'.lst q hq
        obtain ⟨vs, h3, h4⟩ := rg q _ (sb _ _ h2)
        exact (lst' q vs h3).2
  · cases n with
    | succ m => exact q.elim
    | zero =>
      obtain ⟨h1, σg, H, G, J, rg, ex, hG, hown⟩ := q
      refine ⟨h1, fun h' hk _ => ?_⟩
      obtain ⟨L1, hL1⟩ : ∃ L1, s1.heap.get? F.L = some L1 := by
        obtain ⟨_, ⟨o, _, _, ho, _⟩, _⟩ := J.loc
        exact ⟨o, ho⟩
      obtain ⟨H', I', rp', kp, _, _, _⟩ := back_c ok hob fo I rp yd co (z2 := z.setGen gi .running) rfl rfl J rg ex hG hown hL1
      have I2 := inv_gens I' (allBare_setGen (g := gi) (x := .finished) I'.bare rfl)
      exact ⟨H', I2.kept (t' := s1.toks) hk, rp', kp⟩
end UL
set_option maxHeartbeats 4000000
namespace UL
open PySem PySem.Spec PyProof.Rows L2 GenS GenW
/-- a generator has been made, it has not begun -/
structure GM (X : Cx) (k : Nat) (pins : List (Addr × Obj)) (σ : L2.St) (H : Hp) (G : Gp) (Q : UKI) (F : Gf) (a : Addr) (gi : Nat) (c : Code) (L0 ao : Obj) (Gn : Gp) (H1 : Hp) (G1 : Gp) (H2 : Hp) (s : Shared) : Prop where
  ob : ∃ c fs, F.ob = .ins c fs
  fo : flatO F.ob = true
  go : IsGO ao gi
  I : Inv X pins σ H2 s
  rp1 : Rep X.K H1 G1
  rp2 : Rep X.K H2 G1
  ex : Ext H G H1 G1
  new : ∀ b v, H1 b = some v → H2 b = some v ∧ b ≠ F.L
  con : ∀ A, Con (F.at X A) [] L0 a ao Gn H2 G1
  yd : ∀ A, Yd (F.at X A) [] Gn
  gen : s.gens[gi]? = some (.fresh c)
  run : ∀ A, RoomU k A → A.frames = some X.stack → GOk (F.at X A) ∧ Asl (F.at X A) F.out.length (.fresh c) [] L0 Gn
  len : F.out.length < 1000000
  q : Q (fun G => G F.p = some F.ob) F.out G1
structure IGn (X : Cx) (W : WX) (k : Nat) (e : Expr) (t : UTI) : Prop where
  run : ∀ (pins : List (Addr × Obj)) (s : Shared) (σ : L2.St) (H : Hp) (us : USt) (G : Gp) (Q : UKI) (E : UX), Inv X pins σ H s → RelS X.K H us σ → Rep X.K H G → t us G Q E → (∀ c d H', LX X.K H G E c d H' → W c d σ H') →
    wpAny (model X.prog X.w) X.A (eval e X.env) (fun u s1 => ∃ F a gi c L0 ao Gn H1 G1 H2, u = .ref a ∧ GM X k pins σ H G Q F a gi c L0 ao Gn H1 G1 H2 s1) X.xe s
theorem relS_mono {K : PySem.W.Frag} {H H' : Hp} (hT : ∀ a xs, SqT K H a xs → SqT K H' a xs) (hR : ∀ a xs, RoL K H a xs → RoL K H' a xs) (hX : ∀ d gs, H d = some (.xd gs) → H' d = some (.xd gs)) : ∀ {us : USt} {vs : L2.St}, RelS K H us vs → RelS K H' us vs
  | [], _, h => h
  | none :: us, _, ⟨v, ws, e, t⟩ => ⟨v, ws, e, relS_mono hT hR hX t⟩
  | some u :: us, _, ⟨v, ws, e, h, t⟩ => ⟨v, ws, e, h.mono hT hR hX, relS_mono hT hR hX t⟩
section
variable {X : Cx} {F : Gf} {A : Around} {own : List Addr} {L0 ao : Obj} {a : Addr} {Gn : Gp} {Hc H' : Hp} {Gc : Gp}
theorem kp_up (co : Con (F.at X A) own L0 a ao Gn Hc Gc) (rp : Rep X.K Hc Gc) (kp : Kp Hc Gc H' F.L own) : (∀ b xs, SqT X.K Hc b xs → SqT X.K H' b xs) ∧ (∀ b xs, RoL X.K Hc b xs → RoL X.K H' b xs) ∧ ∀ d gs, Hc d = some (.xd gs) → H' d = some (.xd gs) := by
  have one : ∀ b u, Hc b = some u → Gc b = none → (∀ φ, u ≠ .ext φ) → (∀ vs, u ≠ .lst vs) → H' b = some u := fun b u e n n1 n2 => by
    refine kp b u e n (fun h => ?_) fun h => ?_
    · rw [h, co.fr] at e
      cases e
      exact n1 _ rfl
    · obtain ⟨_, us, vs, _, h3, _⟩ := co.own b h
      rw [e] at h3
      cases h3
      exact n2 _ rfl
  refine ⟨fun b xs t => ?_, fun b xs t => ?_, fun d gs t => one d _ t ?_ (fun _ y => by cases y) fun _ y => by cases y⟩
  · rcases t with t | t
    · have n := rp.noRd t (.inl ⟨_, rfl⟩)
      rcases t with t | ⟨o, t⟩
      · exact .inl (.inl (one b _ t n (fun _ y => by cases y) fun _ y => by cases y))
      · exact .inl (.inr ⟨o, one b _ t n (fun _ y => by cases y) fun _ y => by cases y⟩)
    · exact .inr t
  · rcases t with ⟨o, t⟩ | t
    · have n := rp.noRd (a := b) (u := .lst xs) (.inr ⟨o, t⟩) (.inr ⟨o, _, rfl, t⟩)
      exact .inl ⟨o, one b _ t n (fun _ y => by cases y) fun _ y => by cases y⟩
    · exact .inr t
  · cases q : Gc d with
    | none => rfl
    | some o =>
      exfalso
      rcases rep_kind (rp d o q) with ⟨_, e⟩ | ⟨_, e⟩ | ⟨_, _, _, e⟩ | ⟨_, _, e⟩ | ⟨_, _, e⟩ <;> (rw [t] at e; cases e)
theorem ext_kp {H1 : Hp} {G1 : Gp} (x : Ext H1 G1 Hc Gc) (kp : Kp Hc Gc H' F.L own) (nL : ∀ u, H1 F.L = some u → False) (nO : ∀ q ∈ own, ∀ u, H1 q = some u → G1 q ≠ none) : Ext H1 G1 H' Gc := fun b u e n => by
  obtain ⟨h1, h2⟩ := x b u e n
  exact ⟨kp b u h1 h2 (fun h => nL u (h ▸ e)) fun h => nO b h u e n, h2⟩
end
theorem forU_chk {tg : UTG} {tb : UTS} {chk : Gp → Prop} {D : UEnds} {us : USt} {G : Gp} : ∀ {xs : List U}, forU tg tb chk xs D us G → chk G
  | [], h => h.1
  | _ :: _, h => h.1
theorem drop_left {α : Type} {xs : List α} {m : Nat} {x : α} (hm : m + 1 ≤ xs.length) (e : xs[xs.length - (m + 1)]? = some x) : xs.drop (xs.length - (m + 1)) = x :: xs.drop (xs.length - m) := by
  rw [drop_cons e]
  congr 2
  omega
theorem su_forG {X : Cx} {W : WX} {k : Nat} {iter tg : Expr} {body : List Stmt} {ti : UTI} {g : UTG} {sl : List Nat} {tb : UTS} {pos : Pos} (hp : PassesOwn (model X.prog X.w) X.A X.env X.xe) (hxe : XeG X.xe) (hr : RoomU (k + 1) X.A) (hi : IGn X W k iter ti) (hg : GU X W tg g sl) (hb : SsU X W body tb)
    (hs : ∀ x, foldedSetIterable iter X.env x = pure x) : SU X W (.For tg iter body [] pos) (tUFor ti g tb) := by
  refine ⟨fun pins s σ H us G D I rs rp h hx => ?_⟩
  refine wpAny_For (thn (hi.run pins s σ H us G _ _ I rs rp h fun c d H' h' => hx c d σ H' (LXS.of rs rp h')) fun u s1 ⟨F, a, gi, c, L0, ao, Gn, H1, G1, H2, e, m⟩ => ?_) hs
  subst e
  obtain ⟨ok, as⟩ := m.run X.A.in1 hr.in1 m.I.ok.frames
  obtain ⟨c0, fs0, hob⟩ := m.ob
  have hd : X.A.depth < recursionLimit := by have := hr.rm.dp; omega
  have nL : ∀ u, H1 F.L = some u → False := fun u e => (m.new _ u e).2 rfl
  have x12 : Ext H1 G1 H2 G1 := fun b v e n => ⟨(m.new b v e).1, n⟩
  refine wpAny_pyIter_gen (m.go.at (exact_at (m.I.hok _ _ (m.con X.A).ge))) ?_
  refine codeAny_forLoop_any (fun n s' => ∃ σ' H' us' G' own L0 Gn gs, n ≤ F.out.length ∧ Inv X pins σ' H' s' ∧ RelS X.K H' us' σ' ∧ Rep X.K H' G' ∧ Ext H1 G1 H' G' ∧ Con (F.at X X.A.in1) own L0 a ao Gn H' G' ∧ Yd (F.at X X.A.in1) own Gn ∧ s'.gens[gi]? = some gs ∧ Asl (F.at X X.A.in1) n gs own L0 Gn ∧
    (∀ q ∈ own, ∀ u, H1 q = some u → G1 q ≠ none) ∧ forU g tb (fun G => G F.p = some F.ob) (F.out.drop (F.out.length - n)) D us' G') ?_ F.out.length
    ⟨σ, H2, us, G1, [], L0, Gn, _, Nat.le_refl _, m.I, rs.ext (m.ex.trans x12) rp, m.rp2, x12, m.con _, m.yd _, m.gen, as, fun q hq => (by cases hq), by rw [Nat.sub_self]; exact m.q⟩
  rintro n s3 ⟨σ3, H3, us3, G3, own, L3, Gn3, gs, hn, I3, rs3, rp3, x3, co, yd, hgs, as3, nO, hF⟩
  refine wpAny_passesOwn hp (thn (next_c hr.rm.hd hd ok hob m.fo I3 rp3 co yd m.go hgs as3) fun r s4 h4 => ?_)
  have xA := m.ex.trans x3
  cases n with
  | zero =>
    cases r with
    | some v => exact h4.elim
    | none =>
      obtain ⟨H4, I4, rp4, kp⟩ := h4
      obtain ⟨hT, hR, hX⟩ := kp_up co rp3 kp
      rw [Nat.sub_zero, List.drop_length] at hF
      exact wpAny_execs_nil ⟨σ3, H4, I4, us3, G3, m.ex.trans (ext_kp x3 kp nL nO), rp4, relS_mono hT hR hX rs3, hF.2⟩
  | succ n =>
    cases r with
    | none => exact h4.elim
    | some v =>
      obtain ⟨H4, x, w, own4, L4, Gn4, gs4, I4, rp4, kp, rv, ru, ew, co4, yd4, su4, hg4, as4, no4⟩ := h4
      obtain ⟨hT, hR, hX⟩ := kp_up co rp3 kp
      have rs4 := relS_mono hT hR hX rs3
      have x4 := ext_kp x3 kp nL nO
      have nO4 : ∀ q ∈ own4, ∀ u, H1 q = some u → G1 q ≠ none := fun q hq u e => by
        rcases no4 q hq with z | z
        · exact nO q z u e
        · intro n0
          rw [(x3 q u e n0).1] at z
          cases z
      rw [drop_left hn ew] at hF
      obtain ⟨hchk, hF⟩ := hF
      have xA4 := m.ex.trans x4
      have hge := exact_at (I4.hok _ _ co4.ge)
      obtain ⟨hcls, ⟨n1, n2, hdat⟩, _⟩ := id m.go
      refine wpAny_passesOwn hp (go_of hge hcls hdat (by decide) ?_)
      refine wpAny_passesOwn hp (run_asleep hg4 su4 hxe (hg.run pins (asleep s4) σ3 H4 x v w us3 G3 _ _ (inv_asleep I4) rv ru rs4 rp4 hF fun c d H' h' => hx c d σ3 H' ((LXS.of rs4 rp4 h').trans xA4)) fun _ s5 t5 r5 hg5 ⟨σ5, H5, I5, ⟨us5, G5, x5, rp5, rs5, q5⟩, _⟩ => ?_)
      have xA5 := xA4.trans x5
      refine wpAny_passesOwn hp (run_asleep hg5 su4 hxe (hb.run pins (asleep s5) σ5 H5 us5 G5 _ (inv_asleep (inv_rel r5 I5)) rs5 rp5 q5 fun c d σ' H' h' => hx c d σ' H' (h'.trans xA5)) fun f s6 t6 r6 hg6 q6 => ?_)
      have again : ∀ {σ6 : L2.St} {H6 : Hp}, Inv X pins σ6 H6 t6 → LS X.K H5 G5 (forU g tb (fun G => G F.p = some F.ob) (F.out.drop (F.out.length - n)) D) σ6 H6 → ∃ m, m < n + 1 ∧ ∃ σ' H' us' G' own L0 Gn gs, m ≤ F.out.length ∧ Inv X pins σ' H' s6 ∧ RelS X.K H' us' σ' ∧ Rep X.K H' G' ∧ Ext H1 G1 H' G' ∧ Con (F.at X X.A.in1) own L0 a ao Gn H' G' ∧ Yd (F.at X X.A.in1) own Gn ∧ s6.gens[gi]? = some gs ∧ Asl (F.at X X.A.in1) m gs own L0 Gn ∧
          (∀ q ∈ own, ∀ u, H1 q = some u → G1 q ≠ none) ∧ forU g tb (fun G => G F.p = some F.ob) (F.out.drop (F.out.length - m)) D us' G' := fun {σ6 H6} I6 ⟨us6, G6, x6, rp6, rs6, q6⟩ =>
        ⟨n, Nat.lt_succ_self n, σ6, H6, us6, G6, own4, L4, Gn4, gs4, Nat.le_of_succ_le hn, inv_rel r6 I6, rs6, rp6, x4.trans (x5.trans x6), co4.ext yd4 (x5.trans x6) (forU_chk q6), yd4, hg6, as4, nO4, q6⟩
      cases f with
      | next => obtain ⟨σ6, H6, I6, q⟩ := q6; exact again I6 q
      | cont => obtain ⟨σ6, H6, I6, q⟩ := q6; exact again I6 q
      | brk => obtain ⟨σ6, H6, I6, q⟩ := q6; exact ⟨σ6, H6, inv_rel r6 I6, q.trans xA5⟩
      | ret v => obtain ⟨x6, σ6, H6, I6, rv6, q⟩ := q6; exact ⟨x6, σ6, H6, inv_rel r6 I6, rv6, q.trans xA5⟩
end UL
set_option maxHeartbeats 4000000
namespace UL
open PySem PySem.Spec PyProof.Rows L2 GenS GenW
theorem lcU_chk {tg : UTG} {tt : UTT} {te : UTE} {chk : Gp → Prop} {us : USt} {Q : List U → Gp → Prop} {G : Gp} {acc : List U} : ∀ {xs : List U}, lcU tg tt te chk us Q xs acc G → chk G
  | [], h => h.1
  | _ :: _, h => h.1
theorem relUs_kp {K : PySem.W.Frag} {H H' : Hp} (hT : ∀ a xs, SqT K H a xs → SqT K H' a xs) (hR : ∀ a xs, RoL K H a xs → RoL K H' a xs) (hX : ∀ d gs, H d = some (.xd gs) → H' d = some (.xd gs)) {us : List U} {vs : List V} (h : RelUs K H us vs) : RelUs K H' us vs := h.mono hT hR hX
theorem run_asleepF {α : Type} {s : Shared} {M : Model} {A : Around} {tm : Sem α} {Q Q' : α → Shared → Prop} {E : Value → Shared → Prop} {i : Nat} {x : GenState} (hg : s.gens[i]? = some x) (hx : isSus x) (h : wpAny M A tm Q (fun _ _ => False) (asleep s))
    (hQ : ∀ a s1 t1, Rel (slp s) s1 t1 → s1.gens[i]? = some x → Q a t1 → Q' a s1) : wpAny M A tm Q' E s := thnF (run_asleep hg hx xeG_none h hQ) fun _ _ q => q
theorem eu_lcG {X : Cx} {W : WX} {k : Nat} {elt tg iter : Expr} {ifs : List Expr} {scope : Scope} {own : List (Str × Nat)} {pos : Pos} {ti : UTI} {g : UTG} {tt : UTT} {te : UTE} {sl : List Nat} (hr : RoomU (k + 1) X.A) (hN : X.N.Nodup) (hi : IGn X W k iter ti) (ok : BlkOk X.N X.env.scope scope own) (hsl : ∀ i ∈ sl, i ∈ own.map (·.2))
    (hg : ∀ (s : Shared) (H : Hp) (C : Addr) (cl : List (Str × Addr)) (fp : List Addr), GU (X.blk s H scope (compEnvC scope cl C X.env) fp) W0 tg g sl) (ht : ∀ (s : Shared) (H : Hp) (C : Addr) (cl : List (Str × Addr)) (fp : List Addr), FsU (X.blk s H scope (compEnvC scope cl C X.env) fp) W0 ifs tt)
    (he : ∀ (s : Shared) (H : Hp) (C : Addr) (cl : List (Str × Addr)) (fp : List Addr), EU (X.blk s H scope (compEnvC scope cl C X.env) fp) W0 elt te) (hs : ∀ x, foldedSetIterable iter X.env x = pure x) :
    EU X W (.ListComp elt [⟨tg, iter, ifs, 0⟩] scope pos) (tULc ti g tt te (own.map (·.2))) := by
  refine ⟨fun pins s σ H us G Q E I rs rp h hx => ?_⟩
  rw [eval_ListComp]
  have hfree : ∀ y ∈ scope.names, y.2 = .free → ∃ c, X.env.cells.lookup y.1 = some c := fun y hy e => by
    rcases ok.free y hy e with q | q
    · exact I.ok.has _ (.inl q)
    · exact I.ok.has _ (.inr q)
  refine wpAny_comprehension_free (use := none) rfl hs (closure_ok hfree) ok.kind (fun y hy e => by rw [ok.uniq y hy, e]) (thn (hi.run pins s σ H us G _ _ I rs rp h hx) fun u s1 ⟨F, a, gi, c, L0, ao, Gn, H1, G1, H2, e, m⟩ => ?_)
  subst e
  obtain ⟨okg, as⟩ := m.run X.A.in1 hr.in1 m.I.ok.frames
  obtain ⟨c0, fs0, hob⟩ := m.ob
  have hd : X.A.depth < recursionLimit := by have := hr.rm.dp; omega
  have nL : ∀ u, H1 F.L = some u → False := fun u e => (m.new _ u e).2 rfl
  have x12 : Ext H1 G1 H2 G1 := fun b v e n => ⟨(m.new b v e).1, n⟩
  refine wpAny_pyIter_gen (m.go.at (exact_at (m.I.hok _ _ (m.con X.A).ge))) ?_
  refine wpAny_newObj_type (newEnv_comp ?_) (by show 0 ≤ sizeLine; decide)
  generalize eD : s1.heap.objs.size = D
  have nD : H2 D = none := m.I.hok.fresh (Nat.le_of_eq eD)
  generalize es3 : ({ s1 with heap := s1.heap.push { cls := .type "list", data := .seq ([] : List Value).toArray } } : Shared) = s3
  have h3 : s3.heap = s1.heap.push { cls := .type "list", data := .seq ([] : List Value).toArray } := by rw [← es3]
  have g3 : s3.gens = s1.gens := by rw [← es3]
  have I3 : Inv X pins σ (upd H2 D (.lst [])) s3 := by
    rw [← es3]
    refine m.I.laid (t' := s1.toks) (fun b o e => Heap.get?_push_of_some _ e) (Nat.le_of_eq eD) ⟨Nat.zero_le _, [], 0, .nil, ?_⟩
    rw [← eD]
    exact Heap.get?_push_size _ rfl
  obtain ⟨rp3, xD⟩ := m.rp2.laid0 (u := .lst []) nD
  have gD : G1 D = none := m.rp2.fresh nD
  have con3 : Con (F.at X X.A.in1) [] L0 a ao Gn (upd H2 D (.lst [])) G1 := (m.con _).ext (m.yd _) xD (m.con X.A).self
  have I4 := block_start (fp := []) I3 ok hN fun b hb => by cases hb
  have pg := hg s3 (upd H2 D (.lst [])) s3.heap.objs.size (cellsFrom (s3.heap.objs.size + 1) scope.names (cloFrom X.env.cells scope.names [])) []
  have pt := ht s3 (upd H2 D (.lst [])) s3.heap.objs.size (cellsFrom (s3.heap.objs.size + 1) scope.names (cloFrom X.env.cells scope.names [])) []
  have pe := he s3 (upd H2 D (.lst [])) s3.heap.objs.size (cellsFrom (s3.heap.objs.size + 1) scope.names (cloFrom X.env.cells scope.names [])) []
  show codeAny _ _ (.compStart (.ListComp elt [⟨tg, iter, ifs, 0⟩] scope pos) 0 (.ref a) (.ref D) (compEnvC scope (cellsFrom (s3.heap.objs.size + 1) scope.names (cloFrom X.env.cells scope.names [])) s3.heap.objs.size X.env)) (compPost (model X.prog X.w) X.A X.xe none _ (.ref D) s3.heap.objs.size) { s3 with heap := pushCells (s3.heap.push { cls := .type "dict", data := .dict #[] }) scope.names }
  generalize ece : compEnvC scope (cellsFrom (s3.heap.objs.size + 1) scope.names (cloFrom X.env.cells scope.names [])) s3.heap.objs.size X.env = ce at I4 pg pt pe ⊢
  have cL : ce.locals = s3.heap.objs.size := by subst ece; rfl
  generalize es4 : ({ s3 with heap := pushCells (s3.heap.push { cls := .type "dict", data := .dict #[] }) scope.names } : Shared) = s4 at I4 ⊢
  have g4 : s4.gens[gi]? = some (.fresh c) := by
    rw [← es4]
    show s3.gens[gi]? = _
    rw [g3]
    exact m.gen
  generalize eH3 : upd H2 D (.lst []) = H3 at I3 I4 pg pt pe rp3 xD con3
  have hD3 : H3 D = some (.lst []) := by rw [← eH3]; exact upd_same
  have x13 : Ext H1 G1 H3 G1 := x12.trans xD
  generalize eB : X.blk s3 H3 scope ce [] = B at I4 pg pt pe
  have ge4 : s4.heap.get? a = some ao := exact_at (I4.hok a _ con3.ge)
  have loop : codeAny (model X.prog X.w) X.A (.compLoop (.ListComp elt [⟨tg, iter, ifs, 0⟩] scope pos) 0 (.ref a) (.ref D) ce) (compPost (model X.prog X.w) X.A X.xe none (EP X pins σ (LV X.K H G Q)) (.ref D) s3.heap.objs.size) s4 := by
    subst eB
    refine compLoop_any (fun n s' => ∃ H' G' acc accv own' L3 Gn3 gs, n ≤ F.out.length ∧ Inv (X.blk s3 H3 scope ce []) [] (L2.wipe σ (own.map (·.2))) H' s' ∧ Rep X.K H' G' ∧ Ext H1 G1 H' G' ∧ Con (F.at X X.A.in1) own' L3 a ao Gn3 H' G' ∧ Yd (F.at X X.A.in1) own' Gn3 ∧ s'.gens[gi]? = some gs ∧ Asl (F.at X X.A.in1) n gs own' L3 Gn3 ∧
      (∀ q ∈ own', ∀ u, H1 q = some u → G1 q ≠ none) ∧ D ∉ own' ∧ G' D = none ∧ H' D = some (.lst accv) ∧ RelUs X.K H' acc accv ∧ lcU g tt te (fun G => G F.p = some F.ob) (uwipe us (own.map (·.2))) (fun acc G2 => ∀ p, G2 p = none → Q (.ref p) (gup G2 p (.lst acc))) (F.out.drop (F.out.length - n)) acc G') ?_ F.out.length
      ⟨H3, G1, [], [], [], L0, Gn, _, Nat.le_refl _, I4, rp3, x13, con3, m.yd _, g4, as, fun q hq => (by cases hq), fun hq => (by cases hq), gD, hD3, rfl, by rw [Nat.sub_self]; exact m.q⟩
    rintro n s5 ⟨H5, G5, acc, accv, own5, L5, Gn5, gs, hn, I5, rp5, x5, co, yd, hgs, as5, nO, nDo, gD5, hD5, ra, hF⟩
    have nx := next_c (X := X.blk s3 H3 scope ce []) (B := X.A) (E := notedBy (model X.prog X.w) X.A ce fun e s' => compPost (model X.prog X.w) X.A X.xe none (EP X pins σ (LV X.K H G Q)) (.ref D) s3.heap.objs.size (.error e) s') hr.rm.hd hd okg hob m.fo I5 rp5 co yd m.go hgs as5
    refine thn nx fun r s6 h6 => ?_
    have dL : D ≠ F.L := fun h => by
      have fr : H5 F.L = some (exact_ F.L L5) := co.fr
      rw [← h, hD5] at fr
      cases fr
    cases n with
    | zero =>
      cases r with
      | some v => exact h6.elim
      | none =>
        obtain ⟨H6, I6, rp6, kp⟩ := h6
        obtain ⟨hT, hR, hX⟩ := kp_up co rp5 kp
        rw [Nat.sub_zero, List.drop_length] at hF
        have x6 := ext_kp x5 kp nL nO
        have hD6 : H6 D = some (.lst accv) := kp D _ hD5 gD5 dL nDo
        have ra6 := relUs_kp hT hR hX ra
        have I7 : Inv X pins σ H6 s6 := I3.call' (ch := []) I6.os I6.base I6.hok I6.bare fun b hb => (by cases hb)
        have nC : H6 s3.heap.objs.size = none := by
          have z : H6 ce.locals = none := I6.free
          rw [cL] at z
          exact z
        obtain ⟨mm, hm, _⟩ := I6.loc
        have hm : s6.heap.Ns ce.locals mm := hm
        rw [cL] at hm
        obtain ⟨f0, f1, f2, f3, f4, f5⟩ := I3.fpOk (Nat.le_refl _) nC
        have xx := m.ex.trans x6
        have rpS : Rep X.K H6 (gup G5 D (.lst acc)) := fun b o e => by
          by_cases hb : b = D
          · subst hb
            rw [gup_same] at e
            cases e
            exact ⟨accv, hD6, ra6⟩
          · rw [gup_ne hb] at e
            exact rp6 b o e
        have nHD : ∀ u, H D = some u → G D = none → False := fun u e n => by
          have q := (m.ex D u e n).1
          have q2 := (m.new D u q).1
          rw [nD] at q2
          cases q2
        refine ⟨mm, hm, fun h'' sb => ⟨.ref D, H6, I7.turned (t' := s6.toks) (fun b o hb e => (sb.2 b hb).trans e) f0 f1 f3 f4 f5, rfl, .ref D, gup G5 D (.lst acc), fun b o e n => ?_, rpS, rfl, hF.2 D gD5⟩⟩
        obtain ⟨z1, z2⟩ := xx b o e n
        refine ⟨z1, ?_⟩
        rw [gup_ne fun hb => by subst hb; exact nHD _ e n]
        exact z2
    | succ n =>
      cases r with
      | none => exact h6.elim
      | some v =>
        obtain ⟨H6, x, w, own6, L6, Gn6, gs6, I6, rp6, kp, rv, ru, ew, co6, yd6, su6, hg6, as6, no6⟩ := h6
        obtain ⟨hT, hR, hX⟩ := kp_up co rp5 kp
        have x6 := ext_kp x5 kp nL nO
        have nO6 : ∀ q ∈ own6, ∀ u, H1 q = some u → G1 q ≠ none := fun q hq u e => by
          rcases no6 q hq with z | z
          · exact nO q z u e
          · intro n0
            rw [(x5 q u e n0).1] at z
            cases z
        have nD6 : D ∉ own6 := fun hq => by
          rcases no6 D hq with z | z
          · exact nDo z
          · rw [hD5] at z; cases z
        rw [drop_left hn ew] at hF
        obtain ⟨hchk, hF⟩ := hF
        have hD6 : H6 D = some (.lst accv) := kp D _ hD5 gD5 dL nDo
        have ra6 := relUs_kp hT hR hX ra
        have rs1 : RelS X.K H1 (uwipe us (own.map (·.2))) (L2.wipe σ (own.map (·.2))) := (rs.ext m.ex rp).wipe _
        have rs6 : RelS X.K H6 (uwipe us (own.map (·.2))) (L2.wipe σ (own.map (·.2))) := rs1.ext x6 m.rp1
        have hge := exact_at (I6.hok _ _ co6.ge)
        obtain ⟨hcls, ⟨n1, n2, hdat⟩, _⟩ := id m.go
        refine go_of hge hcls hdat (by decide) ?_
        have run1 := pg.run [] (asleep s6) _ H6 x v w _ _ _ _ (inv_asleep I6) rv ru rs6 rp6 hF fun c d H' h' => (lx_false h').elim
        refine run_asleepF hg6 su6 run1 fun _ s7 t7 r7 hg7 ⟨σ7, H7, I7, ⟨us7, G7, x7, rp7, rs7, q7⟩, o7⟩ => ?_
        have hw7 : L2.wipe σ7 (own.map (·.2)) = L2.wipe σ (own.map (·.2)) := by rw [o7.wipe hsl, wipe_wipe]
        have run2 := pt.run [] (asleep s7) σ7 H7 us7 G7 _ _ (inv_asleep (inv_rel r7 I7)) rs7 rp7 q7 fun c d H' h' => (lx_false h').elim
        refine run_asleepF hg7 su6 run2 fun b s8 t8 r8 hg8 ⟨H8, I8, G8, x8, rp8, q8⟩ => ?_
        have x68 := x7.trans x8
        -- the turn's end
        have fin : ∀ {s' : Shared} {σ' : L2.St} {H' : Hp} {G' : Gp} {acc' : List U} {accv' : List V}, Inv (X.blk s3 H3 scope ce []) [] σ' H' s' → L2.wipe σ' (own.map (·.2)) = L2.wipe σ (own.map (·.2)) → s'.gens[gi]? = some gs6 → Rep X.K H' G' → Con (F.at X X.A.in1) own6 L6 a ao Gn6 H' G' → Ext H1 G1 H' G' → G' D = none → H' D = some (.lst accv') → RelUs X.K H' acc' accv' →
            lcU g tt te (fun G => G F.p = some F.ob) (uwipe us (own.map (·.2))) (fun acc G2 => ∀ p, G2 p = none → Q (.ref p) (gup G2 p (.lst acc))) (F.out.drop (F.out.length - n)) acc' G' → ∃ m, m < n + 1 ∧ ∃ H' G' acc accv own' L3 Gn3 gs, m ≤ F.out.length ∧ Inv (X.blk s3 H3 scope ce []) [] (L2.wipe σ (own.map (·.2))) H' s' ∧ Rep X.K H' G' ∧ Ext H1 G1 H' G' ∧ Con (F.at X X.A.in1) own' L3 a ao Gn3 H' G' ∧ Yd (F.at X X.A.in1) own' Gn3 ∧ s'.gens[gi]? = some gs ∧ Asl (F.at X X.A.in1) m gs own' L3 Gn3 ∧
              (∀ q ∈ own', ∀ u, H1 q = some u → G1 q ≠ none) ∧ D ∉ own' ∧ G' D = none ∧ H' D = some (.lst accv) ∧ RelUs X.K H' acc accv ∧ lcU g tt te (fun G => G F.p = some F.ob) (uwipe us (own.map (·.2))) (fun acc G2 => ∀ p, G2 p = none → Q (.ref p) (gup G2 p (.lst acc))) (F.out.drop (F.out.length - m)) acc G' := fun {s' σ' H' G' acc' accv'} J hw hg' rp' co' x' gD' hD' ra' q' => by
          have hl : (L2.wipe σ (own.map (·.2))).length = σ'.length := by rw [← hw, wipe_length]
          refine ⟨n, Nat.lt_succ_self n, H', G', acc', accv', own6, L6, Gn6, gs6, Nat.le_of_succ_le hn, J.weak hl (fun j v e => ?_), rp', x', co', yd6, hg', as6, nO6, nD6, gD', hD', ra', q'⟩
          rw [← hw] at e
          exact (wipe_some e).1
        have hD8 := x68 D _ hD6 gD5
        have ra8 : RelUs X.K H8 acc accv := ra6.ext x68 rp6
        cases b with
        | false => exact fin (inv_rel r8 I8) hw7 hg8 rp8 (co6.ext yd6 x68 (lcU_chk q8)) (x6.trans x68) hD8.2 hD8.1 ra8 q8
        | true =>
          have run3 := pe.run [] (asleep s8) σ7 H8 us7 G8 _ _ (inv_asleep (inv_rel r8 I8)) (rs7.ext x8 rp7) rp8 q8 fun c d H' h' => (lx_false h').elim
          refine run_asleepF hg8 su6 run3 fun y s9 t9 r9 hg9 ⟨yv, H9, I9, r9v, yu, G9, x9, rp9, ry, hz, q9⟩ => ?_
          have x69 := x68.trans x9
          have hD9 := x69 D _ hD6 gD5
          have ra9 : RelUs X.K H9 acc accv := ra6.ext x69 rp6
          refine run_asleepF hg9 su6 (app_ok (X := X.blk s3 H3 scope ce []) (Q := fun _ s' => Inv (X.blk s3 H3 scope ce []) [] σ7 (upd H9 D (.lst (accv ++ [yv]))) s') (inv_asleep (inv_rel r9 I9)) hD9.1 (by rw [ra.length]; exact lim_lt hz) r9v fun s' J => J) fun _ s10 t10 r10 hg10 I10 => ?_
          obtain ⟨hT9, hR9, hX9⟩ := own_upd (K := X.K) (ys := accv ++ [yv]) hD9.1
          have grow : ∀ b u, H9 b = some u → b ≠ D → upd H9 D (.lst (accv ++ [yv])) b = some u := fun b u e n => by rw [upd_ne n]; exact e
          have co9 := co6.ext yd6 x69 (lcU_chk q9)
          have coU : Con (F.at X X.A.in1) own6 L6 a ao Gn6 (upd H9 D (.lst (accv ++ [yv]))) G9 := by
            refine ⟨grow _ _ co9.fr (Ne.symm dL), grow _ _ co9.ge fun h => ?_, co9.aL, co9.frG, co9.geG, co9.self, fun q hq => ?_⟩
            · have ge := co9.ge
              rw [h, hD9.1] at ge
              cases ge
            · obtain ⟨z1, us', vs', z2, z3, z4⟩ := co9.own q hq
              exact ⟨z1, us', vs', z2, grow _ _ z3 (fun h => nD6 (h ▸ hq)), z4.mono hT9 hR9 hX9⟩
          refine fin (inv_rel r10 I10) hw7 hg10 (rp9.own hD9.1 hD9.2) coU (fun b u e n => ?_) hD9.2 upd_same ((ra9.append (.one ry)).mono hT9 hR9 hX9) q9
          obtain ⟨z1, z2⟩ := (x6.trans x69) b u e n
          refine ⟨grow b u z1 fun h => ?_, z2⟩
          have q2 := (m.new b u e).1
          rw [h, nD] at q2
          cases q2
  exact codeAny_compStart_list loop (wpAny_pyIter_gen (m.go.at ge4) loop)
end UL
set_option maxHeartbeats 4000000
namespace UL
open PySem PySem.Spec PyProof.Rows L2 GenS GenW
section
variable {X : Cx} {Z : Gf} {pins : List (Addr × Obj)} {σ : L2.St} {H1 : Hp} {G1 : Gp} {a : Addr} {gi : Nat} {ao : Obj} {c0 : String} {fs0 : List (String × U)}
theorem drainG {A : Around} {R : Result → Shared → Prop} {S : Addr} {res : Value} (hh : A.handled = none) (hd : A.depth < recursionLimit) (ok : GOk (Z.at X A.in1.in1)) (hob : Z.ob = .ins c0 fs0) (fo : flatO Z.ob = true) (go : IsGO ao gi) (nL : ∀ u, H1 Z.L = some u → False) (nS : ∀ u, H1 S = some u → False) (hlen : Z.out.length < 1000000)
    (hend : ∀ s' H' accv, Inv X pins σ H' s' → Rep X.K H' G1 → Ext H1 G1 H' G1 → H' S = some (.lst accv) → RelUs X.K H' Z.out accv → R (.ok (.ret res)) s') :
    ∀ (n : Nat) (s : Shared) (H' : Hp) (accv : List V) (own : List Addr) (L3 : Obj) (Gn : Gp) (gs : GenState), n ≤ Z.out.length → Inv X pins σ H' s → Rep X.K H' G1 → Ext H1 G1 H' G1 → Con (Z.at X A.in1.in1) own L3 a ao Gn H' G1 → Yd (Z.at X A.in1.in1) own Gn → s.gens[gi]? = some gs → Asl (Z.at X A.in1.in1) n gs own L3 Gn →
      (∀ q ∈ own, ∀ u, H1 q = some u → G1 q ≠ none) → S ∉ own → G1 S = none → H' S = some (.lst accv) → RelUs X.K H' (Z.out.take (Z.out.length - n)) accv → codeAny (model X.prog X.w) A (.builtin "list.extend.loop" ⟨[.ref S, .ref a, res], []⟩) R s := by
  intro n
  induction n with
  | zero =>
    intro s H' accv own L3 Gn gs hn I rp x co yd hg as nO nSo gS hS ra
    refine codeAny_builtin PySem.F.entry_extend_loop ?_
    rw [Around.under_plainId PySem.F.plain_extend_loop _]
    show wpAny _ A.in1 (pyNext (.ref a) >>= _) _ _ s
    refine wpAny_bind (thn (next_c (B := A.in1) hh hd ok hob fo I rp co yd go hg as) fun r s4 h4 => ?_)
    cases r with
    | some v => exact h4.elim
    | none =>
      obtain ⟨H4, I4, rp4, kp⟩ := h4
      obtain ⟨hT, hR, hX⟩ := kp_up co rp kp
      have dL : S ≠ Z.L := fun h => by
        have fr : H' Z.L = some (exact_ Z.L L3) := co.fr
        rw [← h, hS] at fr
        cases fr
      rw [Nat.sub_zero, List.take_length] at ra
      exact wpAny_pure (hend s4 H4 accv I4 rp4 (ext_kp x kp nL nO) (kp S _ hS gS dL nSo) (relUs_kp hT hR hX ra))
  | succ n ih =>
    intro s H' accv own L3 Gn gs hn I rp x co yd hg as nO nSo gS hS ra
    refine codeAny_builtin PySem.F.entry_extend_loop ?_
    rw [Around.under_plainId PySem.F.plain_extend_loop _]
    show wpAny _ A.in1 (pyNext (.ref a) >>= _) _ _ s
    refine wpAny_bind (thn (next_c (B := A.in1) hh hd ok hob fo I rp co yd go hg as) fun r s4 h4 => ?_)
    cases r with
    | none => exact h4.elim
    | some v =>
      obtain ⟨H4, xv, w, own4, L4, Gn4, gs4, I4, rp4, kp, rv, ru, ew, co4, yd4, su4, hg4, as4, no4⟩ := h4
      obtain ⟨hT, hR, hX⟩ := kp_up co rp kp
      have dL : S ≠ Z.L := fun h => by
        have fr : H' Z.L = some (exact_ Z.L L3) := co.fr
        rw [← h, hS] at fr
        cases fr
      have hS4 := kp S _ hS gS dL nSo
      have x4 := ext_kp x kp nL nO
      have nS4 : S ∉ own4 := fun hq => by
        rcases no4 S hq with z | z
        · exact nSo z
        · rw [hS] at z; cases z
      have nO4 : ∀ q ∈ own4, ∀ u, H1 q = some u → G1 q ≠ none := fun q hq u e => by
        rcases no4 q hq with z | z
        · exact nO q z u e
        · intro n0
          rw [(x q u e n0).1] at z
          cases z
      have ra4 := relUs_kp hT hR hX ra
      obtain ⟨_, its, cc, ri, eS⟩ := I4.hok S _ hS4
      have hal : accv.length = Z.out.length - (n + 1) := by
        rw [ra4.length, List.length_take]
        omega
      have hil : its.length = accv.length := ri.length.symm
      have hlim : accv.length < sizeLine := lim_lt (by omega)
      refine wpAny_bind ?_
      refine wpAny_updateSeq eS rfl (wpAny_pure ⟨plainId_quiet PySem.F.plain_extend_loop _, ?_⟩) (by rw [List.size_toArray]; omega) (by show (its.toArray.push v).size ≤ sizeLine + 1; rw [Array.size_push, List.size_toArray]; omega)
      have Iw : Inv X pins σ (upd H4 S (.lst (accv ++ [xv]))) { s4 with heap := s4.heap.update S (Obj.mapSeq (·.push v)) } := by
        refine I4.write (t' := s4.toks) (by rw [hS4]; trivial) (.inl rfl) (fun b u hb q => (Heap.get?_update_other _ _ (Ne.symm hb)).trans q) ⟨_, Heap.get?_update_self _ eS rfl⟩ ⟨by rw [List.length_append, List.length_singleton]; omega, its ++ [v], cc + 1, ri.append (.cons rv .nil), ?_⟩
        rw [Heap.get?_update_self _ eS rfl]
        simp [Obj.mapSeq]
      obtain ⟨hT9, hR9, hX9⟩ := own_upd (K := X.K) (ys := accv ++ [xv]) hS4
      have grow : ∀ b u, H4 b = some u → b ≠ S → upd H4 S (.lst (accv ++ [xv])) b = some u := fun b u e n => by rw [upd_ne n]; exact e
      refine ih _ (upd H4 S (.lst (accv ++ [xv]))) (accv ++ [xv]) own4 L4 Gn4 gs4 (Nat.le_of_succ_le hn) Iw (rp4.own hS4 gS) (fun b u e n => ?_) ⟨grow _ _ co4.fr (Ne.symm dL), grow _ _ co4.ge fun h => ?_, co4.aL, co4.frG, co4.geG, co4.self, fun q hq => ?_⟩ yd4 hg4 as4 nO4 nS4 gS upd_same ?_
      · obtain ⟨z1, z2⟩ := x4 b u e n
        exact ⟨grow b u z1 fun h => nS u (h ▸ e), z2⟩
      · have ge := co4.ge
        rw [h, hS4] at ge
        cases ge
      · obtain ⟨z1, us', vs', z2, z3, z4⟩ := co4.own q hq
        exact ⟨z1, us', vs', z2, grow _ _ z3 (fun h => nS4 (h ▸ hq)), z4.mono hT9 hR9 hX9⟩
      · have et : Z.out.take (Z.out.length - n) = Z.out.take (Z.out.length - (n + 1)) ++ [w] := by
          have e1 : Z.out.length - n = (Z.out.length - (n + 1)) + 1 := by omega
          rw [e1, List.take_add_one, ew]
          rfl
        rw [et]
        exact (ra4.append (.one ru)).mono hT9 hR9 hX9
end
def tUListG (ti : UTI) : UTE := fun us G Q E => ti us G (fun chk items G1 => ∀ p, G1 p = none → Q (.ref p) (gup G1 p (.lst items))) E
theorem eu_listG {X : Cx} {W : WX} {k : Nat} {e : Expr} {ti : UTI} {nm : Str} {p pos : Pos} (h : IGn X W k e ti) (hr : RoomU (k + 3) X.A) (hg : Gl X nm) (hmg : X.mg nm = none) (hv : bootBuiltins nm = some (.type "list")) (hnm : nm ≠ "__name__") (hdb : (nm == ("__debug__" : Str)) = false)
    (he : starEach [e] X.env = (false, eval e X.env) :: starEach [] X.env) : EU X W (.Call (.Name nm p) [e] [] pos) (tUListG ti) := by
  refine ⟨fun pins s σ H us G Q E I rs rp hq hx => ?_⟩
  refine wpAny_Call_Name_kw (ld_blt I hg hmg hv ?_ hnm hdb)
  refine PyProof.Rows.callWith_type1 ?_ he rfl
  rw [he]
  show wpAny _ _ (spliced ((false, eval e X.env) :: backTo pos (starEach [] X.env))) _ _ s
  refine Calls.spliced_cons (thn (h.run pins s σ H us G _ _ I rs rp hq hx) fun u s1 ⟨Z, a, gi, c, L0, ao, Gn, H1, G1, H2, eu, m⟩ => ?_)
  subst eu
  refine Calls.spliced_nil ?_
  have hr1 : RoomU k X.A.in1.in1.in1 := RoomU.in1 (RoomU.in1 (RoomU.in1 hr))
  obtain ⟨ok, as⟩ := m.run X.A.in1.in1.in1 hr1 m.I.ok.frames
  obtain ⟨c0, fs0, hob⟩ := m.ob
  have hd : X.A.depth < recursionLimit := by have := hr.rm.dp; omega
  have hgen : s1.heap.IsGen a gi := m.go.at (exact_at (m.I.hok _ _ (m.con X.A).ge))
  have hal : a < s1.heap.objs.size := Heap.lt_size (exact_at (m.I.hok _ _ (m.con X.A).ge))
  generalize eS : s1.heap.objs.size = S at hal
  have hSa : S ≠ a := Nat.ne_of_gt hal
  have nS : H2 S = none := m.I.hok.fresh (Nat.le_of_eq eS)
  have new : ∀ b o, s1.heap.get? b = some o → b ≠ S := fun b o e => by
    rw [← eS]
    exact Nat.ne_of_lt (Heap.lt_size e)
  refine callType_codes (Q₁ := fun obj s2 => obj = .ref S ∧ s2 = { s1 with heap := s1.heap.push { cls := .type "list", data := .seq #[] } }) PySem.F.called_list (PySem.F.typeCall_list_1 _) PySem.F.entry_list_init (code_list_new _ ⟨by rw [eS], rfl⟩) fun obj s2 h2 => ?_
  obtain ⟨rfl, rfl⟩ := h2
  have h0 : (s1.heap.push { cls := .type "list", data := .seq #[] }).get? S = some { cls := .type "list", data := .seq #[] } := by
    rw [← eS]
    exact Heap.get?_push_size _ rfl
  refine ⟨⟨_, h0, rfl⟩, PySem.F.args_list_init_2 _ _, ?_⟩
  show wpAny _ X.A.in1.in1 (do let old ← Builtin.List.listItems (.ref S); Builtin.List.listUpdate (.ref S) (fun _ => #[]); letGo old.toList.reverse; Builtin.List.listExtendWith (.ref S) (.ref a) .none) _ _ _
  apply wpAny_bind
  unfold Builtin.List.listItems
  refine wpAny_bind (wpAny_seqItems h0 rfl (wpAny_pure ?_))
  show wpAny _ X.A.in1.in1 (updateSeq S (fun _ => #[]) >>= fun _ => letGo (#[] : Array Value).toList.reverse >>= fun _ => Builtin.List.listExtendWith (.ref S) (.ref a) .none) _ _ _
  refine wpAny_bind (wpAny_updateSeq h0 rfl ?_)
  have hB := Heap.get?_update_self (Obj.mapSeq (fun _ => (#[] : Array Value))) h0 rfl
  refine wpAny_bind (wpAny_letGo ?_)
  unfold Builtin.List.listExtendWith
  have up : ∀ (h : Heap) (f : Obj → Obj), (∀ b o, s1.heap.get? b = some o → h.get? b = some o) → ∀ b o, s1.heap.get? b = some o → (h.update S f).get? b = some o := fun h f q b o e => (Heap.get?_update_other _ _ (Ne.symm (new b o e))).trans (q b o e)
  have k1 : ∀ b o, s1.heap.get? b = some o → (s1.heap.push { cls := .type "list", data := .seq #[] }).get? b = some o := fun b o e => Heap.get?_push_of_some _ e
  have k2 := up _ (Obj.mapSeq (fun _ => (#[] : Array Value))) k1
  refine wpAny_bind (wpAny_typeOf (Heap.IsGen.typeIs (s := { s1 with heap := _ }) (hgen.keeps k2)) ?_)
  have d1 : Builtin.List.listSameRef (.ref S) (.ref a) = false := by simp [Builtin.List.listSameRef, hSa]
  have d2 : (Value.type "generator" == Value.type "list") = false := by decide
  have d3 : (Value.type "generator" == Value.type "tuple") = false := by decide
  simp only [d1, d2, d3, Bool.or_false, Bool.false_eq_true, if_false]
  refine wpAny_bind (wpAny_pyIter_gen (s := { s1 with heap := _ }) (hgen.keeps k2) ?_)
  refine wpAny_bind (wpAny_holding ?_)
  unfold Builtin.List.listLengthHint
  refine wpAny_bind (wpAny_specialOf (Heap.IsGen.typeIs (s := { s1 with heap := _ }) (hgen.keeps k2)) PySem.F.gen_no_len ?_)
  show wpAny _ X.A.in1.in1 (specialOf (Value.ref a) (Str.ofString "__length_hint__") >>= _) _ _ _
  refine wpAny_bind (wpAny_specialOf (Heap.IsGen.typeIs (s := { s1 with heap := _ }) (hgen.keeps k2)) PySem.F.gen_no_hint ?_)
  apply wpAny_pure
  show wpAny _ X.A.in1.in1 (rule "list.extend.makes-room" >>= fun _ => Builtin.List.listTouch (.ref S) >>= fun _ => again (.builtin "list.extend.loop" ⟨[.ref S, .ref a, .none], []⟩)) _ _ _
  refine wpAny_bind (wpAny_rule ?_)
  apply wpAny_bind
  show wpAny _ X.A.in1.in1 (updateSeq S (·.push .none) >>= fun _ => updateSeq S (·.pop)) _ _ _
  refine wpAny_bind (wpAny_updateSeq hB rfl ?_)
  have hC := Heap.get?_update_self (Obj.mapSeq (·.push Value.none)) hB rfl
  refine wpAny_updateSeq (hz := by seq_fits) hC rfl ?_
  have hD := Heap.get?_update_self (Obj.mapSeq (·.pop)) hC rfl
  have k4 := up _ (Obj.mapSeq (·.pop)) (up _ (Obj.mapSeq (·.push Value.none)) k2)
  refine wpAny_pure ⟨plainId_quiet PySem.F.plain_extend_loop _, ?_⟩
  generalize ((((s1.heap.push { cls := .type "list", data := .seq #[] }).update S (Obj.mapSeq fun _ => (#[] : Array Value))).update S (Obj.mapSeq fun x => x.push Value.none)).update S (Obj.mapSeq fun x => x.pop)) = h4 at hD k4 ⊢
  have I4 : Inv X pins σ (upd H2 S (.lst [])) { s1 with heap := h4 } := m.I.laid (t' := s1.toks) k4 (Nat.le_of_eq eS) ⟨Nat.zero_le _, [], _, .nil, hD⟩
  obtain ⟨rp4, xS⟩ := m.rp2.laid0 (u := .lst []) nS
  have gS : G1 S = none := m.rp2.fresh nS
  have nL : ∀ u, H1 Z.L = some u → False := fun u e => (m.new _ u e).2 rfl
  have n1 : ∀ u, H1 S = some u → False := fun u e => by
    have q := (m.new _ u e).1
    rw [nS] at q
    cases q
  have x12 : Ext H1 G1 H2 G1 := fun b v e n => ⟨(m.new b v e).1, n⟩
  refine drainG (A := X.A.in1) hr.rm.hd hd ok hob m.fo m.go nL n1 m.len (fun s' H' accv J rp' x' hS' ra' => ⟨rfl, ?_⟩) Z.out.length _ (upd H2 S (.lst [])) [] [] L0 Gn _ (Nat.le_refl _) I4 rp4 (x12.trans xS) ((m.con _).ext (m.yd _) xS (m.con X.A).self) (m.yd _) m.gen as (fun q hq => (by cases hq)) (fun hq => (by cases hq)) gS upd_same (by rw [Nat.sub_self]; rfl)
  refine ⟨.ref S, H', J, rfl, .ref S, gup G1 S (.lst Z.out), fun b o e n => ?_, fun b o e => ?_, rfl, m.q S gS⟩
  · obtain ⟨z1, z2⟩ := (m.ex.trans x') b o e n
    refine ⟨z1, ?_⟩
    rw [gup_ne fun hb => by subst hb; exact n1 _ (m.ex b o e n).1]
    exact z2
  · by_cases hb : b = S
    · subst hb
      rw [gup_same] at e
      cases e
      exact ⟨accv, hS', ra'⟩
    · rw [gup_ne hb] at e
      exact rp' b o e
end UL
set_option maxHeartbeats 4000000
namespace UL
open PySem PySem.Spec PyProof.Rows L2 GenS GenW
def only (p : Addr) (ob : Ob) : Gp := fun b => if b = p then some ob else none
theorem yd_only {g : Gx} : Yd g [] (only g.p g.ob) := by
  refine ⟨if_pos rfl, fun b o e => ?_, fun b hb => by cases hb⟩
  unfold only at e
  split at e
  · exact .inl (by assumption)
  · cases e
/-- behind the last statement: nothing is left to be handed out; self and the lists are known -/
def gEnd (p : Addr) (ob : Ob) : GEn := { nx := fun n own _ G => n = 0 ∧ G p = some ob ∧ ∀ q ∈ own, ∃ us, G q = some (.lst us), rt := fun n own G => n = 0 ∧ G p = some ob ∧ ∀ q ∈ own, ∃ us, G q = some (.lst us) }
theorem asl_start {g : Gx} {body : List Stmt} {t : UGS} {L0 : Obj} (ok : GOk g) (fo : flatO g.ob = true) (hb : GSs g body t) (lo : LocOk g L0 (L2.start g.N [.ref g.p])) (h : t (gEnd g.p g.ob) g.out.length [] (ustart g.N.length [.ref g.p]) (only g.p g.ob)) :
    Asl g g.out.length (.fresh (.func body g.env)) [] L0 (only g.p g.ob) := by
  intro z Ho k
  show Sg (model g.prog g.w) g.A _ (.func body g.env) ((model g.prog g.w).den (.func body g.env)) [] z
  apply sg_func
  intro j
  have fl : flatS (ustart g.N.length [.ref g.p]) = true := by
    unfold ustart flatS
    rw [List.all_append, Bool.and_eq_true]
    refine ⟨rfl, ?_⟩
    rw [List.all_eq_true]
    intro x hx
    rw [(List.mem_replicate.mp hx).2]
  have rs : RelS g.K Ho (ustart g.N.length [.ref g.p]) (L2.start g.N [.ref g.p]) := relS_start rfl ⟨_, _, rfl, rfl, rfl⟩
  have fo2 : ∀ b o, only g.p g.ob b = some o → flatO o = true := fun b o e => by
    unfold only at e
    split at e
    · cases e
      exact fo
    · cases e
  refine hb.run _ [] _ j id id _ z Ho _ [] z _ _ (gEnd g.p g.ob) ⟨over_func, rfl, rfl, rfl⟩ ?_ (wake ok lo fl rs fo2 k) h
  intro n z1 Ho1 Go1 own1 s1 f q
  have fin : ∀ {σ : L2.St} {H : Hp} {G : Gp}, Inv (g.cx (cutS g.L z1) Ho1) [] σ H s1 → Rep g.K H G → Ext (hwk g.L z1.heap Ho1) Go1 H G → (n = 0 ∧ G g.p = some g.ob ∧ ∀ q ∈ own1, ∃ us, G q = some (.lst us)) → Fi g n z1 Ho1 Go1 own1 (.ret (.ok (.ret .none))) s1 := fun {σ H G} I rp ex ⟨hn, h1, h2⟩ => by
    subst hn
    exact ⟨rfl, σ, H, G, I, rp, ex, h1, h2⟩
  cases f with
  | next =>
    obtain ⟨us, G, ⟨σ, H, I, _, rp, ex⟩, q⟩ := q
    exact sg_end (.ok (.ret .none)) (fin I rp ex q)
  | ret u =>
    obtain ⟨rfl, σ, H, G, ⟨I, rp, ex⟩, q⟩ := q
    exact sg_end (.ok (.ret .none)) (fin I rp ex q)
  | brk => obtain ⟨_, _, _, q⟩ := q; exact q.elim
  | cont => obtain ⟨_, _, _, q⟩ := q; exact q.elim

structure GMk (P : Program) (w : World) (K : PySem.W.Frag) (mg : Str → Option Value) (base : Heap) (outer : List Env) (k : Nat) (p : Addr) (ob : Ob) (out : List U) (s s' : Shared) (F : Gf) (a : Addr) (gi : Nat) (c : Code) (L0 ao : Obj) : Prop where
  os : s'.os = s.os
  bare : AllBare s'.gens
  keep : ∀ b o, s.heap.get? b = some o → s'.heap.get? b = some o
  pF : F.p = p
  obF : F.ob = ob
  outF : F.out = out
  hL : s.heap.objs.size ≤ F.L
  ha : s.heap.objs.size ≤ a
  ne : a ≠ F.L
  eL : s'.heap.get? F.L = some L0
  ea : s'.heap.get? a = some ao
  go : IsGO ao gi
  gen : s'.gens[gi]? = some (.fresh c)
  run : ∀ A, RoomU k A → A.frames = some outer → GOk ⟨P, w, K, mg, base, F.N, F.qual, F.scope, F.f, F.cd, A, outer, F.L, F.p, F.ob, F.out⟩ ∧ Asl ⟨P, w, K, mg, base, F.N, F.qual, F.scope, F.f, F.cd, A, outer, F.L, F.p, F.ob, F.out⟩ F.out.length (.fresh c) [] L0 (only p ob)
structure FnG (P : Program) (w : World) (K : PySem.W.Frag) (mg : Str → Option Value) (base : Heap) (k : Nat) (f : Addr) (fd : FuncData) (sp : Ob → List U → Prop) : Prop where
  run : ∀ (A : Around) (outer : List Env) (s : Shared) (H : Hp) (args : Args) (p : Addr) (ob : Ob) (out : List U), RoomU k A → Env0 P w K mg base A outer s H → BindsTo s fd args [("self", .ref p)] → flatO ob = true → sp ob out →
    codeAny (model P w) A (.call (.ref f) args) (fun r s' => ∃ F a gi c L0 ao, r = .ok (.ret (.ref a)) ∧ GMk P w K mg base outer k p ob out s s' F a gi c L0 ao) s
theorem no_cells {n : Nat} : ∀ {l : List (Str × NameKind)} {acc : List (Str × Addr)}, (l.all fun y => !(y.2 == .cell)) = true → cellsFrom n l acc = acc
  | [], _, _ => rfl
  | (x, k) :: l, acc, h => by
    rw [List.all_cons, Bool.and_eq_true, Bool.not_eq_true'] at h
    have hk : (k == NameKind.cell) = false := h.1
    unfold cellsFrom
    rw [hk]
    exact no_cells h.2
def noCell (sc : Scope) : Bool := (sc.names.all fun y => !(y.2 == .cell)) && sc.names.all fun y => !(y.2 == .free)
theorem noCell_loc {sc : Scope} (h : noCell sc = true) (x : Str) : sc.names.lookup x ≠ some .cell ∧ sc.names.lookup x ≠ some .free := by
  unfold noCell at h
  rw [Bool.and_eq_true, List.all_eq_true, List.all_eq_true] at h
  refine ⟨fun e => ?_, fun e => ?_⟩
  · have := h.1 _ (PySem.mem_of_lookup e)
    simp at this
  · have := h.2 _ (PySem.mem_of_lookup e)
    simp at this
theorem fnG_of {P : Program} {w : World} {K : PySem.W.Frag} {mg : Str → Option Value} {base : Heap} {k : Nat} {f : Addr} {fd : FuncData} {name qual : Str} {params : Arguments} {body : List Stmt} {scope : Scope} {dvs : List V} {kws : List (Str × V)} {N : List Str} {sp : Ob → List U → Prop} {t : Addr → Ob → List U → UGS}
    (F : FunD K name qual params body scope dvs kws f fd) (S : GScope N ["self"] scope) (nc : noCell scope = true)
    (hb : ∀ (cdv : Value) (A : Around) (outer : List Env) (L p : Addr) (ob : Ob) (out : List U), GOk ⟨P, w, K, mg, base, N, qual, scope, f, cdv, A, outer, L, p, ob, out⟩ → flatO ob = true → RoomU k (A.deeper (envOfC qual scope L f cdv)) →
      GSs ⟨P, w, K, mg, base, N, qual, scope, f, cdv, A, outer, L, p, ob, out⟩ body (t p ob out))
    (hsp : ∀ p ob out, sp ob out → t p ob out (gEnd p ob) out.length [] (ustart N.length [.ref p]) (only p ob)) : FnG P w K mg base (k + 1) f fd sp := by
  obtain ⟨oc, od, dV, kV, doc, pm, an, cdv, ct, osl, rfl, lk, hcd, _, _⟩ := F.ex
  refine ⟨fun A outer s H args p ob out hr e0 bt fo want => ?_⟩
  have KX : K.In s.heap := e0.mod.kin.keeps fun b o e => (e0.bs b o e).1
  have lim : s.heap.NoLimit := e0.mod.nolimit.keeps fun b o e => (e0.bs b o e).1
  have hself : scope.names.lookup ("self" : Str) = some .local := by
    rcases S.par "self" (by simp) with q | q
    · exact q
    · exact absurd q (noCell_loc nc _).1
  refine codeAny_call_generator hr.rm.depth (KX _ _ lk) rfl S.co S.gen rfl (PySem.W.codeRec_of KX hcd) (bt _ _ _ _ ?_)
  refine wpAny_newFunctionEnv_cells S.kind (fun y hy => .inl ?_) fun env he s1 x => ?_
  · rw [List.mem_singleton.mp hy]
    exact hself
  subst he
  have lim1 : s1.heap.NoLimit := lim.keeps x.toInCall.keep
  refine ⟨lim1, ?_⟩
  obtain ⟨h1, tk, es1, hk1⟩ := x.done
  have os1 : s1.os = s.os := by rw [es1]
  have gen1 : s1.gens = s.gens := by rw [es1]
  have lt1 : s.heap.objs.size < s1.heap.objs.size := x.toInCall.ns.lt
  have bl : AllBare s1.gens := by rw [gen1]; exact e0.bare
  obtain ⟨L0, es, ep, hL0, hns⟩ := x.toInCall.ns
  have hc0 : (envOfC qual scope s.heap.objs.size f cdv).cells = [] := no_cells (Bool.and_eq_true _ _ ▸ nc : _ ∧ _).1
  have lo : ∀ A', LocOk ⟨P, w, K, mg, base, N, qual, scope, f, cdv, A', outer, s.heap.objs.size, p, ob, out⟩ L0 (L2.start N [.ref p]) := fun A' => by
    have hpl : 1 ≤ N.length := by have := congrArg List.length S.pre; rw [List.length_take] at this; simp at this; omega
    refine ⟨?_, _, fun h e => ⟨L0, es, ep, e, hns⟩, fun i y v h1 h2 h3 => ?_⟩
    · unfold L2.start
      show _ = N.length
      rw [List.length_append, List.length_map, List.length_replicate]
      simp
      omega
    · have hi : i = 0 := by
        unfold L2.start at h2
        cases i with
        | zero => rfl
        | succ i =>
          rw [List.getElem?_append_right (by simp)] at h2
          rw [List.getElem?_replicate] at h2
          split at h2 <;> cases h2
      subst hi
      have hv : v = .ref p := by
        have : (L2.start N [V.ref p])[0]? = some (some (V.ref p)) := rfl
        rw [this] at h2
        cases h2
        rfl
      have hy : y = "self" := by
        have h0 : N[0]? = some y := h1
        have q : (N.take 1)[0]? = some y := by rw [List.getElem?_take_of_lt (by omega)]; exact h0
        have pre : N.take 1 = [("self" : Str)] := S.pre
        rw [pre] at q
        exact (Option.some.inj q).symm
      subst hv hy
      refine ⟨Value.ref p, rfl, hself, ?_⟩
      exact bindL_get (P := [("self" : Str)]) (vs := [Value.ref p]) (i := 0) (by simp) rfl rfl hself
  have main : ∀ (go : Obj) (nm qn : Value) (tk2 : Nat), go.cls = .type "generator" → go.data = .fields #[.int s1.gens.size 0, nm, qn] → go.slots = #[] → (∀ h : Heap, (h.push go).get? h.objs.size = some go) →
      ∃ F a gi c L0 ao, (Except.ok (Flow.ret (.ref s1.heap.objs.size)) : Result) = .ok (.ret (.ref a)) ∧ GMk P w K mg base outer (k + 1) p ob out s { s1 with gens := s1.gens.push (.fresh (.func body (envOfC qual scope s.heap.objs.size f cdv))), toks := tk2, heap := s1.heap.push go } F a gi c L0 ao := by
    intro go nm qn tk2 g1 g2 g3 g4
    refine ⟨⟨N, qual, scope, f, cdv, s.heap.objs.size, p, ob, out⟩, s1.heap.objs.size, s1.gens.size, _, L0, go, rfl, os1, AllBare.push bl rfl, fun b o e => Heap.get?_push_of_some _ (x.toInCall.keep b o e), rfl, rfl, rfl, Nat.le_refl _, Nat.le_of_lt lt1, Nat.ne_of_gt lt1,
      Heap.get?_push_of_some _ hL0, g4 _, ⟨g1, ⟨nm, qn, g2⟩, g3⟩, Array.getElem?_push_size .., fun Aw hrw hfr => ?_⟩
    have okg : GOk ⟨P, w, K, mg, base, N, qual, scope, f, cdv, Aw, outer, s.heap.objs.size, p, ob, out⟩ := by
      refine ⟨e0.mod, S.kind, S.co, hrw.rm.hd, hfr, e0.bsz, fun b hb => ?_, hc0, noCell_loc nc⟩
      obtain ⟨_, o, eo, _⟩ := e0.funs.mem hb
      exact Heap.lt_size eo
    exact ⟨okg, asl_start okg fo (hb cdv Aw outer _ p ob out okg fo (hrw.deeper _)) (lo Aw) (hsp p ob out want)⟩
  exact main _ _ _ _ rfl rfl rfl fun h => Heap.get?_push_size _ rfl
structure KnownG (P : Program) (w : World) (K : PySem.W.Frag) (mg : Str → Option Value) (base : Heap) (d : DD) (k : Nat) (sp : Ob → List U → Prop) : Prop where
  F : FnG P w K mg base k (d.at_ K) (fdOf K (d.at_ K)) sp
  D : FunD K d.name d.qual d.params d.body d.scope (d.dvs K) (d.kws K) (d.at_ K) (fdOf K (d.at_ K))
/-- o.m(), m a generator def -/
def tIGen (c m : String) (sp : Ob → List U → Prop) (to : UTE) : UTI := fun us G Q E => to us G (fun u G1 => ∃ a fs out, u = .ref a ∧ G1 a = some (.ins c fs) ∧ fget fs m = none ∧ (fs.all fun x => flatU x.2) = true ∧ sp (.ins c fs) out ∧ out.length < 1000000 ∧ Q (fun G => G a = some (.ins c fs)) out G1) E
theorem ign_meth {X : Cx} {W : WX} {k : Nat} {c m : String} {d : DD} {sp : Ob → List U → Prop} {o : Expr} {to : UTE} {pos apos : Pos} {pl : Sem Bool} (kn : KnownG X.prog X.w X.K X.mg X.base d k sp) (hr : RoomU k X.A) (cls : Cls X.K (He.ga X.K (S c))) (meth : Meth X.K (He.ga X.K (S c)) (S m) (d.at_ X.K)) (hP : Plain d.params)
    (hself : parN d.params ++ parK d.params = [("self" : Str)]) (e : planOf (parN d.params) (parK d.params) 1 [] d.dfl.length (d.kwd.map (·.1)) = some [.p 0]) (ho : EU X W o to)
    (ht : eval (.Call (.Attribute o (S m) apos) [] [] pos) X.env = (do
      let ov ← eval o X.env
      standAt apos.atName
      let (f, first) ← holding [ov] (getMethod ov (S m) pl)
      callWith pos f first (backTo pos (starEach [] X.env)) (backToKw pos (keywordEach [] X.env)))) :
    IGn X W k (.Call (.Attribute o (S m) apos) [] [] pos) (tIGen c m sp to) := by
  refine ⟨fun pins s σ H us G Q E I rs rp h hx => ?_⟩
  refine PySem.W.methodCall_KW (pl := pl) (thn (ho.run pins s σ H us G _ E I rs rp h hx) fun u s1 ⟨x, H1, I1, rx, w, G1, x1, rp1, rw_, a, fs, out, ew, g, hn, fl, hsp, hlen, q⟩ => ?_) ht
  subst ew
  have ex : x = .ref a := rw_
  subst ex
  obtain rfl : u = Value.ref a := rx
  obtain ⟨dx, gs, hh, rf⟩ := rp1.ins g
  refine getmeth_ok I1 hh cls meth (rf.none hn) ?_
  refine call_with (first := [.ref a]) (R := fun vs zs G2 => vs = [] ∧ zs = [] ∧ G2 a = some (.ins c fs) ∧ Q (fun G => G a = some (.ins c fs)) out G2) (W := W) (E := E) (H := H1) (G := G1) meth.kp au_nil ku_nil unst_nil rfl rfl rfl I1 (rs.ext x1 rp) rp1 ⟨rfl, rfl, g, q⟩ (fun c d H' z => hx c d H' (z.trans x1)) fun s2 H2 G2 vs zs vv zv vl zl I2 x2 rp2 rv rz ru ruz ⟨e1, e2, g2, q2⟩ => ?_
  subst e1 e2
  have ev : vv = [] := ru
  have ez : zv = [] := ruz
  subst ev ez
  cases rv
  cases rz
  have b := bind_u (n := 1) (ks := []) (pl := [.p 0]) kn.D hP (by
    unfold DD.dvs DD.kws
    rw [List.length_map, List.map_map]
    exact e)
  obtain ⟨dv, kv, rd, rk, bt⟩ := b.ex
  have bt2 := bt s2 [.ref a] [] I2.kIn rfl rfl
  rw [hself] at bt2
  have bt3 : BindsTo s2 (fdOf X.K (d.at_ X.K)) ⟨[.ref a], []⟩ [("self", .ref a)] := bt2
  refine wpAny_call (codeAny_mono (kn.F.run X.A X.stack s2 H2 ⟨[.ref a], []⟩ a (.ins c fs) out hr ⟨I2.ok.frames, I2.env0.mod, I2.env0.bs, I2.env0.bsz, I2.env0.funs, I2.env0.frf, I2.env0.hok, I2.env0.bare⟩ bt3 fl hsp) fun r s' hq => ?_)
  obtain ⟨F, b, gi, cc, L0, ao, rfl, m⟩ := hq
  obtain ⟨mp, mo, mu⟩ : F.p = a ∧ F.ob = .ins c fs ∧ F.out = out := ⟨m.pF, m.obF, m.outF⟩
  have nL : H2 F.L = none := I2.hok.fresh m.hL
  have nb : H2 b = none := I2.hok.fresh m.ha
  obtain ⟨r3, x3⟩ := rp2.laid0 (u := exact_ F.L L0) nL
  have nb3 : upd H2 F.L (exact_ F.L L0) b = none := by rw [upd_ne m.ne]; exact nb
  obtain ⟨r4, x4⟩ := r3.laid0 (u := exact_ b ao) nb3
  have at4 : ∀ y v, H2 y = some v → upd (upd H2 F.L (exact_ F.L L0)) b (exact_ b ao) y = some v := fun y v e => by
    rw [upd_ne (ne_of_none e nb), upd_ne (ne_of_none e nL)]
    exact e
  refine ⟨F, b, gi, cc, L0, ao, only a (.ins c fs), H2, G2, upd (upd H2 F.L (exact_ F.L L0)) b (exact_ b ao), rfl, ⟨⟨c, fs, mo⟩, by rw [mo]; exact fl, m.go, ?_, rp2, r4, x1.trans x2, fun y v e => ⟨at4 y v e, ne_of_none e nL⟩, fun A => ⟨?_, upd_same, m.ne, rp2.fresh nL, rp2.fresh nb, ?_, fun q hq => by cases hq⟩, fun A => ?_, m.gen, fun A h1 h2 => m.run A h1 h2, by rw [mu]; exact hlen, ?_⟩⟩
  · refine I2.call' (ch := []) m.os ⟨fun y o e _ _ _ => m.keep y o e, fun y o e _ _ _ => ⟨o.slots, m.keep y o e⟩, fun y o e n _ => ?_, fun y o e _ => ⟨o, m.keep y o e⟩, fun y xs e => at4 y _ e, fun y o u e => at4 y _ e, fun y ps e => ⟨#[], by rw [at4 y _ e]; simp⟩⟩ (fun y v e => ?_) m.bare fun y hy => by cases hy
    · have h1 := Heap.lt_size e
      rw [upd_ne (Nat.ne_of_lt (Nat.lt_of_lt_of_le h1 m.ha)), upd_ne (Nat.ne_of_lt (Nat.lt_of_lt_of_le h1 m.hL))]
      exact n
    · by_cases hy : y = b
      · subst hy
        rw [upd_same] at e
        cases e
        exact exact_ok m.ea
      · rw [upd_ne hy] at e
        by_cases hy2 : y = F.L
        · subst hy2
          rw [upd_same] at e
          cases e
          exact exact_ok m.eL
        · rw [upd_ne hy2] at e
          exact (I2.hok y v e).stay (fun z o _ q => m.keep z o q) (fun z q => at4 z _ q) fun z xs q => at4 z _ q
  · show upd (upd H2 F.L (exact_ F.L L0)) b (exact_ b ao) F.L = _
    rw [upd_ne (Ne.symm m.ne), upd_same]
  · show G2 F.p = some F.ob
    rw [mp, mo]
    exact g2
  · have := yd_only (g := F.at X A)
    show Yd (F.at X A) [] (only a (.ins c fs))
    rw [← mp, ← mo]
    exact this
  · rw [mp, mo, mu]
    exact q2
end UL
set_option maxHeartbeats 4000000
namespace UL
open PySem PySem.Spec PyProof.Rows L2 GenS GenW
structure YdP (p : Addr) (ob : Ob) (own : List Addr) (Gn : Gp) : Prop where
  self : Gn p = some ob
  dom : ∀ a o, Gn a = some o → a = p ∨ a ∈ own
  lst : ∀ a ∈ own, a ≠ p ∧ ∃ us, Gn a = some (.lst us) ∧ us.all flatU = true
def tGYlP (p : Addr) (ob : Ob) (out : List U) (te : UTE) : UGS := fun D n own us G => ∃ m, n = m + 1 ∧ te us G (fun w G1 => out[out.length - (m + 1)]? = some w ∧ flatS us = true ∧ ∃ Gn own', Sub Gn G1 ∧ YdP p ob own' Gn ∧ (∀ a ∈ own, a ∈ own') ∧ D.nx m own' us Gn) (fun _ _ => False)
theorem gs_ylP {P : Program} {w : World} {K : PySem.W.Frag} {mg : Str → Option Value} {base : Heap} {N : List Str} {qual : Str} {scope : Scope} {f : Addr} {cd : Value} {A : Around} {outer : List Env} {L p : Addr} {ob : Ob} {out : List U} {e : Expr} {yp pos : Pos} {te : UTE} (ok : GOk ⟨P, w, K, mg, base, N, qual, scope, f, cd, A, outer, L, p, ob, out⟩) (fo : flatO ob = true)
    (he : ∀ z Ho, EU (Gx.cx ⟨P, w, K, mg, base, N, qual, scope, f, cd, A, outer, L, p, ob, out⟩ z Ho) W0 e te) : GSt ⟨P, w, K, mg, base, N, qual, scope, f, cd, A, outer, L, p, ob, out⟩ (.Expr (.Yield (some e) yp) pos) (tGYlP p ob out te) := by
  refine ⟨fun c fs Kk J gd lv n z Ho Go own s us G D a k r h => (gs_yl ok fo he).run c fs Kk J gd lv n z Ho Go own s us G D a k r ?_⟩
  obtain ⟨m, hn, h⟩ := h
  refine ⟨m, hn, ?_⟩
  have e1 : (fun w G1 => out[out.length - (m + 1)]? = some w ∧ flatS us = true ∧ ∃ Gn own', Sub Gn G1 ∧ YdP p ob own' Gn ∧ (∀ a ∈ own, a ∈ own') ∧ D.nx m own' us Gn) =
      (fun u1 G1 => out[out.length - (m + 1)]? = some u1 ∧ flatS us = true ∧ ∃ Gn own', Sub Gn G1 ∧ Yd ⟨P, w, K, mg, base, N, qual, scope, f, cd, A, outer, L, p, ob, out⟩ own' Gn ∧ (∀ a ∈ own, a ∈ own') ∧ D.nx m own' us Gn) := by
    funext u G1
    refine propext ⟨fun ⟨h1, h2, Gn, own', h3, h4, h5⟩ => ⟨h1, h2, Gn, own', h3, ⟨h4.self, h4.dom, h4.lst⟩, h5⟩, fun ⟨h1, h2, Gn, own', h3, h4, h5⟩ => ⟨h1, h2, Gn, own', h3, ⟨h4.self, h4.dom, h4.lst⟩, h5⟩⟩
  rw [e1] at h
  exact h

def sumV (u : U) (G : Gp) (Q : UK) : Prop := match u with
  | .ref a => getLst (G a) fun l => ∃ ns : List Int, l = IntU ns ∧ Q (.int ns.sum) G
  | .tup l => ∃ ns : List Int, l = IntU ns ∧ Q (.int ns.sum) G
  | _ => False
theorem sum_tup {prog : Program} {w : World} {A : Around} {E : Value → Shared → Prop} {s : Shared} {t : Addr} {its : List Value} {ns : List Int} {Q : Value → Shared → Prop} (hh : A.handled = none) (ht : IsTup s.heap t its.toArray) (hi : IntsAre its ns)
    (h : ∀ h' tk t', (∀ b o, s.heap.get? b = some o → h'.get? b = some o) → Q (.int ns.sum t') { s with heap := h', toks := tk }) : wpAny (model prog w) A (call (.builtin "sum") [.ref t]) Q E s := by
  obtain ⟨xs, e⟩ := hi.allInts.items
  have hn : numsOf (intItems xs).toList = ns := by rw [← e]; exact hi.numsOf
  rw [nums_intItems] at hn
  rw [e] at ht
  have lt : t < s.heap.objs.size := by
    obtain ⟨o, eo, _⟩ := ht
    exact Heap.lt_size eo
  have keep : ∀ b o, s.heap.get? b = some o → (s.heap.push { cls := .type "tuple_iterator", data := .fields #[.ref t, .int 0 0] }).get? b = some o := fun b o q => Heap.get?_push_of_some _ q
  refine PySem.call_sum_walkG (iter_tuple ht ⟨_, _, _, _, _, _, numAt xs, rfl, Walks.tuple (A := A.in1) hh _ t (Nat.ne_of_lt lt) (intItems xs), ⟨⟨_, Heap.get?_push_size _ rfl, rfl, rfl⟩, ht.keeps keep⟩, fun b hb => ?_, fun _ _ => intItems_at, fun h' tk t' hk => ?_⟩)
  · show b < (s.heap.push _).objs.size
    rw [Heap.size_push]
    rcases List.mem_cons.mp hb with hb | hb
    · rw [hb]; exact Nat.lt_succ_self _
    · rw [List.mem_singleton.mp hb]; exact Nat.lt_succ_of_lt lt
  · have := h h' tk t' fun b o q => hk b o (fun hb => by
      have h1 := Heap.lt_size q
      rw [List.mem_singleton.mp hb] at h1
      exact Nat.lt_irrefl _ h1) (keep b o q)
    have e2 : (intItems xs).size = xs.size := by simp [intItems]
    rw [e2, preSum_eq, List.take_of_length_le (by simp), hn]
    exact this
theorem cu_sum {X : Cx} {W : WX} (hc : X.calm = true) : CallU X W (.builtin "sum") (u1 sumV) := by
  intro pins s σ H xs us as G Q E I rx ra rp h hx
  obtain ⟨u, rfl, q⟩ := u1_of h
  obtain ⟨x, rfl, e⟩ := relUs1 ra
  cases rx with
  | cons r1 rr =>
    cases rr
    cases u with
    | ref a =>
      obtain ⟨l, g, ns, rfl, q⟩ := getLst_ex q
      obtain ⟨vs, hv, rv⟩ := rp.lst g
      have ex : x = .ref a := e
      subst ex
      cases relUs_intsE rv
      exact thn (cr_sum hc pins s σ H [.ref a] _ _ I (.cons r1 .nil) ⟨a, ns, rfl, .of hv, lv_int rp q⟩) fun _ _ z => z
    | tup l =>
      obtain ⟨ns, rfl, q⟩ := q
      obtain ⟨a, vs, rfl, ht, rv⟩ := e.tup_of
      cases relUs_intsE rv
      obtain ⟨its, ri, tp, _⟩ := I.tuple ht
      rw [show _ = Value.ref a from r1]
      exact sum_tup (I.ok.hd hc) tp ri.ints fun h' tk t' hk => ⟨.int _, H, I.kept hk, ⟨_, rfl⟩, lv_int rp q⟩
    | _ => exact q.elim

section
variable {X : Cx} {W : WX} {o e lo : Expr} {to te tl : UTE} {pos p2 : Pos}
/-- l[a:] = m, both lists of ours -/
def tailU (x l w : U) (G : Gp) (Q : Gp → Prop) : Prop := match x, l, w with
  | .ref a, .int i, .ref b => a ≠ b ∧ ∃ us ws, G a = some (.lst us) ∧ G b = some (.lst ws) ∧ 0 ≤ i ∧ i ≤ us.length ∧ us.length + ws.length < 1000000 ∧ Q (gup G a (.lst (us.take i.toNat ++ ws)))
  | _, _, _ => False
def gUTail (to tl : UTE) : UTG := fun w us G Q E => to us G (fun x G1 => tl us G1 (fun l G2 => tailU x l w G2 (fun G3 => Q us G3)) E) E
end
end UL
set_option maxHeartbeats 2000000
namespace UL
open PySem PySem.Spec PyProof.Rows L2
def rngsC (i c : Int) (n : Nat) : List U := (List.range n).map fun k => .int (i + (k : Nat) * c)
theorem itu_rangeC {K : PySem.W.Frag} {H0 : Hp} {G0 : Gp} {i c : Int} {n : Nat} : ItU K (Itc i c n) (fun _ => True) (rngsC i c n) H0 G0 := by
  have hl : (rngsC i c n).length = n := by unfold rngsC; rw [List.length_map, List.length_range]
  refine ⟨fun k H G x r g hk => ?_, fun H G x r g => ?_⟩
  · rw [hl] at hk
    refine ⟨hk, fun y H' ⟨eH, ey⟩ => ?_⟩
    subst eH ey
    refine ⟨.int (i + (k : Nat) * c), ?_, .refl _ _, r, rfl⟩
    unfold rngsC
    rw [List.getElem?_map, List.getElem?_range hk]
    rfl
  · show n ≤ (rngsC i c n).length
    rw [hl]
    exact Nat.le_refl _
def rngC (u v w : U) (G : Gp) (Q : UKI) (_ : Tag Q := ()) : Prop := match u, v, w with
  | .int i, .int j, .int c => ∃ n, RgC i j c n ∧ Q (fun _ => True) (rngsC i c n) G
  | _, _, _ => False
theorem x_rngC {i j c : Int} {G : Gp} {Q : UKI} : rngC (.int i) (.int j) (.int c) G Q = ∃ n, RgC i j c n ∧ Q (fun _ => True) (rngsC i c n) G := (rfl)
def rngQ3 (Q : UKI) (ws : List U) (G : Gp) : Prop := match ws with
  | [u, v, w] => rngC u v w G Q
  | _ => False
def tIRng3 (ta tb tc : UTE) : UTI := fun us G Q E => ta us G (fun u G1 => tb us G1 (fun v G2 => tc us G2 (fun w G3 => rngC u v w G3 Q) E) E) E
section
variable {X : Cx} {W : WX} {tg a b c : Expr} {ta tb tc : UTE} {pos p : Pos}
theorem iu_range3 (hg : Gl X "range") (hm : X.mg "range" = none) (ha : EU X W a ta) (hb : EU X W b tb) (hc : EU X W c tc) (hs : starEach [a, b, c] X.env = (false, eval a X.env) :: starEach [b, c] X.env) (hs2 : starEach [b, c] X.env = (false, eval b X.env) :: starEach [c] X.env) (hs3 : starEach [c] X.env = (false, eval c X.env) :: starEach [] X.env) :
    IU X W tg (.Call (.Name "range" p) [a, b, c] [] pos) (tIRng3 ta tb tc) := by
  refine ⟨fun pins s σ H us G Q E I rs rp h hx => ?_⟩
  refine Call_ (ld_blt I hg hm boot_range (PyProof.Rows.callWith_type1 (thn ((au_cons ha (au_cons hb (au_cons hc au_nil hs3) hs2) hs).run pos pins s σ H us G (rngQ3 Q) E I rs rp h hx) fun vals s1 ⟨vs, H1, I1, r1, ws, G1, x1, rp1, ru, q1⟩ => ?_) hs (by rw [hs2, hs3]; rfl)))
  obtain ⟨u1, u2, u3, rfl⟩ : ∃ u1 u2 u3, ws = [u1, u2, u3] := by
    unfold rngQ3 at q1
    split at q1
    · exact ⟨_, _, _, rfl⟩
    · exact q1.elim
  obtain ⟨i, j, k, rfl, rfl, rfl⟩ : ∃ i j k, u1 = .int i ∧ u2 = .int j ∧ u3 = .int k := by
    unfold rngQ3 rngC at q1
    dsimp only at q1
    split at q1
    · exact ⟨_, _, _, rfl, rfl, rfl⟩
    · exact q1.elim
  obtain ⟨n, ⟨c0, c1, c2, c3⟩, q⟩ := q1
  obtain ⟨v, vr, e1, ev, v2, vr2, e3, ev2, v3, vr3, e4, ev3, e5⟩ := ru
  have e5' : vr3 = [] := e5
  subst e1 e3 e4 e5'
  rw [show v = .int i from ev, show v2 = .int j from ev2, show v3 = .int k from ev3] at r1
  cases r1 with
  | cons r rr =>
    cases rr with
    | cons r' rr =>
      cases rr with
      | cons r'' rr =>
        cases rr
        obtain ⟨t, rfl⟩ := r
        obtain ⟨t', rfl⟩ := r'
        obtain ⟨t'', rfl⟩ := r''
        refine call_range_3 c0 ?_ (.inl (PyProof.noPylong_small c1))
        refine wpAny_pyIter_range (IsRange.new ..) c2 ?_
        have I2 : Inv X pins σ H1 { s1 with heap := s1.heap.push { cls := .type "range", data := .fields #[.int i t, .int j t', .int k t''] } } := I1.kept (t' := s1.toks) fun b o e => Heap.get?_push_of_some _ e
        refine pi_one (tk := s1.toks) I2 _ (turn_rangeC _ i k n) ?_ ⟨_, _, G1, x1, rp1, itu_rangeC, q⟩
        have z1 : i + ((0 : Nat) : Int) * k = i := by simp
        have z2 : (n : Int) - ((0 : Nat) : Int) = Builtin.Range.rangeSize i j k := by rw [c3]; simp
        show IsRangeIter _ _ (i + ((0 : Nat) : Int) * k) ((n : Int) - ((0 : Nat) : Int)) k
        rw [z1, z2]
        exact Heap.get?_push_size _ rfl
end
end UL
set_option maxHeartbeats 2000000
namespace UL
open PySem PySem.Spec PyProof.Rows L2
section
variable {D : GEn} {n m : Nat} {own : List Addr} {us : USt} {G : Gp} {t u : UGS} {ts : UTS} {tt : UTT} {te to ti' : UTE} {Q : UK} {E : UX} {p a b : Addr} {ob : Ob} {out : List U} {R : UKI} {c f : String} {sp : Ob → List U → Prop} {w : U} {S0 : USt → Gp → Prop} {Z : Gp → Prop} {i : Int}
theorem x_G0 : tGNil D n own us G = D.nx n own us G := (rfl)
theorem x_Gseq : tGSeq t u D n own us G = t { D with nx := u D } n own us G := (rfl)
theorem x_Gpl : tGPl ts D n own us G = ts { nx := fun us G => D.nx n own us G, rt := fun u G => u = .non ∧ D.rt n own G, bk := fun us G => D.bk n own us G, ct := fun us G => D.ct n own us G, ex := fun _ _ _ => False } us G := (rfl)
/-- the two ways behind a test of a generator -/
def CondG (k : Bool) (x y : Prop) (_ : Tag x := ()) (_ : Tag y := ()) : Prop := bif k then x else y
theorem x_Gif : tGIf tt t u D n own us G = tt us G (fun b G1 => CondG b (t D n own us G1) (u D n own us G1)) (fun _ _ => False) := (rfl)
theorem x_CondGT {x y : Prop} : CondG true x y = x := (rfl)
theorem x_CondGF {x y : Prop} : CondG false x y = y := (rfl)
/-- what is wanted at a yield -/
def YlOk (p : Addr) (ob : Ob) (out : List U) (m : Nat) (D : GEn) (own : List Addr) (us : USt) (w : U) (G1 : Gp) : Prop := out[out.length - (m + 1)]? = some w ∧ flatS us = true ∧ ∃ Gn own', Sub Gn G1 ∧ YdP p ob own' Gn ∧ (∀ a ∈ own, a ∈ own') ∧ D.nx m own' us Gn
theorem x_Gyl : tGYlP p ob out te D (m + 1) own us G = te us G (fun w G1 => YlOk p ob out m D own us w G1) (fun _ _ => False) := by
  apply propext
  constructor
  · rintro ⟨k, e, h⟩
    cases e
    exact h
  · exact fun h => ⟨m, rfl, h⟩
theorem x_listG {tI : UTI} : tUListG tI us G Q E = tI us G (fun chk items G1 => ∀ p, G1 p = none → Q (.ref p) (gup G1 p (.lst items))) E := (rfl)
theorem x_igen : tIGen c f sp to us G R E = to us G (fun u G1 => asRef u fun a => getIns (G1 a) fun c' fs => c' = c ∧ fget fs f = none ∧ (fs.all fun x => flatU x.2) = true ∧ ∃ out, sp (.ins c fs) out ∧ out.length < 1000000 ∧ R (fun G => G a = some (.ins c fs)) out G1) E := by
  unfold tIGen
  congr 1
  funext u G1
  apply propext
  constructor
  · rintro ⟨a, fs, out, rfl, g, h1, h2, h3, h4, h5⟩
    unfold asRef getIns
    dsimp only
    rw [g]
    exact ⟨rfl, h1, h2, out, h3, h4, h5⟩
  · intro h
    unfold asRef at h
    split at h
    · rename_i a
      unfold getIns at h
      split at h
      · rename_i c' fs g
        obtain ⟨rfl, h1, h2, out, h3, h4, h5⟩ := h
        exact ⟨a, fs, out, rfl, g, h1, h2, h3, h4, h5⟩
      · exact h.elim
    · exact h.elim
theorem x_sumL : sumV (.ref a) G Q = getLst (G a) fun l => ∃ ns : List Int, l = IntU ns ∧ Q (.int ns.sum) G := (rfl)
theorem x_sumT {l : List U} : sumV (.tup l) G Q = ∃ ns : List Int, l = IntU ns ∧ Q (.int ns.sum) G := (rfl)
theorem x_rng3 {ta tb tc : UTE} : tIRng3 ta tb tc us G R E = ta us G (fun u G1 => tb us G1 (fun v G2 => tc us G2 (fun w G3 => rngC u v w G3 R) E) E) E := (rfl)
theorem x_gtail : gUTail to ti' w us G S0 E = to us G (fun x G1 => ti' us G1 (fun l G2 => tailU x l w G2 (fun G3 => S0 us G3)) E) E := (rfl)
theorem x_tailU : tailU (.ref a) (.int i) (.ref b) G Z = (a ≠ b ∧ getLst (G a) fun us => getLst (G b) fun ws => 0 ≤ i ∧ i ≤ us.length ∧ us.length + ws.length < 1000000 ∧ Z (gup G a (.lst (us.take i.toNat ++ ws)))) := by
  apply propext
  show (a ≠ b ∧ ∃ us ws, G a = some (.lst us) ∧ G b = some (.lst ws) ∧ 0 ≤ i ∧ i ≤ us.length ∧ us.length + ws.length < 1000000 ∧ Z (gup G a (.lst (us.take i.toNat ++ ws)))) ↔ _
  constructor
  · rintro ⟨h1, us, ws, g1, g2, h⟩
    refine ⟨h1, ?_⟩
    rw [g1, g2]
    exact h
  · rintro ⟨h1, h⟩
    obtain ⟨us, g1, h⟩ := getLst_ex h
    obtain ⟨ws, g2, h⟩ := getLst_ex h
    exact ⟨h1, us, ws, g1, g2, h⟩
end
end UL
set_option maxHeartbeats 4000000
namespace UL
open PySem PySem.Spec PyProof.Rows L2
def tupsI (rs : List (List Int)) : List U := rs.map fun r => U.tup (IntU r)
def sortedI : U → Gp → UK → Prop := fun u G Q => asRef u fun a => getLst (G a) fun us => ∃ rs : List (List Int), us = tupsI rs ∧ rs.length ≤ 4096 ∧ (rs.length ≤ 1 ∨ (∀ r ∈ rs, r ≠ []) ∧ rs.Pairwise fun a b => a < b) ∧ ∀ p, G p = none → Q (.ref p) (gup G p (.lst us))
def zsI (rs : List (List Int)) : List UD := rs.map fun r => (U.tup (IntU r), PyData.tuple (r.map .int))
theorem alike_ints : ∀ a b : List Int, PySem.W.alikeAll (a.map PyData.int) (b.map PyData.int) = true
  | [], _ => by simp [PySem.W.alikeAll]
  | _ :: _, [] => by simp [PySem.W.alikeAll]
  | x :: a, y :: b => by simp [PySem.W.alikeAll, PySem.W.alike, alike_ints a b]
theorem lt_ints {a b : List Int} (h : a < b) : PySem.W.dataLt (.tuple (a.map .int)) (.tuple (b.map .int)) = true := by
  rw [PySem.W.dataLt_tuple]
  exact (PySem.W.dataLt_ints a b).trans (decide_eq_true h)
theorem cu_sortedI {X : Cx} {W : WX} (hu : X.A.units + 64 < cLine) : CallU X W (.builtin "sorted") (u1 sortedI) := by
  intro pins s σ H xs us as G Q E I rx ra rp h hx
  obtain ⟨u, rfl, q⟩ := u1_of h
  obtain ⟨a, rfl, q⟩ := asRef_ex q
  obtain ⟨l, g, q⟩ := getLst_ex q
  obtain ⟨rs, rfl, hL, hs, q⟩ := q
  obtain ⟨x, rfl, e⟩ := relUs1 ra
  obtain ⟨ws, e1, r⟩ := rp.lst g
  have ex : x = .ref a := e
  subst ex
  obtain ⟨u, rfl, rx'⟩ := vals1 rx
  cases rx'
  obtain ⟨z, its, n, rv, hl, ho⟩ := I.lstM e1
  have ez : tupsI rs = (zsI rs).map (·.1) := by
    unfold tupsI zsI
    rw [List.map_map]
    rfl
  have hd : ∀ z ∈ zsI rs, Dat G z.1 z.2 := fun z hz => by
    obtain ⟨r, _, rfl⟩ := List.mem_map.mp hz
    exact .tup (dats_ints r)
  have hlz : (zsI rs).length = rs.length := List.length_map _
  have hn : H (s.heap.objs.size + 1) = none := I.hok.fresh (Nat.le_succ _)
  rw [ez] at r
  rcases hs with h1 | ⟨h1, h2⟩
  · have hi : its.length ≤ 1 := by
      have e1 := (each_in r rv).length
      omega
    refine Srt.sorted_any ⟨_, ho, rfl, n, rfl⟩ (by rw [sizeLine_eq]; omega) (fun h => absurd h (by omega)) fun ov hp => ?_
    have eo : ov = its := by
      match its, hi, hp with
      | [], _, hp => exact List.perm_nil.mp hp
      | [z], _, hp => exact List.perm_singleton.mp hp
    subst eo
    obtain ⟨c, hc⟩ := PyProof.Rows.sortedAll_at s.heap ov (List.toArray ov)
    exact ⟨.ref _, _, I.laid (t' := s.toks) (fun b o e => PyProof.Rows.sortedAll_old e) (Nat.le_succ _) (show ObjOk X.prog X.w _ _ _ (.lst ws) from ⟨by rw [hl, sizeLine_eq]; omega, ov, c, rv, hc⟩), rfl, lv_lst rp r hn (ez ▸ q _ (rp.fresh hn))⟩
  · have E1 := each_in r rv
    have E2 : PySem.W.EachIs (fun v (z : UD) => ∃ as, Reads s.heap v z.2 as) its (zsI rs) := (PySem.W.each_mem E1).mono fun v z ⟨⟨x, h1, h2⟩, hz⟩ => Dp.reads I _ x v ((hd z hz).dp rp _ _ _ h2) h1
    have hs : (zsI rs).Pairwise fun a b => PySem.W.dataLt a.2 b.2 = true := List.pairwise_map.mpr (h2.imp fun h => lt_ints h)
    refine PySem.W.sorted_data (β := UD) (enc := fun z => z.2) (R := REach X.K H) (vs := its) (bs := zsI rs) ⟨_, ho, rfl, n, rfl⟩ E1 E2 (fun d h d' h' => ?_) (.inl fun d hd' => ?_) (by rw [sizeLine_eq]; omega) (fun b hb => ?_) fun ov hlen E3 => ?_
    · obtain ⟨z, hz, rfl⟩ := List.mem_map.mp h
      obtain ⟨z', hz', rfl⟩ := List.mem_map.mp h'
      obtain ⟨r, _, rfl⟩ := List.mem_map.mp hz
      obtain ⟨r', _, rfl⟩ := List.mem_map.mp hz'
      simp [PySem.W.alike, alike_ints]
    · obtain ⟨z, hz, rfl⟩ := List.mem_map.mp hd'
      obtain ⟨r, hr, rfl⟩ := List.mem_map.mp hz
      cases r with
      | nil => exact absurd rfl (h1 _ hr)
      | cons x r => exact ⟨_, _, rfl⟩
    · obtain ⟨r, hr, rfl⟩ := List.mem_map.mp hb
      have := depth_ints r
      simp only [PyData.depth]
      omega
    rw [merge_out (List.Perm.refl _) hs] at E3
    obtain ⟨ys, ry, vy⟩ := each_out E3
    obtain ⟨c, hc⟩ := PyProof.Rows.sortedAll_at s.heap its (List.toArray ov)
    have hy : ys.length ≤ sizeLine := by
      have := vy.length
      rw [sizeLine_eq]
      omega
    exact ⟨.ref _, _, I.laid (t' := s.toks) (fun b o e => PyProof.Rows.sortedAll_old e) (Nat.le_succ _) (show ObjOk X.prog X.w _ _ _ (.lst ys) from ⟨hy, ov, c, vy, hc⟩), rfl, lv_lst rp ry hn (ez ▸ q _ (rp.fresh hn))⟩
section
variable {G : Gp} {Q : UK} {p : Addr}
theorem x_sortedI : sortedI (.ref p) G Q = getLst (G p) fun us => ∃ rs : List (List Int), us = tupsI rs ∧ rs.length ≤ 4096 ∧ (rs.length ≤ 1 ∨ (∀ r ∈ rs, r ≠ []) ∧ rs.Pairwise fun a b => a < b) ∧ ∀ p, G p = none → Q (.ref p) (gup G p (.lst us)) := (rfl)
end
end UL
set_option maxHeartbeats 1000000
namespace WW
open PySem PySem.Spec PyProof.Rows L2 UL
local macro_rules | `(tactic| simp_arith! [$ls,*]) => `(tactic| (try (simp (discharger := assumption) only [↓x_var, ↓x_c, ↓x_op, ↓x_and, ↓x_nil, ↓x_cons, ↓x_test, ↓x_not, ↓x_bOr, ↓x_tru, ↓x_call, ↓x_def, ↓x_bm, ↓x_u1, ↓x_u2, ↓x_seq, ↓x_next, ↓x_ret, ↓x_ifSC, ↓x_asg, ↓x_gname, ↓x_for, ↓x_any, ↓x_lc, ↓x_fld, ↓x_fldU, ↓x_gfld, ↓x_setF, ↓x_make, ↓x_raise, ↓x_eqI, ↓x_eqS, ↓x_leS, ↓x_inS1, ↓x_notInS1, ↓x_lenS, ↓x_iterT, ↓x_iterS, ↓x_tyS, ↓x_join, ↓x_strS, ↓x_fmtS, ↓x_fmt, ↓x_js0, ↓x_js, ↓x_truB, ↓x_isi, e_condT, e_condF, slotK_s, asBl_s, asStr_s, getIns_s, getO_s, getUs_s, getLs_s, seq_l, isiK_s, isi_bb, isiOk_b, td_S, tdC_t, fget_nil, fget_cons, fput_nil, fput_cons, src_p, getD_0, getD_s, uwipe_nil, uwipe_cons, len_cons, e_strsOnes, e_joinOnes, e_sumOnes, List.getElem?_cons_zero, List.getElem?_cons_succ, List.set_cons_zero, List.set_cons_succ, List.map_cons, List.map_nil, List.length_nil, List.length_cons, true_and, and_true, endsU, ustart, List.replicate, List.cons_append, List.nil_append, List.append_nil, List.unzip_cons, List.unzip_nil, Bool.not_true, Bool.not_false, decide_true, decide_false, tyNames, fldsOf, List.mem_cons, gup_gup, gup_same, if_true, List.zip_cons_cons, List.zip_nil_left, Bool.and_true, Bool.true_and, Bool.and_false, Bool.false_and, Bool.or_false, Bool.or_true, Bool.true_or, Bool.false_or, Nat.reduceAdd, Nat.reduceSub, String.reduceEq, Nat.reduceLeDiff, or_true, true_or, false_or, or_false, not_false_eq_true, Nat.mul_zero, Nat.add_zero, Nat.zero_add, Option.isSome_some, Nat.reduceLT, List.not_mem_nil, Int.reduceEq, and_self, Int.cast_ofNat_Int, Int.reduceLT, Int.reduceAdd, Int.reduceSub, $ls,*])))
local macro_rules | `(tactic| simp_arith [$ls,*]) => `(tactic| (simp_arith! [$ls,*]; (repeat ((first | with_reducible refine scondT ?_ | with_reducible refine scondF ?_ | with_reducible refine condT ?_ | with_reducible refine condF ?_); simp_arith! [$ls,*]))))
local macro_rules | `(tactic| walk_at "usub") => `(tactic| (refine Sub.ofE ?_; (repeat (refine SubE.left ?_ (Or.inr (by first | assumption | simp (discharger := assumption) only [gup_same, gup_ne, gup_neS, gup_nN, gup_nNS, *])))); (repeat (refine SubE.put ?_ (by first | exact Or.inr (Or.inl (by assumption)) | exact Or.inr (Or.inr (by assumption)) | exact Or.inl (by simp) | exact Or.inr (Or.inr (by simp (discharger := assumption) only [gup_same, gup_ne, gup_neS, gup_nN, gup_nNS, *]))))); exact SubE.refl))
/-- strictly ascending behind o, of letters -/
def ascB : List Nat → List Nat → Bool
  | _, [] => true
  | o, c :: l => decide (c ∈ M52) && (decide (o < [c]) && ascB [c] l)
def conB (l : List Nat) : Bool := ascB [] l
def conU : U → Bool
  | .str l => conB l
  | _ => false
theorem lt1 {p c : Nat} : ([p] < [c]) ↔ p < c := by
  simp [List.cons_lt_cons_iff]
def unionL (a b : List Nat) : List Nat := M52.filter fun k => decide (k ∈ a) || decide (k ∈ b)
def sharedL (a b : List Nat) : List Nat := a.filter fun k => decide (k ∈ b)
def diffL (a b : List Nat) : List Nat := a.filter fun k => !decide (k ∈ b)
def oddL (a b : List Nat) : List Nat := unionL (diffL a b) (diffL b a)
def sp_is_contents : USp := fun us G Q _ => match us with
  | [u] => (tdOf G u).isSome = true ∧ Q (.bl (conU u)) G
  | _ => False
def sp_contents_cross : USp := fun us G Q _ => match us with
  | [.str l] => Q (.bl (l.all fun k => decide (k ∈ C26))) G
  | _ => False
def sp2 (f : List Nat → List Nat → List Nat) : USp := fun us G Q _ => match us with
  | [.str a, .str b] => a.length ≤ 1000 ∧ b.length ≤ 1000 ∧ Q (.str (f a b)) G
  | _ => False
def sp_union : USp := sp2 unionL
def sp_shared_marks : USp := sp2 sharedL
def sp_difference : USp := sp2 diffL
def sp_odd_marks : USp := sp2 oddL
section
variable {G : Gp} {Q : UK} {E : UX} {u : U} {l a b : List Nat}
theorem x_is_contents : Call sp_is_contents [u] G Q E = ((tdOf G u).isSome = true ∧ Q (.bl (conU u)) G) := rfl
theorem x_contents_cross : Call sp_contents_cross [.str l] G Q E = Q (.bl (l.all fun k => decide (k ∈ C26))) G := rfl
theorem x_union : Call sp_union [.str a, .str b] G Q E = (a.length ≤ 1000 ∧ b.length ≤ 1000 ∧ Q (.str (unionL a b)) G) := rfl
theorem x_shared : Call sp_shared_marks [.str a, .str b] G Q E = (a.length ≤ 1000 ∧ b.length ≤ 1000 ∧ Q (.str (sharedL a b)) G) := rfl
theorem x_diff : Call sp_difference [.str a, .str b] G Q E = (a.length ≤ 1000 ∧ b.length ≤ 1000 ∧ Q (.str (diffL a b)) G) := rfl
theorem x_odd : Call sp_odd_marks [.str a, .str b] G Q E = (a.length ≤ 1000 ∧ b.length ≤ 1000 ∧ Q (.str (oddL a b)) G) := rfl
end
def boxO (l : List Nat) : Ob := .ins "Box" [("contents", .str l)]
theorem e_box {l : List Nat} : Ob.ins "Box" [("contents", .str l)] = boxO l := (rfl)
theorem e_getIns_box {l : List Nat} {Q} : getIns (some (boxO l)) Q = Q "Box" [("contents", .str l)] := (rfl)
theorem e_conS {l : List Nat} : conU (.str l) = conB l := (rfl)
def badBox (u : U) : UExc := ⟨"BadBox", [("contents", u)]⟩
theorem e_badBox {u : U} : (⟨"BadBox", [("contents", u)]⟩ : UExc) = badBox u := (rfl)
def sp_Box___init__ : USp := fun us G Q E => match us with
  | [.ref p, u] => getIns (G p) fun c fs => c = "Box" ∧ fs = [] ∧ (tdOf G u).isSome = true ∧ condP (conU u) (Q .non (gup G p (.ins "Box" [("contents", u)]))) (E (badBox u) G)
  | _ => False
section
variable {G : Gp} {Q : UK} {E : UX} {u : U} {p q : Addr} {f : List Nat → List Nat → List Nat}
theorem x_Box_init : Call sp_Box___init__ [.ref p, u] G Q E = getIns (G p) fun c fs => c = "Box" ∧ fs = [] ∧ (tdOf G u).isSome = true ∧ condP (conU u) (Q .non (gup G p (.ins "Box" [("contents", u)]))) (E (badBox u) G) := (rfl)
end
local macro_rules | `(tactic| simp_arith! [$ls,*]) => `(tactic| (try (simp (discharger := assumption) only [↓x_var, ↓x_c, ↓x_op, ↓x_and, ↓x_nil, ↓x_cons, ↓x_test, ↓x_not, ↓x_bOr, ↓x_tru, ↓x_call, ↓x_def, ↓x_bm, ↓x_u1, ↓x_u2, ↓x_seq, ↓x_next, ↓x_ret, ↓x_ifSC, ↓x_asg, ↓x_gname, ↓x_for, ↓x_any, ↓x_lc, ↓x_fld, ↓x_fldU, ↓x_gfld, ↓x_setF, ↓x_make, ↓x_raise, ↓x_eqI, ↓x_eqS, ↓x_leS, ↓x_inS1, ↓x_notInS1, ↓x_lenS, ↓x_iterT, ↓x_iterS, ↓x_tyS, ↓x_join, ↓x_strS, ↓x_fmtS, ↓x_fmt, ↓x_js0, ↓x_js, ↓x_truB, ↓x_isi, e_condT, e_condF, slotK_s, asBl_s, asStr_s, getIns_s, getO_s, getUs_s, getLs_s, seq_l, isiK_s, isi_bb, isiOk_b, td_S, tdC_t, fget_nil, fget_cons, fput_nil, fput_cons, src_p, getD_0, getD_s, uwipe_nil, uwipe_cons, len_cons, e_strsOnes, e_joinOnes, e_sumOnes, x_is_contents, x_contents_cross, x_union, x_shared, x_diff, x_odd, e_box, e_getIns_box, e_conS, e_badBox, x_Box_init, List.getElem?_cons_zero, List.getElem?_cons_succ, List.set_cons_zero, List.set_cons_succ, List.map_cons, List.map_nil, List.length_nil, List.length_cons, true_and, and_true, endsU, ustart, List.replicate, List.cons_append, List.nil_append, List.append_nil, List.unzip_cons, List.unzip_nil, Bool.not_true, Bool.not_false, decide_true, decide_false, tyNames, fldsOf, List.mem_cons, gup_gup, gup_same, if_true, List.zip_cons_cons, List.zip_nil_left, Bool.and_true, Bool.true_and, Bool.and_false, Bool.false_and, Bool.or_false, Bool.or_true, Bool.true_or, Bool.false_or, Nat.reduceAdd, Nat.reduceSub, String.reduceEq, Nat.reduceLeDiff, or_true, true_or, false_or, or_false, not_false_eq_true, Nat.mul_zero, Nat.add_zero, Nat.zero_add, Option.isSome_some, Nat.reduceLT, List.not_mem_nil, Int.reduceEq, and_self, Int.cast_ofNat_Int, Int.reduceLT, Int.reduceAdd, Int.reduceSub, $ls,*])))
local macro_rules | `(tactic| simp_arith [$ls,*]) => `(tactic| (simp_arith! [$ls,*]; (repeat ((first | with_reducible refine scondT ?_ | with_reducible refine scondF ?_ | with_reducible refine condT ?_ | with_reducible refine condF ?_); simp_arith! [$ls,*]))))
local macro_rules | `(tactic| walk_at "usub") => `(tactic| (refine Sub.ofE ?_; (repeat (refine SubE.left ?_ (Or.inr (by first | assumption | simp (discharger := assumption) only [gup_same, gup_ne, gup_neS, gup_nN, gup_nNS, *])))); (repeat (refine SubE.put ?_ (by first | exact Or.inr (Or.inl (by assumption)) | exact Or.inr (Or.inr (by assumption)) | exact Or.inl (by simp) | exact Or.inr (Or.inr (by simp (discharger := assumption) only [gup_same, gup_ne, gup_neS, gup_nN, gup_nNS, *]))))); exact SubE.refl))
/- slots ['self', 'contents'] -/
end WW
set_option maxHeartbeats 1000000
namespace LL
open PySem PySem.Spec PyProof.Rows L2 UL WW
def bagO (c a n : Int) (q : Addr) : Ob := .lst [.int c, .int a, .int n, .ref q]
def getBag (o : Option Ob) (Q : Addr → Prop) (_ : Tag Q := ()) : Prop := ∃ c a n q, o = some (bagO c a n q) ∧ Q q
def IntsU (us : List U) : Prop := ∃ ns, us = IntU ns
theorem e_bag {c a n : Int} {q : Addr} : Ob.lst [.int c, .int a, .int n, .ref q] = bagO c a n q := (rfl)
theorem e_getLst_bag {c a n : Int} {q : Addr} {Q} : getLst (some (bagO c a n q)) Q = Q [.int c, .int a, .int n, .ref q] := (rfl)
theorem e_getBag {c a n : Int} {q : Addr} {Q} : getBag (some (bagO c a n q)) Q = Q q := by
  unfold getBag
  apply propext
  constructor
  · rintro ⟨c', a', n', q', e, h⟩
    cases e
    exact h
  · exact fun h => ⟨c, a, n, q, rfl, h⟩
theorem e_IntsU {ns : List Int} : IntsU (IntU ns) = True := eq_true ⟨ns, rfl⟩
def seqS (G : Gp) : U → Option (List U)
  | .str l => some (sgs l)
  | x => seqOf G x
theorem e_seqS_r {G : Gp} {p : Addr} : seqS G (.ref p) = lstO (G p) := (rfl)
def sp_bag : USp := fun us G Q _ => match us with
  | [.rol ns, .int k] => IntsU ns ∧ 0 ≤ k ∧ ∀ c a n p q ms, G p = none → G q = none → q ≠ p → Q (.ref p) (gup (gup G q (.lst (IntU ms))) p (bagO c a n q))
  | _ => False
def sp_take : USp := fun us G Q _ => match us with
  | [.ref p, .int m] => (0 < m ∧ m < 1073741824) ∧ getBag (G p) fun q => getLst (G q) fun ms => IntsU ms ∧ q ≠ p ∧ ∀ r c a n, 0 ≤ r → r < m → Q (.int r) (gup G p (bagO c a n q))
  | _ => False
def sp_of : USp := fun us G Q _ => match us with
  | [.ref p, x] => x ≠ .ref p ∧ getUs (seqS G x) fun xs => 0 < xs.length ∧ xs.length ≤ 1000000 ∧ getBag (G p) fun q => getLst (G q) fun ms => IntsU ms ∧ q ≠ p ∧ ∀ u c a n, u ∈ xs → Q u (gup G p (bagO c a n q))
  | _ => False
section
variable {G : Gp} {Q : UK} {E : UX} {x : U} {p q : Addr} {k m : Int} {ns : List U}
theorem x_bag : Call sp_bag [.rol ns, .int k] G Q E = (IntsU ns ∧ 0 ≤ k ∧ ∀ c a n p q ms, G p = none → G q = none → q ≠ p → Q (.ref p) (gup (gup G q (.lst (IntU ms))) p (bagO c a n q))) := (rfl)
theorem x_take : Call sp_take [.ref p, .int m] G Q E = ((0 < m ∧ m < 1073741824) ∧ getBag (G p) fun q => getLst (G q) fun ms => IntsU ms ∧ q ≠ p ∧ ∀ r c a n, 0 ≤ r → r < m → Q (.int r) (gup G p (bagO c a n q))) := (rfl)
theorem x_of : Call sp_of [.ref p, x] G Q E = (x ≠ .ref p ∧ getUs (seqS G x) fun xs => 0 < xs.length ∧ xs.length ≤ 1000000 ∧ getBag (G p) fun q => getLst (G q) fun ms => IntsU ms ∧ q ≠ p ∧ ∀ u c a n, u ∈ xs → Q u (gup G p (bagO c a n q))) := (rfl)
end
local macro_rules | `(tactic| simp_arith! [$ls,*]) => `(tactic| (try (simp (discharger := assumption) only [↓x_var, ↓x_c, ↓x_op, ↓x_ifC, ↓x_nil, ↓x_cons, ↓x_lst, ↓x_test, ↓x_bAnd, ↓x_bOr, ↓x_call, ↓x_def, ↓x_u1, ↓x_seq, ↓x_next, ↓x_ret, ↓x_ifSC, ↓x_asg, ↓x_par, ↓x_gname, ↓x_gsub, ↓x_sl, ↓x_noPart, ↓x_part, ↓x_for, ↓x_any, ↓x_addI, ↓x_addS, ↓x_mulI, ↓x_modI, ↓x_fdivI, ↓x_powI, ↓x_eqI, ↓x_eqS, ↓x_ltI, ↓x_gtI, ↓x_geI, ↓x_inS1, ↓x_notInS1, ↓x_ixR, ↓x_ixT, ↓x_ixL, ↓x_ixS, ↓x_setL, ↓x_abs, ↓x_int, ↓x_intB, ↓x_lenR, ↓x_lenT, ↓x_lenS, ↓x_lenL, ↓x_listL, ↓x_slR, ↓x_iterS, e_condT, e_condF, slotK_s, asBl_s, asInt_s, getLst_s, getOb_s, getO_s, getUs_s, getN_s, lenOb_l, lstO_s, src_p, getD_0, getD_s, setAll_nil, setAll_cons, len_cons, e_bag, e_getLst_bag, e_getBag, e_IntsU, e_seqS_r, x_take, x_of, List.getElem?_cons_zero, List.getElem?_cons_succ, List.set_cons_zero, List.set_cons_succ, List.map_cons, List.map_nil, List.length_nil, List.length_cons, true_and, and_true, endsU, ustart, List.replicate, List.cons_append, List.nil_append, List.append_nil, Bool.not_true, Bool.not_false, decide_true, decide_false, List.mem_cons, List.reverse_cons, List.reverse_nil, gup_gup, gup_same, if_true, if_false, reduceIte, Bool.and_true, Bool.true_and, Bool.and_false, Bool.false_and, Bool.or_false, Bool.or_true, Bool.true_or, Bool.false_or, Nat.reduceAdd, Nat.reduceSub, String.reduceEq, Nat.reduceLeDiff, Nat.reduceEqDiff, atI_0, atI_1, atI_2, atI_3, gup_ne, gup_neS, or_true, true_or, false_or, or_false, ne_eq, not_false_eq_true, not_true_eq_false, reduceCtorEq, Nat.zero_add, U.ref.injEq, U.int.injEq, U.str.injEq, U.bl.injEq, Nat.reduceLT, List.not_mem_nil, Int.reduceEq, List.cons.injEq, and_self, Int.cast_ofNat_Int, Int.reduceToNat, Int.reduceLT, Int.reduceLE, Int.reduceNeg, Int.reduceAdd, Int.reduceSub, $ls,*])))
local macro_rules | `(tactic| simp_arith [$ls,*]) => `(tactic| (simp_arith! [$ls,*]; (repeat ((first | with_reducible refine scondT ?_ | with_reducible refine scondF ?_ | with_reducible refine condT ?_ | with_reducible refine condF ?_); simp_arith! [$ls,*]))))
local macro_rules | `(tactic| walk_at "usub") => `(tactic| (refine Sub.ofE ?_; (repeat (refine SubE.left ?_ (Or.inr (by first | assumption | simp (discharger := assumption) only [gup_same, gup_ne, gup_neS, gup_nN, gup_nNS, *])))); (repeat (refine SubE.put ?_ (by first | exact Or.inr (Or.inl (by assumption)) | exact Or.inr (Or.inr (by assumption)) | exact Or.inl (by simp) | exact Or.inr (Or.inr (by simp (discharger := assumption) only [gup_same, gup_ne, gup_neS, gup_nN, gup_nNS, *]))))); exact SubE.refl))
/- k02 _law_bag: slots ['_law_script', '_law_at', '_law_cell'] -/
def t_bag (c0 c1 : Int) : UTS := (tUSeq (tUAsg (tUIfC (tUTest (tUOp ltU (tUVar 1) (tUCall (u1 lenV) (tUCons (tUVar 0) tUNil)))) (tUCall (u1 absV) (tUCons (tUOp ixU0 (tUVar 0) (tUVar 1)) tUNil)) (tUC (.int 0))) (gUName 2))
    (tUSeq (tURet (tULst (tUCons (tUIfC (tUTest (tUOp geU (tUVar 2) (tUOp powU (tUC (.int 10)) (tUC (.int 18))))) (tUVar 2) (tUC (.int 0))) (tUCons (tUOp addU (tUC (.int c0)) (tUOp mulU (tUC (.int c1)) (tUVar 1))) (tUCons (tUVar 1) (tUCons (tUCall (u1 listV) (tUCons (tUSl (tUVar 0) tUNoPart (tUPart (tUC (.int 63)))) tUNil)) tUNil))))))
    tUNext))
/- k02 _law_take: slots ['_law_bag_here', '_law_many', '_law_cell', '_law_added', '_law_digit'] -/
def t_take (c0 c1 c2 c3 c4 c5 c6 c7 c8 : Int) : UTS := (tUSeq (tUIfSC (tUTest (tUOp gtU (tUOp ixU0 (tUVar 0) (tUC (.int 0))) (tUC (.int 0)))) (tUSeq (tUAsg (tUOp modU (tUCall (u1 intV) (tUCons (tUOp ixU0 (tUVar 0) (tUC (.int 0))) tUNil)) (tUVar 1)) (gUName 4))
    (tUSeq (tUAsg (tUOp fdivU (tUOp ixU0 (tUVar 0) (tUC (.int 0))) (tUVar 1)) (gUSub (tUVar 0) (tUC (.int 0)) setU0))
    (tUSeq (tURet (tUVar 4))
    tUNext))) tUNext)
    (tUSeq (tUAsg (tUOp addU (tUOp ixU0 (tUVar 0) (tUC (.int 2))) (tUC (.int 1))) (gUSub (tUVar 0) (tUC (.int 2)) setU0))
    (tUSeq (tUAsg (tUIfC (tUTest (tUOp neU (tUOp ixU0 (tUVar 0) (tUC (.int 3))) (tULst tUNil))) (tUOp ixU0 (tUOp ixU0 (tUVar 0) (tUC (.int 3))) (tUOp modU (tUOp ixU0 (tUVar 0) (tUC (.int 2))) (tUCall (u1 lenV) (tUCons (tUOp ixU0 (tUVar 0) (tUC (.int 3))) tUNil)))) (tUC (.int 0))) (gUName 2))
    (tUSeq (tUAsg (tUOp modU (tUCall (u1 intV) (tUCons (tUVar 2) tUNil)) (tUC (.int c0))) (gUName 3))
    (tUSeq (tUAsg (tUOp modU (tUCall (u1 intV) (tUCons (tUOp addU (tUOp addU (tUOp addU (tUOp mulU (tUOp ixU0 (tUVar 0) (tUC (.int 1))) (tUC (.int c7))) (tUVar 3)) (tUOp mulU (tUC (.int c5)) (tUOp ixU0 (tUVar 0) (tUC (.int 2))))) (tUC (.int c3))) tUNil)) (tUC (.int c1))) (gUSub (tUVar 0) (tUC (.int 1)) setU0))
    (tUSeq (tURet (tUOp modU (tUOp fdivU (tUOp modU (tUCall (u1 intV) (tUCons (tUOp mulU (tUOp fdivU (tUOp ixU0 (tUVar 0) (tUC (.int 1))) (tUC (.int c8))) (tUC (.int c6))) tUNil)) (tUC (.int c4))) (tUC (.int c2))) (tUVar 1)))
    tUNext))))))
/- k02 _law_of: slots ['_law_bag_here', '_law_some'] -/
def t_of : UTS := (tUSeq (tURet (tUOp ixU0 (tUVar 1) (tUDef sp_take 2 0 [.p 0, .p 1] [] [] (tUCons (tUVar 0) (tUCons (tUCall (u1 lenV) (tUCons (tUVar 1) tUNil)) tUNil)) tUNil)))
    tUNext)
theorem law_bag (c0 c1 : Int) (h01 : -(2 ^ 64) < c1 ∧ c1 < 2 ^ 64) (us : List U) (G : Gp) (Q : UK) (E : UX) (h : sp_bag us G Q E) : t_bag c0 c1 (endsU Q E) (ustart 3 us) G := by
  unfold sp_bag at h
  split at h
  · rename_i us' k
    obtain ⟨⟨ns, rfl⟩, hk, q⟩ := h
    have cp : CPow 10 18 := ⟨by decide, by decide, by decide⟩
    obtain ⟨ms, hms⟩ := cutU_ints ns none (some 63)
    simp_arith [t_bag]
    refine condM (fun u G' => G' = G ∧ ∃ z, u = .int z) (fun h => ?_) (fun h => ?_) ?_
    · have hlt := of_decide_eq_true h
      rw [intU_len] at hlt
      obtain ⟨z, _, hz⟩ := intU_at hk hlt
      simp_arith [hz]
      exact .now ⟨rfl, _, rfl⟩
    · simp_arith []
      exact .now ⟨rfl, _, rfl⟩
    · rintro u G' ⟨rfl, z, rfl⟩
      simp_arith [cp]
      refine condM (fun u G2 => G2 = G' ∧ ∃ z, u = .int z) (fun h => ?_) (fun h => ?_) ?_
      · simp_arith []
        exact .now ⟨rfl, _, rfl⟩
      · simp_arith []
        exact .now ⟨rfl, _, rfl⟩
      · rintro u G2 ⟨rfl, c, rfl⟩
        simp_arith [hms, cmul_l h01]
        intro p hp r hr z hz
        obtain ⟨r1, r2⟩ := gup_none hr
        obtain ⟨z1, z2⟩ := gup_none hz
        obtain ⟨z3, z4⟩ := gup_none z2
        exact KF.of (Sub.drop hp).gup.gup (q c (c0 + c1 * k) k z r ms z4 r2 (Ne.symm z1))
  · exact h.elim
theorem law_take (c0 c1 c2 c3 c4 c5 c6 c7 c8 : Int) (hc : 0 < c0 ∧ 0 < c1 ∧ (0 < c2 ∧ c2 < 1073741824) ∧ 0 < c4 ∧ (-(2 ^ 64) < c5 ∧ c5 < 2 ^ 64) ∧ (-(2 ^ 64) < c6 ∧ c6 < 2 ^ 64) ∧ (-(2 ^ 64) < c7 ∧ c7 < 2 ^ 64) ∧ 0 < c8 ∧ c8 < 1073741824)
    (us : List U) (G : Gp) (Q : UK) (E : UX) (h : sp_take us G Q E) : t_take c0 c1 c2 c3 c4 c5 c6 c7 c8 (endsU Q E) (ustart 5 us) G := by
  unfold sp_take at h
  split at h
  · rename_i p m
    obtain ⟨⟨m0, m1⟩, c, a, n, q, hp, h⟩ := h
    rw [← lst_ex] at h
    obtain ⟨_, hq, ⟨ms, rfl⟩, hne, q'⟩ := h
    obtain ⟨h0, h1, ⟨h2, h2'⟩, h4, h5, h6, h7, h8, h8'⟩ := hc
    have em : ∀ i : Int, 0 ≤ i % m := fun i => Int.emod_nonneg i (by omega)
    have lm : ∀ i : Int, i % m < m := fun i => Int.emod_lt_of_pos i m0
    simp_arith [t_take, hp, m0, m1]
    refine scond2 (fun h => ?_) fun h => ?_
    · simp_arith [hp, m0, m1, ixN]
      exact .now (q' _ _ _ _ (em _) (lm _))
    · simp_arith [hp, hq, ixN]
      intro r hr
      obtain ⟨r1, r2⟩ := gup_none hr
      have hqr : q ≠ r := ne_of_known hq r2
      have hpr : p ≠ r := Ne.symm r1
      refine ne_lists (ns := ms) (ms := []) (by simp_arith [hq]) (by simp_arith []; rfl) ?_
      simp_arith []
      refine condM (fun u G' => G' = gup G p (bagO c a (n + 1) q) ∧ ∃ z, u = .int z) (fun h => ?_) (fun h => ?_) ?_
      · have hl : (0 : Int) < (IntU ms).length := by
          rw [intU_len]
          have : ms ≠ [] := by simpa using h
          have := List.length_pos_iff.mpr this
          omega
        obtain ⟨z, _, hz⟩ := intU_at (ns := ms) (i := (n + 1) % ((IntU ms).length : Int)) (Int.emod_nonneg _ (by omega)) (by rw [← intU_len]; exact Int.emod_lt_of_pos _ hl)
        simp_arith [hq, hl, hz]
        exact ⟨_, Sub.drop hr, rfl, _, rfl⟩
      · simp_arith []
        exact ⟨_, Sub.drop hr, rfl, _, rfl⟩
      · rintro u G' ⟨rfl, z, rfl⟩
        simp_arith [ixN, h0, h1, h2, h2', h4, cmul_l h5, cmul_r h6, cmul_r h7, h8, h8', m0]
        exact .now (q' _ _ _ _ (em _) (lm _))
  · exact h.elim
theorem of_any {α : Type} {l : List α} {i : Int} (h0 : 0 ≤ i) (h1 : i < l.length) : ∃ c, c ∈ l ∧ atI l i = some c := by
  rw [atI_nn h0 h1]
  have : i.toNat < l.length := by omega
  exact ⟨l[i.toNat], List.getElem_mem this, List.getElem?_eq_getElem this⟩
theorem law_of (us : List U) (G : Gp) (Q : UK) (E : UX) (h : sp_of us G Q E) : t_of (endsU Q E) (ustart 2 us) G := by
  unfold sp_of at h
  split at h
  · rename_i p x
    obtain ⟨hx, h⟩ := h
    have h' : ∃ xs, seqS G x = some xs ∧ 0 < xs.length ∧ xs.length ≤ 1000000 ∧ ∃ c a n q ms, G p = some (bagO c a n q) ∧ G q = some (.lst (IntU ms)) ∧ q ≠ p ∧ ∀ u c a n, u ∈ xs → Q u (gup G p (bagO c a n q)) := by
      cases e : seqS G x with
      | none => rw [e] at h; exact h.elim
      | some xs =>
        rw [e] at h
        obtain ⟨l0, l1, c, a, n, q, hp, h⟩ := h
        rw [← lst_ex] at h
        obtain ⟨_, hq, ⟨ms, rfl⟩, hne, q'⟩ := h
        exact ⟨xs, rfl, l0, l1, c, a, n, q, ms, hp, hq, hne, q'⟩
    clear h
    obtain ⟨xs, e, l0, l1, c, a, n, q, ms, hp, hq, hne, q'⟩ := h'
    have b0 : (0 : Int) < (xs.length : Int) := by omega
    have b1 : (xs.length : Int) < 1073741824 := by omega
    cases x with
    | str l =>
      cases e
      have el : (sgs l).length = l.length := List.length_map _
      rw [el] at b0 b1 l0 l1
      simp_arith [t_of, l1, b0, b1, hp, hq, hne]
      intro r c' a' n' h0 h1
      obtain ⟨ch, hm, hat⟩ := of_any (l := l) h0 h1
      simp_arith [hat, l1]
      exact .now (q' _ _ _ _ (List.mem_map_of_mem hm))
    | tup ys =>
      cases e
      simp_arith [t_of, l1, b0, b1, hp, hq, hne]
      intro r c' a' n' h0 h1
      obtain ⟨u, hm, hat⟩ := of_any (l := xs) h0 h1
      simp_arith [hat]
      exact .now (q' _ _ _ _ hm)
    | rol ys =>
      cases e
      simp_arith [t_of, l1, b0, b1, hp, hq, hne]
      intro r c' a' n' h0 h1
      obtain ⟨u, hm, hat⟩ := of_any (l := xs) h0 h1
      simp_arith [hat]
      exact .now (q' _ _ _ _ hm)
    | ref b =>
      have hb : b ≠ p := fun z => hx (by rw [z])
      have hg : G b = some (.lst xs) := by
        have e' : lstO (G b) = some xs := e
        cases g : G b with
        | none => rw [g] at e'; cases e'
        | some o =>
          rw [g] at e'
          cases o <;> cases e'
          rfl
      simp_arith [t_of, l1, b0, b1, hp, hq, hne, hg]
      intro r c' a' n' h0 h1
      obtain ⟨u, hm, hat⟩ := of_any (l := xs) h0 h1
      simp_arith [hat, hg]
      exact .now (q' _ _ _ _ hm)
    | _ => cases e
  · exact h.elim
theorem bag_of {G : Gp} {p : Addr} {P : Addr → Prop} (h : getBag (G p) fun q => getLst (G q) fun ms => IntsU ms ∧ q ≠ p ∧ P q) : ∃ c a n q ms, G p = some (bagO c a n q) ∧ G q = some (.lst (IntU ms)) ∧ q ≠ p ∧ P q := by
  obtain ⟨c, a, n, q, hp, h⟩ := h
  rw [← lst_ex] at h
  obtain ⟨_, hq, ⟨ms, rfl⟩, hne, q'⟩ := h
  exact ⟨c, a, n, q, ms, hp, hq, hne, q'⟩
def Keep (p : Addr) (G G2 : Gp) : Prop := ∀ a o, a ≠ p → G a = some o → G2 a = some o
theorem Keep.refl {p : Addr} {G : Gp} : Keep p G G := fun _ _ _ h => h
theorem Keep.self {p : Addr} {G G2 : Gp} {o : Ob} (h : Keep p G G2) : Keep p G (gup G2 p o) := fun a u hn g => (gup_ne hn).trans (h a u hn g)
theorem Keep.new {p z : Addr} {G G2 : Gp} {o : Ob} (h : Keep p G G2) (hz : G2 z = none) : Keep p G (gup G2 z o) := fun a u hn g => by
  have e := h a u hn g
  rw [gup_ne fun x => by rw [x, hz] at e; cases e]
  exact e
theorem Keep.trans {p : Addr} {G G2 G3 : Gp} (h : Keep p G G2) (k : Keep p G2 G3) : Keep p G G3 := fun a u hn g => k a u hn (h a u hn g)
end LL
set_option maxHeartbeats 1000000
namespace WW
open PySem PySem.Spec PyProof.Rows L2 UL
local macro_rules | `(tactic| simp_arith! [$ls,*]) => `(tactic| (try (simp (discharger := assumption) only [↓x_var, ↓x_c, ↓x_op, ↓x_un, ↓x_and, ↓x_nil, ↓x_cons, ↓x_test, ↓x_not, ↓x_bAnd, ↓x_tru, ↓x_call, ↓x_def, ↓x_u1, ↓x_u2, ↓x_seq, ↓x_next, ↓x_ret, ↓x_ifSC, ↓x_asg, ↓x_gname, ↓x_for, ↓x_rng1, ↓x_fld, ↓x_fldU, ↓x_gfld, ↓x_setF, ↓x_raise, ↓x_subI, ↓x_mulI, ↓x_shlI, ↓x_notU, ↓x_leI, ↓x_gtI, ↓x_isN, ↓x_isNotN, ↓x_lenL, ↓x_rngA, ↓x_truB, ↓x_isi, ↓x_chain, ↓x_asRgL, ↓x_listRg, e_condT, e_condF, slotK_s, asBl_s, getIns_s, getOb_s, getO_s, isNon_n, lenOb_l, isiK_s, isi_bb, isiOk_b, td_I, td_B, tdC_t, fget_nil, fget_cons, fput_nil, fput_cons, src_p, getD_0, getD_s, len_cons, e_asBlK, List.getElem?_cons_zero, List.getElem?_cons_succ, List.set_cons_zero, List.set_cons_succ, List.map_cons, List.map_nil, List.length_nil, List.length_cons, true_and, and_true, endsU, ustart, List.replicate, List.cons_append, List.nil_append, List.append_nil, Bool.not_true, Bool.not_false, decide_true, decide_false, tyNames, fldsOf, List.mem_cons, gup_gup, gup_same, if_true, if_false, reduceIte, List.zip_cons_cons, List.zip_nil_right, Bool.and_true, Bool.true_and, Bool.and_false, Bool.false_and, Bool.or_false, Bool.or_true, Nat.reduceAdd, Nat.reduceSub, String.reduceEq, or_true, or_false, Nat.zero_add, Nat.reduceLT, List.not_mem_nil, Int.reduceEq, Int.reduceLT, Int.reduceAdd, Int.reduceSub, $ls,*])))
local macro_rules | `(tactic| simp_arith [$ls,*]) => `(tactic| (simp_arith! [$ls,*]; (repeat ((first | with_reducible refine scondT ?_ | with_reducible refine scondF ?_ | with_reducible refine condT ?_ | with_reducible refine condF ?_); simp_arith! [$ls,*]))))
local macro_rules | `(tactic| walk_at "usub") => `(tactic| (refine Sub.ofE ?_; (repeat (refine SubE.left ?_ (Or.inr (by first | assumption | simp (discharger := assumption) only [gup_same, gup_ne, gup_neS, gup_nN, gup_nNS, *])))); (repeat (refine SubE.put ?_ (by first | exact Or.inr (Or.inl (by assumption)) | exact Or.inr (Or.inr (by assumption)) | exact Or.inl (by simp) | exact Or.inr (Or.inr (by simp (discharger := assumption) only [gup_same, gup_ne, gup_neS, gup_nN, gup_nNS, *]))))); exact SubE.refl))
def numB : U → Int → Int → Bool
  | .int n, a, b => decide (a ≤ n) && decide (n ≤ b)
  | _, _, _ => false
theorem num_of {u : U} {a b : Int} (h : numB u a b = true) : ∃ n, u = .int n ∧ a ≤ n ∧ n ≤ b := by
  cases u <;> first
    | (cases h; done)
    | skip
  rename_i n
  unfold numB at h
  simp only [Bool.and_eq_true, decide_eq_true_eq] at h
  exact ⟨n, rfl, h.1, h.2⟩
def sp_is_integer : USp := fun us G Q _ => match us with
  | [u, .int a, .int b] => (tdOf G u).isSome = true ∧ Q (.bl (numB u a b)) G
  | _ => False
theorem x_is_integer {G : Gp} {Q : UK} {E : UX} {u : U} {a b : Int} : Call sp_is_integer [u, .int a, .int b] G Q E = ((tdOf G u).isSome = true ∧ Q (.bl (numB u a b)) G) := (rfl)
/- slots ['thing', 'least', 'most'] -/
def t_is_integer : UTS := (tUSeq (tURet (tUAnd (tUCall (u2 (isiV [])) (tUCons (tUVar 0) (tUCons (tUC (.ty "int")) tUNil))) (tUAnd (tUUn notU (tUCall (u2 (isiV [])) (tUCons (tUVar 0) (tUCons (tUC (.ty "bool")) tUNil)))) (tUChain leU leU (tUVar 1) (tUVar 0) (tUVar 2)))))
    tUNext)
theorem law_is_integer (us : List U) (G : Gp) (Q : UK) (E : UX) (h : sp_is_integer us G Q E) : t_is_integer (endsU Q E) (ustart 3 us) G := by
  unfold sp_is_integer at h
  split at h
  · rename_i u a b
    obtain ⟨ht, q⟩ := h
    obtain ⟨t, ht⟩ := Option.isSome_iff_exists.mp ht
    simp_arith [t_is_integer, ht]
    cases u with
    | int n =>
      cases ht
      simp_arith []
      refine dcond (fun h1 => ?_) fun h1 => ?_
      · simp_arith []
        refine .now ?_
        rw [show numB (.int n) a b = decide (n ≤ b) by simp [numB, h1]] at q
        exact q
      · refine .now ?_
        rw [show numB (.int n) a b = false by simp [numB, h1]] at q
        exact q
    | ref p =>
      have q' : Q (.bl false) G := q
      have e : isiF t (.b "int") = false := by
        rcases h : G p with _ | o
        · rw [td_R, h] at ht; cases ht
        · rw [td_R, h] at ht
          cases o <;> cases ht <;> rfl
      simp_arith [e]
      exact .now q'
    | ty _ => cases ht
    | glo _ => cases ht
    | exc => cases ht
    | _ =>
      cases ht
      simp_arith []
      exact .now q
  · exact h.elim
def cutsN : U → U → Int
  | .int n, .non => if 0 < n then 2 ^ (n - 1).toNat else 1
  | _, _ => 1
def cutO (u v : U) (m : Int) : Ob := .ins "Cuts" [("count", u), ("chunk", v), ("many", .int m)]
def dealO (u v : U) (m : Int) : Ob := .ins "Dealings" [("chunks", u), ("workers", v), ("many", .int m)]
def badSet (l : List Nat) : UExc := ⟨"BadSetting", [("what", .str l)]⟩
def tooMany (l : List Nat) : UExc := ⟨"TooMany", [("what", .str l)]⟩
theorem e_badSet {l : List Nat} : (⟨"BadSetting", [("what", .str l)]⟩ : UExc) = badSet l := (rfl)
theorem e_tooMany {l : List Nat} : (⟨"TooMany", [("what", .str l)]⟩ : UExc) = tooMany l := (rfl)
def manyI (u : U) (Q : Int → Prop) (_ : Tag Q := ()) : Prop := match u with
  | .int m => Q m
  | _ => False
theorem x_manyI {m : Int} {Q : Int → Prop} : manyI (.int m) Q = Q m := (rfl)
theorem x_insCut {u v : U} {m : Int} {K : String → List (String × U) → Prop} : getIns (some (cutO u v m)) K = K "Cuts" [("count", u), ("chunk", v), ("many", .int m)] := (rfl)
theorem x_insDeal {u v : U} {m : Int} {K : String → List (String × U) → Prop} : getIns (some (dealO u v m)) K = K "Dealings" [("chunks", u), ("workers", v), ("many", .int m)] := (rfl)
def sp_Cuts___init__ : USp := fun us G Q E => match us with
  | [.ref p, u, v] => getIns (G p) fun c fs => c = "Cuts" ∧ fs = [] ∧ (tdOf G u).isSome = true ∧ (tdOf G v).isSome = true ∧ condP (numB u 0 12) (condP (isNonU v || numB v 1 9) (Q .non (gup G p (cutO u v (cutsN u v)))) (E (badSet [99, 104, 117, 110, 107]) G)) (E (badSet [99, 111, 117, 110, 116]) G)
  | _ => False
def sp_Cuts___len__ : USp := fun us G Q _ => match us with
  | [.ref p] => getIns (G p) fun c fs => c = "Cuts" ∧ getO (fget fs "many") fun u => manyI u fun m => (0 ≤ m ∧ m ≤ 1000000) ∧ ∀ r, G r = none → Q (.int m) (gup G r (.lst (rngs 0 m.toNat)))
  | _ => False
section
variable {G : Gp} {Q : UK} {E : UX} {p : Addr} {u v : U}
theorem x_Cuts_init : Call sp_Cuts___init__ [.ref p, u, v] G Q E = getIns (G p) fun c fs => c = "Cuts" ∧ fs = [] ∧ (tdOf G u).isSome = true ∧ (tdOf G v).isSome = true ∧ condP (numB u 0 12) (condP (isNonU v || numB v 1 9) (Q .non (gup G p (cutO u v (cutsN u v)))) (E (badSet [99, 104, 117, 110, 107]) G)) (E (badSet [99, 111, 117, 110, 116]) G) := (rfl)
theorem x_Cuts_len : Call sp_Cuts___len__ [.ref p] G Q E = getIns (G p) fun c fs => c = "Cuts" ∧ getO (fget fs "many") fun u => manyI u fun m => (0 ≤ m ∧ m ≤ 1000000) ∧ ∀ r, G r = none → Q (.int m) (gup G r (.lst (rngs 0 m.toNat))) := (rfl)
end
local macro_rules | `(tactic| simp_arith! [$ls,*]) => `(tactic| (try (simp (discharger := assumption) only [↓x_var, ↓x_c, ↓x_op, ↓x_un, ↓x_and, ↓x_nil, ↓x_cons, ↓x_test, ↓x_not, ↓x_bAnd, ↓x_tru, ↓x_call, ↓x_def, ↓x_u1, ↓x_u2, ↓x_seq, ↓x_next, ↓x_ret, ↓x_ifSC, ↓x_asg, ↓x_gname, ↓x_for, ↓x_rng1, ↓x_fld, ↓x_fldU, ↓x_gfld, ↓x_setF, ↓x_raise, ↓x_subI, ↓x_mulI, ↓x_shlI, ↓x_notU, ↓x_leI, ↓x_gtI, ↓x_isN, ↓x_isNotN, ↓x_lenL, ↓x_rngA, ↓x_truB, ↓x_isi, ↓x_chain, ↓x_asRgL, ↓x_listRg, e_condT, e_condF, slotK_s, asBl_s, getIns_s, getOb_s, getO_s, isNon_n, lenOb_l, isiK_s, isi_bb, isiOk_b, td_I, td_B, tdC_t, fget_nil, fget_cons, fput_nil, fput_cons, src_p, getD_0, getD_s, len_cons, x_is_integer, e_badSet, e_tooMany, e_asBlK, List.getElem?_cons_zero, List.getElem?_cons_succ, List.set_cons_zero, List.set_cons_succ, List.map_cons, List.map_nil, List.length_nil, List.length_cons, true_and, and_true, endsU, ustart, List.replicate, List.cons_append, List.nil_append, List.append_nil, Bool.not_true, Bool.not_false, decide_true, decide_false, tyNames, fldsOf, List.mem_cons, gup_gup, gup_same, if_true, if_false, reduceIte, List.zip_cons_cons, List.zip_nil_right, Bool.and_true, Bool.true_and, Bool.and_false, Bool.false_and, Bool.or_false, Bool.or_true, Nat.reduceAdd, Nat.reduceSub, String.reduceEq, or_true, or_false, Nat.zero_add, Nat.reduceLT, List.not_mem_nil, Int.reduceEq, Int.reduceLT, Int.reduceAdd, Int.reduceSub, $ls,*])))
local macro_rules | `(tactic| simp_arith [$ls,*]) => `(tactic| (simp_arith! [$ls,*]; (repeat ((first | with_reducible refine scondT ?_ | with_reducible refine scondF ?_ | with_reducible refine condT ?_ | with_reducible refine condF ?_); simp_arith! [$ls,*]))))
local macro_rules | `(tactic| walk_at "usub") => `(tactic| (refine Sub.ofE ?_; (repeat (refine SubE.left ?_ (Or.inr (by first | assumption | simp (discharger := assumption) only [gup_same, gup_ne, gup_neS, gup_nN, gup_nNS, *])))); (repeat (refine SubE.put ?_ (by first | exact Or.inr (Or.inl (by assumption)) | exact Or.inr (Or.inr (by assumption)) | exact Or.inl (by simp) | exact Or.inr (Or.inr (by simp (discharger := assumption) only [gup_same, gup_ne, gup_neS, gup_nN, gup_nNS, *]))))); exact SubE.refl))
/- slots ['self', 'count', 'chunk'] -/
def t_Cuts___init__ : UTS := (tUSeq (tUIfSC (tUNot (tUTru (fun u G Q _ => truU u G Q) (tUDef sp_is_integer 3 0 [.p 0, .p 1, .p 2] [] [] (tUCons (tUVar 1) (tUCons (tUC (.int 0)) (tUCons (tUC (.int 12)) tUNil))) tUNil))) (tUSeq (tURaise "BadSetting" ["what"] (tUCons (tUC (.str [99, 111, 117, 110, 116])) tUNil))
    tUNext) tUNext)
    (tUSeq (tUIfSC (tBAnd (tUTest (tUOp isNotU (tUVar 2) (tUC .non))) (tUNot (tUTru (fun u G Q _ => truU u G Q) (tUDef sp_is_integer 3 0 [.p 0, .p 1, .p 2] [] [] (tUCons (tUVar 2) (tUCons (tUC (.int 1)) (tUCons (tUC (.int 9)) tUNil))) tUNil)))) (tUSeq (tURaise "BadSetting" ["what"] (tUCons (tUC (.str [99, 104, 117, 110, 107])) tUNil))
    tUNext) tUNext)
    (tUSeq (tUAsg (tUVar 1) (gUFld "count" (tUVar 0)))
    (tUSeq (tUAsg (tUVar 2) (gUFld "chunk" (tUVar 0)))
    (tUSeq (tUAsg (tUC (.int 1)) (gUFld "many" (tUVar 0)))
    (tUSeq (tUIfSC (tBAnd (tUTest (tUOp isU (tUVar 2) (tUC .non))) (tUTest (tUOp gtU (tUVar 1) (tUC (.int 0))))) (tUSeq (tUAsg (tUOp shlU (tUC (.int 1)) (tUOp subU (tUVar 1) (tUC (.int 1)))) (gUFld "many" (tUVar 0)))
    tUNext) tUNext)
    tUNext))))))
/- slots ['self'] -/
def t_Cuts___len__ : UTS := (tUSeq (tURet (tUCall (u1 lenV) (tUCons (tUListRg (tUFld "many" (tUVar 0))) tUNil)))
    tUNext)
/- slots ['self', 'chunks', 'workers', 'chunk'] -/
theorem ins_of {o : Option Ob} {K : String → List (String × U) → Prop} (h : getIns o K) : ∃ c fs, o = some (.ins c fs) ∧ K c fs := by
  cases o with
  | none => exact h.elim
  | some o => cases o <;> first | exact ⟨_, _, rfl, h⟩ | exact h.elim
theorem law_Cuts___init__ (us : List U) (G : Gp) (Q : UK) (E : UX) (h : sp_Cuts___init__ us G Q E) : t_Cuts___init__ (endsU Q E) (ustart 3 us) G := by
  unfold sp_Cuts___init__ at h
  split at h
  · rename_i p u v
    obtain ⟨c, fs, hp, rfl, rfl, hu, hv, h⟩ := ins_of h
    simp_arith [t_Cuts___init__, hp, hu, hv]
    cases hb : numB u 0 12 with
    | false =>
      rw [hb] at h
      simp_arith []
      exact .now h
    | true =>
      rw [hb] at h
      obtain ⟨n, rfl, n0, n1⟩ := num_of hb
      simp_arith []
      by_cases hv0 : v = .non
      · subst hv0
        simp_arith [hp]
        refine dscond2 (fun h0 => ?_) fun h0 => ?_
        · simp_arith []
          refine ⟨⟨by omega, by omega, by decide⟩, .now ?_⟩
          have e : cutsN (.int n) .non = 1 * 2 ^ (n - 1).toNat := by simp [cutsN, h0]
          rw [← e]
          exact h
        · simp_arith []
          refine .now ?_
          have e : cutsN (.int n) .non = 1 := by simp [cutsN, h0]
          rw [← e]
          exact h
      · have hn : isNonU v = false := by cases v <;> first | rfl | exact absurd rfl hv0
        have e : cutsN (.int n) v = 1 := by cases v <;> first | rfl | exact absurd rfl hv0
        rw [hn, Bool.false_or, e] at h
        simp_arith [hp, hn, hv]
        cases hc : numB v 1 9 with
        | false =>
          rw [hc] at h
          simp_arith []
          exact .now h
        | true =>
          rw [hc] at h
          simp_arith [hp, hn]
          exact .now h
  · exact h.elim
theorem rngs_len {m : Int} (h : 0 ≤ m) : (((rngs 0 m.toNat).length : Nat) : Int) = m := by
  unfold rngs
  rw [List.length_map, List.length_range]
  omega
theorem law_Cuts___len__ (us : List U) (G : Gp) (Q : UK) (E : UX) (h : sp_Cuts___len__ us G Q E) : t_Cuts___len__ (endsU Q E) (ustart 1 us) G := by
  unfold sp_Cuts___len__ at h
  split at h
  · rename_i p
    obtain ⟨c, fs, hp, rfl, h⟩ := ins_of h
    obtain ⟨u, hu, h⟩ := getO_of h
    cases u <;> try exact h.elim
    rename_i m
    obtain ⟨⟨m0, m1⟩, h⟩ := h
    simp_arith [t_Cuts___len__, hp, hu]
    refine ⟨⟨m0, m1⟩, fun r hr => .now ?_⟩
    rw [rngs_len m0]
    exact h r hr
  · exact h.elim
end WW
set_option maxHeartbeats 2000000
namespace WW
open PySem PySem.Spec PyProof.Rows L2 UL
def tupI (r : List Int) : U := .tup (IntU r)
theorem rep_snoc {α : Type} (m : Nat) (x : α) : List.replicate m x ++ [x] = List.replicate (m + 1) x := by
  rw [← List.replicate_succ']
def itemsD (G : Gp) : U → Prop
  | .tup us => us.length ≤ 100000 ∧ ∀ x ∈ us, (tdOf G x).isSome = true
  | _ => True
theorem e_only {p : Addr} {ob : Ob} : only p ob p = some ob := if_pos rfl
theorem flat_ints : ∀ r : List Int, (IntU r).all flatU = true
  | [] => rfl
  | _ :: r => flat_ints r
theorem yl_of {p q : Addr} {ob : Ob} {out : List U} {m : Nat} {D : GEn} {own : List Addr} {us : USt} {w : U} {G1 : Gp} {xs : List Int} (ho : out[out.length - (m + 1)]? = some w) (hf : flatS us = true) (hp : G1 p = some ob) (hq : G1 q = some (.lst (IntU xs))) (hpq : p ≠ q) (hown : ∀ a ∈ own, a = q)
    (h : D.nx m [q] us (gup (only p ob) q (.lst (IntU xs)))) : YlOk p ob out m D own us w G1 := by
  refine ⟨ho, hf, gup (only p ob) q (.lst (IntU xs)), [q], fun a o e => ?_, ⟨?_, fun a o e => ?_, fun a ha => ?_⟩, fun a ha => List.mem_singleton.mpr (hown a ha), h⟩
  · by_cases ha : a = q
    · subst ha
      rw [gup_same] at e
      cases e
      exact hq
    · rw [gup_ne ha] at e
      unfold only at e
      split at e
      · rename_i z
        cases e
        rw [z]
        exact hp
      · cases e
  · rw [gup_ne hpq]
    exact e_only
  · by_cases ha : a = q
    · exact .inr (List.mem_singleton.mpr ha)
    · rw [gup_ne ha] at e
      unfold only at e
      split at e
      · exact .inl (by assumption)
      · cases e
  · rw [List.mem_singleton.mp ha]
    exact ⟨Ne.symm hpq, _, gup_same, flat_ints xs⟩
theorem yl_of0 {p : Addr} {ob : Ob} {out : List U} {m : Nat} {D : GEn} {us : USt} {w : U} {G1 : Gp} (ho : out[out.length - (m + 1)]? = some w) (hf : flatS us = true) (hp : G1 p = some ob) (h : D.nx m [] us (only p ob)) : YlOk p ob out m D [] us w G1 := by
  refine ⟨ho, hf, only p ob, [], fun a o e => ?_, ⟨e_only, fun a o e => ?_, fun a ha => by cases ha⟩, fun a ha => ha, h⟩
  · unfold only at e
    split at e
    · rename_i z
      cases e
      rw [z]
      exact hp
    · cases e
  · unfold only at e
    split at e
    · exact .inl (by assumption)
    · cases e
theorem e_rep {n : Nat} {c : Int} : (List.replicate n [U.int c]).flatten = IntU (List.replicate n c) := by
  induction n with
  | zero => rfl
  | succ n ih =>
    rw [List.replicate_succ, List.flatten_cons, ih, List.replicate_succ]
    rfl
theorem snoc_of {α : Type} {l : List α} (h : l ≠ []) : ∃ q x, l = q ++ [x] := ⟨l.dropLast, l.getLast h, (List.dropLast_concat_getLast h).symm⟩
theorem idx_of {α : Type} (d : List α) (x y : α) (t : List α) : (d ++ x :: y :: t)[(d ++ x :: y :: t).length - (t.length + 1)]? = some y := by
  have e : (d ++ x :: y :: t).length - (t.length + 1) = d.length + 1 := by
    rw [List.length_append, List.length_cons, List.length_cons]
    omega
  rw [e, List.getElem?_append_right (by omega)]
  have e2 : d.length + 1 - d.length = 1 := by omega
  rw [e2]
  rfl
local macro_rules | `(tactic| simp_arith! [$ls,*]) => `(tactic| (try (simp (discharger := assumption) only [↓x_var, ↓x_c, ↓x_op, ↓x_nil, ↓x_cons, ↓x_lst, ↓x_test, ↓x_not, ↓x_bOr, ↓x_tru, ↓x_call, ↓x_def, ↓x_u1, ↓x_u2, ↓x_seq, ↓x_next, ↓x_ret, ↓x_ifSC, ↓x_asg, ↓x_gname, ↓x_for, ↓x_any, ↓x_fld, ↓x_fldU, ↓x_addI, ↓x_subI, ↓x_mulL, ↓x_neI, ↓x_ltI, ↓x_geI, ↓x_ixL, ↓x_setL, ↓x_lenT, ↓x_tupleL, ↓x_iterT, ↓x_truB, ↓x_isi, ↓x_insDeal, ↓x_G0, ↓x_Gseq, ↓x_Gpl, ↓x_Gif, ↓x_Gyl, ↓x_gtail, ↓x_tailU, ↓x_aug, ↓x_augS, ↓x_getI, ↓x_iaddI, e_condT, e_condF, slotK_s, asBl_s, getLst_s, getO_s, isiK_s, isi_bb, isiOk_b, tdC_t, fget_nil, fget_cons, src_p, getD_0, getD_s, len_cons, x_is_integer, e_only, e_rep, List.getElem?_cons_zero, List.getElem?_cons_succ, List.set_cons_zero, List.set_cons_succ, List.map_cons, List.map_nil, List.length_nil, List.length_cons, true_and, and_true, endsU, ustart, List.replicate, List.cons_append, List.nil_append, cond_true, cond_false, Bool.not_true, Bool.not_false, decide_true, decide_false, tyNames, List.mem_cons, gup_gup, gup_same, if_true, if_false, Bool.and_true, Bool.true_and, Bool.and_false, Bool.or_false, Bool.or_true, Bool.true_or, Nat.reduceAdd, Nat.reduceSub, String.reduceEq, Nat.reduceLeDiff, gup_ne, or_true, true_or, or_false, ne_eq, List.length_map, Nat.add_zero, Nat.zero_add, U.ref.injEq, U.int.injEq, U.str.injEq, U.bl.injEq, List.not_mem_nil, Int.reduceEq, List.cons.injEq, Int.cast_ofNat_Int, Int.reduceLE, Int.reduceNeg, Int.reduceAdd, Int.reduceSub, $ls,*])))
local macro_rules | `(tactic| simp_arith [$ls,*]) => `(tactic| (simp_arith! [$ls,*]; (repeat ((first | with_reducible refine scondT ?_ | with_reducible refine scondF ?_ | with_reducible refine condT ?_ | with_reducible refine condF ?_); simp_arith! [$ls,*]))))
local macro_rules | `(tactic| walk_at "usub") => `(tactic| (refine Sub.ofE ?_; (repeat (refine SubE.left ?_ (Or.inr (by first | assumption | simp (discharger := assumption) only [gup_same, gup_ne, gup_neS, gup_nN, gup_nNS, *])))); (repeat (refine SubE.put ?_ (by first | exact Or.inr (Or.inl (by assumption)) | exact Or.inr (Or.inr (by assumption)) | exact Or.inl (by simp) | exact Or.inr (Or.inr (by simp (discharger := assumption) only [gup_same, gup_ne, gup_neS, gup_nN, gup_nNS, *]))))); exact SubE.refl))
/- slots ['self', 'row', 'at'] -/
end WW
set_option maxHeartbeats 2000000
namespace WW
open PySem PySem.Spec PyProof.Rows L2 UL
def bumpC (c : List Int) : List Int := c.dropLast ++ [c.getLastD 0 + 1]
def longC (c : List Int) : List (List Int) := (c ++ [1]) :: (if c = [] then [] else [bumpC c])
def cutsL : Nat → List (List Int)
  | 0 => [[]]
  | k + 1 => (cutsL k).flatMap longC
theorem bump_snoc (c : List Int) (z : Int) : bumpC (c ++ [z]) = c ++ [z + 1] := by
  unfold bumpC
  rw [List.dropLast_concat]
  simp [List.getLastD_eq_getLast?]
/-- y is the cut behind x -/
def StepC (x y : List Int) : Prop := ∃ (pre : List Int) (a : Int) (l : Nat), x = pre ++ [a, ((l + 1 : Nat) : Int)] ∧ 1 ≤ a ∧ y = pre ++ (a + 1) :: List.replicate l 1
inductive RunC : List (List Int) → Prop
  | one {x : List Int} : x.length ≤ 1 → RunC [x]
  | cons {x y : List Int} {r : List (List Int)} : StepC x y → RunC (y :: r) → RunC (x :: y :: r)
theorem step_bump {c : List Int} (h : c ≠ []) (hp : ∀ x ∈ c, 1 ≤ x) : StepC (c ++ [1]) (bumpC c) := by
  obtain ⟨q, z, rfl⟩ := snoc_of h
  refine ⟨q, z, 0, ?_, hp z (by simp), ?_⟩
  · rw [List.append_assoc]
    rfl
  · rw [bump_snoc]
    rfl
theorem step_next {x y : List Int} (h : StepC x y) : StepC (bumpC x) (y ++ [1]) := by
  obtain ⟨pre, a, l, rfl, ha, rfl⟩ := h
  refine ⟨pre, a, l + 1, ?_, ha, ?_⟩
  · rw [show pre ++ [a, ((l + 1 : Nat) : Int)] = (pre ++ [a]) ++ [((l + 1 : Nat) : Int)] by simp, bump_snoc]
    simp
  · rw [List.append_assoc, List.cons_append, rep_snoc]
theorem run_long : ∀ {l : List (List Int)}, RunC l → (∀ c ∈ l, c ≠ [] ∧ ∀ x ∈ c, 1 ≤ x) → RunC (l.flatMap longC)
  | _, .one (x := x) h, hl => by
    obtain ⟨h1, h2⟩ := hl x (by simp)
    rw [List.flatMap_cons, List.flatMap_nil, List.append_nil]
    unfold longC
    rw [if_neg h1]
    refine .cons (step_bump h1 h2) (.one ?_)
    obtain ⟨q, z, rfl⟩ := snoc_of h1
    rw [bump_snoc]
    simpa using h
  | _, .cons (x := x) (y := y) (r := r) st rn, hl => by
    have ih := run_long rn fun c hc => hl c (List.mem_cons_of_mem _ hc)
    obtain ⟨h1, h2⟩ := hl x (by simp)
    rw [List.flatMap_cons] at ih ⊢
    have e : longC x = [x ++ [1], bumpC x] := by unfold longC; rw [if_neg h1]
    rw [e]
    unfold longC at ih
    unfold longC
    exact .cons (step_bump h1 h2) (.cons (step_next st) ih)
theorem parts_C : ∀ (k : Nat) {c : List Int}, c ∈ cutsL k → (∀ x ∈ c, 1 ≤ x) ∧ c.sum = k
  | 0, c, h => by
    rw [List.mem_singleton.mp h]
    exact ⟨fun x hx => (by cases hx), rfl⟩
  | k + 1, c, h => by
    obtain ⟨d, hd, h⟩ := List.mem_flatMap.mp h
    obtain ⟨h1, h2⟩ := parts_C k hd
    unfold longC at h
    rcases List.mem_cons.mp h with rfl | h
    · refine ⟨fun x hx => ?_, ?_⟩
      · rcases List.mem_append.mp hx with hx | hx
        · exact h1 x hx
        · rw [List.mem_singleton.mp hx]
          decide
      · rw [List.sum_append, h2]
        simp
    · by_cases e : d = []
      · rw [if_pos e] at h
        cases h
      · rw [if_neg e] at h
        obtain ⟨q, z, rfl⟩ := snoc_of e
        rw [List.mem_singleton.mp h, bump_snoc]
        have hz := h1 z (by simp)
        refine ⟨fun x hx => ?_, ?_⟩
        · rcases List.mem_append.mp hx with hx | hx
          · exact h1 x (List.mem_append_left _ hx)
          · rw [List.mem_singleton.mp hx]
            omega
        · rw [List.sum_append] at h2 ⊢
          simp at h2 ⊢
          omega
theorem ne_C {k : Nat} {c : List Int} (h : c ∈ cutsL (k + 1)) : c ≠ [] := fun e => by
  have := (parts_C _ h).2
  rw [e] at this
  simp at this
  omega
theorem runs_C : ∀ k, RunC (cutsL k)
  | 0 => .one (by decide)
  | 1 => .one (by decide)
  | k + 2 => run_long (runs_C (k + 1)) fun c hc => ⟨ne_C hc, (parts_C _ hc).1⟩
theorem head_C : ∀ k, ∃ t, cutsL k = List.replicate k 1 :: t
  | 0 => ⟨[], rfl⟩
  | k + 1 => by
    obtain ⟨t, e⟩ := head_C k
    unfold cutsL
    rw [e, List.flatMap_cons]
    unfold longC
    rw [List.cons_append, rep_snoc]
    exact ⟨_, rfl⟩
theorem len_C : ∀ k, (cutsL (k + 1)).length = 2 ^ k
  | 0 => rfl
  | k + 1 => by
    have ih := len_C k
    have : ∀ l : List (List Int), (∀ c ∈ l, c ≠ []) → (l.flatMap longC).length = l.length * 2 := by
      intro l
      induction l with
      | nil => intro _; rfl
      | cons a l ih =>
        intro h
        rw [List.flatMap_cons, List.length_append, ih fun c hc => h c (List.mem_cons_of_mem _ hc)]
        have ha := h a (by simp)
        unfold longC
        rw [if_neg ha]
        simp
        omega
    show ((cutsL (k + 1)).flatMap longC).length = _
    rw [this _ fun c hc => ne_C hc, ih, Nat.pow_succ]
theorem len_sum : ∀ c : List Int, (∀ x ∈ c, 1 ≤ x) → (c.length : Int) ≤ c.sum
  | [], _ => by simp
  | a :: c, h => by
    have h1 := len_sum c fun x hx => h x (List.mem_cons_of_mem _ hx)
    have h2 := h a (by simp)
    simp
    omega

def LtC (a b : List Int) : Prop := ∃ (pre : List Int) (x y : Int) (t t' : List Int), a = pre ++ x :: t ∧ b = pre ++ y :: t' ∧ x < y ∧ t ≠ []
theorem lt_of_C {a b : List Int} (h : LtC a b) : a < b := by
  obtain ⟨pre, x, y, t, t', rfl, rfl, h, _⟩ := h
  induction pre with
  | nil => exact List.cons_lt_cons_iff.mpr (.inl h)
  | cons p pre ih => exact List.cons_lt_cons_iff.mpr (.inr ⟨rfl, ih⟩)
theorem bump_pre {pre t : List Int} {x : Int} (h : t ≠ []) : bumpC (pre ++ x :: t) = pre ++ x :: bumpC t := by
  obtain ⟨q, z, rfl⟩ := snoc_of h
  rw [show pre ++ x :: (q ++ [z]) = (pre ++ x :: q) ++ [z] by simp, bump_snoc, bump_snoc]
  simp
theorem bump_ne {t : List Int} : bumpC t ≠ [] := by
  unfold bumpC
  simp
theorem long_of {c d : List Int} (h : d ∈ longC c) : d = c ++ [1] ∨ (c ≠ [] ∧ d = bumpC c) := by
  unfold longC at h
  rcases List.mem_cons.mp h with h | h
  · exact .inl h
  · by_cases e : c = []
    · rw [if_pos e] at h
      cases h
    · rw [if_neg e] at h
      exact .inr ⟨e, List.mem_singleton.mp h⟩
theorem lt_long {a b c d : List Int} (h : LtC a b) (hc : c ∈ longC a) (hd : d ∈ longC b) : LtC c d := by
  obtain ⟨pre, x, y, t, t', rfl, rfl, h, ht⟩ := h
  obtain ⟨t1, ht1, rfl⟩ : ∃ t1, t1 ≠ [] ∧ c = pre ++ x :: t1 := by
    rcases long_of hc with rfl | ⟨_, rfl⟩
    · exact ⟨t ++ [1], by simp, by simp⟩
    · exact ⟨bumpC t, bump_ne, bump_pre ht⟩
  obtain ⟨y1, t2, hy, rfl⟩ : ∃ y1 t2, y ≤ y1 ∧ d = pre ++ y1 :: t2 := by
    rcases long_of hd with rfl | ⟨_, rfl⟩
    · exact ⟨y, t' ++ [1], Int.le_refl _, by simp⟩
    · by_cases e : t' = []
      · subst e
        exact ⟨y + 1, [], by omega, bump_snoc _ _⟩
      · exact ⟨y, bumpC t', Int.le_refl _, bump_pre e⟩
  exact ⟨pre, x, y1, t1, t2, rfl, rfl, by omega, ht1⟩
theorem pw_long : ∀ {l : List (List Int)}, l.Pairwise LtC → (l.flatMap longC).Pairwise LtC
  | [], _ => .nil
  | c :: l, h => by
    rw [List.flatMap_cons, List.pairwise_append]
    obtain ⟨h1, h2⟩ := List.pairwise_cons.mp h
    refine ⟨?_, pw_long h2, fun a ha b hb => ?_⟩
    · unfold longC
      by_cases e : c = []
      · rw [if_pos e]
        exact List.pairwise_singleton _ _
      · rw [if_neg e]
        obtain ⟨q, z, rfl⟩ := snoc_of e
        rw [bump_snoc]
        refine List.pairwise_cons.mpr ⟨fun d hd => ?_, List.pairwise_singleton _ _⟩
        rw [List.mem_singleton.mp hd]
        exact ⟨q, z, z + 1, [1], [], by simp, rfl, by omega, by simp⟩
    · obtain ⟨d, hd, hb⟩ := List.mem_flatMap.mp hb
      exact lt_long (h1 d hd) ha hb
theorem pw_C : ∀ k, (cutsL k).Pairwise LtC
  | 0 => List.pairwise_singleton _ _
  | k + 1 => pw_long (pw_C k)
theorem srt_C (k : Nat) : (cutsL k).length ≤ 1 ∨ (∀ r ∈ cutsL k, r ≠ []) ∧ (cutsL k).Pairwise fun a b => a < b := by
  cases k with
  | zero => exact .inl (by decide)
  | succ k => exact .inr ⟨fun r hr => ne_C hr, (pw_C _).imp lt_of_C⟩
theorem ixN_lastU {n : Nat} (h : n ≠ 0) : ixN n (-1) = some (n - 1) := by
  unfold ixN
  rw [if_neg (by omega), if_pos (by omega)]
  congr 1
  omega
theorem atI_lastU {o : List U} {b : U} : atI (o ++ [b]) (-1) = some b := by
  unfold atI
  rw [ixN_lastU (by simp)]
  simp
def evenC (n s : Nat) : List Int := List.replicate (n / s) (s : Int) ++ if 0 < n % s then [((n % s : Nat) : Int)] else []
def sp_even_cut : USp := fun us G Q _ => match us with
  | [.int n, .int s] => ∃ n' s' : Nat, n = n' ∧ s = s' ∧ n' ≤ 12 ∧ 1 ≤ s' ∧ s' ≤ 9 ∧ Q (tupI (evenC n' s')) G
  | _ => False
theorem x_even_cut {n s : Int} {G : Gp} {Q : UK} {E : UX} : Call sp_even_cut [.int n, .int s] G Q E = ∃ n' s' : Nat, n = n' ∧ s = s' ∧ n' ≤ 12 ∧ 1 ≤ s' ∧ s' ≤ 9 ∧ Q (tupI (evenC n' s')) G := (rfl)
def sp_Cuts_each (ob : Ob) (out : List U) : Prop := ∃ (k : Nat) (v : U) (m : Int), ob = cutO (.int k) v m ∧ k ≤ 12 ∧ ((v = .non ∧ out = (cutsL k).map tupI) ∨ ∃ s : Nat, v = .int s ∧ 1 ≤ s ∧ s ≤ 9 ∧ out = [tupI (evenC k s)])
def intOf : U → Int
  | .int n => n
  | _ => 0
def restB (k : Nat) : U → List Int → Bool
  | .int s, r => decide (r = evenC k s.toNat)
  | _, r => decide (r.sum = (k : Int))
def cutB (k : Nat) (v : U) : U → Bool
  | .tup us => (us.all fun x => numB x 1 k) && restB k v (us.map intOf)
  | _ => false
theorem cutB_tup {k : Nat} {v : U} {us : List U} : cutB k v (.tup us) = ((us.all fun x => numB x 1 k) && restB k v (us.map intOf)) := (rfl)
theorem ints_num {k : Nat} : ∀ {us : List U}, (us.all fun x => numB x 1 k) = true → us = IntU (us.map intOf) ∧ ∀ x ∈ us.map intOf, 1 ≤ x ∧ x ≤ k
  | [], _ => ⟨rfl, fun x hx => by cases hx⟩
  | u :: us, h => by
    rw [List.all_cons, Bool.and_eq_true] at h
    obtain ⟨n, rfl, h1, h2⟩ := num_of h.1
    obtain ⟨e, i⟩ := ints_num h.2
    refine ⟨?_, fun x hx => ?_⟩
    · rw [List.map_cons]
      show _ = U.int n :: IntU (us.map intOf)
      rw [← e]
    · rw [List.map_cons] at hx
      rcases List.mem_cons.mp hx with rfl | hx
      · exact ⟨h1, h2⟩
      · exact i x hx
def sp_Cuts___contains__ : USp := fun us G Q _ => match us with
  | [.ref p, u] => ∃ (k : Nat) (v : U) (m : Int), G p = some (cutO (.int k) v m) ∧ k ≤ 12 ∧ (v = .non ∨ ∃ s : Nat, v = .int s ∧ 1 ≤ s ∧ s ≤ 9) ∧ (tdOf G u).isSome = true ∧ itemsD G u ∧ ∀ G2, (∀ a o, G a = some o → G2 a = some o) → Q (.bl (cutB k v u)) G2
  | _ => False
theorem x_Cuts_has {p : Addr} {u : U} {G : Gp} {Q : UK} {E : UX} : Call sp_Cuts___contains__ [.ref p, u] G Q E = ∃ (k : Nat) (v : U) (m : Int), G p = some (cutO (.int k) v m) ∧ k ≤ 12 ∧ (v = .non ∨ ∃ s : Nat, v = .int s ∧ 1 ≤ s ∧ s ≤ 9) ∧ (tdOf G u).isSome = true ∧ itemsD G u ∧ ∀ G2, (∀ a o, G a = some o → G2 a = some o) → Q (.bl (cutB k v u)) G2 := (rfl)
local macro_rules | `(tactic| simp_arith! [$ls,*]) => `(tactic| (try (simp (discharger := assumption) only [↓x_var, ↓x_c, ↓x_op, ↓x_un, ↓x_nil, ↓x_cons, ↓x_tup, ↓x_lst, ↓x_test, ↓x_not, ↓x_tru, ↓x_call, ↓x_def, ↓x_bm, ↓x_u1, ↓x_u2, ↓x_seq, ↓x_next, ↓x_drop, ↓x_ret, ↓x_ifSC, ↓x_asg, ↓x_gname, ↓x_for, ↓x_any, ↓x_fld, ↓x_fldU, ↓x_addT, ↓x_subI, ↓x_mulI, ↓x_mulT, ↓x_mulL, ↓x_fdivI, ↓x_negI, ↓x_eqI, ↓x_gtI, ↓x_isNotN, ↓x_setL, ↓x_intB, ↓x_lenL, ↓x_tupleL, ↓x_listT, ↓x_iterT, ↓x_tyL, ↓x_truB, ↓x_isi, ↓x_insCut, ↓x_G0, ↓x_Gseq, ↓x_Gpl, ↓x_Gif, ↓x_CondGT, ↓x_CondGF, ↓x_Gyl, ↓x_sumL, ↓x_augS, ↓x_getI, ↓x_iaddI, ↓x_extendR, ↓x_popL0, slotK_s, asBl_s, getLst_s, getOb_s, getO_s, isNon_n, isNon_i, lenOb_l, isiK_s, isi_bb, isiOk_b, tdC_t, fget_nil, fget_cons, src_p, getD_0, getD_s, len_cons, x_is_integer, x_even_cut, List.getElem?_cons_zero, List.getElem?_cons_succ, List.set_cons_zero, List.set_cons_succ, List.map_cons, List.map_nil, List.length_nil, List.length_cons, true_and, and_true, endsU, ustart, List.replicate, List.cons_append, List.nil_append, cond_true, cond_false, Bool.not_true, Bool.not_false, decide_true, decide_false, tyNames, List.mem_cons, gup_gup, gup_same, if_true, if_false, Bool.and_true, Bool.true_and, Bool.and_false, Bool.or_false, Bool.or_true, Bool.true_or, Nat.reduceAdd, Nat.reduceSub, String.reduceEq, Nat.reduceLeDiff, gup_ne, or_true, true_or, or_false, ne_eq, not_false_eq_true, reduceCtorEq, List.length_map, Nat.add_zero, Nat.zero_add, U.ref.injEq, U.int.injEq, U.str.injEq, U.bl.injEq, List.not_mem_nil, Int.reduceEq, List.cons.injEq, Int.cast_ofNat_Int, Int.reduceNeg, Int.reduceAdd, Int.reduceSub, $ls,*])))
local macro_rules | `(tactic| simp_arith [$ls,*]) => `(tactic| (simp_arith! [$ls,*]; (repeat ((first | with_reducible refine scondT ?_ | with_reducible refine scondF ?_ | with_reducible refine condT ?_ | with_reducible refine condF ?_); simp_arith! [$ls,*]))))
local macro_rules | `(tactic| walk_at "usub") => `(tactic| (refine Sub.ofE ?_; (repeat (refine SubE.left ?_ (Or.inr (by first | assumption | simp (discharger := assumption) only [gup_same, gup_ne, gup_neS, gup_nN, gup_nNS, *])))); (repeat (refine SubE.put ?_ (by first | exact Or.inr (Or.inl (by assumption)) | exact Or.inr (Or.inr (by assumption)) | exact Or.inl (by simp) | exact Or.inr (Or.inr (by simp (discharger := assumption) only [gup_same, gup_ne, gup_neS, gup_nN, gup_nNS, *]))))); exact SubE.refl))
/- slots ['count', 'chunk', 'rest'] -/
def t_even_cut : UTS := (tUSeq (tUAsg (tUOp subU (tUVar 0) (tUOp mulU (tUVar 1) (tUOp fdivU (tUVar 0) (tUVar 1)))) (gUName 2))
    (tUSeq (tURet (tUOp addU (tUOp mulU (tUTup (tUCons (tUVar 1) tUNil)) (tUOp fdivU (tUVar 0) (tUVar 1))) (tUOp mulU (tUTup (tUCons (tUVar 2) tUNil)) (tUCall (u1 intV) (tUCons (tUOp gtU (tUVar 2) (tUC (.int 0))) tUNil)))))
    tUNext))
/- slots ['self', 'cut', 'last'] -/
def t_Cuts_each (p : Addr) (ob : Ob) (out : List U) : UGS := (tGSeq (tGIf (tUTest (tUOp isNotU (tUFld "chunk" (tUVar 0)) (tUC .non))) (tGSeq (tGYlP p ob out (tUDef sp_even_cut 2 0 [.p 0, .p 1] [] [] (tUCons (tUFld "count" (tUVar 0)) (tUCons (tUFld "chunk" (tUVar 0)) tUNil)) tUNil))
    (tGSeq (tGPl (fun D _ G => D.rt .non G))
    tGNil)) tGNil)
    (tGSeq (tGPl (tUAsg (tUOp mulU (tULst (tUCons (tUC (.int 1)) tUNil)) (tUFld "count" (tUVar 0))) (gUName 1)))
    (tGSeq (tGYlP p ob out (tUCall (u1 tupleV) (tUCons (tUVar 1) tUNil)))
    (tGSeq (tGWh (tUTest (tUOp gtU (tUCall (u1 lenV) (tUCons (tUVar 1) tUNil)) (tUC (.int 1)))) (tGSeq (tGPl (tUAsg (tUBM "list" (onLst popL) (tUVar 1) tUNil) (gUName 2)))
    (tGSeq (tGPl (tUAugS (tUVar 1) (tUUn negU (tUC (.int 1))) (tUC (.int 1)) getI0 addI setU0))
    (tGSeq (tGPl (tUDrop (tUBM "list" (onLst extendL) (tUVar 1) (tUCons (tUOp mulU (tULst (tUCons (tUC (.int 1)) tUNil)) (tUOp subU (tUVar 2) (tUC (.int 1)))) tUNil))))
    (tGSeq (tGYlP p ob out (tUCall (u1 tupleV) (tUCons (tUVar 1) tUNil)))
    tGNil)))))
    tGNil))))
/- slots ['self', 'thing', 'size'] -/
def t_Cuts___contains__ : UTS := (tUSeq (tUIfSC (tUNot (tUTru (fun u G Q _ => truU u G Q) (tUCall (u2 (isiV [])) (tUCons (tUVar 1) (tUCons (tUC (.ty "tuple")) tUNil))))) (tUSeq (tURet (tUC (.bl false)))
    tUNext) tUNext)
    (tUSeq (tUFor (tIAny (tUVar 1)) (gUName 2) (tUSeq (tUIfSC (tUNot (tUTru (fun u G Q _ => truU u G Q) (tUDef sp_is_integer 3 0 [.p 0, .p 1, .p 2] [] [] (tUCons (tUVar 2) (tUCons (tUC (.int 1)) (tUCons (tUFld "count" (tUVar 0)) tUNil))) tUNil))) (tUSeq (tURet (tUC (.bl false)))
    tUNext) tUNext)
    tUNext))
    (tUSeq (tUIfSC (tUTest (tUOp isNotU (tUFld "chunk" (tUVar 0)) (tUC .non))) (tUSeq (tURet (tUOp eqU (tUVar 1) (tUDef sp_even_cut 2 0 [.p 0, .p 1] [] [] (tUCons (tUFld "count" (tUVar 0)) (tUCons (tUFld "chunk" (tUVar 0)) tUNil)) tUNil)))
    tUNext) tUNext)
    (tUSeq (tURet (tUOp eqU (tUCall (u1 sumV) (tUCons (tUCall (u1 listV) (tUCons (tUVar 1) tUNil)) tUNil)) (tUFld "count" (tUVar 0))))
    tUNext))))
theorem law_even_cut (us : List U) (G : Gp) (Q : UK) (E : UX) (h : sp_even_cut us G Q E) : t_even_cut (endsU Q E) (ustart 3 us) G := by
  unfold sp_even_cut at h
  split at h
  · rename_i n0 s0
    obtain ⟨n, s, rfl, rfl, hn, hs, hs9, q⟩ := h
    simp_arith [t_even_cut]
    have e1 : ((n : Int) / (s : Int)) = ((n / s : Nat) : Int) := (Int.natCast_ediv n s).symm
    have e2 : (n : Int) - (s : Int) * ((n / s : Nat) : Int) = ((n % s : Nat) : Int) := by
      have := Nat.div_add_mod n s
      have h2 : ((s * (n / s) + n % s : Nat) : Int) = (n : Int) := congrArg _ this
      rw [Int.natCast_add, Int.natCast_mul] at h2
      omega
    have h1 : n / s ≤ 12 := Nat.le_trans (Nat.div_le_self n s) hn
    have h2 : n % s < s := Nat.mod_lt _ hs
    rw [e1, e2]
    have e3 : (if decide (0 < ((n % s : Nat) : Int)) = true then (1 : Int) else 0) = ((if 0 < n % s then 1 else 0 : Nat) : Int) := by
      by_cases z : 0 < n % s
      · rw [if_pos z, decide_eq_true (by omega)]
        rfl
      · rw [if_neg z, decide_eq_false (by omega)]
        rfl
    rw [e3, Int.toNat_natCast, Int.toNat_natCast, e_rep, e_rep]
    have h3 : (if 0 < n % s then 1 else 0 : Nat) ≤ 1 := by split <;> omega
    have d0 : (0 : Int) ≤ ((n / s : Nat) : Int) := Int.natCast_nonneg _
    have d1 : ((n / s : Nat) : Int) ≤ 12 := Int.ofNat_le.mpr h1
    refine ⟨⟨by omega, by omega⟩, .inr ⟨by omega, by omega⟩, ⟨by omega, by omega⟩, by omega, by omega, by omega, by omega, ?_, .now ?_⟩
    · simp [IntU]
      omega
    · have e4 : IntU (List.replicate (n / s) (s : Int)) ++ IntU (List.replicate (if 0 < n % s then 1 else 0) ((n % s : Nat) : Int)) = IntU (evenC n s) := by
        unfold evenC IntU
        rw [List.map_append]
        congr 1
        split <;> rfl
      rw [e4]
      exact q
  · exact h.elim
theorem law_Cuts_each (p : Addr) (ob : Ob) (out : List U) (h : sp_Cuts_each ob out) : t_Cuts_each p ob out (gEnd p ob) out.length [] (ustart 3 [.ref p]) (only p ob) := by
  obtain ⟨k, v, m, rfl, hk, h⟩ := h
  rcases h with ⟨rfl, rfl⟩ | ⟨s, rfl, hs, hs9, rfl⟩
  · obtain ⟨t, et⟩ := head_C k
    have run := runs_C k
    rw [et] at run ⊢
    rw [List.map_cons, List.length_cons]
    simp_arith [t_Cuts_each, e_only]
    intro q hq
    have hpq : p ≠ q := fun e => by rw [← e, e_only] at hq; cases hq
    simp_arith [e_only, hq]
    refine ⟨by omega, by omega, by omega, fun r hr => ?_⟩
    have hpr : p ≠ r := fun e => by
      rw [← e, gup_ne hpq, e_only] at hr
      cases hr
    rw [Int.toNat_natCast, e_rep]
    have e0 : (gup (gup (only p (cutO (U.int ↑k) U.non m)) q (Ob.lst [U.int 1])) r (Ob.lst (IntU (List.replicate k 1)))) p = some (cutO (U.int ↑k) U.non m) := by rw [gup_ne hpr, gup_ne hpq, e_only]
    refine yl_of (q := r) (xs := List.replicate k 1) ?_ rfl e0 gup_same hpr (fun a ha => by cases ha) ?_
    · rw [List.length_cons, List.length_map, Nat.sub_self]
      rfl
    simp_arith [e_only]
    generalize hob : cutO (U.int ↑k) U.non m = ob
    refine ⟨fun μ n own us G => ∃ (done rest : List (List Int)) (x : List Int) (c : Option U), done ++ x :: rest = cutsL k ∧ RunC (x :: rest) ∧ n = rest.length ∧ own = [r] ∧
      us = [some (.ref p), some (.ref r), c] ∧ G = gup (only p ob) r (.lst (IntU x)) ∧ μ = rest.length, ⟨_, [], t, List.replicate k 1, none, by rw [et]; rfl, run, rfl, rfl, rfl, rfl, rfl⟩, ?_⟩
    rintro μ n own us G ⟨done, rest, x, c, eR, run', rfl, rfl, rfl, rfl, rfl⟩
    subst hob
    have hxl : (IntU x).length = x.length := intU_len x
    have hx : x ∈ cutsL k := by rw [← eR]; simp
    obtain ⟨hx1, hxs⟩ := parts_C k hx
    have hxk := len_sum x hx1
    simp_arith []
    cases run' with
    | one h1 =>
      have hd : decide ((1 : Int) < ((IntU x).length : Nat)) = false := decide_eq_false (by omega)
      simp_arith [hd]
      refine ⟨rfl, by rw [gup_ne hpr, e_only], fun q hq => ?_⟩
      rw [List.mem_singleton.mp hq]
      exact ⟨_, gup_same⟩
    | cons st rn =>
      obtain ⟨pre, a, l, rfl, ha, rfl⟩ := st
      have hl : (l : Int) < 12 := by
        rw [List.sum_append] at hxs
        have := len_sum pre fun x hx => hx1 x (List.mem_append_left _ hx)
        simp at hxs
        omega
      have hpl : pre.length + 2 ≤ 12 := by
        rw [hxs, List.length_append] at hxk
        simp at hxk
        omega
      have hd : decide ((1 : Int) < ((IntU (pre ++ [a, ((l + 1 : Nat) : Int)])).length : Nat)) = true := decide_eq_true (by rw [hxl]; simp; omega)
      have eI : IntU (pre ++ [a, ((l + 1 : Nat) : Int)]) = IntU (pre ++ [a]) ++ [.int ((l + 1 : Nat) : Int)] := by simp [IntU]
      have hg : (IntU (pre ++ [a, ((l + 1 : Nat) : Int)]))[(IntU (pre ++ [a, ((l + 1 : Nat) : Int)])).length - 1]? = some (.int ((l + 1 : Nat) : Int)) := by
        rw [eI]
        simp
      have hdl : (IntU (pre ++ [a, ((l + 1 : Nat) : Int)])).dropLast = IntU (pre ++ [a]) := by rw [eI, List.dropLast_concat]
      have hA : atI (IntU (pre ++ [a])) (-1) = some (.int a) := by
        unfold IntU
        rw [List.map_append]
        exact atI_lastU
      have hI : ixN (IntU (pre ++ [a])).length (-1) = some pre.length := by
        rw [ixN_lastU (by simp [IntU])]
        simp [IntU]
      have hset : (IntU (pre ++ [a])).set pre.length (.int (a + 1)) = IntU (pre ++ [a + 1]) := by
        unfold IntU
        rw [List.map_append, List.set_append_right _ _ (by simp)]
        simp
      simp_arith [hd, hg, hdl, hA, hI, getN]
      rw [hset]
      intro b hb
      have hpb : p ≠ b := fun e => by
        rw [← e, gup_ne hpr, e_only] at hb
        cases hb
      have hrb : r ≠ b := fun e => by
        rw [← e, gup_same] at hb
        cases hb
      have hln : (((l + 1 : Nat) : Int) - 1).toNat = l := by omega
      rw [hln, e_rep]
      refine ⟨by omega, by omega, by omega, fun c hc => ?_⟩
      have hpc : p ≠ c := fun e => by
        rw [← e, gup_ne hpb, gup_ne hpr, e_only] at hc
        cases hc
      have hrc : r ≠ c := fun e => by
        rw [← e, gup_ne hrb, gup_same] at hc
        cases hc
      simp_arith [e_only]
      have hcat : IntU (pre ++ [a + 1]) ++ IntU (List.replicate l 1) = IntU (pre ++ (a + 1) :: List.replicate l 1) := by simp [IntU]
      rw [hcat]
      rename_i rest'
      refine ⟨by simp [IntU]; omega, yl_of (q := r) (xs := pre ++ (a + 1) :: List.replicate l 1) ?_ rfl ?_ gup_same hpr (fun a ha => List.mem_singleton.mp ha) ?_⟩
      · have ho : tupI (List.replicate k 1) :: t.map tupI = (cutsL k).map tupI := by rw [et]; rfl
        rw [ho, ← eR, List.map_append, List.map_cons, List.map_cons]
        have e3 : rest'.length = (rest'.map tupI).length := (List.length_map _).symm
        rw [e3]
        exact idx_of _ _ _ _
      · rw [gup_ne hpr, gup_ne hpc, gup_ne hpb, gup_ne hpr, e_only]
      · simp_arith []
        refine ⟨rest'.length, by omega, done ++ [pre ++ [a, ((l + 1 : Nat) : Int)]], rest', pre ++ (a + 1) :: List.replicate l 1, _, ?_, rn, rfl, rfl, rfl, rfl⟩
        rw [List.append_assoc]
        exact eR
  · simp_arith [t_Cuts_each, e_only]
    refine ⟨k, s, rfl, rfl, hk, hs, hs9, yl_of0 rfl rfl e_only ?_⟩
    simp_arith []
    exact ⟨rfl, e_only, fun q hq => by cases hq⟩
theorem law_Cuts___contains__ (us : List U) (G : Gp) (Q : UK) (E : UX) (h : sp_Cuts___contains__ us G Q E) : t_Cuts___contains__ (endsU Q E) (ustart 3 us) G := by
  unfold sp_Cuts___contains__ at h
  split at h
  · rename_i p u
    obtain ⟨k, v, m, hp, hk, hv, ht, hi, q⟩ := h
    obtain ⟨t, ht⟩ := Option.isSome_iff_exists.mp ht
    simp_arith [t_Cuts___contains__, hp, ht]
    cases u with
    | tup l =>
      cases ht
      simp_arith [hp]
      have qf : (l.all fun x => numB x 1 k) = false → Q (.bl false) G := fun e => by
        have q' := q G fun _ _ h => h
        rw [cutB_tup, e, Bool.false_and] at q'
        exact q'
      refine for_ind (fun xs us' G' => (∃ z, us' = [some (.ref p), some (.tup l), z]) ∧ G' = G ∧ ∃ done, done ++ xs = l ∧ (done.all fun x => numB x 1 k) = true) (fun x xs us' G' N hN ⟨⟨z, e1⟩, e2, done, ed, hd⟩ => ?_) (fun us' G' ⟨⟨z, e1⟩, e2, done, ed, hd⟩ => ?_) l _ _ ⟨⟨_, rfl⟩, rfl, [], rfl, rfl⟩
      · subst e1 e2
        have hx0 := hi.2 x (by rw [← ed]; simp)
        simp_arith [hp, hx0]
        refine scond2 (fun h1 => ?_) fun h1 => ?_
        · have e : numB x 1 k = false := by simpa using h1
          simp_arith []
          refine .now (qf ?_)
          rw [← ed, List.all_append, List.all_cons, e, Bool.false_and, Bool.and_false]
        · have e : numB x 1 k = true := by simpa using h1
          simp_arith []
          exact hN _ _ ⟨⟨_, rfl⟩, rfl, done ++ [x], by rw [List.append_assoc]; exact ed, by rw [List.all_append, hd, List.all_cons, e]; rfl⟩
      · subst e1 e2
        rw [List.append_nil] at ed
        subst ed
        simp_arith [hp]
        obtain ⟨ei, hb⟩ := ints_num hd
        have q1 : ∀ G2, (∀ a o, G' a = some o → G2 a = some o) → Q (.bl (restB k v (done.map intOf))) G2 := fun G2 h => by
          have q' := q G2 h
          rw [cutB_tup, hd, Bool.true_and] at q'
          exact q'
        generalize done.map intOf = r at ei hb q1
        subst ei
        rcases hv with rfl | ⟨s, rfl, hs, hs9⟩
        · have e : isNonU .non = true := rfl
          simp_arith [e, hp]
          intro b hb
          have hp2 := (gup_ne (o := .lst (IntU r)) (ne_of_known hp hb)).trans hp
          refine ⟨r, rfl, ?_⟩
          simp_arith [hp2]
          exact .now (q1 _ fun a o h => (gup_ne (ne_of_known h hb)).trans h)
        · have e : isNonU (.int s) = false := rfl
          simp_arith [e, hp]
          refine ⟨k, s, rfl, rfl, hk, hs, hs9, ?_⟩
          have q2 := q1 G' fun _ _ h => h
          have e2 : restB k (.int (s : Int)) r = decide (r = evenC k s) := rfl
          rw [e2] at q2
          exact eq_tups (.now q2)
    | ref a =>
      have q' : Q (.bl false) G := q _ fun _ _ h => h
      have e : isiF t (.b "tuple") = false := by
        rcases h : G a with _ | o
        · rw [td_R, h] at ht; cases ht
        · rw [td_R, h] at ht
          cases o <;> cases ht <;> rfl
      simp_arith [e]
      exact .now q'
    | ty _ => cases ht
    | glo _ => cases ht
    | exc => cases ht
    | _ =>
      cases ht
      simp_arith []
      exact .now (q _ fun _ _ h => h)
  · exact h.elim
end WW
set_option maxHeartbeats 2000000
namespace K22
open PySem PySem.Spec PyProof.Rows L2 UL WW LL
/-- only new objects are behind it -/
def More (G G2 : Gp) : Prop := ∀ a o, G a = some o → G2 a = some o
theorem More.refl {G : Gp} : More G G := fun _ _ h => h
theorem More.new {G G2 : Gp} {r : Addr} {o : Ob} (h : More G G2) (hr : G2 r = none) : More G (gup G2 r o) := fun a u g => by
  have e := h a u g
  rw [gup_ne fun x => by rw [x, hr] at e; cases e]
  exact e
theorem More.put {G G2 : Gp} {r : Addr} {o : Ob} (h : More G G2) (hr : G r = none) : More G (gup G2 r o) := fun a u g => by
  have e := h a u g
  rw [gup_ne fun x => by rw [x, hr] at g; cases g]
  exact e
theorem More.trans {G G2 G3 : Gp} (h : More G G2) (k : More G2 G3) : More G G3 := fun a u g => k a u (h a u g)
theorem More.none {G G2 : Gp} {r : Addr} (h : More G G2) (hr : G2 r = none) : G r = none := by
  cases e : G r with
  | none => rfl
  | some o => rw [h r o e] at hr; cases hr
def rowsU (rs : List (List Int)) : List U := rs.map tupI
def sp__law_all : USp := fun us G Q _ => match us with
  | [.int n] => ∃ k : Nat, n = k ∧ k ≤ 12 ∧ ∀ r G2, More G G2 → G r = none → G2 r = some (.lst (rowsU (cutsL k))) → Q (.ref r) G2
  | _ => False
def sp__law_even : USp := fun us G Q _ => match us with
  | [.int n, .int s] => ∃ n' s' : Nat, n = n' ∧ s = s' ∧ n' ≤ 12 ∧ 1 ≤ s' ∧ s' ≤ 9 ∧ ∀ G2, More G G2 → Q (tupI (evenC n' s')) G2
  | _ => False
def dueB (k : Nat) : U → Bool
  | .tup us => (us.all fun x => numB x 1 k) && decide ((us.map intOf).sum = (k : Int))
  | _ => false
def sp__law_is_cut : USp := fun us G Q _ => match us with
  | [u, .int n] => ∃ k : Nat, n = k ∧ (tdOf G u).isSome = true ∧ itemsD G u ∧ Q (.bl (dueB k u)) G
  | _ => False
def ThingD (G : Gp) (u : U) : Prop := (tdOf G u).isSome = true ∧ itemsD G u
def sp__law_thing : USp := fun us G Q _ => match us with
  | [.ref p, .tup l] => ∃ r : List Int, l = IntU r ∧ r.length ≤ 12 ∧ getBag (G p) fun q => getLst (G q) fun is => IntsU is ∧ q ≠ p ∧ ∀ u G2 c a n, ThingD G2 u → G2 p = some (bagO c a n q) → Keep p G G2 → Q u G2
  | _ => False
def outC (k : Nat) : U → List (List Int)
  | .int s => [evenC k s.toNat]
  | _ => cutsL k
def sp__law_are_right : USp := fun us G Q _ => match us with
  | [.ref p, .ref d, .ref r, .int n] => ∃ (k : Nat) (v : U), n = k ∧ k ≤ 12 ∧ (v = .non ∨ ∃ s : Nat, v = .int s ∧ 1 ≤ s ∧ s ≤ 9) ∧ G d = some (cutO (.int k) v ((outC k v).length : Nat)) ∧ G r = some (.lst (rowsU (outC k v))) ∧
      getBag (G p) fun q => getLst (G q) fun is => IntsU is ∧ q ≠ p ∧ ∀ G2 c a n, G2 p = some (bagO c a n q) → Keep p G G2 → Q (.bl true) G2
  | _ => False
def sp_law : USp := fun us G Q _ => ∃ ns : List Int, us = [.rol (IntU ns)] ∧ ns.length ≤ 63 ∧ ∀ G', Q (.bl true) G'
section
variable {G : Gp} {Q : UK} {E : UX} {n s : Int} {p q d r : Addr} {u v : U} {l : List U}
theorem x_all22 : Call sp__law_all [.int n] G Q E = ∃ k : Nat, n = k ∧ k ≤ 12 ∧ ∀ r G2, More G G2 → G r = none → G2 r = some (.lst (rowsU (cutsL k))) → Q (.ref r) G2 := (rfl)
theorem x_even22 : Call sp__law_even [.int n, .int s] G Q E = ∃ n' s' : Nat, n = n' ∧ s = s' ∧ n' ≤ 12 ∧ 1 ≤ s' ∧ s' ≤ 9 ∧ ∀ G2, More G G2 → Q (tupI (evenC n' s')) G2 := (rfl)
theorem x_isc22 : Call sp__law_is_cut [u, .int n] G Q E = ∃ k : Nat, n = k ∧ (tdOf G u).isSome = true ∧ itemsD G u ∧ Q (.bl (dueB k u)) G := (rfl)
theorem x_thing22 : Call sp__law_thing [.ref p, .tup l] G Q E = ∃ r : List Int, l = IntU r ∧ r.length ≤ 12 ∧ getBag (G p) fun q => getLst (G q) fun is => IntsU is ∧ q ≠ p ∧ ∀ u G2 c a n, ThingD G2 u → G2 p = some (bagO c a n q) → Keep p G G2 → Q u G2 := (rfl)
theorem x_right22 : Call sp__law_are_right [.ref p, .ref d, .ref r, .int n] G Q E = ∃ (k : Nat) (v : U), n = k ∧ k ≤ 12 ∧ (v = .non ∨ ∃ s : Nat, v = .int s ∧ 1 ≤ s ∧ s ≤ 9) ∧ G d = some (cutO (.int k) v ((outC k v).length : Nat)) ∧ G r = some (.lst (rowsU (outC k v))) ∧
      getBag (G p) fun q => getLst (G q) fun is => IntsU is ∧ q ≠ p ∧ ∀ G2 c a n, G2 p = some (bagO c a n q) → Keep p G G2 → Q (.bl true) G2 := (rfl)
end
theorem ne_tups {G : Gp} {ns ms : List Int} {Q : UK} {E : UX} (h : Q (.bl (!decide (ns = ms))) G) : neU (.tup (IntU ns)) (.tup (IntU ms)) G Q E := by
  refine ⟨_, _, .tup (dats_ints ns), .tup (dats_ints ms), shaped_tup ns, shaped_tup ms, ?_⟩
  simp only [PyData.eqv, eqv_ints]
  exact h
theorem cutU_init {o : List U} {b : U} : cutU (o ++ [b]) none (some (-1)) = o := by
  show ((o ++ [b]).drop 0).take (((-1 : Int) + ((o ++ [b]).length : Int)).toNat - 0) = o
  rw [show ((-1 : Int) + ((o ++ [b]).length : Int)).toNat - 0 = o.length by rw [List.length_append, List.length_singleton]; omega]
  simp
local macro_rules | `(tactic| simp_arith! [$ls,*]) => `(tactic| (try (simp (discharger := assumption) only [↓x_var, ↓x_c, ↓x_op, ↓x_un, ↓x_and, ↓x_nil, ↓x_cons, ↓x_tup, ↓x_lst, ↓x_test, ↓x_not, ↓x_bAnd, ↓x_bOr, ↓x_tru, ↓x_call, ↓x_def, ↓x_bm, ↓x_u1, ↓x_u2, ↓x_seq, ↓x_next, ↓x_drop, ↓x_ret, ↓x_ifSC, ↓x_asg, ↓x_par, ↓x_gname, ↓x_sl, ↓x_noPart, ↓x_part, ↓x_for, ↓x_rng1, ↓x_any, ↓x_lc, ↓x_make, ↓x_addI, ↓x_addT, ↓x_powI, ↓x_negI, ↓x_eqI, ↓x_neI, ↓x_eqS, ↓x_neS, ↓x_ltI, ↓x_leI, ↓x_ixT, ↓x_ixL, ↓x_max, ↓x_min, ↓x_lenR, ↓x_lenT, ↓x_lenL, ↓x_tupleL, ↓x_listT, ↓x_slT, ↓x_slL, ↓x_rngA, ↓x_iterT, ↓x_iterL, ↓x_append, ↓x_tyL, ↓x_truB, ↓x_ap, ↓x_isi, ↓x_manyI, ↓x_insCut, ↓x_rngC, ↓x_listG, ↓x_igen, ↓x_sumT, ↓x_rng3, ↓x_sortedI, ↓x_inRI, ↓x_cRI, ↓x_truQB, ↓x_lenQ, ↓x_neB, ↓x_extendR, e_condT, e_condF, slotK_s, asBl_s, asInt_s, asRef_s, getLst_s, getIns_s, getOb_s, getO_s, getUs_s, isNon_n, isNon_i, lenOb_l, lstO_s, isiK_s, isi_bb, isiOk_b, td_I, td_B, td_N, td_T, tdC_t, fget_nil, fget_cons, src_p, src_k, src_q, getD_0, getD_s, setAll_nil, setAll_cons, uwipe_nil, uwipe_cons, len_cons, e_getBag, e_IntsU, e_seqS_r, x_bag, x_take, x_of, x_Cuts_init, x_Cuts_len, x_Cuts_has, x_all22, x_even22, x_isc22, x_thing22, x_right22, e_insOr_l, List.getElem?_cons_zero, List.getElem?_cons_succ, List.set_cons_zero, List.set_cons_succ, List.map_cons, List.map_nil, List.length_nil, List.length_cons, true_and, and_true, endsU, ustart, List.replicate, List.cons_append, List.nil_append, List.append_nil, List.unzip_cons, List.unzip_nil, cond_true, Bool.not_true, Bool.not_false, decide_true, decide_false, tyNames, List.mem_cons, List.reverse_cons, List.reverse_nil, gup_gup, gup_same, if_true, if_false, Bool.and_true, Bool.true_and, Bool.and_false, Bool.or_false, Bool.or_true, Bool.true_or, Nat.reduceAdd, Nat.reduceSub, String.reduceEq, Nat.reduceLeDiff, atI_0, gup_ne, gup_neS, or_true, true_or, or_false, ne_eq, not_false_eq_true, reduceCtorEq, List.length_map, Nat.add_zero, Nat.zero_add, Option.isSome_some, U.ref.injEq, U.int.injEq, U.str.injEq, U.bl.injEq, Nat.reduceLT, List.not_mem_nil, Int.reduceEq, List.cons.injEq, and_self, Int.cast_ofNat_Int, Int.reduceToNat, Int.reduceLT, Int.reduceNeg, Int.reduceAdd, Int.reduceSub, $ls,*])))
local macro_rules | `(tactic| simp_arith [$ls,*]) => `(tactic| (simp_arith! [$ls,*]; (repeat ((first | with_reducible refine scondT ?_ | with_reducible refine scondF ?_ | with_reducible refine condT ?_ | with_reducible refine condF ?_); simp_arith! [$ls,*]))))
local macro_rules | `(tactic| walk_at "usub") => `(tactic| (refine Sub.ofE ?_; (repeat (refine SubE.left ?_ (Or.inr (by first | assumption | simp (discharger := assumption) only [gup_same, gup_ne, gup_neS, gup_nN, gup_nNS, *])))); (repeat (refine SubE.put ?_ (by first | exact Or.inr (Or.inl (by assumption)) | exact Or.inr (Or.inr (by assumption)) | exact Or.inl (by simp) | exact Or.inr (Or.inr (by simp (discharger := assumption) only [gup_same, gup_ne, gup_neS, gup_nN, gup_nNS, *]))))); exact SubE.refl))
/- _law_all: slots ['_law_many', '_law_found', '_law_left', '_law_longer', '_law_cut'] -/
def t__law_all : UTS := (tUSeq (tUAsg (tULst (tUCons (tUTup tUNil) tUNil)) (gUName 1))
    (tUSeq (tUFor (tIRng1 (tUVar 0)) (gUName 2) (tUSeq (tUAsg (tULst tUNil) (gUName 3))
    (tUSeq (tUFor (tIAny (tUVar 1)) (gUName 4) (tUSeq (tUDrop (tUBM "list" (onLst appendL) (tUVar 3) (tUCons (tUOp addU (tUVar 4) (tUTup (tUCons (tUC (.int 1)) tUNil))) tUNil)))
    (tUSeq (tUIfSC (tUTest (tUOp neU (tUVar 4) (tUTup tUNil))) (tUSeq (tUDrop (tUBM "list" (onLst appendL) (tUVar 3) (tUCons (tUOp addU (tUSl (tUVar 4) tUNoPart (tUPart (tUUn negU (tUC (.int 1))))) (tUTup (tUCons (tUOp addU (tUOp ixU0 (tUVar 4) (tUUn negU (tUC (.int 1)))) (tUC (.int 1))) tUNil))) tUNil)))
    tUNext) tUNext)
    tUNext)))
    (tUSeq (tUAsg (tUVar 3) (gUName 1))
    tUNext))))
    (tUSeq (tURet (tUCall (u1 sortedI) (tUCons (tUVar 1) tUNil)))
    tUNext)))
/- _law_bag: bag -/
abbrev sp__law_bag : USp := sp_bag
abbrev t__law_bag : UTS := t_bag 3203 157
theorem law__law_bag (us : List U) (G : Gp) (Q : UK) (E : UX) (h : sp__law_bag us G Q E) : t__law_bag (endsU Q E) (ustart 3 us) G := law_bag (3203) (157) (by decide) us G Q E h
/- _law_even: slots ['_law_many', '_law_size', '_law_found', '_law_left'] -/
def t__law_even : UTS := (tUSeq (tUAsg (tULst tUNil) (gUName 2))
    (tUSeq (tUFor (tIRng3 (tUVar 0) (tUC (.int 0)) (tUUn negU (tUVar 1))) (gUName 3) (tUSeq (tUDrop (tUBM "list" (onLst appendL) (tUVar 2) (tUCons (tUCall (u2 minV) (tUCons (tUVar 3) (tUCons (tUVar 1) tUNil))) tUNil)))
    tUNext))
    (tUSeq (tURet (tUCall (u1 tupleV) (tUCons (tUVar 2) tUNil)))
    tUNext)))
/- _law_is_cut: slots ['_law_thing_here', '_law_many', '_law_total', '_law_size'] -/
def t__law_is_cut : UTS := (tUSeq (tUIfSC (tUNot (tUTru (fun u G Q _ => truU u G Q) (tUCall (u2 (isiV [])) (tUCons (tUVar 0) (tUCons (tUC (.ty "tuple")) tUNil))))) (tUSeq (tURet (tUC (.bl false)))
    tUNext) tUNext)
    (tUSeq (tUAsg (tUC (.int 0)) (gUName 2))
    (tUSeq (tUFor (tIAny (tUVar 0)) (gUName 3) (tUSeq (tUIfSC (tBOr (tUNot (tUTru (fun u G Q _ => truU u G Q) (tUCall (u2 (isiV [])) (tUCons (tUVar 3) (tUCons (tUC (.ty "int")) tUNil))))) (tBOr (tUTru (fun u G Q _ => truU u G Q) (tUCall (u2 (isiV [])) (tUCons (tUVar 3) (tUCons (tUC (.ty "bool")) tUNil)))) (tUTest (tUOp ltU (tUVar 3) (tUC (.int 1)))))) (tUSeq (tURet (tUC (.bl false)))
    tUNext) tUNext)
    (tUSeq (tUAsg (tUOp addU (tUVar 2) (tUVar 3)) (gUName 2))
    tUNext)))
    (tUSeq (tURet (tUOp eqU (tUVar 2) (tUVar 1)))
    tUNext))))
/- _law_take: take -/
abbrev sp__law_take : USp := sp_take
abbrev t__law_take : UTS := t_take 2147482873 2147482873 32 101 2147483269 137 48871 40759 7
theorem law__law_take (us : List U) (G : Gp) (Q : UK) (E : UX) (h : sp__law_take us G Q E) : t__law_take (endsU Q E) (ustart 5 us) G := law_take (2147482873) (2147482873) (32) (101) (2147483269) (137) (48871) (40759) (7) (by decide) us G Q E h
/- _law_of: of -/
abbrev sp__law_of : USp := sp_of
abbrev t__law_of : UTS := t_of 
theorem law__law_of (us : List U) (G : Gp) (Q : UK) (E : UX) (h : sp__law_of us G Q E) : t__law_of (endsU Q E) (ustart 2 us) G := law_of us G Q E h
/- _law_thing: slots ['_law_bag_here', '_law_cut', '_law_k', '_law_way'] -/
def t__law_thing : UTS := (tUSeq (tUPar [2, 3] (tUCons (tUDef sp__law_take 2 0 [.p 0, .p 1] [] [] (tUCons (tUVar 0) (tUCons (tUOp addU (tUCall (u1 lenV) (tUCons (tUVar 1) tUNil)) (tUC (.int 1))) tUNil)) tUNil) (tUCons (tUDef sp__law_take 2 0 [.p 0, .p 1] [] [] (tUCons (tUVar 0) (tUCons (tUC (.int 8)) tUNil)) tUNil) tUNil)))
    (tUSeq (tUIfSC (tUTest (tUOp eqU (tUVar 3) (tUC (.int 0)))) (tUSeq (tURet (tUOp addU (tUOp addU (tUSl (tUVar 1) tUNoPart (tUPart (tUVar 2))) (tUTup (tUCons (tUDef sp__law_of 2 0 [.p 0, .p 1] [] [] (tUCons (tUVar 0) (tUCons (tULst (tUCons (tUC (.int 0)) (tUCons (tUC (.int 1)) (tUCons (tUC (.int 2)) (tUCons (tUUn negU (tUC (.int 1))) (tUCons (tUC (.bl true)) (tUCons (tUC .non) (tUCons (tUC (.str [49])) (tUCons (tUOp powU (tUC (.int 10)) (tUC (.int 29))) tUNil))))))))) tUNil)) tUNil) tUNil))) (tUSl (tUVar 1) (tUPart (tUVar 2)) tUNoPart)))
    tUNext) tUNext)
    (tUSeq (tUIfSC (tUTest (tUOp eqU (tUVar 3) (tUC (.int 1)))) (tUSeq (tURet (tUOp addU (tUOp addU (tUSl (tUVar 1) tUNoPart (tUPart (tUVar 2))) (tUTup (tUCons (tUDef sp__law_of 2 0 [.p 0, .p 1] [] [] (tUCons (tUVar 0) (tUCons (tULst (tUCons (tUC (.int 0)) (tUCons (tUC (.int 1)) (tUCons (tUUn negU (tUC (.int 1))) (tUCons (tUC (.bl true)) (tUCons (tUC (.bl false)) (tUCons (tUC .non) (tUCons (tUC (.int 3)) (tUCons (tUTup (tUCons (tUC (.int 1)) tUNil)) tUNil))))))))) tUNil)) tUNil) tUNil))) (tUSl (tUVar 1) (tUPart (tUOp addU (tUVar 2) (tUC (.int 1)))) tUNoPart)))
    tUNext) tUNext)
    (tUSeq (tUIfSC (tUTest (tUOp eqU (tUVar 3) (tUC (.int 2)))) (tUSeq (tURet (tUOp addU (tUSl (tUVar 1) tUNoPart (tUPart (tUVar 2))) (tUSl (tUVar 1) (tUPart (tUOp addU (tUVar 2) (tUC (.int 1)))) tUNoPart)))
    tUNext) tUNext)
    (tUSeq (tUIfSC (tUTest (tUOp eqU (tUVar 3) (tUC (.int 3)))) (tUSeq (tURet (tUDef sp__law_of 2 0 [.p 0, .p 1] [] [] (tUCons (tUVar 0) (tUCons (tULst (tUCons (tUCall (u1 listV) (tUCons (tUVar 1) tUNil)) (tUCons (tUC .non) (tUCons (tUC (.int 0)) (tUCons (tUCall (u1 lenV) (tUCons (tUVar 1) tUNil)) (tUCons (tUC (.bl true)) (tUCons (tUC (.str [])) (tUCons (tUTup (tUCons (tUVar 1) tUNil)) (tUCons (tULst (tUCons (tUVar 1) tUNil)) (tUCons (tUCall (u1 sumV) (tUCons (tUVar 1) tUNil)) (tUCons (tUC (.str [99, 117, 116])) tUNil))))))))))) tUNil)) tUNil))
    tUNext) tUNext)
    (tUSeq (tURet (tUVar 1))
    tUNext))))))
/- _law_are_right: slots ['_law_bag_here', '_law_cuts', '_law_rows', '_law_many', '_law_told', '_law_turn', '_law_thing_here', '_law_due', '_law_cut', '_law_row', '_law_pairs', '_law_both', '_law_other'] -/
def t__law_are_right : UTS := (tUSeq (tUIfSC (tUTest (tUOp neU (tUCall (orCI (u1 lenV) "Cuts" (apOf sp_Cuts___len__ [.p 0] [] []) lenQ) (tUCons (tUVar 1) tUNil)) (tUCall (orCI (u1 lenV) "Cuts" (apOf sp_Cuts___len__ [.p 0] [] []) lenQ) (tUCons (tUVar 2) tUNil)))) (tUSeq (tURet (tUC (.bl false)))
    tUNext) tUNext)
    (tUSeq (tUAsg (tUListG (tIGen "Cuts" "each" sp_Cuts_each (tUVar 1))) (gUName 4))
    (tUSeq (tUIfSC (tUTest (tUOp neU (tUCall (u1 reprA) (tUCons (tUVar 4) tUNil)) (tUCall (u1 reprA) (tUCons (tUVar 2) tUNil)))) (tUSeq (tURet (tUC (.bl false)))
    tUNext) tUNext)
    (tUSeq (tUFor (tIRng1 (tUC (.int 6))) (gUName 5) (tUSeq (tUAsg (tUDef sp__law_thing 2 0 [.p 0, .p 1] [] [] (tUCons (tUVar 0) (tUCons (tUDef sp__law_of 2 0 [.p 0, .p 1] [] [] (tUCons (tUVar 0) (tUCons (tUVar 2) tUNil)) tUNil) tUNil)) tUNil) (gUName 6))
    (tUSeq (tUAsg (tUDef sp__law_is_cut 2 0 [.p 0, .p 1] [] [] (tUCons (tUVar 6) (tUCons (tUVar 3) tUNil)) tUNil) (gUName 7))
    (tUSeq (tUIfSC (tBAnd (tUTest (tUOp eqU (tUCall (orCI (u1 lenV) "Cuts" (apOf sp_Cuts___len__ [.p 0] [] []) lenQ) (tUCons (tUVar 2) tUNil)) (tUC (.int 1)))) (tUTru (fun u G Q _ => truU u G Q) (tUVar 7))) (tUSeq (tUAsg (tUOp eqU (tUVar 6) (tUOp ixU0 (tUVar 2) (tUC (.int 0)))) (gUName 7))
    tUNext) tUNext)
    (tUSeq (tUIfSC (tUTest (tUOp neU (tUOp (orInI false inU "Cuts" (apOf sp_Cuts___contains__ [.p 0, .p 1] [] [])) (tUVar 6) (tUVar 1)) (tUVar 7))) (tUSeq (tURet (tUC (.bl false)))
    tUNext) tUNext)
    tUNext)))))
    (tUSeq (tUDrop (tUBM "list" (onLst appendL) (tUVar 4) (tUCons (tUTup tUNil) tUNil)))
    (tUSeq (tUIfSC (tUTest (tUOp leU (tUCall (orCI (u1 lenV) "Cuts" (apOf sp_Cuts___len__ [.p 0] [] []) lenQ) (tUCons (tUVar 2) tUNil)) (tUC (.int 8)))) (tUSeq (tUPar [10, 11] (tUCons (tULst tUNil) (tUCons (tULst tUNil) tUNil)))
    (tUSeq (tUFor (tIGen "Cuts" "each" sp_Cuts_each (tUVar 1)) (gUName 8) (tUSeq (tUDrop (tUBM "list" (onLst extendL) (tUVar 10) (tUCons (tULc (tIGen "Cuts" "each" sp_Cuts_each (tUVar 1)) (gUName 12) (fun _ G Q _ => Q true G) (tUTup (tUCons (tUVar 8) (tUCons (tUVar 12) tUNil))) ([("_law_other", 12)] : List (Str × Nat)).unzip.2) tUNil)))
    tUNext))
    (tUSeq (tUFor (tIAny (tUVar 2)) (gUName 9) (tUSeq (tUDrop (tUBM "list" (onLst extendL) (tUVar 11) (tUCons (tULc (tIAny (tUVar 2)) (gUName 12) (fun _ G Q _ => Q true G) (tUTup (tUCons (tUVar 9) (tUCons (tUVar 12) tUNil))) ([("_law_other", 12)] : List (Str × Nat)).unzip.2) tUNil)))
    tUNext))
    (tUSeq (tUIfSC (tUTest (tUOp neU (tUCall (u1 reprA) (tUCons (tUVar 10) tUNil)) (tUCall (u1 reprA) (tUCons (tUVar 11) tUNil)))) (tUSeq (tURet (tUC (.bl false)))
    tUNext) tUNext)
    tUNext)))) tUNext)
    (tUSeq (tURet (tUAnd (tUOp eqU (tUCall (u1 reprA) (tUCons (tULc (tIGen "Cuts" "each" sp_Cuts_each (tUVar 1)) (gUName 8) (fun _ G Q _ => Q true G) (tUVar 8) ([("_law_cut", 8)] : List (Str × Nat)).unzip.2) tUNil)) (tUCall (u1 reprA) (tUCons (tUVar 2) tUNil))) (tUOp eqU (tUCall (orCI (u1 lenV) "Cuts" (apOf sp_Cuts___len__ [.p 0] [] []) lenQ) (tUCons (tUVar 1) tUNil)) (tUCall (orCI (u1 lenV) "Cuts" (apOf sp_Cuts___len__ [.p 0] [] []) lenQ) (tUCons (tUVar 2) tUNil)))))
    tUNext)))))))
/- law: slots ['_law_script', '_law_at', '_law_bag_here', '_law_rows', '_law_even_here', '_law_one', '_law_row', '_law_many', '_law_size'] -/
def t_law : UTS := (tUSeq (tUFor (tIRng1 (tUCall (u2 maxV) (tUCons (tUC (.int 1)) (tUCons (tUCall (u2 minV) (tUCons (tUC (.int 6)) (tUCons (tUCall (u1 lenV) (tUCons (tUVar 0) tUNil)) tUNil))) tUNil)))) (gUName 1) (tUSeq (tUAsg (tUDef sp__law_bag 2 0 [.p 0, .p 1] [] [] (tUCons (tUVar 0) (tUCons (tUVar 1) tUNil)) tUNil) (gUName 2))
    (tUSeq (tUPar [7, 8] (tUCons (tUDef sp__law_of 2 0 [.p 0, .p 1] [] [] (tUCons (tUVar 2) (tUCons (tULst (tUCons (tUC (.int 0)) (tUCons (tUC (.int 1)) (tUCons (tUC (.int 2)) (tUCons (tUC (.int 3)) (tUCons (tUC (.int 4)) (tUCons (tUC (.int 5)) (tUCons (tUC (.int 6)) tUNil)))))))) tUNil)) tUNil) (tUCons (tUOp addU (tUC (.int 1)) (tUDef sp__law_take 2 0 [.p 0, .p 1] [] [] (tUCons (tUVar 2) (tUCons (tUC (.int 9)) tUNil)) tUNil)) tUNil)))
    (tUSeq (tUIfSC (tBAnd (tUTest (tUOp eqU (tUVar 1) (tUC (.int 0)))) (tUTest (tUOp eqU (tUDef sp__law_take 2 0 [.p 0, .p 1] [] [] (tUCons (tUVar 2) (tUCons (tUC (.int 3)) tUNil)) tUNil) (tUC (.int 0))))) (tUSeq (tUAsg (tUOp addU (tUC (.int 7)) (tUDef sp__law_take 2 0 [.p 0, .p 1] [] [] (tUCons (tUVar 2) (tUCons (tUC (.int 6)) tUNil)) tUNil)) (gUName 7))
    tUNext) tUNext)
    (tUSeq (tUAsg (tUDef sp__law_all 1 0 [.p 0] [] [] (tUCons (tUVar 7) tUNil) tUNil) (gUName 3))
    (tUSeq (tUIfSC (tUNot (tUTru (fun u G Q _ => truU u G Q) (tUDef sp__law_are_right 4 0 [.p 0, .p 1, .p 2, .p 3] [] [] (tUCons (tUVar 2) (tUCons (tUMake "Cuts" sp_Cuts___init__ 2 0 [.p 0, .p 1, .q 0] [] [.non] (tUCons (tUVar 7) tUNil) tUNil) (tUCons (tUVar 3) (tUCons (tUVar 7) tUNil)))) tUNil))) (tUSeq (tURet (tUC (.bl false)))
    tUNext) tUNext)
    (tUSeq (tUIfSC (tUNot (tUTru (fun u G Q _ => truU u G Q) (tUDef sp__law_are_right 4 0 [.p 0, .p 1, .p 2, .p 3] [] [] (tUCons (tUVar 2) (tUCons (tUMake "Cuts" sp_Cuts___init__ 2 1 [.p 0, .p 1, .k 0] [] [.non] (tUCons (tUVar 7) tUNil) (tUCons (tUC .non) tUNil)) (tUCons (tUVar 3) (tUCons (tUVar 7) tUNil)))) tUNil))) (tUSeq (tURet (tUC (.bl false)))
    tUNext) tUNext)
    (tUSeq (tUAsg (tUDef sp__law_even 2 0 [.p 0, .p 1] [] [] (tUCons (tUVar 7) (tUCons (tUVar 8) tUNil)) tUNil) (gUName 4))
    (tUSeq (tUAsg (tUMake "Cuts" sp_Cuts___init__ 2 1 [.p 0, .p 1, .k 0] [] [.non] (tUCons (tUVar 7) tUNil) (tUCons (tUVar 8) tUNil)) (gUName 5))
    (tUSeq (tUIfSC (tUNot (tUTru (fun u G Q _ => truU u G Q) (tUDef sp__law_are_right 4 0 [.p 0, .p 1, .p 2, .p 3] [] [] (tUCons (tUVar 2) (tUCons (tUVar 5) (tUCons (tULst (tUCons (tUVar 4) tUNil)) (tUCons (tUVar 7) tUNil)))) tUNil))) (tUSeq (tURet (tUC (.bl false)))
    tUNext) tUNext)
    (tUSeq (tUFor (tIAny (tUSl (tUVar 3) tUNoPart (tUPart (tUC (.int 40))))) (gUName 6) (tUSeq (tUIfSC (tUTest (tUOp neU (tUOp (orInI false inU "Cuts" (apOf sp_Cuts___contains__ [.p 0, .p 1] [] [])) (tUVar 6) (tUVar 5)) (tUOp eqU (tUVar 6) (tUVar 4)))) (tUSeq (tURet (tUC (.bl false)))
    tUNext) tUNext)
    tUNext))
    tUNext)))))))))))
    (tUSeq (tURet (tUC (.bl true)))
    tUNext))
theorem law__law_all (us : List U) (G : Gp) (Q : UK) (E : UX) (h : sp__law_all us G Q E) : t__law_all (endsU Q E) (ustart 5 us) G := by
  unfold sp__law_all at h
  split at h
  · rename_i n0
    obtain ⟨k, rfl, hk, q⟩ := h
    simp_arith [t__law_all]
    intro f hf
    refine ⟨rg_of (by omega) (by omega), ?_⟩
    have len2 : ∀ i, i ≤ k → (cutsL i).length ≤ 2048 := fun i hi => by
      cases i with
      | zero => decide
      | succ i =>
        rw [len_C]
        exact Nat.pow_le_pow_right (by decide) (show i ≤ 11 by omega)
    refine for_rng (fun i us' G' => ∃ f a b c, us' = [some (.int k), some (.ref f), a, b, c] ∧ More G G' ∧ G f = none ∧ G' f = some (.lst (rowsU (cutsL i)))) ?_ ?_ ⟨f, _, _, _, rfl, More.refl.new hf, hf, gup_same⟩
    · rintro i us' G' N hi hN ⟨f, a, b, c, rfl, m1, hf, gf⟩
      simp_arith []
      intro z hz
      have hfz : f ≠ z := ne_of_known gf hz
      have gf2 : gup G' z (.lst []) f = some (.lst (rowsU (cutsL i))) := (gup_ne hfz).trans gf
      simp_arith [gf, gf2]
      unfold rowsU at gf gf2
      refine for_ind (fun xs us2 G2 => ∃ (done rest : List (List Int)) (c : Option U), xs = rest.map tupI ∧ done ++ rest = cutsL i ∧ us2 = [some (.int k), some (.ref f), some (.int (0 + (i : Nat))), some (.ref z), c] ∧ More G' G2 ∧ G2 z = some (.lst ((done.flatMap longC).map tupI))) ?_ ?_ (rowsU (cutsL i)) _ _ ⟨[], cutsL i, _, rfl, rfl, rfl, More.refl.put hz, gup_same⟩
      · rintro x xs us2 G2 N2 hN2 ⟨done, rest, c, e1, e2, rfl, m2, gz⟩
        obtain ⟨r, rest', rfl⟩ : ∃ r rest', rest = r :: rest' := by
          cases rest with
          | nil => cases e1
          | cons r rest' => exact ⟨r, rest', rfl⟩
        rw [List.map_cons] at e1
        injection e1 with e1 e1'
        subst e1 e1'
        have gf3 := m2 _ _ gf
        have hlr : (IntU r).length = r.length := intU_len r
        have hr : r ∈ cutsL i := by rw [← e2]; simp
        obtain ⟨hr1, hr2⟩ := parts_C i hr
        have hrl := len_sum r hr1
        have hlen : ((done ++ r :: rest').flatMap longC).length ≤ 2048 := by
          rw [e2]
          exact len2 (i + 1) (by omega)
        rw [List.flatMap_append, List.flatMap_cons, List.length_append, List.length_append] at hlen
        have hl1 : 1 ≤ (longC r).length := by unfold longC; simp
        simp_arith [gf3, gz, tupI]
        refine ⟨rfl, by omega, by omega, ne_tups (ms := []) ?_⟩
        by_cases er : r = []
        · subst er
          have e0 : (!decide (([] : List Int) = [])) = false := rfl
          simp_arith [e0]
          refine hN2 _ _ ⟨done ++ [[]], rest', _, rfl, by rw [List.append_assoc]; exact e2, rfl, (m2.put hz), ?_⟩
          rw [gup_same, List.flatMap_append, List.map_append]
          rfl
        · have e0 : (!decide (r = [])) = true := by simp [er]
          have el : longC r = [r ++ [1], bumpC r] := by unfold longC; rw [if_neg er]
          obtain ⟨q', z', rfl⟩ := snoc_of er
          rw [bump_snoc] at el
          simp_arith [e0]
          have hA : atI (IntU (q' ++ [z'])) (-1) = some (.int z') := by
            unfold IntU
            rw [List.map_append]
            exact atI_lastU
          have hC : cutU (IntU (q' ++ [z'])) none (some (-1)) = IntU q' := by
            unfold IntU
            rw [List.map_append]
            exact cutU_init
          simp_arith [hA, hC]
          rw [List.length_append] at hrl hlr
          have l9 : ((done.flatMap longC).map tupI).length = (done.flatMap longC).length := List.length_map _
          rw [intU_len, List.length_append, List.length_map, List.length_singleton]
          rw [el] at hlen hl1
          refine ⟨by omega, by omega, hN2 _ _ ⟨done ++ [q' ++ [z']], rest', _, rfl, by rw [List.append_assoc]; exact e2, rfl, m2.put hz, ?_⟩⟩
          rw [gup_same, List.flatMap_append, List.map_append, List.flatMap_cons, List.flatMap_nil, el]
          simp [tupI, IntU]
      · rintro us2 G2 ⟨done, rest, c, e1, e2, rfl, m2, gz⟩
        have er : rest = [] := by
          cases rest with
          | nil => rfl
          | cons r rest' => cases e1
        subst er
        rw [List.append_nil] at e2
        subst e2
        have gf3 := m2 _ _ gf
        simp_arith [gf3]
        exact ⟨rfl, hN _ _ ⟨z, _, _, _, rfl, m1.trans m2, m1.none hz, gz⟩⟩
    · rintro us' G' ⟨f, a, b, c, rfl, m1, hf, gf⟩
      simp_arith [gf]
      rw [Int.toNat_natCast]
      exact ⟨cutsL k, rfl, by have := len2 k (Nat.le_refl _); omega, srt_C k, fun r hr => .now (q r _ (m1.new hr) (m1.none hr) gup_same)⟩
  · exact h.elim
def evL (n s : Nat) (i : Nat) : Int := if (s : Int) < (n : Int) + (i : Nat) * (-(s : Int)) then (s : Int) else (n : Int) + (i : Nat) * (-(s : Int))
theorem evL_eq : ∀ n : Nat, n < 13 → ∀ s : Nat, s < 10 → 1 ≤ s → (List.range ((n + s - 1) / s)).map (evL n s) = evenC n s := by decide +kernel
theorem evL_rg : ∀ n : Nat, n < 13 → ∀ s : Nat, s < 10 → 1 ≤ s → ((-(s : Int)) ≠ 0 ∧ (-(s : Int)).natAbs < 1073741824 ∧ Builtin.Range.small (n : Int) 0 (-(s : Int)) = true ∧ Builtin.Range.rangeSize (n : Int) 0 (-(s : Int)) = (((n + s - 1) / s : Nat) : Int)) := by decide +kernel
theorem law__law_even (us : List U) (G : Gp) (Q : UK) (E : UX) (h : sp__law_even us G Q E) : t__law_even (endsU Q E) (ustart 4 us) G := by
  unfold sp__law_even at h
  split at h
  · rename_i n0 s0
    obtain ⟨n, s, rfl, rfl, hn, hs, hs9, q⟩ := h
    simp_arith [t__law_even]
    intro f hf
    refine ⟨(n + s - 1) / s, evL_rg n (by omega) s (by omega) hs, ?_⟩
    have hm : (rngsC (n : Int) (-(s : Int)) ((n + s - 1) / s)).length = (n + s - 1) / s := by unfold rngsC; rw [List.length_map, List.length_range]
    have hm2 : (n + s - 1) / s ≤ n := by
      rw [Nat.div_le_iff_le_mul_add_pred hs]
      have := Nat.mul_le_mul_left n hs
      rw [Nat.mul_comm s n]
      omega
    refine for_ix (fun i us' G' => ∃ z, us' = [some (.int n), some (.int s), some (.ref f), z] ∧ More G G' ∧ G' f = some (.lst (IntU ((List.range i).map (evL n s))))) ?_ ?_ ⟨_, rfl, More.refl.put hf, gup_same⟩
    · rintro i hi us' G' N hN ⟨z, rfl, m1, gf⟩
      have ei : (rngsC (n : Int) (-(s : Int)) ((n + s - 1) / s))[i] = .int ((n : Int) + (i : Nat) * (-(s : Int))) := by
        have e2 : (rngsC (n : Int) (-(s : Int)) ((n + s - 1) / s))[i]? = some (.int ((n : Int) + (i : Nat) * (-(s : Int)))) := by
          unfold rngsC
          rw [List.getElem?_map, List.getElem?_range (by rw [← hm]; exact hi)]
          rfl
        rw [List.getElem?_eq_getElem hi] at e2
        exact Option.some.inj e2
      rw [ei]
      simp_arith [gf]
      rw [hm] at hi
      refine ⟨by rw [intU_len, List.length_map, List.length_range]; omega, hN _ _ ⟨_, rfl, m1.put hf, ?_⟩⟩
      rw [gup_same, List.range_succ, List.map_append]
      simp [IntU, evL]
    · rintro us' G' ⟨z, rfl, m1, gf⟩
      rw [hm, evL_eq n (by omega) s (by omega) hs] at gf
      simp_arith [gf]
      exact .now (q G' m1)
  · exact h.elim
theorem le_sumI : ∀ {r : List Int}, (∀ x ∈ r, 1 ≤ x) → 0 ≤ r.sum ∧ ∀ x ∈ r, x ≤ r.sum
  | [], _ => ⟨by decide, fun x hx => by cases hx⟩
  | a :: r, h => by
    obtain ⟨i1, i2⟩ := le_sumI fun x hx => h x (List.mem_cons_of_mem _ hx)
    have ha := h a List.mem_cons_self
    rw [List.sum_cons]
    refine ⟨by omega, fun x hx => ?_⟩
    rcases List.mem_cons.mp hx with rfl | hx
    · omega
    · have := i2 x hx
      omega
theorem map_intOf : ∀ r : List Int, (IntU r).map intOf = r
  | [] => rfl
  | a :: r => by
    show a :: (IntU r).map intOf = _
    rw [map_intOf r]
theorem all_num {k : Int} {r : List Int} (h1 : ∀ x ∈ r, 1 ≤ x ∧ x ≤ k) : ((IntU r).all fun x => numB x 1 k) = true := by
  rw [List.all_eq_true]
  intro x hx
  obtain ⟨z, hz, rfl⟩ := List.mem_map.mp hx
  simp [numB, h1 z hz]
theorem dueB_ints {k : Nat} {r : List Int} (h : ∀ x ∈ r, 1 ≤ x) : dueB k (.tup (IntU r)) = decide (r.sum = (k : Int)) := by
  show (((IntU r).all fun x => numB x 1 k) && decide (((IntU r).map intOf).sum = (k : Int))) = _
  rw [map_intOf]
  by_cases e : r.sum = (k : Int)
  · rw [all_num fun x hx => ⟨h x hx, by have := (le_sumI h).2 x hx; omega⟩, Bool.true_and]
  · rw [decide_eq_false e, Bool.and_false]
theorem dueB_bad {k : Nat} {l : List U} {x : U} (hx : x ∈ l) (h : numB x 1 k = false) : dueB k (.tup l) = false := by
  show ((l.all fun x => numB x 1 k) && _) = false
  rw [List.all_eq_false.mpr ⟨x, hx, by simp [h]⟩, Bool.false_and]
theorem law__law_is_cut (us : List U) (G : Gp) (Q : UK) (E : UX) (h : sp__law_is_cut us G Q E) : t__law_is_cut (endsU Q E) (ustart 4 us) G := by
  unfold sp__law_is_cut at h
  split at h
  · rename_i u n0
    obtain ⟨k, rfl, ht, hi, q⟩ := h
    obtain ⟨t, ht⟩ := Option.isSome_iff_exists.mp ht
    simp_arith [t__law_is_cut, ht]
    cases u with
    | tup l =>
      cases ht
      simp_arith []
      refine for_ind (fun xs us' G' => ∃ (done : List Int) (z : Option U), us' = [some (.tup l), some (.int k), some (.int done.sum), z] ∧ G' = G ∧ l = IntU done ++ xs ∧ ∀ x ∈ done, 1 ≤ x) (fun x xs us' G' N hN ⟨done, z, e1, e2, el, hd⟩ => ?_) (fun us' G' ⟨done, z, e1, e2, el, hd⟩ => ?_) l _ _ ⟨[], _, rfl, rfl, rfl, fun x hx => by cases hx⟩
      · subst e1 e2
        have hx : x ∈ l := by rw [el]; simp
        have hx0 := hi.2 x hx
        have bad : numB x 1 k = false → Q (.bl false) G' := fun e => by
          have q' := q
          rw [dueB_bad hx e] at q'
          exact q'
        obtain ⟨tx, hx0⟩ := Option.isSome_iff_exists.mp hx0
        simp_arith [hx0]
        cases x with
        | int n =>
          cases hx0
          simp_arith []
          refine dscond2 (fun h1 => ?_) fun h1 => ?_
          · simp_arith []
            exact .now (bad (by simp [numB]; omega))
          · simp_arith []
            refine hN _ _ ⟨done ++ [n], some (.int n), ?_, rfl, ?_, ?_⟩
            · rw [List.sum_append]
              simp
            · rw [el]
              simp [IntU]
            · intro y hy
              rcases List.mem_append.mp hy with hy | hy
              · exact hd y hy
              · rw [List.mem_singleton.mp hy]
                omega
        | bl v =>
          cases hx0
          simp_arith []
          exact .now (bad rfl)
        | ref a =>
          have e : isiF tx (.b "int") = false := by
            rcases h : G' a with _ | o
            · rw [td_R, h] at hx0; cases hx0
            · rw [td_R, h] at hx0
              cases o <;> cases hx0 <;> rfl
          simp_arith [e]
          exact .now (bad rfl)
        | ty _ => cases hx0
        | glo _ => cases hx0
        | exc => cases hx0
        | _ =>
          cases hx0
          simp_arith []
          exact .now (bad rfl)
      · subst e1 e2
        rw [List.append_nil] at el
        subst el
        rw [dueB_ints hd] at q
        simp_arith []
        exact .now q
    | ref a =>
      have q' : Q (.bl false) G := q
      have e : isiF t (.b "tuple") = false := by
        rcases h : G a with _ | o
        · rw [td_R, h] at ht; cases ht
        · rw [td_R, h] at ht
          cases o <;> cases ht <;> rfl
      simp_arith [e]
      exact .now q'
    | ty _ => cases ht
    | glo _ => cases ht
    | exc => cases ht
    | _ =>
      cases ht
      simp_arith []
      exact .now q
  · exact h.elim
theorem cut_mem {l : List U} {a b : Option Int} {x : U} (h : x ∈ cutU l a b) : x ∈ l := List.mem_of_mem_drop (List.mem_of_mem_take h)
theorem cut_len {l : List U} {a b : Option Int} : (cutU l a b).length ≤ l.length := by
  unfold cutU
  rw [List.length_take, List.length_drop]
  omega
theorem int_td {G : Gp} {r : List Int} {x : U} (h : x ∈ IntU r) : (tdOf G x).isSome = true := by
  obtain ⟨n, _, rfl⟩ := List.mem_map.mp h
  rfl
theorem law__law_thing (us : List U) (G : Gp) (Q : UK) (E : UX) (h : sp__law_thing us G Q E) : t__law_thing (endsU Q E) (ustart 4 us) G := by
  unfold sp__law_thing at h
  split at h
  · rename_i p l
    obtain ⟨r, rfl, hr, c, a, n, q, hp, h⟩ := h
    rw [← lst_ex] at h
    obtain ⟨us, hq, ⟨is, rfl⟩, hne, kk⟩ := h
    have hrl : (IntU r).length = r.length := intU_len r
    simp_arith [t__law_thing, hp, hq, hne]
    refine ⟨⟨by omega, by omega⟩, ?_⟩
    intro k c a n k0 k1 y c a n y0 y1
    have big : ∀ {G2 : Gp} {l : List U}, l.length ≤ 100000 → (∀ x ∈ l, x ∈ IntU r ∨ (tdOf G2 x).isSome = true) → ThingD G2 (.tup l) := fun {G2 l} h1 h2 => ⟨rfl, h1, fun x hx => (h2 x hx).elim int_td fun h => h⟩
    refine dscond2 (fun _ => ?_) fun _ => ?_
    · simp_arith []
      refine ⟨⟨by decide, by decide, by decide⟩, fun z hz => ?_⟩
      have nz := hz
      obtain ⟨hzp, hz⟩ := gup_none hz
      have qz := (ne_of_known hq hz).symm
      simp_arith [hzp, hzp.symm, qz, qz.symm, hq, hne]
      intro u c a n hu
      have c1 := cut_len (l := IntU r) (a := none) (b := some k)
      have c2 := cut_len (l := IntU r) (a := some k) (b := none)
      refine ⟨by omega, by rw [List.length_append, List.length_singleton]; omega, .now (kk _ _ _ _ _ (big ?_ fun x hx => ?_) gup_same (Keep.self (Keep.new (Keep.self Keep.refl) nz)))⟩
      · rw [List.length_append, List.length_append, List.length_singleton]
        omega
      · rcases List.mem_append.mp hx with hx | hx
        · rcases List.mem_append.mp hx with hx | hx
          · exact .inl (cut_mem hx)
          · rw [List.mem_singleton.mp hx]
            rcases hu with rfl | rfl | rfl | rfl | rfl | rfl | rfl | rfl <;> exact .inr rfl
        · exact .inl (cut_mem hx)
    simp_arith []
    refine dscond2 (fun _ => ?_) fun _ => ?_
    · simp_arith []
      intro z hz
      have nz := hz
      obtain ⟨hzp, hz⟩ := gup_none hz
      have qz := (ne_of_known hq hz).symm
      simp_arith [hzp, hzp.symm, qz, qz.symm, hq, hne]
      intro u c a n hu
      have c1 := cut_len (l := IntU r) (a := none) (b := some k)
      have c2 := cut_len (l := IntU r) (a := some (k + 1)) (b := none)
      refine ⟨by omega, by rw [List.length_append, List.length_singleton]; omega, .now (kk _ _ _ _ _ (big ?_ fun x hx => ?_) gup_same (Keep.self (Keep.new (Keep.self Keep.refl) nz)))⟩
      · rw [List.length_append, List.length_append, List.length_singleton]
        omega
      · rcases List.mem_append.mp hx with hx | hx
        · rcases List.mem_append.mp hx with hx | hx
          · exact .inl (cut_mem hx)
          · rw [List.mem_singleton.mp hx]
            rcases hu with rfl | rfl | rfl | rfl | rfl | rfl | rfl | rfl <;> exact .inr rfl
        · exact .inl (cut_mem hx)
    simp_arith []
    refine dscond2 (fun _ => ?_) fun _ => ?_
    · simp_arith []
      have c1 := cut_len (l := IntU r) (a := none) (b := some k)
      have c2 := cut_len (l := IntU r) (a := some (k + 1)) (b := none)
      refine ⟨by omega, .now (kk _ _ _ _ _ (big ?_ fun x hx => ?_) gup_same (Keep.self Keep.refl))⟩
      · rw [List.length_append]
        omega
      · rcases List.mem_append.mp hx with hx | hx
        · exact .inl (cut_mem hx)
        · exact .inl (cut_mem hx)
    simp_arith []
    refine dscond2 (fun _ => ?_) fun _ => ?_
    · simp_arith []
      intro z1 h1 z2 h2
      refine ⟨r, rfl, fun z3 h3 => ?_⟩
      have n1 := h1
      have n2 := h2
      have n3 := h3
      obtain ⟨_, h1⟩ := gup_none h1
      obtain ⟨e21, h2⟩ := gup_none h2
      obtain ⟨_, h2⟩ := gup_none h2
      obtain ⟨e32, h3⟩ := gup_none h3
      obtain ⟨e31, h3⟩ := gup_none h3
      obtain ⟨_, h3⟩ := gup_none h3
      have p1 := (ne_of_known hp h1).symm
      have p2 := (ne_of_known hp h2).symm
      have p3 := (ne_of_known hp h3).symm
      have q1 := (ne_of_known hq h1).symm
      have q2 := (ne_of_known hq h2).symm
      have q3 := (ne_of_known hq h3).symm
      simp_arith [p1, p2, p3, q1, q2, q3, p1.symm, p2.symm, p3.symm, q1.symm, q2.symm, q3.symm, hq, hne]
      intro u c a n hu
      refine .now (kk _ _ _ _ _ ?_ gup_same (Keep.self (Keep.new (Keep.new (Keep.new (Keep.self Keep.refl) n1) n2) n3)))
      have one : ∀ {G2 : Gp} {v : U}, (tdOf G2 v).isSome = true → (∀ l, v ≠ .tup l) → ThingD G2 v := fun {G2 v} h1 h2 => ⟨h1, by cases v <;> first | trivial | exact absurd rfl (h2 _)⟩
      rcases hu with rfl | rfl | rfl | rfl | rfl | rfl | rfl | rfl | rfl | rfl
      · exact one (by rw [td_R, gup_ne p1, gup_ne e31.symm, gup_ne e21.symm, gup_same]; rfl) fun _ e => by cases e
      · exact one rfl fun _ e => by cases e
      · exact one rfl fun _ e => by cases e
      · exact one rfl fun _ e => by cases e
      · exact one rfl fun _ e => by cases e
      · exact one rfl fun _ e => by cases e
      · exact ⟨rfl, by show 1 ≤ 100000; decide, fun x hx => by rw [List.mem_singleton.mp hx]; rfl⟩
      · exact one (by rw [td_R, gup_ne p2, gup_ne e32.symm, gup_same]; rfl) fun _ e => by cases e
      · exact one rfl fun _ e => by cases e
      · exact one rfl fun _ e => by cases e
    simp_arith []
    exact .now (kk _ _ _ _ _ (big (by omega) fun x hx => .inl hx) gup_same (Keep.self Keep.refl))
  · exact h.elim
def rowP (r : List Int) : PyData := .tuple (r.map PyData.int)
def rowsP (rs : List (List Int)) : PyData := .list (rs.map rowP)
theorem dats_rows {G : Gp} : ∀ rs : List (List Int), Dats G (rs.map tupI) (rs.map rowP)
  | [] => .nil
  | r :: rs => .cons (.tup (dats_ints r)) (dats_rows rs)
def smallI (n : Int) : Prop := 0 ≤ n ∧ n ≤ 12
theorem row_w : ∀ {r : List Int}, (∀ n ∈ r, smallI n) → PyData.weightAll (r.map PyData.int) ≤ 5 * r.length
  | [], _ => Nat.le_refl _
  | n :: r, h => by
    have ih := row_w fun m hm => h m (List.mem_cons_of_mem _ hm)
    have h1 := h n List.mem_cons_self
    have h2 : n.natAbs.log2 < 4 := by
      by_cases z : n.natAbs = 0
      · rw [z]; decide
      · exact (Nat.log2_lt z).mpr (by have := h1.1; have := h1.2; omega)
    simp only [List.map_cons, PyData.weightAll, PyData.weight, List.length_cons]
    split <;> omega
theorem rows_ok : ∀ {rs : List (List Int)}, (∀ r ∈ rs, r.length ≤ 12 ∧ ∀ n ∈ r, smallI n) → PyData.showableAll (rs.map rowP) = true ∧ PyData.leavesShortAll 13 (rs.map rowP) = true ∧ PyData.weightAll (rs.map rowP) ≤ 61 * rs.length ∧ PyData.depthAll (rs.map rowP) ≤ 3
  | [], _ => ⟨rfl, rfl, Nat.le_refl _, by decide⟩
  | r :: rs, h => by
    obtain ⟨i1, i2, i3, i4⟩ := rows_ok fun m hm => h m (List.mem_cons_of_mem _ hm)
    obtain ⟨h1, h2⟩ := h r List.mem_cons_self
    obtain ⟨k1, k2, _⟩ := small_ints r fun n hn => by have := h2 n hn; have := this.1; have := (h2 n hn).2; omega
    have k3 := row_w h2
    have k4 := depth_ints r
    refine ⟨?_, ?_, ?_, ?_⟩
    · simp [PyData.showableAll, rowP, PyData.showable, k1, i1]
    · simp [PyData.leavesShortAll, rowP, PyData.leavesShort, k2, i2]
    · simp only [List.map_cons, PyData.weightAll, rowP, PyData.weight, List.length_cons]
      omega
    · simp only [List.map_cons, PyData.depthAll, rowP, PyData.depth]
      omega
theorem shows_rows {G : Gp} {a : Addr} {rs : List (List Int)} (g : G a = some (.lst (rs.map tupI))) (hl : rs.length ≤ 5001) (h : ∀ r ∈ rs, r.length ≤ 12 ∧ ∀ n ∈ r, smallI n) : Shows G (.ref a) (rowsP rs) := by
  obtain ⟨i1, i2, i3, i4⟩ := rows_ok h
  refine ⟨.lst g (dats_rows rs), by simpa [rowsP, PyData.showable] using i1, by simp only [rowsP, PyData.depth]; omega, ?_⟩
  have := PyData.shown_le 13 (by decide) (rowsP rs) (by simpa [rowsP, PyData.leavesShort] using i2)
  simp only [rowsP, PyData.weight] at this
  have h4 : (13 + 2) * PyData.weightAll (rs.map rowP) ≤ 15 * 305061 := Nat.mul_le_mul_left 15 (by omega)
  exact Nat.le_trans this (lim_line' (by omega))
def pairU (a b : List Int) : U := .tup [tupI a, tupI b]
def pairP (a b : List Int) : PyData := .tuple [rowP a, rowP b]
def pairsOf (rs : List (List Int)) (done : List (List Int)) : List U := done.flatMap fun a => rs.map (pairU a)
theorem len_flat {α β : Type} (l : List α) (f : α → List β) {n : Nat} (h : ∀ a, (f a).length = n) : (l.flatMap f).length = l.length * n := by
  induction l with
  | nil => simp
  | cons a l ih =>
    rw [List.flatMap_cons, List.length_append, ih, h, List.length_cons, Nat.succ_mul]
    omega
theorem pairs_ok : ∀ {ps : List (List Int × List Int)}, (∀ p ∈ ps, (p.1.length ≤ 12 ∧ ∀ n ∈ p.1, smallI n) ∧ (p.2.length ≤ 12 ∧ ∀ n ∈ p.2, smallI n)) → PyData.showableAll (ps.map fun p => pairP p.1 p.2) = true ∧ PyData.leavesShortAll 13 (ps.map fun p => pairP p.1 p.2) = true ∧ PyData.weightAll (ps.map fun p => pairP p.1 p.2) ≤ 140 * ps.length ∧ PyData.depthAll (ps.map fun p => pairP p.1 p.2) ≤ 6
  | [], _ => ⟨rfl, rfl, Nat.le_refl _, by decide⟩
  | p :: ps, h => by
    obtain ⟨i1, i2, i3, i4⟩ := pairs_ok fun m hm => h m (List.mem_cons_of_mem _ hm)
    obtain ⟨⟨h1, h2⟩, ⟨h3, h4⟩⟩ := h p List.mem_cons_self
    obtain ⟨k1, k2, k3, k4⟩ := rows_ok (rs := [p.1, p.2]) fun r hr => by
      simp only [List.mem_cons, List.not_mem_nil, or_false] at hr
      rcases hr with rfl | rfl
      · exact ⟨h1, h2⟩
      · exact ⟨h3, h4⟩
    have w1 : (pairP p.1 p.2).showable = true := by
      simp only [pairP, PyData.showable]
      exact k1
    have w2 : (pairP p.1 p.2).leavesShort 13 = true := by
      simp only [pairP, PyData.leavesShort]
      exact k2
    have w3 : (pairP p.1 p.2).weight ≤ 130 := by
      simp only [List.map_cons, List.map_nil, List.length_cons, List.length_nil] at k3
      simp only [pairP, PyData.weight, List.length_cons, List.length_nil]
      omega
    have w4 : (pairP p.1 p.2).depth ≤ 5 := by
      simp only [List.map_cons, List.map_nil] at k4
      simp only [pairP, PyData.depth]
      omega
    rw [List.map_cons]
    generalize pairP p.1 p.2 = x at w1 w2 w3 w4 ⊢
    refine ⟨?_, ?_, ?_, ?_⟩
    · simp only [PyData.showableAll, w1, i1, Bool.and_self]
    · simp only [PyData.leavesShortAll, w2, i2, Bool.and_self]
    · simp only [PyData.weightAll, List.length_cons]
      omega
    · simp only [PyData.depthAll]
      omega
theorem dats_pairs {G : Gp} : ∀ ps : List (List Int × List Int), Dats G (ps.map fun p => pairU p.1 p.2) (ps.map fun p => pairP p.1 p.2)
  | [] => .nil
  | p :: ps => .cons (.tup (dats_rows [p.1, p.2])) (dats_pairs ps)
def prs (rs : List (List Int)) : List (List Int × List Int) := rs.flatMap fun a => rs.map fun b => (a, b)
theorem prs_U (rs : List (List Int)) : (prs rs).map (fun p => pairU p.1 p.2) = pairsOf rs rs := by
  unfold prs pairsOf
  rw [List.map_flatMap]
  congr 1
  funext a
  rw [List.map_map]
  rfl
theorem shows_pairs {G : Gp} {a : Addr} {rs : List (List Int)} (g : G a = some (.lst (pairsOf rs rs))) (hl : rs.length ≤ 9) (h : ∀ r ∈ rs, r.length ≤ 12 ∧ ∀ n ∈ r, smallI n) : Shows G (.ref a) (.list ((prs rs).map fun p => pairP p.1 p.2)) := by
  have hp : ∀ p ∈ prs rs, (p.1.length ≤ 12 ∧ ∀ n ∈ p.1, smallI n) ∧ (p.2.length ≤ 12 ∧ ∀ n ∈ p.2, smallI n) := fun p hp => by
    obtain ⟨x, hx, hp⟩ := List.mem_flatMap.mp hp
    obtain ⟨y, hy, rfl⟩ := List.mem_map.mp hp
    exact ⟨h x hx, h y hy⟩
  have hl2 : (prs rs).length ≤ 81 := by
    have e : (prs rs).length = (pairsOf rs rs).length := by rw [← prs_U, List.length_map]
    rw [e]
    unfold pairsOf
    rw [len_flat _ _ (fun a => List.length_map _)]
    exact Nat.mul_le_mul hl hl
  obtain ⟨i1, i2, i3, i4⟩ := pairs_ok hp
  rw [← prs_U] at g
  refine ⟨.lst g (dats_pairs _), by simpa [PyData.showable] using i1, by simp only [PyData.depth]; omega, ?_⟩
  have := PyData.shown_le 13 (by decide) (.list ((prs rs).map fun p => pairP p.1 p.2)) (by simpa [PyData.leavesShort] using i2)
  simp only [PyData.weight] at this
  have h4 : (13 + 2) * PyData.weightAll ((prs rs).map fun p => pairP p.1 p.2) ≤ 15 * 11500 := Nat.mul_le_mul_left 15 (by omega)
  exact Nat.le_trans this (lim_line' (by omega))
theorem even_small : ∀ n : Nat, n < 13 → ∀ s : Nat, s < 10 → 1 ≤ s → (evenC n s).length ≤ 12 ∧ (∀ x ∈ evenC n s, 1 ≤ x ∧ x ≤ 12) ∧ (evenC n s).sum = (n : Int) := by decide +kernel
theorem small_out {k : Nat} {v : U} (hk : k ≤ 12) (hv : v = .non ∨ ∃ s : Nat, v = .int s ∧ 1 ≤ s ∧ s ≤ 9) : ∀ r ∈ outC k v, r.length ≤ 12 ∧ ∀ n ∈ r, smallI n := by
  rcases hv with rfl | ⟨s, rfl, hs, hs9⟩
  · intro r hr
    obtain ⟨h1, h2⟩ := parts_C k (show r ∈ cutsL k from hr)
    have h3 := len_sum r h1
    obtain ⟨h4, h5⟩ := le_sumI h1
    exact ⟨by omega, fun n hn => ⟨by have := h1 n hn; omega, by have := h5 n hn; omega⟩⟩
  · intro r hr
    have e : r = evenC k s := by
      have : r ∈ [evenC k ((s : Int)).toNat] := hr
      rw [Int.toNat_natCast] at this
      exact List.mem_singleton.mp this
    subst e
    obtain ⟨h1, h2, _⟩ := even_small k (by omega) s (by omega) hs
    exact ⟨h1, fun n hn => ⟨by have := (h2 n hn).1; omega, (h2 n hn).2⟩⟩
theorem len_out {k : Nat} {v : U} (hk : k ≤ 12) (hv : v = .non ∨ ∃ s : Nat, v = .int s ∧ 1 ≤ s ∧ s ≤ 9) : 0 < (outC k v).length ∧ (outC k v).length ≤ 2048 := by
  rcases hv with rfl | ⟨s, rfl, hs, hs9⟩
  · show 0 < (cutsL k).length ∧ (cutsL k).length ≤ 2048
    cases k with
    | zero => decide
    | succ k =>
      rw [len_C]
      exact ⟨Nat.pow_pos (by decide), Nat.pow_le_pow_right (by decide) (show k ≤ 11 by omega)⟩
  · exact ⟨Nat.zero_lt_one, show 1 ≤ 2048 by decide⟩
theorem each_out22 {k : Nat} {v : U} {m : Int} (hk : k ≤ 12) (hv : v = .non ∨ ∃ s : Nat, v = .int s ∧ 1 ≤ s ∧ s ≤ 9) : sp_Cuts_each (cutO (.int k) v m) ((outC k v).map tupI) := by
  refine ⟨k, v, m, rfl, hk, ?_⟩
  rcases hv with rfl | ⟨s, rfl, hs, hs9⟩
  · exact .inl ⟨rfl, rfl⟩
  · refine .inr ⟨s, rfl, hs, hs9, ?_⟩
    show [tupI (evenC k ((s : Int)).toNat)] = _
    rw [Int.toNat_natCast]
theorem due_tup {k : Nat} {u : U} (h : dueB k u = true) : ∃ r : List Int, u = .tup (IntU r) ∧ (∀ x ∈ r, 1 ≤ x ∧ x ≤ k) ∧ r.sum = (k : Int) := by
  cases u with
  | tup us =>
    have h' : ((us.all fun x => numB x 1 k) && decide ((us.map intOf).sum = (k : Int))) = true := h
    rw [Bool.and_eq_true] at h'
    obtain ⟨e, i⟩ := ints_num h'.1
    exact ⟨us.map intOf, by rw [← e], i, of_decide_eq_true h'.2⟩
  | _ => cases h
theorem cutB_ints {k : Nat} {v : U} {r : List Int} (h : ∀ x ∈ r, 1 ≤ x ∧ x ≤ k) : cutB k v (.tup (IntU r)) = restB k v r := by
  rw [cutB_tup, all_num h, Bool.true_and, map_intOf]
theorem cut_no {k : Nat} {v : U} {u : U} (hk : k ≤ 12) (hv : v = .non ∨ ∃ s : Nat, v = .int s ∧ 1 ≤ s ∧ s ≤ 9) (h : dueB k u = false) : cutB k v u = false := by
  cases u with
  | tup us =>
    have h' : ((us.all fun x => numB x 1 k) && decide ((us.map intOf).sum = (k : Int))) = false := h
    rw [cutB_tup]
    cases ea : us.all fun x => numB x 1 k with
    | false => rfl
    | true =>
      rw [ea, Bool.true_and] at h'
      have h2 := of_decide_eq_false h'
      rw [Bool.true_and]
      rcases hv with rfl | ⟨s, rfl, hs, hs9⟩
      · exact h'
      · show decide (us.map intOf = evenC k ((s : Int)).toNat) = false
        rw [Int.toNat_natCast]
        refine decide_eq_false fun e => h2 ?_
        rw [e]
        exact (even_small k (by omega) s (by omega) hs).2.2
  | _ => rfl
theorem cut_many {k : Nat} {v : U} {u : U} (hv : v = .non ∨ ∃ s : Nat, v = .int s ∧ 1 ≤ s ∧ s ≤ 9) (hl : (outC k v).length ≠ 1) : cutB k v u = dueB k u := by
  rcases hv with rfl | ⟨s, rfl, hs, hs9⟩
  · cases u <;> rfl
  · exact absurd rfl hl
theorem cut_one {k : Nat} {v : U} {r r0 : List Int} (hv : v = .non ∨ ∃ s : Nat, v = .int s ∧ 1 ≤ s ∧ s ≤ 9) (h : ∀ x ∈ r, 1 ≤ x ∧ x ≤ k) (hs : r.sum = (k : Int)) (ho : outC k v = [r0]) : cutB k v (.tup (IntU r)) = decide (r = r0) := by
  rw [cutB_ints h]
  rcases hv with rfl | ⟨s, rfl, hs1, hs9⟩
  · show decide (r.sum = (k : Int)) = _
    rw [decide_eq_true hs]
    have hl := len_sum r fun x hx => (h x hx).1
    have ho' : cutsL k = [r0] := ho
    symm
    apply decide_eq_true
    match k, ho', hs, hl, h with
    | 0, ho', hs, hl, h =>
      have e : ([[]] : List (List Int)) = [r0] := ho'
      injection e with e
      rw [← e]
      exact List.length_eq_zero_iff.mp (by omega)
    | 1, ho', hs, hl, h =>
      have e : ([[1]] : List (List Int)) = [r0] := ho'
      injection e with e
      rw [← e]
      match r, hs, hl, h with
      | [], hs, _, _ => cases hs
      | [x], hs, _, _ =>
        have : x + 0 = 1 := hs
        rw [show x = 1 by omega]
      | x :: y :: t, _, hl, _ =>
        rw [List.length_cons, List.length_cons] at hl
        omega
    | k + 2, ho', _, _, _ =>
      have hl2 := len_C (k + 1)
      rw [ho'] at hl2
      have : 2 ^ (k + 1) = 2 * 2 ^ k := by rw [Nat.pow_succ, Nat.mul_comm]
      have : 0 < 2 ^ k := Nat.pow_pos (by decide)
      rw [List.length_singleton] at hl2
      omega
  · show decide (r = evenC k ((s : Int)).toNat) = _
    have e : [evenC k ((s : Int)).toNat] = [r0] := ho
    injection e with e
    rw [e]
theorem e_insOr_cut {u v : U} {m : Int} {K : String → Prop} {R : Prop} : insOr (some (cutO u v m)) K R = K "Cuts" := (rfl)
theorem law__law_are_right (us : List U) (G : Gp) (Q : UK) (E : UX) (h : sp__law_are_right us G Q E) : t__law_are_right (endsU Q E) (ustart 13 us) G := by
  unfold sp__law_are_right at h
  split at h
  · rename_i p d r n0
    obtain ⟨k, v, rfl, hk, hv, gd, gr, h⟩ := h
    obtain ⟨c, a, n, q, iq, gp, gq, hne, q'⟩ := bag_of h
    clear h
    have sm := small_out hk hv
    obtain ⟨l0, l1⟩ := len_out hk hv
    have eo := each_out22 (m := ((outC k v).length : Nat)) hk hv
    have c1 : ∀ u, dueB k u = false → cutB k v u = false := fun u => cut_no hk hv
    have c2 : (outC k v).length ≠ 1 → ∀ u, cutB k v u = dueB k u := fun h u => cut_many hv h
    have c3 : ∀ r r0 : List Int, (∀ x ∈ r, 1 ≤ x ∧ x ≤ (k : Int)) → r.sum = (k : Int) → outC k v = [r0] → cutB k v (.tup (IntU r)) = decide (r = r0) := fun r r0 h1 h2 h3 => cut_one hv h1 h2 h3
    have fl : ∀ z : Int, ([("count", U.int k), ("chunk", v), ("many", U.int z)].all fun x => flatU x.2) = true := fun z => by
      rcases hv with rfl | ⟨s, rfl, _⟩ <;> rfl
    generalize outC k v = R at *
    have hlr : (rowsU R).length = R.length := List.length_map _
    have dp : d ≠ p := fun e => by rw [e, gp] at gd; cases gd
    have rp : r ≠ p := fun e => by
      rw [e, gp] at gr
      cases R <;> cases gr
    have hd0 : decide (((R.length : Nat) : Int) = ((R.length : Nat) : Int)) = true := decide_eq_true rfl
    simp_arith [t__law_are_right, gd, gr, hlr, e_insOr_cut]
    refine ⟨⟨by omega, by omega⟩, fun s hs => ⟨⟨by omega, by omega⟩, ?_⟩⟩
    have gd2 := (gup_ne (o := .lst (rngs 0 ((R.length : Nat) : Int).toNat)) (ne_of_known gd hs)).trans gd
    have gr2 := (gup_ne (o := .lst (rngs 0 ((R.length : Nat) : Int).toNat)) (ne_of_known gr hs)).trans gr
    have gp2 := (gup_ne (o := .lst (rngs 0 ((R.length : Nat) : Int).toNat)) (ne_of_known gp hs)).trans gp
    have gq2 := (gup_ne (o := .lst (rngs 0 ((R.length : Nat) : Int).toNat)) (ne_of_known gq hs)).trans gq
    have k1 : Keep p G (gup G s (.lst (rngs 0 ((R.length : Nat) : Int).toNat))) := Keep.refl.new hs
    generalize gup G s (.lst (rngs 0 ((R.length : Nat) : Int).toNat)) = Gd at gd2 gr2 gp2 gq2 k1 ⊢
    clear gd gr gp gq hs
    have nx : ∀ l : List Nat, (!decide (l = l)) = false := fun l => by simp
    have nb : ∀ b : Bool, (!decide (b = b)) = false := fun b => by simp
    have ni : ∀ b : Int, (!decide (b = b)) = false := fun b => by simp
    simp_arith [gd2, gr2, gp2, gq2, hlr, hd0, ni, e_insOr_cut]
    have lm : (R.map tupI).length < 1000000 := by rw [List.length_map]; omega
    refine ⟨fl _, _, eo, lm, fun t ht => ?_⟩
    have gt : gup Gd t (.lst (R.map tupI)) t = _ := gup_same
    have gd := (gup_ne (o := .lst (R.map tupI)) (ne_of_known gd2 ht)).trans gd2
    have gr := (gup_ne (o := .lst (R.map tupI)) (ne_of_known gr2 ht)).trans gr2
    have gp := (gup_ne (o := .lst (R.map tupI)) (ne_of_known gp2 ht)).trans gp2
    have gq := (gup_ne (o := .lst (R.map tupI)) (ne_of_known gq2 ht)).trans gq2
    have k2 : Keep p G (gup Gd t (.lst (R.map tupI))) := k1.new ht
    have tp : t ≠ p := fun e => by rw [e, gp2] at ht; cases ht
    have dt : d ≠ t := ne_of_known gd2 ht
    have rt : r ≠ t := ne_of_known gr2 ht
    have nt : G t = none := by
      cases e : G t with
      | none => rfl
      | some o => rw [k1 t o tp e] at ht; cases ht
    generalize gup Gd t (.lst (R.map tupI)) = Ge at gt gd gr gp gq k2 ⊢
    clear gd2 gr2 gp2 gq2 ht k1
    have l5 : R.length ≤ 5001 := by omega
    refine ⟨_, shows_rows gt l5 sm, _, shows_rows gr l5 sm, ?_⟩
    simp_arith [nx]
    refine ⟨rg_of (by omega) (by omega), ?_⟩
    refine for_rng (fun i us2 G2 => ∃ e5 e6 e7 c a n, us2 = [some (.ref p), some (.ref d), some (.ref r), some (.int k), some (.ref t), e5, e6, e7, none, none, none, none, none] ∧ G2 t = some (.lst (R.map tupI)) ∧ G2 d = some (cutO (.int k) v ((R.length : Nat) : Int)) ∧ G2 r = some (.lst (rowsU R)) ∧ G2 p = some (bagO c a n q) ∧ G2 q = some (.lst (IntU iq)) ∧ Keep p G G2) ?_ ?_ ⟨_, _, _, _, _, _, rfl, gt, gd, gr, gp, gq, k2⟩
    · clear gt gd gr gp gq k2
      rintro i us2 G2 N2 hi hN2 ⟨e5, e6, e7, c, a, n, rfl, gt, gd, gr, gp, gq, k2⟩
      simp_arith [gp, gr, gq]
      refine ⟨rp, by omega, by omega, hne, fun u c a n hu => ?_⟩
      obtain ⟨row, hrow, rfl⟩ := List.mem_map.mp hu
      have hrow := sm row hrow
      have gp1 : gup G2 p (bagO c a n q) p = some (bagO c a n q) := gup_same
      have gq1 := (gup_ne (o := bagO c a n q) hne).trans gq
      have gt1 := (gup_ne (o := bagO c a n q) tp).trans gt
      have gd1 := (gup_ne (o := bagO c a n q) dp).trans gd
      have gr1 := (gup_ne (o := bagO c a n q) rp).trans gr
      have k3 : Keep p G (gup G2 p (bagO c a n q)) := k2.self
      generalize gup G2 p (bagO c a n q) = G3 at gp1 gq1 gt1 gd1 gr1 k3 ⊢
      clear gt gd gr gp gq hu k2
      unfold tupI
      simp_arith [gp1, gq1]
      refine ⟨row, rfl, hrow.1, hne, fun u G4 c a n tv gp4 kp => ?_⟩
      have gt := kp _ _ tp gt1
      have gd := kp _ _ dp gd1
      have gr := kp _ _ rp gr1
      have gq := kp _ _ hne gq1
      have k4 := k3.trans kp
      clear gt1 gd1 gr1 gq1 gp1 k3 kp
      simp_arith [gd]
      refine ⟨k, rfl, tv.1, tv.2, ?_⟩
      simp_arith [gr, e_insOr_cut]
      rw [hlr]
      refine dcond (fun h1 => ?_) fun h1 => ?_
      · simp_arith []
        refine scond2 (fun h2 => ?_) fun h2 => ?_
        · obtain ⟨r1, rfl, hr1, hs1⟩ := due_tup h2
          have hR : R.length = 1 := by omega
          obtain ⟨r0, rfl⟩ := List.length_eq_one_iff.mp hR
          have h3 := c3 r1 r0 hr1 hs1 rfl
          have h4 : rowsU [r0] = [tupI r0] := rfl
          rw [h4] at gr
          unfold tupI at gr
          simp_arith [gr]
          refine eq_tups ?_
          have gr : G4 r = some (.lst (rowsU [r0])) := gr
          simp_arith [gd, e_insOr_cut]
          refine ⟨k, v, _, rfl, hk, hv, tv.2, fun G5 m5 => ?_⟩
          simp_arith [nb, h3]
          exact hN2 _ _ ⟨_, _, _, _, _, _, rfl, m5 _ _ gt, m5 _ _ gd, m5 _ _ gr, m5 _ _ gp4, m5 _ _ gq, fun a o h e => m5 _ _ (k4 a o h e)⟩
        · have h3 := c1 u h2
          simp_arith [gd, e_insOr_cut]
          refine ⟨k, v, _, rfl, hk, hv, tv.1, tv.2, fun G5 m5 => ?_⟩
          simp_arith [nb, h2, h3]
          exact hN2 _ _ ⟨_, _, _, _, _, _, rfl, m5 _ _ gt, m5 _ _ gd, m5 _ _ gr, m5 _ _ gp4, m5 _ _ gq, fun a o h e => m5 _ _ (k4 a o h e)⟩
      · have h3 := c2 (by omega) u
        simp_arith [gd, e_insOr_cut]
        refine ⟨k, v, _, rfl, hk, hv, tv.1, tv.2, fun G5 m5 => ?_⟩
        simp_arith [nb, h3]
        exact hN2 _ _ ⟨_, _, _, _, _, _, rfl, m5 _ _ gt, m5 _ _ gd, m5 _ _ gr, m5 _ _ gp4, m5 _ _ gq, fun a o h e => m5 _ _ (k4 a o h e)⟩
    · clear gt gd gr gp gq k2
      rintro us2 G2 ⟨e5, e6, e7, c, a, n, rfl, gt, gd, gr, gp, gq, k2⟩
      simp_arith [gt, gd, gr, e_insOr_cut]
      rw [hlr]
      have gd1 := (gup_ne (o := .lst (R.map tupI ++ [.tup []])) dt).trans gd
      have gr1 := (gup_ne (o := .lst (R.map tupI ++ [.tup []])) rt).trans gr
      have gp1 := (gup_ne (o := .lst (R.map tupI ++ [.tup []])) (Ne.symm tp)).trans gp
      have k3 : Keep p G (gup G2 t (.lst (R.map tupI ++ [.tup []]))) := fun a o h e => (gup_ne fun z => by rw [z, nt] at e; cases e).trans (k2 a o h e)
      have ll : R.length < 1000000 := by omega
      refine ⟨ll, ?_⟩
      generalize gup G2 t (.lst (R.map tupI ++ [.tup []])) = G3 at gd1 gr1 gp1 k3 ⊢
      clear gt gd gr gp gq k2
      refine scondM (fun us3 G4 => ∃ e8 e9 e10 e11 e12, us3 = [some (.ref p), some (.ref d), some (.ref r), some (.int k), some (.ref t), e5, e6, e7, e8, e9, e10, e11, e12] ∧ G4 d = some (cutO (.int k) v ((R.length : Nat) : Int)) ∧ G4 r = some (.lst (rowsU R)) ∧ G4 p = some (bagO c a n q) ∧ Keep p G G4) (fun h8 => ?_) (fun h8 => ?_) ?_
      · have hlen : R.length ≤ 8 := by
          have := of_decide_eq_true h8
          omega
        simp_arith []
        intro z1 h1 z2 h2
        have n2 := h2
        obtain ⟨e21, h2⟩ := gup_none h2
        have d1 : d ≠ z1 := ne_of_known gd1 h1
        have d2 : d ≠ z2 := ne_of_known gd1 h2
        have r1 : r ≠ z1 := ne_of_known gr1 h1
        have r2 : r ≠ z2 := ne_of_known gr1 h2
        simp_arith [gd1]
        refine ⟨fl _, _, eo, lm, ?_⟩
        have pl : ∀ done rest : List (List Int), done ++ rest = R → (pairsOf R done).length ≤ 81 := fun done rest e => by
          have h1 : done.length ≤ R.length := by rw [← e, List.length_append]; omega
          unfold pairsOf
          rw [len_flat _ _ (fun a => List.length_map _)]
          exact Nat.le_trans (Nat.mul_le_mul (Nat.le_trans h1 hlen) hlen) (by decide)
        refine for_ind (fun xs us2 G2 => ∃ (done rest : List (List Int)) (a b : Option U), xs = rest.map tupI ∧ done ++ rest = R ∧ us2 = [some (.ref p), some (.ref d), some (.ref r), some (.int k), some (.ref t), e5, e6, e7, a, none, some (.ref z1), some (.ref z2), b] ∧ More G3 G2 ∧ G2 z1 = some (.lst (pairsOf R done)) ∧ G2 z2 = some (.lst [])) ?_ ?_ _ _ _ ⟨[], R, _, _, rfl, rfl, rfl, (More.refl.put h1).put h2, by rw [gup_ne (Ne.symm e21), gup_same]; rfl, gup_same⟩
        · rintro x xs us2 G2 N hN ⟨done, rest, a, b, e1, e2, rfl, m1, g1, g2⟩
          obtain ⟨c, rest', rfl⟩ : ∃ r rest', rest = r :: rest' := by
            cases rest with
            | nil => cases e1
            | cons r rest' => exact ⟨r, rest', rfl⟩
          rw [List.map_cons] at e1
          injection e1 with e1 e1'
          subst e1 e1'
          have gd2 := m1 _ _ gd1
          simp_arith [gd2, g1]
          refine ⟨rfl, fl _, _, eo, lm, ?_⟩
          refine lc_ind (fun xs acc G5 => ∃ (done2 rest2 : List (List Int)), xs = rest2.map tupI ∧ done2 ++ rest2 = R ∧ acc = done2.map (pairU c) ∧ G5 = G2) ?_ ?_ _ _ _ ⟨[], R, rfl, rfl, rfl, rfl⟩
          · rintro x xs acc G5 N3 hN3 ⟨done2, rest2, e1, e3, rfl, rfl⟩
            obtain ⟨y, rest3, rfl⟩ : ∃ r rest', rest2 = r :: rest' := by
              cases rest2 with
              | nil => cases e1
              | cons r rest' => exact ⟨r, rest', rfl⟩
            rw [List.map_cons] at e1
            injection e1 with e1 e1'
            subst e1 e1'
            simp_arith [gd2]
            have hl2 : done2.length ≤ 8 := by
              have : done2.length ≤ R.length := by rw [← e3, List.length_append]; omega
              omega
            refine ⟨rfl, by omega, hN3 _ _ ⟨done2 ++ [y], rest3, rfl, by rw [List.append_assoc]; exact e3, ?_, rfl⟩⟩
            rw [List.map_append]
            rfl
          · rintro acc G5 ⟨done2, rest2, e1, e3, rfl, rfl⟩
            have er : rest2 = [] := by
              cases rest2 with
              | nil => rfl
              | cons r rest' => cases e1
            subst er
            rw [List.append_nil] at e3
            subst e3
            refine ⟨gd2, fun y hy => ?_⟩
            have z1y : z1 ≠ y := ne_of_known g1 hy
            have z2y : z2 ≠ y := ne_of_known g2 hy
            simp_arith [g1]
            have l1 := pl done _ e2
            refine ⟨by omega, hN _ _ ⟨done ++ [c], rest', _, _, rfl, by rw [List.append_assoc]; exact e2, rfl, (m1.new hy).put h1, ?_, ?_⟩⟩
            · rw [gup_same]
              unfold pairsOf
              rw [List.flatMap_append]
              simp
            · rw [gup_ne e21, gup_ne z2y]
              exact g2
        · rintro us2 G2 ⟨done, rest, a, b, e1, e2, rfl, m1, g1, g2⟩
          have er : rest = [] := by
            cases rest with
            | nil => rfl
            | cons r rest' => cases e1
          subst er
          rw [List.append_nil] at e2
          have e2 := e2.symm
          subst e2
          refine ⟨m1 _ _ gd1, ?_⟩
          have gr2 := m1 _ _ gr1
          simp_arith [gr2]
          refine for_ind (fun xs us3 G5 => ∃ (done rest : List (List Int)) (b c : Option U), xs = rest.map tupI ∧ done ++ rest = R ∧ us3 = [some (.ref p), some (.ref d), some (.ref r), some (.int k), some (.ref t), e5, e6, e7, a, b, some (.ref z1), some (.ref z2), c] ∧ More G3 G5 ∧ G5 z1 = some (.lst (pairsOf R R)) ∧ G5 z2 = some (.lst (pairsOf R done))) ?_ ?_ _ _ _ ⟨[], R, _, _, rfl, rfl, rfl, m1, g1, by rw [g2]; rfl⟩
          · clear g1 g2 gr2 m1
            rintro x xs us3 G5 N hN ⟨done, rest, b, c0, e1, e2, rfl, m1, g1, g2⟩
            obtain ⟨c, rest', rfl⟩ : ∃ r rest', rest = r :: rest' := by
              cases rest with
              | nil => cases e1
              | cons r rest' => exact ⟨r, rest', rfl⟩
            rw [List.map_cons] at e1
            injection e1 with e1 e1'
            subst e1 e1'
            have gr2 := m1 _ _ gr1
            simp_arith [gr2, g2]
            refine lc_ind (fun xs acc G6 => ∃ (done2 rest2 : List (List Int)), xs = rest2.map tupI ∧ done2 ++ rest2 = R ∧ acc = done2.map (pairU c) ∧ G6 = G5) ?_ ?_ _ _ _ ⟨[], R, rfl, rfl, rfl, rfl⟩
            · rintro x xs acc G6 N3 hN3 ⟨done2, rest2, e1, e3, rfl, rfl⟩
              obtain ⟨y, rest3, rfl⟩ : ∃ r rest', rest2 = r :: rest' := by
                cases rest2 with
                | nil => cases e1
                | cons r rest' => exact ⟨r, rest', rfl⟩
              rw [List.map_cons] at e1
              injection e1 with e1 e1'
              subst e1 e1'
              simp_arith [gr2]
              have hl2 : done2.length ≤ 8 := by
                have : done2.length ≤ R.length := by rw [← e3, List.length_append]; omega
                omega
              refine ⟨by omega, hN3 _ _ ⟨done2 ++ [y], rest3, rfl, by rw [List.append_assoc]; exact e3, ?_, rfl⟩⟩
              rw [List.map_append]
              rfl
            · rintro acc G6 ⟨done2, rest2, e1, e3, rfl, rfl⟩
              have er : rest2 = [] := by
                cases rest2 with
                | nil => rfl
                | cons r rest' => cases e1
              subst er
              rw [List.append_nil] at e3
              subst e3
              refine ⟨gr2, fun y hy => ?_⟩
              have z1y : z1 ≠ y := ne_of_known g1 hy
              have z2y : z2 ≠ y := ne_of_known g2 hy
              simp_arith [g2]
              have l1 := pl done _ e2
              refine ⟨by omega, hN _ _ ⟨done ++ [c], rest', _, _, rfl, by rw [List.append_assoc]; exact e2, rfl, (m1.new hy).put h2, ?_, ?_⟩⟩
              · rw [gup_ne (Ne.symm e21), gup_ne z1y]
                exact g1
              · rw [gup_same]
                unfold pairsOf
                rw [List.flatMap_append]
                simp
          · clear g1 g2 gr2 m1
            rintro us3 G5 ⟨done, rest, b, c0, e1, e2, rfl, m1, g1, g2⟩
            have er : rest = [] := by
              cases rest with
              | nil => rfl
              | cons r rest' => cases e1
            subst er
            rw [List.append_nil] at e2
            have e2 := e2.symm
            subst e2
            have gr2 := m1 _ _ gr1
            simp_arith [gr2]
            have hl9 : R.length ≤ 9 := by omega
            refine ⟨_, shows_pairs g1 hl9 sm, ?_⟩
            refine ⟨_, shows_pairs g2 hl9 sm, ?_⟩
            simp_arith [nx]
            exact .now ⟨_, _, _, _, _, rfl, m1 _ _ gd1, gr2, m1 _ _ gp1, fun a o h e => m1 _ _ (k3 a o h e)⟩
      · simp_arith []
        exact .now ⟨_, _, _, _, _, rfl, gd1, gr1, gp1, k3⟩
      · rintro us3 G4 ⟨e8, e9, e10, e11, e12, rfl, gd, gr, gp, k4⟩
        simp_arith [gd]
        refine ⟨fl _, _, eo, lm, ?_⟩
        refine lc_ind (fun xs acc G5 => ∃ (done rest : List (List Int)), xs = rest.map tupI ∧ done ++ rest = R ∧ acc = done.map tupI ∧ G5 = G4) ?_ ?_ _ _ _ ⟨[], R, rfl, rfl, rfl, rfl⟩
        · rintro x xs acc G5 N3 hN3 ⟨done, rest, e1, e3, rfl, rfl⟩
          obtain ⟨y, rest3, rfl⟩ : ∃ r rest', rest = r :: rest' := by
            cases rest with
            | nil => cases e1
            | cons r rest' => exact ⟨r, rest', rfl⟩
          rw [List.map_cons] at e1
          injection e1 with e1 e1'
          subst e1 e1'
          simp_arith [gd]
          have hl := congrArg List.length e3
          rw [List.length_append, List.length_cons] at hl
          exact ⟨rfl, by omega, hN3 _ _ ⟨done ++ [y], rest3, rfl, by rw [List.append_assoc]; exact e3, by rw [List.map_append]; rfl, rfl⟩⟩
        · rintro acc G5 ⟨done, rest, e1, e3, rfl, rfl⟩
          have er : rest = [] := by
            cases rest with
            | nil => rfl
            | cons r rest' => cases e1
          subst er
          rw [List.append_nil] at e3
          refine ⟨gd, fun z hz => ?_⟩
          have gd2 := (gup_ne (o := .lst (done.map tupI)) (ne_of_known gd hz)).trans gd
          have gr2 := (gup_ne (o := .lst (done.map tupI)) (ne_of_known gr hz)).trans gr
          have gp2 := (gup_ne (o := .lst (done.map tupI)) (ne_of_known gp hz)).trans gp
          have k5 : Keep p G (gup G5 z (.lst (done.map tupI))) := k4.new hz
          have gz : gup G5 z (.lst (done.map tupI)) z = some (.lst (done.map tupI)) := gup_same
          generalize gup G5 z (.lst (done.map tupI)) = G6 at gd2 gr2 gp2 gz k5 ⊢
          clear gd gr hz k4
          rw [e3] at gz
          refine ⟨_, shows_rows gz l5 sm, _, shows_rows gr2 l5 sm, ?_⟩
          have ny : ∀ l : List Nat, decide (l = l) = true := fun l => decide_eq_true rfl
          simp_arith [ny, gd2, gr2, hlr, e_insOr_cut]
          refine ⟨⟨by omega, by omega⟩, fun s hs => ⟨⟨by omega, by omega⟩, ?_⟩⟩
          have gr3 := (gup_ne (o := .lst (rngs 0 ((R.length : Nat) : Int).toNat)) (ne_of_known gr2 hs)).trans gr2
          simp_arith [gr3, hlr, hd0, e_insOr_cut]
          exact .now (q' _ _ _ _ ((gup_ne (ne_of_known gp2 hs)).trans gp2) (k5.new hs))
  · exact h.elim
theorem many_join {b : Bool} {a0 a1 a3 a4 a5 a6 a8 : Option U} {m : Nat} {G : Gp} {D : UEnds} {E2 : UX} {p q : Addr} {iq : List Int} {c a n : Int} (hm : m ≤ 6) (hp : G p = some (bagO c a n q)) (hq : G q = some (.lst (IntU iq))) (hne : q ≠ p)
    (h : ∀ (m : Nat) G2 c a n, m ≤ 12 → G2 p = some (bagO c a n q) → G2 q = some (.lst (IntU iq)) → D.nx [a0, a1, some (.ref p), a3, a4, a5, a6, some (.int (m : Nat)), a8] G2) :
    condP b (tUTest (tUOp UL.eqU (tUDef sp__law_take 2 0 [.p 0, .p 1] [] [] (tUCons (tUVar 2) (tUCons (tUC (.int 3)) tUNil)) tUNil) (tUC (.int 0))) [a0, a1, some (.ref p), a3, a4, a5, a6, some (.int (m : Nat)), a8] G (fun k G1 => CondS k (fun D' => tUSeq (tUAsg (tUOp addU (tUC (.int 7)) (tUDef sp__law_take 2 0 [.p 0, .p 1] [] [] (tUCons (tUVar 2) (tUCons (tUC (.int 6)) tUNil)) tUNil)) (gUName 7)) tUNext D' [a0, a1, some (.ref p), a3, a4, a5, a6, some (.int (m : Nat)), a8] G1) (fun D' => tUNext D' [a0, a1, some (.ref p), a3, a4, a5, a6, some (.int (m : Nat)), a8] G1) D) E2)
      (CondS false (fun D' => tUSeq (tUAsg (tUOp addU (tUC (.int 7)) (tUDef sp__law_take 2 0 [.p 0, .p 1] [] [] (tUCons (tUVar 2) (tUCons (tUC (.int 6)) tUNil)) tUNil)) (gUName 7)) tUNext D' [a0, a1, some (.ref p), a3, a4, a5, a6, some (.int (m : Nat)), a8] G) (fun D' => tUNext D' [a0, a1, some (.ref p), a3, a4, a5, a6, some (.int (m : Nat)), a8] G) D) := by
  cases b
  · simp_arith []
    exact h m G c a n (by omega) hp hq
  · simp_arith [hp, hq]
    refine ⟨hne, fun r c a n r0 r1 => ?_⟩
    have gp : gup G p (bagO c a n q) p = some (bagO c a n q) := gup_same
    have gq := (gup_ne (o := bagO c a n q) hne).trans hq
    refine scond2 (fun _ => ?_) fun _ => ?_
    · simp_arith [gp, gq]
      refine ⟨hne, fun r c a n r0 r1 => ?_⟩
      obtain ⟨j, rfl⟩ : ∃ j : Nat, r = (j : Int) := ⟨r.toNat, by omega⟩
      have e : (7 : Int) + (j : Nat) = ((7 + j : Nat) : Int) := by omega
      rw [e]
      exact h (7 + j) _ c a n (by omega) gup_same ((gup_ne hne).trans hq)
    · simp_arith []
      exact h m _ c a n (by omega) gp gq
theorem law_law (us : List U) (G : Gp) (Q : UK) (E : UX) (h : sp_law us G Q E) : t_law (endsU Q E) (ustart 9 us) G := by
  obtain ⟨ns, rfl, hn, q⟩ := h
  have hlen : (IntU ns).length = ns.length := intU_len ns
  simp_arith [t_law]
  refine ⟨rg_of (by repeat' split <;> omega) (by repeat' split <;> omega), ?_⟩
  refine for_rng (fun k us' G' => ∃ a b c d e f g h, us' = [some (.rol (IntU ns)), a, b, c, d, e, f, g, h]) ?_ ?_ ⟨_, _, _, _, _, _, _, _, rfl⟩
  · rintro k' us' G' N hk hN ⟨a1, a2, a3, a4, a5, a6, a7, a8, rfl⟩
    have hk0 : (0 : Int) ≤ 0 + (k' : Int) := by omega
    simp_arith [hk0]
    intro c a n p q iq hp hq hne
    have gp0 : gup (gup G' q (.lst (IntU iq))) p (bagO c a n q) p = some (bagO c a n q) := gup_same
    have gq0 : gup (gup G' q (.lst (IntU iq))) p (bagO c a n q) q = some (.lst (IntU iq)) := (gup_ne hne).trans gup_same
    generalize gup (gup G' q (.lst (IntU iq))) p (bagO c a n q) = G1 at gp0 gq0 ⊢
    clear hp hq
    simp_arith [gp0, gq0]
    intro z hz
    have zp : ¬z = p := (ne_of_known gp0 hz).symm
    have gp1 := (gup_ne (o := .lst [.int 0, .int 1, .int 2, .int 3, .int 4, .int 5, .int 6]) (ne_of_known gp0 hz)).trans gp0
    have gq1 := (gup_ne (o := .lst [.int 0, .int 1, .int 2, .int 3, .int 4, .int 5, .int 6]) (ne_of_known gq0 hz)).trans gq0
    generalize gup G1 z (.lst [.int 0, .int 1, .int 2, .int 3, .int 4, .int 5, .int 6]) = G2 at gp1 gq1 ⊢
    clear gp0 gq0 hz
    simp_arith [gp1, gq1]
    refine ⟨zp, hne, fun u c a n hu => ?_⟩
    obtain ⟨m, rfl, hm⟩ : ∃ m : Nat, u = .int m ∧ m ≤ 6 := by
      rcases hu with rfl | rfl | rfl | rfl | rfl | rfl | rfl
      · exact ⟨0, rfl, by decide⟩
      · exact ⟨1, rfl, by decide⟩
      · exact ⟨2, rfl, by decide⟩
      · exact ⟨3, rfl, by decide⟩
      · exact ⟨4, rfl, by decide⟩
      · exact ⟨5, rfl, by decide⟩
      · exact ⟨6, rfl, by decide⟩
    have gp2 : gup G2 p (bagO c a n q) p = some (bagO c a n q) := gup_same
    have gq2 := (gup_ne (o := bagO c a n q) hne).trans gq1
    generalize gup G2 p (bagO c a n q) = G3 at gp2 gq2 ⊢
    clear gp1 gq1 hu zp
    simp_arith [gp2, gq2]
    refine ⟨hne, fun s c a n s0 s1 => ?_⟩
    have gp3 : gup G3 p (bagO c a n q) p = some (bagO c a n q) := gup_same
    have gq3 := (gup_ne (o := bagO c a n q) hne).trans gq2
    generalize gup G3 p (bagO c a n q) = G4 at gp3 gq3 ⊢
    clear gp2 gq2
    simp_arith [gp3, gq3]
    refine many_join hm gp3 gq3 hne fun m G5 c a n hm gp gq => ?_
    clear gp3 gq3
    obtain ⟨s', es, s1', s9'⟩ : ∃ s' : Nat, 1 + s = (s' : Int) ∧ 1 ≤ s' ∧ s' ≤ 9 := ⟨(1 + s).toNat, by omega, by omega, by omega⟩
    rw [es]
    simp_arith []
    refine ⟨m, rfl, hm, fun r G6 mo hr gr => ?_⟩
    have gp1 := mo _ _ gp
    have gq1 := mo _ _ gq
    have rp : ¬r = p := fun e => by rw [e, gp] at hr; cases hr
    clear gp gq mo hr
    have f1 : numB (.int m) 0 12 = true := by simp [numB]; omega
    have f2 : numB (.int s') 1 9 = true := by simp [numB]; omega
    have f3 : cutsN (.int m) .non = (((outC m .non).length : Nat) : Int) := by
      show (if 0 < (m : Int) then (2 : Int) ^ ((m : Int) - 1).toNat else 1) = (((cutsL m).length : Nat) : Int)
      cases m with
      | zero => rfl
      | succ m =>
        rw [len_C, if_pos (by omega), show (((m + 1 : Nat) : Int) - 1).toNat = m by omega, Int.natCast_pow]
        rfl
    simp_arith [f1, f2, f3, gp1, gq1, gr]
    intro d hd
    have gd := gup_same (G := G6) (a := d) (o := cutO (.int m) .non (((outC m .non).length : Nat) : Int))
    have gr1 := (gup_ne (o := cutO (.int m) .non (((outC m .non).length : Nat) : Int)) (ne_of_known gr hd)).trans gr
    have gp := (gup_ne (o := cutO (.int m) .non (((outC m .non).length : Nat) : Int)) (ne_of_known gp1 hd)).trans gp1
    have gq := (gup_ne (o := cutO (.int m) .non (((outC m .non).length : Nat) : Int)) (ne_of_known gq1 hd)).trans gq1
    generalize gup G6 d (cutO (.int m) .non (((outC m .non).length : Nat) : Int)) = G7 at gd gr1 gp gq ⊢
    clear gp1 gq1 gr hd
    refine ⟨m, .non, rfl, hm, .inl rfl, rfl, gr1, ?_⟩
    simp_arith [gp, gq]
    refine ⟨hne, fun G8 c a n gp1 kp => ?_⟩
    have gr := kp _ _ rp gr1
    have gq1 := kp _ _ hne gq
    clear gp gq gr1 gd kp
    simp_arith [f1, f2, f3, gp1, gq1, gr]
    intro d hd
    have gd := gup_same (G := G8) (a := d) (o := cutO (.int m) .non (((outC m .non).length : Nat) : Int))
    have gr1 := (gup_ne (o := cutO (.int m) .non (((outC m .non).length : Nat) : Int)) (ne_of_known gr hd)).trans gr
    have gp := (gup_ne (o := cutO (.int m) .non (((outC m .non).length : Nat) : Int)) (ne_of_known gp1 hd)).trans gp1
    have gq := (gup_ne (o := cutO (.int m) .non (((outC m .non).length : Nat) : Int)) (ne_of_known gq1 hd)).trans gq1
    generalize gup G8 d (cutO (.int m) .non (((outC m .non).length : Nat) : Int)) = G9 at gd gr1 gp gq ⊢
    clear gp1 gq1 gr hd
    refine ⟨m, .non, rfl, hm, .inl rfl, rfl, gr1, ?_⟩
    simp_arith [gp, gq]
    refine ⟨hne, fun GA c a n gp1 kp => ?_⟩
    have gr := kp _ _ rp gr1
    have gq1 := kp _ _ hne gq
    clear gp gq gr1 gd kp
    simp_arith [f1, f2, f3, gp1, gq1, gr]
    refine ⟨m, s', rfl, rfl, hm, s1', s9', fun GB mo => ?_⟩
    have gp := mo _ _ gp1
    have gq := mo _ _ gq1
    have gr1 := mo _ _ gr
    clear gp1 gq1 gr mo
    have f4 : isNonU (.int (s' : Int)) = false := rfl
    have f5 : cutsN (.int m) (.int (s' : Int)) = 1 := rfl
    simp_arith [f1, f2, f4, gp, gq, gr1]
    rw [f5]
    intro d hd z hz
    obtain ⟨zd, hz⟩ := gup_none hz
    have gd : gup (gup GB d (cutO (.int m) (.int (s' : Int)) 1)) z (.lst [tupI (evenC m s')]) d = some (cutO (.int m) (.int (s' : Int)) 1) := (gup_ne (Ne.symm zd)).trans gup_same
    have gz : gup (gup GB d (cutO (.int m) (.int (s' : Int)) 1)) z (.lst [tupI (evenC m s')]) z = some (.lst [tupI (evenC m s')]) := gup_same
    have gp2 : gup (gup GB d (cutO (.int m) (.int (s' : Int)) 1)) z (.lst [tupI (evenC m s')]) p = _ := (gup_ne (ne_of_known gp hz)).trans ((gup_ne (ne_of_known gp hd)).trans gp)
    have gq2 : gup (gup GB d (cutO (.int m) (.int (s' : Int)) 1)) z (.lst [tupI (evenC m s')]) q = _ := (gup_ne (ne_of_known gq hz)).trans ((gup_ne (ne_of_known gq hd)).trans gq)
    have gr2 : gup (gup GB d (cutO (.int m) (.int (s' : Int)) 1)) z (.lst [tupI (evenC m s')]) r = _ := (gup_ne (ne_of_known gr1 hz)).trans ((gup_ne (ne_of_known gr1 hd)).trans gr1)
    have dp : d ≠ p := (ne_of_known gp hd).symm
    generalize gup (gup GB d (cutO (.int m) (.int (s' : Int)) 1)) z (.lst [tupI (evenC m s')]) = GC at gd gz gp2 gq2 gr2 ⊢
    clear gp gq gr1 hd hz zd
    have e6 : rowsU (outC m (.int (s' : Int))) = [tupI (evenC m s')] := by
      show [tupI (evenC m ((s' : Int)).toNat)] = _
      rw [Int.toNat_natCast]
    refine ⟨m, .int s', rfl, hm, .inr ⟨s', rfl, s1', s9'⟩, gd, by rw [e6], ?_⟩
    simp_arith [gp2, gq2]
    refine ⟨hne, fun GD c a n gp3 kp => ?_⟩
    have gd := kp _ _ dp gd
    have gr := kp _ _ rp gr2
    clear gp2 gq2 gr2 gz kp gp3
    simp_arith [gr]
    intro l hl
    have gd1 := (gup_ne (o := .lst (cutU (rowsU (cutsL m)) none (some 40))) (ne_of_known gd hl)).trans gd
    have gl1 : gup GD l (.lst (cutU (rowsU (cutsL m)) none (some 40))) l = some (.lst (cutU (rowsU (cutsL m)) none (some 40))) := gup_same
    have mem : ∀ x ∈ cutU (rowsU (cutsL m)) none (some 40), ∃ w ∈ cutsL m, x = tupI w := fun x hx => by
      obtain ⟨w, hw, e⟩ := List.mem_map.mp (cut_mem hx)
      exact ⟨w, hw, e.symm⟩
    generalize gup GD l (.lst (cutU (rowsU (cutsL m)) none (some 40))) = GE at gd1 gl1 ⊢
    generalize hL : cutU (rowsU (cutsL m)) none (some 40) = L at gl1 mem ⊢
    clear gd gr hl hL
    refine for_ind (fun xs us2 G2 => ∃ e, us2 = [some (.rol (IntU ns)), some (.int (0 + (k' : Nat))), some (.ref p), some (.ref r), some (tupI (evenC m s')), some (.ref d), e, some (.int m), some (.int s')] ∧ (∀ x ∈ xs, ∃ w ∈ cutsL m, x = tupI w) ∧ G2 d = some (cutO (.int m) (.int (s' : Int)) 1) ∧ G2 l = some (.lst L)) ?_ ?_ _ _ _ ⟨_, rfl, mem, gd1, gl1⟩
    · rintro x xs us2 G2 N2 hN2 ⟨e, rfl, hx, gd, gl⟩
      obtain ⟨w, hw, rfl⟩ := hx x (by simp)
      obtain ⟨w1, w2⟩ := parts_C m hw
      have w3 := (le_sumI w1).2
      have w4 := len_sum w w1
      refine ⟨gl, ?_⟩
      have nb : ∀ b : Bool, (!decide (b = b)) = false := fun b => by simp
      unfold tupI
      simp_arith [gd, e_insOr_cut]
      refine ⟨m, .int s', _, rfl, hm, .inr ⟨s', rfl, s1', s9'⟩, ⟨by rw [intU_len]; omega, fun x hx => int_td hx⟩, fun G3 m3 => ?_⟩
      refine eq_tups ?_
      rw [cutB_ints (v := .int (s' : Int)) (r := w) fun x hx => ⟨w1 x hx, by have := w3 x hx; omega⟩]
      have e3 : restB m (.int (s' : Int)) w = decide (w = evenC m s') := by
        show decide (w = evenC m ((s' : Int)).toNat) = _
        rw [Int.toNat_natCast]
      rw [e3]
      simp_arith [nb]
      exact hN2 _ _ ⟨_, rfl, fun x hx' => hx x (List.mem_cons_of_mem _ hx'), m3 _ _ gd, m3 _ _ gl⟩
    · rintro us2 G2 ⟨e, rfl, hx, gd, gl⟩
      refine ⟨gl, ?_⟩
      simp_arith []
      exact hN _ _ ⟨_, _, _, _, _, _, _, _, rfl⟩
  · rintro us' G' ⟨a1, a2, a3, a4, a5, a6, a7, a8, rfl⟩
    simp_arith []
    exact .now (q _)
structure Base (K : PySem.W.Frag) (mg : Str → Option Value) (base : Heap) : Prop where
  says : SaysX fx fa fn K
  inK : K.In base
  ns : base.Ns mainGlobals mg
section
variable {P : Program} {w : World} {K : PySem.W.Frag} {mg : Str → Option Value} {base : Heap}
theorem g_is_integer (b : Base K mg base) : mg "is_integer" = some (.ref (d_is_integer.at_ K)) := He.glo_ok b.inK b.ns (b.says.he 0 (f := .glo "is_integer") rfl)
theorem g_even_cut (b : Base K mg base) : mg "even_cut" = some (.ref (d_even_cut.at_ K)) := He.glo_ok b.inK b.ns (b.says.he 1 (f := .glo "even_cut") rfl)
theorem g__law_bag (b : Base K mg base) : mg "_law_bag" = some (.ref (d__law_bag.at_ K)) := He.glo_ok b.inK b.ns (b.says.he 2 (f := .glo "_law_bag") rfl)
theorem g__law_take (b : Base K mg base) : mg "_law_take" = some (.ref (d__law_take.at_ K)) := He.glo_ok b.inK b.ns (b.says.he 3 (f := .glo "_law_take") rfl)
theorem g__law_of (b : Base K mg base) : mg "_law_of" = some (.ref (d__law_of.at_ K)) := He.glo_ok b.inK b.ns (b.says.he 4 (f := .glo "_law_of") rfl)
theorem g__law_all (b : Base K mg base) : mg "_law_all" = some (.ref (d__law_all.at_ K)) := He.glo_ok b.inK b.ns (b.says.he 5 (f := .glo "_law_all") rfl)
theorem g__law_even (b : Base K mg base) : mg "_law_even" = some (.ref (d__law_even.at_ K)) := He.glo_ok b.inK b.ns (b.says.he 6 (f := .glo "_law_even") rfl)
theorem g__law_thing (b : Base K mg base) : mg "_law_thing" = some (.ref (d__law_thing.at_ K)) := He.glo_ok b.inK b.ns (b.says.he 7 (f := .glo "_law_thing") rfl)
theorem g__law_is_cut (b : Base K mg base) : mg "_law_is_cut" = some (.ref (d__law_is_cut.at_ K)) := He.glo_ok b.inK b.ns (b.says.he 8 (f := .glo "_law_is_cut") rfl)
theorem g__law_are_right (b : Base K mg base) : mg "_law_are_right" = some (.ref (d__law_are_right.at_ K)) := He.glo_ok b.inK b.ns (b.says.he 9 (f := .glo "_law_are_right") rfl)
theorem g_law (b : Base K mg base) : mg "law" = some (.ref (d_law.at_ K)) := He.glo_ok b.inK b.ns (b.says.he 10 (f := .glo "law") rfl)
theorem n_len (b : Base K mg base) : mg "len" = none := He.free_ok b.inK b.ns (b.says.he 11 (f := .free "len") rfl)
theorem n_min (b : Base K mg base) : mg "min" = none := He.free_ok b.inK b.ns (b.says.he 12 (f := .free "min") rfl)
theorem n_max (b : Base K mg base) : mg "max" = none := He.free_ok b.inK b.ns (b.says.he 13 (f := .free "max") rfl)
theorem n_range (b : Base K mg base) : mg "range" = none := He.free_ok b.inK b.ns (b.says.he 14 (f := .free "range") rfl)
theorem n_list (b : Base K mg base) : mg "list" = none := He.free_ok b.inK b.ns (b.says.he 15 (f := .free "list") rfl)
theorem n_sum (b : Base K mg base) : mg "sum" = none := He.free_ok b.inK b.ns (b.says.he 16 (f := .free "sum") rfl)
theorem n_tuple (b : Base K mg base) : mg "tuple" = none := He.free_ok b.inK b.ns (b.says.he 17 (f := .free "tuple") rfl)
theorem n_isinstance (b : Base K mg base) : mg "isinstance" = none := He.free_ok b.inK b.ns (b.says.he 18 (f := .free "isinstance") rfl)
theorem n_int (b : Base K mg base) : mg "int" = none := He.free_ok b.inK b.ns (b.says.he 19 (f := .free "int") rfl)
theorem n_bool (b : Base K mg base) : mg "bool" = none := He.free_ok b.inK b.ns (b.says.he 20 (f := .free "bool") rfl)
theorem n_sorted (b : Base K mg base) : mg "sorted" = none := He.free_ok b.inK b.ns (b.says.he 21 (f := .free "sorted") rfl)
theorem n_repr (b : Base K mg base) : mg "repr" = none := He.free_ok b.inK b.ns (b.says.he 22 (f := .free "repr") rfl)
theorem n_abs (b : Base K mg base) : mg "abs" = none := He.free_ok b.inK b.ns (b.says.he 23 (f := .free "abs") rfl)
theorem i_MOST_SIZE (b : Base K mg base) : ∃ t, mg "MOST_SIZE" = some (.int 9 t) := He.int_ok b.inK b.ns (b.says.he 24 (f := .int "MOST_SIZE" 9) rfl)
theorem i_MOST_ITEMS (b : Base K mg base) : ∃ t, mg "MOST_ITEMS" = some (.int 12 t) := He.int_ok b.inK b.ns (b.says.he 25 (f := .int "MOST_ITEMS" 12) rfl)
theorem gl_Cuts (b : Base K mg base) : mg (S "Cuts") = some (.ref (He.ga K (S "Cuts"))) := He.glo_ok b.inK b.ns (b.says.he 26 (f := .glo "Cuts") rfl)
theorem gl_BadSetting (b : Base K mg base) : mg (S "BadSetting") = some (.ref (He.ga K (S "BadSetting"))) := He.glo_ok b.inK b.ns (b.says.he 27 (f := .glo "BadSetting") rfl)
theorem ck_Cuts (b : Base K mg base) : ClsK K "Cuts" := (b.says.fact 0 (f := clsB "Cuts") rfl)
theorem mk_Cuts (b : Base K mg base) : Mk K (He.ga K (S "Cuts")) (d_Cuts___init__.at_ K) := He.mkr_ok (b.says.he 28 (f := .mkr "Cuts") rfl)
theorem meth_Cuts___len__ (b : Base K mg base) : Meth K (He.ga K (S "Cuts")) (S "__len__") (d_Cuts___len__.at_ K) := He.meth_ok (b.says.he 30 (f := .meth "Cuts" "__len__") rfl)
theorem meth_Cuts___contains__ (b : Base K mg base) : Meth K (He.ga K (S "Cuts")) (S "__contains__") (d_Cuts___contains__.at_ K) := He.meth_ok (b.says.he 31 (f := .meth "Cuts" "__contains__") rfl)
theorem meth_Cuts_each (b : Base K mg base) : Meth K (He.ga K (S "Cuts")) (S "each") (d_Cuts_each.at_ K) := He.meth_ok (b.says.he 32 (f := .meth "Cuts" "each") rfl)
theorem meth_BadSetting___init__ (b : Base K mg base) : Meth K (He.ga K (S "BadSetting")) (S "__init__") (d_BadSetting___init__.at_ K) := He.meth_ok (b.says.he 33 (f := .meth "BadSetting" "__init__") rfl)
theorem oex_BadSetting (b : Base K mg base) : OexG K (He.ga K (S "BadSetting")) := oex_of (b.says.fact 1 (f := oexB "BadSetting") rfl)
theorem fd_BadSetting___init__ (b : Base K mg base) : FunK K d_BadSetting___init__ := funK (b.says.def_ 0 (d := d_BadSetting___init__) rfl)
theorem fd_is_integer (b : Base K mg base) : FunK K d_is_integer := funK (b.says.def_ 1 (d := d_is_integer) rfl)
theorem fd_even_cut (b : Base K mg base) : FunK K d_even_cut := funK (b.says.def_ 2 (d := d_even_cut) rfl)
theorem fd_Cuts___init__ (b : Base K mg base) : FunK K d_Cuts___init__ := funK (b.says.def_ 3 (d := d_Cuts___init__) rfl)
theorem fd_Cuts___len__ (b : Base K mg base) : FunK K d_Cuts___len__ := funK (b.says.def_ 4 (d := d_Cuts___len__) rfl)
theorem fd_Cuts___contains__ (b : Base K mg base) : FunK K d_Cuts___contains__ := funK (b.says.def_ 5 (d := d_Cuts___contains__) rfl)
theorem fd_Cuts_each (b : Base K mg base) : FunK K d_Cuts_each := funK (b.says.def_ 6 (d := d_Cuts_each) rfl)
theorem fd__law_bag (b : Base K mg base) : FunK K d__law_bag := funK (b.says.def_ 7 (d := d__law_bag) rfl)
theorem fd__law_take (b : Base K mg base) : FunK K d__law_take := funK (b.says.def_ 8 (d := d__law_take) rfl)
theorem fd__law_of (b : Base K mg base) : FunK K d__law_of := funK (b.says.def_ 9 (d := d__law_of) rfl)
theorem fd__law_all (b : Base K mg base) : FunK K d__law_all := funK (b.says.def_ 10 (d := d__law_all) rfl)
theorem fd__law_even (b : Base K mg base) : FunK K d__law_even := funK (b.says.def_ 11 (d := d__law_even) rfl)
theorem fd__law_thing (b : Base K mg base) : FunK K d__law_thing := funK (b.says.def_ 12 (d := d__law_thing) rfl)
theorem fd__law_is_cut (b : Base K mg base) : FunK K d__law_is_cut := funK (b.says.def_ 13 (d := d__law_is_cut) rfl)
theorem fd__law_are_right (b : Base K mg base) : FunK K d__law_are_right := funK (b.says.def_ 14 (d := d__law_are_right) rfl)
theorem fd_law (b : Base K mg base) : FunK K d_law := funK (b.says.def_ 15 (d := d_law) rfl)
theorem ini_BadSetting (b : Base K mg base) : FnOk P w K mg base L2.CX0 1 (d_BadSetting___init__.at_ K) (fdOf K (d_BadSetting___init__.at_ K)) ["self", "what"] (spIni (He.ga K (S "BadSetting")) ["what"]) := ini1 (fd_BadSetting___init__ b).D ⟨rfl, rfl, rfl, by decide +kernel, rfl, by decide +kernel, by decide +kernel⟩ (oex_BadSetting b) (He.noat_ok (b.says.he 34 (f := .noat "BadSetting" "what") rfl)) ⟨by decide, by decide⟩ ⟨by decide, by decide⟩
theorem bini_BadSetting (b : Base K mg base) : Binds K (fdOf K (d_BadSetting___init__.at_ K)) ["self", "what"] [] := FunD.bindsN (fd_BadSetting___init__ b).D fun _ _ _ _ _ _ us hl => match us, hl with | [_, _], _ => rfl
end
theorem ev {X : Cx} {W : WX} {pos : Pos} {i : Nat} {x : Str} (h1 : X.N[i]? = some x := by exact rfl) (h2 : Vis X.env.scope x := by first | exact Or.inl rfl | exact Or.inr (Or.inl rfl) | exact Or.inr (Or.inr rfl)) (h3 : (x == ("__debug__" : Str)) = false := by decide) (h4 : (x == ("__classdict__" : Str)) = false := by decide) : EU X W (.Name x pos) (tUVar i) := eu_var h1 h2 h3 h4
abbrev cxV (N : List Str) (d : DD) (P : Program) (w : World) (K : PySem.W.Frag) (mg : Str → Option Value) (base : Heap) (f : Addr) (cdv : Value) (A : Around) (outer : List Env) (s : Shared) (H : Hp) (E : XK) : Cx := cxU P w K mg base N d.qual d.scope f cdv A outer s H E
abbrev ScD (N : List Str) (d : DD) : Prop := FnScope N (parN d.params ++ parK d.params) d.scope
section
variable {P : Program} {w : World} {K : PySem.W.Frag} {mg : Str → Option Value} {base : Heap} {f : Addr} {cdv : Value} {A : Around} {outer : List Env} {s : Shared} {H : Hp} {G : Gp} {E : UX} {W : WX} {pos : Pos}
namespace F_Cuts___len__
def N : List Str := ["self"]
theorem sc : ScD N d_Cuts___len__ := ⟨rfl, rfl, rfl, by decide +kernel, rfl, by decide +kernel, by decide +kernel⟩
abbrev X := cxV N d_Cuts___len__
theorem v0 {E : XK} : EU (X P w K mg base f cdv A outer s H E) W (.Name "self" pos) (tUVar 0) := ev
theorem body (b : Base K mg base)  (hr : RoomU 0 (A.deeper (envOfC d_Cuts___len__.qual d_Cuts___len__.scope s.heap.objs.size f cdv))) : SsU (X P w K mg base f cdv A outer s H (LX K H G E)) (wOf K H G E) (defBody (clsm 8 1)) t_Cuts___len__ :=
  (ssu_cons (su_ret (eu_callB cu_len rfl (n_len b) boot_len (au_cons (eu_listRg rfl rfl (n_list b) rfl (n_range b) (eu_fld (f := "many") v0 rfl) rfl rfl) au_nil rfl) (by decide) (by decide) rfl rfl))
    ssu_nil)
end F_Cuts___len__
theorem ok_Cuts___len__ (b : Base K mg base) : Known P w K mg base d_Cuts___len__ 1 sp_Cuts___len__ :=
  ⟨fn_u (fd_Cuts___len__ b).D F_Cuts___len__.sc rfl (fun cdv A outer s H G E hr => F_Cuts___len__.body b  hr) (fun ws G Q E h _ => law_Cuts___len__ ws G Q E h), (fd_Cuts___len__ b).D⟩
namespace F__law_all
def N : List Str := ["_law_many", "_law_found", "_law_left", "_law_longer", "_law_cut"]
theorem sc : ScD N d__law_all := ⟨rfl, rfl, rfl, by decide +kernel, rfl, by decide +kernel, by decide +kernel⟩
abbrev X := cxV N d__law_all
theorem v0 {E : XK} : EU (X P w K mg base f cdv A outer s H E) W (.Name "_law_many" pos) (tUVar 0) := ev
theorem v1 {E : XK} : EU (X P w K mg base f cdv A outer s H E) W (.Name "_law_found" pos) (tUVar 1) := ev
theorem v3 {E : XK} : EU (X P w K mg base f cdv A outer s H E) W (.Name "_law_longer" pos) (tUVar 3) := ev
theorem v4 {E : XK} : EU (X P w K mg base f cdv A outer s H E) W (.Name "_law_cut" pos) (tUVar 4) := ev
theorem body (b : Base K mg base)  (hr : RoomU 0 (A.deeper (envOfC d__law_all.qual d__law_all.scope s.heap.objs.size f cdv))) : SsU (X P w K mg base f cdv A outer s H (LX K H G E)) (wOf K H G E) (defBody (top 13)) t__law_all :=
  (ssu_cons (su_set (i := 1) sc.nd rfl (by first | exact Or.inl rfl | exact Or.inr rfl) (eu_lst (au_cons (eu_tup au_nil) au_nil rfl)) rfl (Or.inl rfl))
    (ssu_cons (su_for PassesOwn.leaving rfl (iu_range1 rfl (n_range b) v0 rfl) (gu_name (i := 2) sc.nd rfl (by first | exact Or.inl rfl | exact Or.inr rfl) (Or.inl rfl)) (ssu_cons (su_set (i := 3) sc.nd rfl (by first | exact Or.inl rfl | exact Or.inr rfl) (eu_lst au_nil) rfl (Or.inl rfl))
    (ssu_cons (su_for PassesOwn.leaving rfl (iu_any v1) (gu_name (i := 4) sc.nd rfl (by first | exact Or.inl rfl | exact Or.inr rfl) (Or.inl rfl)) (ssu_cons (su_expr (eu_bm PySem.F.plainAttrs_list PySem.F.slot_list_append PySem.F.type_list_append mu_append v3 (au_cons (eu_bin ou_add v4 (eu_tup (au_cons eu_int au_nil rfl))) au_nil rfl) rfl rfl rfl rfl rfl) rfl)
    (ssu_cons (su_ifC (tu_cmp (ou_ne hr.rm.units) v4 (eu_tup au_nil) (nomark _)) (ssu_cons (su_expr (eu_bm PySem.F.plainAttrs_list PySem.F.slot_list_append PySem.F.type_list_append mu_append v3 (au_cons (eu_bin ou_add (eu_slice v4 pou_none (pou_some (eu_un nu_neg eu_int))) (eu_tup (au_cons (eu_bin ou_add (eu_ix iu0 v4 (eu_un nu_neg eu_int) fun _ _ => rfl) eu_int) au_nil rfl))) au_nil rfl) rfl rfl rfl rfl rfl) rfl)
    ssu_nil) ssu_nil)
    ssu_nil)) fun _ => rfl)
    (ssu_cons (su_set (i := 1) sc.nd rfl (by first | exact Or.inl rfl | exact Or.inr rfl) v3 rfl (Or.inl rfl))
    ssu_nil))) fun _ => rfl)
    (ssu_cons (su_ret (eu_callB (cu_sortedI hr.rm.units) rfl (n_sorted b) boot_sorted (au_cons v1 au_nil rfl) (by decide) (by decide) rfl rfl))
    ssu_nil)))
end F__law_all
theorem ok__law_all (b : Base K mg base) : Known P w K mg base d__law_all 1 sp__law_all :=
  ⟨fn_u (fd__law_all b).D F__law_all.sc rfl (fun cdv A outer s H G E hr => F__law_all.body b  hr) (fun ws G Q E h _ => law__law_all ws G Q E h), (fd__law_all b).D⟩
namespace F__law_bag
def N : List Str := ["_law_script", "_law_at", "_law_cell"]
theorem sc : ScD N d__law_bag := ⟨rfl, rfl, rfl, by decide +kernel, rfl, by decide +kernel, by decide +kernel⟩
abbrev X := cxV N d__law_bag
theorem v0 {E : XK} : EU (X P w K mg base f cdv A outer s H E) W (.Name "_law_script" pos) (tUVar 0) := ev
theorem v1 {E : XK} : EU (X P w K mg base f cdv A outer s H E) W (.Name "_law_at" pos) (tUVar 1) := ev
theorem v2 {E : XK} : EU (X P w K mg base f cdv A outer s H E) W (.Name "_law_cell" pos) (tUVar 2) := ev
theorem body (b : Base K mg base)  (hr : RoomU 0 (A.deeper (envOfC d__law_bag.qual d__law_bag.scope s.heap.objs.size f cdv))) : SsU (X P w K mg base f cdv A outer s H (LX K H G E)) (wOf K H G E) (defBody (top 10)) t__law_bag :=
  (ssu_cons (su_set (i := 2) sc.nd rfl (by first | exact Or.inl rfl | exact Or.inr rfl) (eu_ifC (tu_cmp ou_lt v1 (eu_callB cu_len rfl (n_len b) boot_len (au_cons v0 au_nil rfl) (by decide) (by decide) rfl rfl) (nomark _)) (eu_callB cu_abs rfl (n_abs b) boot_abs (au_cons (eu_ix iu0 v0 v1 fun _ _ => rfl) au_nil rfl) (by decide) (by decide) rfl rfl) eu_int) rfl (Or.inl rfl))
    (ssu_cons (su_ret (eu_lst (au_cons (eu_ifC (tu_cmp ou_ge v2 (eu_bin ou_pow eu_int eu_int) (nomark _)) v2 eu_int) (au_cons (eu_bin ou_add eu_int (eu_bin ou_mul eu_int v1)) (au_cons v1 (au_cons (eu_callTy cu_list rfl (n_list b) boot_list (au_cons (eu_slice v0 pou_none (pou_some eu_int)) au_nil rfl) (by decide) (by decide) rfl rfl) au_nil rfl) rfl) rfl) rfl)))
    ssu_nil))
end F__law_bag
theorem ok__law_bag (b : Base K mg base) : Known P w K mg base d__law_bag 1 sp__law_bag :=
  ⟨fn_u (fd__law_bag b).D F__law_bag.sc rfl (fun cdv A outer s H G E hr => F__law_bag.body b  hr) (fun ws G Q E h _ => law__law_bag ws G Q E h), (fd__law_bag b).D⟩
namespace F__law_even
def N : List Str := ["_law_many", "_law_size", "_law_found", "_law_left"]
theorem sc : ScD N d__law_even := ⟨rfl, rfl, rfl, by decide +kernel, rfl, by decide +kernel, by decide +kernel⟩
abbrev X := cxV N d__law_even
theorem v0 {E : XK} : EU (X P w K mg base f cdv A outer s H E) W (.Name "_law_many" pos) (tUVar 0) := ev
theorem v1 {E : XK} : EU (X P w K mg base f cdv A outer s H E) W (.Name "_law_size" pos) (tUVar 1) := ev
theorem v2 {E : XK} : EU (X P w K mg base f cdv A outer s H E) W (.Name "_law_found" pos) (tUVar 2) := ev
theorem v3 {E : XK} : EU (X P w K mg base f cdv A outer s H E) W (.Name "_law_left" pos) (tUVar 3) := ev
theorem body (b : Base K mg base)  (hr : RoomU 0 (A.deeper (envOfC d__law_even.qual d__law_even.scope s.heap.objs.size f cdv))) : SsU (X P w K mg base f cdv A outer s H (LX K H G E)) (wOf K H G E) (defBody (top 14)) t__law_even :=
  (ssu_cons (su_set (i := 2) sc.nd rfl (by first | exact Or.inl rfl | exact Or.inr rfl) (eu_lst au_nil) rfl (Or.inl rfl))
    (ssu_cons (su_for PassesOwn.leaving rfl (iu_range3 rfl (n_range b) v0 eu_int (eu_un nu_neg v1) rfl rfl rfl) (gu_name (i := 3) sc.nd rfl (by first | exact Or.inl rfl | exact Or.inr rfl) (Or.inl rfl)) (ssu_cons (su_expr (eu_bm PySem.F.plainAttrs_list PySem.F.slot_list_append PySem.F.type_list_append mu_append v2 (au_cons (eu_callB (cu_min rfl) rfl (n_min b) boot_min (au_cons v3 (au_cons v1 au_nil rfl) rfl) (by decide) (by decide) rfl rfl) au_nil rfl) rfl rfl rfl rfl rfl) rfl)
    ssu_nil) fun _ => rfl)
    (ssu_cons (su_ret (eu_callTy cu_tuple rfl (n_tuple b) boot_tuple (au_cons v2 au_nil rfl) (by decide) (by decide) rfl rfl))
    ssu_nil)))
end F__law_even
theorem ok__law_even (b : Base K mg base) : Known P w K mg base d__law_even 1 sp__law_even :=
  ⟨fn_u (fd__law_even b).D F__law_even.sc rfl (fun cdv A outer s H G E hr => F__law_even.body b  hr) (fun ws G Q E h _ => law__law_even ws G Q E h), (fd__law_even b).D⟩
namespace F__law_is_cut
def N : List Str := ["_law_thing_here", "_law_many", "_law_total", "_law_size"]
theorem sc : ScD N d__law_is_cut := ⟨rfl, rfl, rfl, by decide +kernel, rfl, by decide +kernel, by decide +kernel⟩
abbrev X := cxV N d__law_is_cut
theorem v0 {E : XK} : EU (X P w K mg base f cdv A outer s H E) W (.Name "_law_thing_here" pos) (tUVar 0) := ev
theorem v1 {E : XK} : EU (X P w K mg base f cdv A outer s H E) W (.Name "_law_many" pos) (tUVar 1) := ev
theorem v2 {E : XK} : EU (X P w K mg base f cdv A outer s H E) W (.Name "_law_total" pos) (tUVar 2) := ev
theorem v3 {E : XK} : EU (X P w K mg base f cdv A outer s H E) W (.Name "_law_size" pos) (tUVar 3) := ev
theorem body (b : Base K mg base)  (hr : RoomU 0 (A.deeper (envOfC d__law_is_cut.qual d__law_is_cut.scope s.heap.objs.size f cdv))) : SsU (X P w K mg base f cdv A outer s H (LX K H G E)) (wOf K H G E) (defBody (top 16)) t__law_is_cut :=
  (ssu_cons (su_ifC (tu_not (tu_val tr_u (eu_callB (cu_isi (ds := []) all0) rfl (n_isinstance b) boot_isinstance (au_cons v0 (au_cons (eu_ty rfl (n_tuple b) boot_tuple (by decide) (by decide)) au_nil rfl) rfl) (by decide) (by decide) rfl rfl) fun _ => rfl)) (ssu_cons (su_ret eu_bl)
    ssu_nil) ssu_nil)
    (ssu_cons (su_set (i := 2) sc.nd rfl (by first | exact Or.inl rfl | exact Or.inr rfl) eu_int rfl (Or.inl rfl))
    (ssu_cons (su_for PassesOwn.leaving rfl (iu_any v0) (gu_name (i := 3) sc.nd rfl (by first | exact Or.inl rfl | exact Or.inr rfl) (Or.inl rfl)) (ssu_cons (su_ifC (WU.tu (wu_or (tu_not (tu_val tr_u (eu_callB (cu_isi (ds := []) all0) rfl (n_isinstance b) boot_isinstance (au_cons v3 (au_cons (eu_ty rfl (n_int b) boot_int (by decide) (by decide)) au_nil rfl) rfl) (by decide) (by decide) rfl rfl) fun _ => rfl)) (wu_or (tu_val tr_u (eu_callB (cu_isi (ds := []) all0) rfl (n_isinstance b) boot_isinstance (au_cons v3 (au_cons (eu_ty rfl (n_bool b) boot_bool (by decide) (by decide)) au_nil rfl) rfl) (by decide) (by decide) rfl rfl) fun _ => rfl) (wu_or1 (tu_cmp ou_lt v3 eu_int (nomark _)))))) (ssu_cons (su_ret eu_bl)
    ssu_nil) ssu_nil)
    (ssu_cons (su_set (i := 2) sc.nd rfl (by first | exact Or.inl rfl | exact Or.inr rfl) (eu_bin ou_add v2 v3) rfl (Or.inl rfl))
    ssu_nil)) fun _ => rfl)
    (ssu_cons (su_ret (eu_cmp (ou_eq hr.rm.units) v2 v1 (nomark _)))
    ssu_nil))))
end F__law_is_cut
theorem ok__law_is_cut (b : Base K mg base) : Known P w K mg base d__law_is_cut 1 sp__law_is_cut :=
  ⟨fn_u (fd__law_is_cut b).D F__law_is_cut.sc rfl (fun cdv A outer s H G E hr => F__law_is_cut.body b  hr) (fun ws G Q E h _ => law__law_is_cut ws G Q E h), (fd__law_is_cut b).D⟩
namespace F__law_take
def N : List Str := ["_law_bag_here", "_law_many", "_law_cell", "_law_added", "_law_digit"]
theorem sc : ScD N d__law_take := ⟨rfl, rfl, rfl, by decide +kernel, rfl, by decide +kernel, by decide +kernel⟩
abbrev X := cxV N d__law_take
theorem v0 {E : XK} : EU (X P w K mg base f cdv A outer s H E) W (.Name "_law_bag_here" pos) (tUVar 0) := ev
theorem v1 {E : XK} : EU (X P w K mg base f cdv A outer s H E) W (.Name "_law_many" pos) (tUVar 1) := ev
theorem v2 {E : XK} : EU (X P w K mg base f cdv A outer s H E) W (.Name "_law_cell" pos) (tUVar 2) := ev
theorem v3 {E : XK} : EU (X P w K mg base f cdv A outer s H E) W (.Name "_law_added" pos) (tUVar 3) := ev
theorem v4 {E : XK} : EU (X P w K mg base f cdv A outer s H E) W (.Name "_law_digit" pos) (tUVar 4) := ev
theorem body (b : Base K mg base)  (hr : RoomU 0 (A.deeper (envOfC d__law_take.qual d__law_take.scope s.heap.objs.size f cdv))) : SsU (X P w K mg base f cdv A outer s H (LX K H G E)) (wOf K H G E) (defBody (top 11)) t__law_take :=
  (ssu_cons (su_ifC (tu_cmp ou_gt (eu_ix iu0 v0 eu_int fun _ _ => rfl) eu_int (nomark _)) (ssu_cons (su_set (i := 4) sc.nd rfl (by first | exact Or.inl rfl | exact Or.inr rfl) (eu_bin ou_mod (eu_callTy cu_int rfl (n_int b) boot_int (au_cons (eu_ix iu0 v0 eu_int fun _ _ => rfl) au_nil rfl) (by decide) (by decide) rfl rfl) v1) rfl (Or.inl rfl))
    (ssu_cons (su_asg (eu_bin ou_fdiv (eu_ix iu0 v0 eu_int fun _ _ => rfl) v1) (gu_sub v0 eu_int stu0 fun _ => rfl) rfl rfl rfl)
    (ssu_cons (su_ret v4)
    ssu_nil))) ssu_nil)
    (ssu_cons (su_asg (eu_bin ou_add (eu_ix iu0 v0 eu_int fun _ _ => rfl) eu_int) (gu_sub v0 eu_int stu0 fun _ => rfl) rfl rfl rfl)
    (ssu_cons (su_set (i := 2) sc.nd rfl (by first | exact Or.inl rfl | exact Or.inr rfl) (eu_ifC (tu_cmp (ou_ne hr.rm.units) (eu_ix iu0 v0 eu_int fun _ _ => rfl) (eu_lst au_nil) (nomark _)) (eu_ix iu0 (eu_ix iu0 v0 eu_int fun _ _ => rfl) (eu_bin ou_mod (eu_ix iu0 v0 eu_int fun _ _ => rfl) (eu_callB cu_len rfl (n_len b) boot_len (au_cons (eu_ix iu0 v0 eu_int fun _ _ => rfl) au_nil rfl) (by decide) (by decide) rfl rfl)) fun _ _ => rfl) eu_int) rfl (Or.inl rfl))
    (ssu_cons (su_set (i := 3) sc.nd rfl (by first | exact Or.inl rfl | exact Or.inr rfl) (eu_bin ou_mod (eu_callTy cu_int rfl (n_int b) boot_int (au_cons v2 au_nil rfl) (by decide) (by decide) rfl rfl) eu_int) rfl (Or.inl rfl))
    (ssu_cons (su_asg (eu_bin ou_mod (eu_callTy cu_int rfl (n_int b) boot_int (au_cons (eu_bin ou_add (eu_bin ou_add (eu_bin ou_add (eu_bin ou_mul (eu_ix iu0 v0 eu_int fun _ _ => rfl) eu_int) v3) (eu_bin ou_mul eu_int (eu_ix iu0 v0 eu_int fun _ _ => rfl))) eu_int) au_nil rfl) (by decide) (by decide) rfl rfl) eu_int) (gu_sub v0 eu_int stu0 fun _ => rfl) rfl rfl rfl)
    (ssu_cons (su_ret (eu_bin ou_mod (eu_bin ou_fdiv (eu_bin ou_mod (eu_callTy cu_int rfl (n_int b) boot_int (au_cons (eu_bin ou_mul (eu_bin ou_fdiv (eu_ix iu0 v0 eu_int fun _ _ => rfl) eu_int) eu_int) au_nil rfl) (by decide) (by decide) rfl rfl) eu_int) eu_int) v1))
    ssu_nil))))))
end F__law_take
theorem ok__law_take (b : Base K mg base) : Known P w K mg base d__law_take 1 sp__law_take :=
  ⟨fn_u (fd__law_take b).D F__law_take.sc rfl (fun cdv A outer s H G E hr => F__law_take.body b  hr) (fun ws G Q E h _ => law__law_take ws G Q E h), (fd__law_take b).D⟩
namespace F_even_cut
def N : List Str := ["count", "chunk", "rest"]
theorem sc : ScD N d_even_cut := ⟨rfl, rfl, rfl, by decide +kernel, rfl, by decide +kernel, by decide +kernel⟩
abbrev X := cxV N d_even_cut
theorem v0 {E : XK} : EU (X P w K mg base f cdv A outer s H E) W (.Name "count" pos) (tUVar 0) := ev
theorem v1 {E : XK} : EU (X P w K mg base f cdv A outer s H E) W (.Name "chunk" pos) (tUVar 1) := ev
theorem v2 {E : XK} : EU (X P w K mg base f cdv A outer s H E) W (.Name "rest" pos) (tUVar 2) := ev
theorem body (b : Base K mg base)  (hr : RoomU 0 (A.deeper (envOfC d_even_cut.qual d_even_cut.scope s.heap.objs.size f cdv))) : SsU (X P w K mg base f cdv A outer s H (LX K H G E)) (wOf K H G E) (defBody (top 7)) t_even_cut :=
  (ssu_cons (su_set (i := 2) sc.nd rfl (by first | exact Or.inl rfl | exact Or.inr rfl) (eu_bin ou_sub v0 (eu_bin ou_mul v1 (eu_bin ou_fdiv v0 v1))) rfl (Or.inl rfl))
    (ssu_cons (su_ret (eu_bin ou_add (eu_bin ou_mul (eu_tup (au_cons v1 au_nil rfl)) (eu_bin ou_fdiv v0 v1)) (eu_bin ou_mul (eu_tup (au_cons v2 au_nil rfl)) (eu_callTy cu_int rfl (n_int b) boot_int (au_cons (eu_cmp ou_gt v2 eu_int (nomark _)) au_nil rfl) (by decide) (by decide) rfl rfl))))
    ssu_nil))
end F_even_cut
theorem ok_even_cut (b : Base K mg base) : Known P w K mg base d_even_cut 1 sp_even_cut :=
  ⟨fn_u (fd_even_cut b).D F_even_cut.sc rfl (fun cdv A outer s H G E hr => F_even_cut.body b  hr) (fun ws G Q E h _ => law_even_cut ws G Q E h), (fd_even_cut b).D⟩
namespace F_is_integer
def N : List Str := ["thing", "least", "most"]
theorem sc : ScD N d_is_integer := ⟨rfl, rfl, rfl, by decide +kernel, rfl, by decide +kernel, by decide +kernel⟩
abbrev X := cxV N d_is_integer
theorem v0 {E : XK} : EU (X P w K mg base f cdv A outer s H E) W (.Name "thing" pos) (tUVar 0) := ev
theorem v1 {E : XK} : EU (X P w K mg base f cdv A outer s H E) W (.Name "least" pos) (tUVar 1) := ev
theorem v2 {E : XK} : EU (X P w K mg base f cdv A outer s H E) W (.Name "most" pos) (tUVar 2) := ev
theorem body (b : Base K mg base)  (hr : RoomU 0 (A.deeper (envOfC d_is_integer.qual d_is_integer.scope s.heap.objs.size f cdv))) : SsU (X P w K mg base f cdv A outer s H (LX K H G E)) (wOf K H G E) (defBody (top 6)) t_is_integer :=
  (ssu_cons (su_ret (eu_and (eu_callB (cu_isi (ds := []) all0) rfl (n_isinstance b) boot_isinstance (au_cons v0 (au_cons (eu_ty rfl (n_int b) boot_int (by decide) (by decide)) au_nil rfl) rfl) (by decide) (by decide) rfl rfl) (eu_and (eu_un nu_not (eu_callB (cu_isi (ds := []) all0) rfl (n_isinstance b) boot_isinstance (au_cons v0 (au_cons (eu_ty rfl (n_bool b) boot_bool (by decide) (by decide)) au_nil rfl) rfl) (by decide) (by decide) rfl rfl)) (eu_one (eu_chain ou_le ou_le v1 v0 v2 (by with_unfolding_all rfl))))))
    ssu_nil)
end F_is_integer
theorem ok_is_integer (b : Base K mg base) : Known P w K mg base d_is_integer 1 sp_is_integer :=
  ⟨fn_u (fd_is_integer b).D F_is_integer.sc rfl (fun cdv A outer s H G E hr => F_is_integer.body b  hr) (fun ws G Q E h _ => law_is_integer ws G Q E h), (fd_is_integer b).D⟩
namespace F_Cuts___contains__
def N : List Str := ["self", "thing", "size"]
theorem sc : ScD N d_Cuts___contains__ := ⟨rfl, rfl, rfl, by decide +kernel, rfl, by decide +kernel, by decide +kernel⟩
abbrev X := cxV N d_Cuts___contains__
theorem v0 {E : XK} : EU (X P w K mg base f cdv A outer s H E) W (.Name "self" pos) (tUVar 0) := ev
theorem v1 {E : XK} : EU (X P w K mg base f cdv A outer s H E) W (.Name "thing" pos) (tUVar 1) := ev
theorem v2 {E : XK} : EU (X P w K mg base f cdv A outer s H E) W (.Name "size" pos) (tUVar 2) := ev
theorem body (b : Base K mg base) (k_even_cut : Known P w K mg base d_even_cut 1 sp_even_cut) (k_is_integer : Known P w K mg base d_is_integer 1 sp_is_integer) (hr : RoomU 1 (A.deeper (envOfC d_Cuts___contains__.qual d_Cuts___contains__.scope s.heap.objs.size f cdv))) : SsU (X P w K mg base f cdv A outer s H (LX K H G E)) (wOf K H G E) (defBody (clsm 8 2)) t_Cuts___contains__ :=
  (ssu_cons (su_ifC (tu_not (tu_val tr_u (eu_callB (cu_isi (ds := []) all0) rfl (n_isinstance b) boot_isinstance (au_cons v1 (au_cons (eu_ty rfl (n_tuple b) boot_tuple (by decide) (by decide)) au_nil rfl) rfl) (by decide) (by decide) rfl rfl) fun _ => rfl)) (ssu_cons (su_ret eu_bl)
    ssu_nil) ssu_nil)
    (ssu_cons (su_for PassesOwn.leaving rfl (iu_any v1) (gu_name (i := 2) sc.nd rfl (by first | exact Or.inl rfl | exact Or.inr rfl) (Or.inl rfl)) (ssu_cons (su_ifC (tu_not (tu_val tr_u (eu_def (d := d_is_integer) k_is_integer (hr.mono (by decide)) rfl (g_is_integer b) ⟨rfl, rfl, rfl⟩ (n := 3) (ks := []) (pl := [.p 0, .p 1, .p 2]) (by decide) rfl rfl takes_u rfl (au_cons v2 (au_cons eu_int (au_cons (eu_fld (f := "count") v0 rfl) au_nil rfl) rfl) rfl) ku_nil rfl rfl rfl rfl (by decide)) fun _ => rfl)) (ssu_cons (su_ret eu_bl)
    ssu_nil) ssu_nil)
    ssu_nil) fun _ => rfl)
    (ssu_cons (su_ifC (tu_cmp ou_isNot (eu_fld (f := "chunk") v0 rfl) eu_non (nomark _)) (ssu_cons (su_ret (eu_cmp (ou_eq hr.rm.units) v1 (eu_def (d := d_even_cut) k_even_cut (hr.mono (by decide)) rfl (g_even_cut b) ⟨rfl, rfl, rfl⟩ (n := 2) (ks := []) (pl := [.p 0, .p 1]) (by decide) rfl rfl takes_u rfl (au_cons (eu_fld (f := "count") v0 rfl) (au_cons (eu_fld (f := "chunk") v0 rfl) au_nil rfl) rfl) ku_nil rfl rfl rfl rfl (by decide)) (nomark _)))
    ssu_nil) ssu_nil)
    (ssu_cons (su_ret (eu_cmp (ou_eq hr.rm.units) (eu_callB (cu_sum rfl) rfl (n_sum b) boot_sum (au_cons (eu_callTy cu_list rfl (n_list b) boot_list (au_cons v1 au_nil rfl) (by decide) (by decide) rfl rfl) au_nil rfl) (by decide) (by decide) rfl rfl) (eu_fld (f := "count") v0 rfl) (nomark _)))
    ssu_nil))))
end F_Cuts___contains__
theorem ok_Cuts___contains__ (b : Base K mg base) : Known P w K mg base d_Cuts___contains__ 2 sp_Cuts___contains__ :=
  ⟨fn_u (fd_Cuts___contains__ b).D F_Cuts___contains__.sc rfl (fun cdv A outer s H G E hr => F_Cuts___contains__.body b (ok_even_cut b) (ok_is_integer b) hr) (fun ws G Q E h _ => law_Cuts___contains__ ws G Q E h), (fd_Cuts___contains__ b).D⟩
namespace F_Cuts_each
def N : List Str := ["self", "cut", "last"]
theorem sc : GScope N [("self" : Str)] d_Cuts_each.scope := ⟨rfl, rfl, rfl, by decide +kernel, rfl, by decide +kernel, by decide +kernel⟩
theorem nc : noCell d_Cuts_each.scope = true := by decide +kernel
section
variable {P : Program} {w : World} {K : PySem.W.Frag} {mg : Str → Option Value} {base : Heap} {f : Addr} {cdv : Value} {A : Around} {outer : List Env} {L p : Addr} {ob : Ob} {out : List U} {W : WX} {pos : Pos}
abbrev g (P : Program) (w : World) (K : PySem.W.Frag) (mg : Str → Option Value) (base : Heap) (f : Addr) (cdv : Value) (A : Around) (outer : List Env) (L p : Addr) (ob : Ob) (out : List U) : Gx := ⟨P, w, K, mg, base, N, d_Cuts_each.qual, d_Cuts_each.scope, f, cdv, A, outer, L, p, ob, out⟩
theorem v0 {z : Shared} {Ho : Hp} : EU ((g P w K mg base f cdv A outer L p ob out).cx z Ho) W (.Name "self" pos) (tUVar 0) := ev
theorem v1 {z : Shared} {Ho : Hp} : EU ((g P w K mg base f cdv A outer L p ob out).cx z Ho) W (.Name "cut" pos) (tUVar 1) := ev
theorem v2 {z : Shared} {Ho : Hp} : EU ((g P w K mg base f cdv A outer L p ob out).cx z Ho) W (.Name "last" pos) (tUVar 2) := ev
theorem body (b : Base K mg base) (k_even_cut : Known P w K mg base d_even_cut 1 sp_even_cut) (ok : GOk (g P w K mg base f cdv A outer L p ob out)) (fo : flatO ob = true) (hr : RoomU 1 (A.deeper (envOfC d_Cuts_each.qual d_Cuts_each.scope L f cdv))) : GSs (g P w K mg base f cdv A outer L p ob out) (defBody (clsm 8 3)) (t_Cuts_each p ob out) :=
  (gss_cons (gs_if (fun z Ho => (tu_cmp ou_isNot (eu_fld (f := "chunk") v0 rfl) eu_non (nomark _))) (gss_cons (gs_ylP ok fo fun z Ho => (eu_def (d := d_even_cut) k_even_cut (hr.mono (by decide)) rfl (g_even_cut b) ⟨rfl, rfl, rfl⟩ (n := 2) (ks := []) (pl := [.p 0, .p 1]) (by decide) rfl rfl takes_W0 rfl (au_cons (eu_fld (f := "count") v0 rfl) (au_cons (eu_fld (f := "chunk") v0 rfl) au_nil rfl) rfl) ku_nil rfl rfl rfl rfl (by decide)))
    (gss_cons (gs_pl fun z Ho => su_retN)
    gss_nil)) gss_nil)
    (gss_cons (gs_pl fun z Ho => (su_set (i := 1) sc.nd rfl (by first | exact Or.inl rfl | exact Or.inr rfl) (eu_bin ou_mul (eu_lst (au_cons eu_int au_nil rfl)) (eu_fld (f := "count") v0 rfl)) rfl (Or.inl rfl)))
    (gss_cons (gs_ylP ok fo fun z Ho => (eu_callTy cu_tuple rfl (n_tuple b) boot_tuple (au_cons v1 au_nil rfl) (by decide) (by decide) rfl rfl))
    (gss_cons (gs_wh (fun z Ho => (tu_cmp ou_gt (eu_callB cu_len rfl (n_len b) boot_len (au_cons v1 au_nil rfl) (by decide) (by decide) rfl rfl) eu_int (nomark _))) (gss_cons (gs_pl fun z Ho => (su_set (i := 2) sc.nd rfl (by first | exact Or.inl rfl | exact Or.inr rfl) (eu_bm0 PySem.F.plainAttrs_list PySem.F.slot_list_pop PySem.F.type_list_pop mu_popL v1 rfl rfl) rfl (Or.inl rfl)))
    (gss_cons (gs_pl fun z Ho => (su_augS v1 (eu_un nu_neg eu_int) ge_list eu_int ou_iadd stu0 (fun _ _ _ => rfl)))
    (gss_cons (gs_pl fun z Ho => (su_expr (eu_bm PySem.F.plainAttrs_list PySem.F.slot_list_extend PySem.F.type_list_extend mu_extend v1 (au_cons (eu_bin ou_mul (eu_lst (au_cons eu_int au_nil rfl)) (eu_bin ou_sub v2 eu_int)) au_nil rfl) rfl rfl rfl rfl rfl) rfl))
    (gss_cons (gs_ylP ok fo fun z Ho => (eu_callTy cu_tuple rfl (n_tuple b) boot_tuple (au_cons v1 au_nil rfl) (by decide) (by decide) rfl rfl))
    gss_nil)))))
    gss_nil))))
end
end F_Cuts_each
theorem ok_Cuts_each (b : Base K mg base) : KnownG P w K mg base d_Cuts_each 2 sp_Cuts_each :=
  ⟨fnG_of (fd_Cuts_each b).D F_Cuts_each.sc F_Cuts_each.nc (fun cdv A outer L p ob out ok fo hr => F_Cuts_each.body b (ok_even_cut b) ok fo hr) (fun p ob out h => law_Cuts_each p ob out h), (fd_Cuts_each b).D⟩
namespace F__law_of
def N : List Str := ["_law_bag_here", "_law_some"]
theorem sc : ScD N d__law_of := ⟨rfl, rfl, rfl, by decide +kernel, rfl, by decide +kernel, by decide +kernel⟩
abbrev X := cxV N d__law_of
theorem v0 {E : XK} : EU (X P w K mg base f cdv A outer s H E) W (.Name "_law_bag_here" pos) (tUVar 0) := ev
theorem v1 {E : XK} : EU (X P w K mg base f cdv A outer s H E) W (.Name "_law_some" pos) (tUVar 1) := ev
theorem body (b : Base K mg base) (k__law_take : Known P w K mg base d__law_take 1 sp__law_take) (hr : RoomU 1 (A.deeper (envOfC d__law_of.qual d__law_of.scope s.heap.objs.size f cdv))) : SsU (X P w K mg base f cdv A outer s H (LX K H G E)) (wOf K H G E) (defBody (top 12)) t__law_of :=
  (ssu_cons (su_ret (eu_ix iu0 v1 (eu_def (d := d__law_take) k__law_take (hr.mono (by decide)) rfl (g__law_take b) ⟨rfl, rfl, rfl⟩ (n := 2) (ks := []) (pl := [.p 0, .p 1]) (by decide) rfl rfl takes_u rfl (au_cons v0 (au_cons (eu_callB cu_len rfl (n_len b) boot_len (au_cons v1 au_nil rfl) (by decide) (by decide) rfl rfl) au_nil rfl) rfl) ku_nil rfl rfl rfl rfl (by decide)) fun _ _ => rfl))
    ssu_nil)
end F__law_of
theorem ok__law_of (b : Base K mg base) : Known P w K mg base d__law_of 2 sp__law_of :=
  ⟨fn_u (fd__law_of b).D F__law_of.sc rfl (fun cdv A outer s H G E hr => F__law_of.body b (ok__law_take b) hr) (fun ws G Q E h _ => law__law_of ws G Q E h), (fd__law_of b).D⟩
namespace F_Cuts___init__
def N : List Str := ["self", "count", "chunk"]
theorem sc : ScD N d_Cuts___init__ := ⟨rfl, rfl, rfl, by decide +kernel, rfl, by decide +kernel, by decide +kernel⟩
abbrev X := cxV N d_Cuts___init__
theorem v0 {E : XK} : EU (X P w K mg base f cdv A outer s H E) W (.Name "self" pos) (tUVar 0) := ev
theorem v1 {E : XK} : EU (X P w K mg base f cdv A outer s H E) W (.Name "count" pos) (tUVar 1) := ev
theorem v2 {E : XK} : EU (X P w K mg base f cdv A outer s H E) W (.Name "chunk" pos) (tUVar 2) := ev
theorem body (b : Base K mg base) (k_is_integer : Known P w K mg base d_is_integer 1 sp_is_integer) (hr : RoomU 2 (A.deeper (envOfC d_Cuts___init__.qual d_Cuts___init__.scope s.heap.objs.size f cdv))) : SsU (X P w K mg base f cdv A outer s H (LX K H G E)) (wOf K H G E) (defBody (clsm 8 0)) t_Cuts___init__ :=
  (ssu_cons (su_ifC (tu_not (tu_val tr_u (eu_def (d := d_is_integer) k_is_integer (hr.mono (by decide)) rfl (g_is_integer b) ⟨rfl, rfl, rfl⟩ (n := 3) (ks := []) (pl := [.p 0, .p 1, .p 2]) (by decide) rfl rfl takes_u rfl (au_cons v1 (au_cons eu_int (au_cons (eu_gint rfl (i_MOST_ITEMS b) (by decide)) au_nil rfl) rfl) rfl) ku_nil rfl rfl rfl rfl (by decide)) fun _ => rfl)) (ssu_cons (su_raise (c := "BadSetting") (fl := ["what"]) rfl takes_u (oex_BadSetting b) (meth_BadSetting___init__ b).at_ (beq_iff_eq.mp (meth_BadSetting___init__ b).fn) (ini_BadSetting b) (hr.mono (by decide)) (bini_BadSetting b) rfl (gl_BadSetting b) (by decide) (by decide) (au_cons (eu_strN (s := "count") (by decide +kernel)) au_nil rfl) (by decide) rfl rfl)
    ssu_nil) ssu_nil)
    (ssu_cons (su_ifC (WU.tu (wu_and (tu_cmp ou_isNot v2 eu_non (nomark _)) (wu_and1 (tu_not (tu_val tr_u (eu_def (d := d_is_integer) k_is_integer (hr.mono (by decide)) rfl (g_is_integer b) ⟨rfl, rfl, rfl⟩ (n := 3) (ks := []) (pl := [.p 0, .p 1, .p 2]) (by decide) rfl rfl takes_u rfl (au_cons v2 (au_cons eu_int (au_cons (eu_gint rfl (i_MOST_SIZE b) (by decide)) au_nil rfl) rfl) rfl) ku_nil rfl rfl rfl rfl (by decide)) fun _ => rfl))))) (ssu_cons (su_raise (c := "BadSetting") (fl := ["what"]) rfl takes_u (oex_BadSetting b) (meth_BadSetting___init__ b).at_ (beq_iff_eq.mp (meth_BadSetting___init__ b).fn) (ini_BadSetting b) (hr.mono (by decide)) (bini_BadSetting b) rfl (gl_BadSetting b) (by decide) (by decide) (au_cons (eu_strN (s := "chunk") (by decide +kernel)) au_nil rfl) (by decide) rfl rfl)
    ssu_nil) ssu_nil)
    (ssu_cons (su_fld (f := "count") v0 v1 rfl)
    (ssu_cons (su_fld (f := "chunk") v0 v2 rfl)
    (ssu_cons (su_fld (f := "many") v0 eu_int rfl)
    (ssu_cons (su_ifC (WU.tu (wu_and (tu_cmp ou_is v2 eu_non (nomark _)) (wu_and1 (tu_cmp ou_gt v1 eu_int (nomark _))))) (ssu_cons (su_fld (f := "many") v0 (eu_bin ou_shl eu_int (eu_bin ou_sub v1 eu_int)) rfl)
    ssu_nil) ssu_nil)
    ssu_nil))))))
end F_Cuts___init__
theorem ok_Cuts___init__ (b : Base K mg base) : Known P w K mg base d_Cuts___init__ 3 sp_Cuts___init__ :=
  ⟨fn_u (fd_Cuts___init__ b).D F_Cuts___init__.sc rfl (fun cdv A outer s H G E hr => F_Cuts___init__.body b (ok_is_integer b) hr) (fun ws G Q E h _ => law_Cuts___init__ ws G Q E h), (fd_Cuts___init__ b).D⟩
namespace F__law_thing
def N : List Str := ["_law_bag_here", "_law_cut", "_law_k", "_law_way"]
theorem sc : ScD N d__law_thing := ⟨rfl, rfl, rfl, by decide +kernel, rfl, by decide +kernel, by decide +kernel⟩
abbrev X := cxV N d__law_thing
theorem v0 {E : XK} : EU (X P w K mg base f cdv A outer s H E) W (.Name "_law_bag_here" pos) (tUVar 0) := ev
theorem v1 {E : XK} : EU (X P w K mg base f cdv A outer s H E) W (.Name "_law_cut" pos) (tUVar 1) := ev
theorem v2 {E : XK} : EU (X P w K mg base f cdv A outer s H E) W (.Name "_law_k" pos) (tUVar 2) := ev
theorem v3 {E : XK} : EU (X P w K mg base f cdv A outer s H E) W (.Name "_law_way" pos) (tUVar 3) := ev
theorem body (b : Base K mg base) (k__law_of : Known P w K mg base d__law_of 2 sp__law_of) (k__law_take : Known P w K mg base d__law_take 1 sp__law_take) (hr : RoomU 2 (A.deeper (envOfC d__law_thing.qual d__law_thing.scope s.heap.objs.size f cdv))) : SsU (X P w K mg base f cdv A outer s H (LX K H G E)) (wOf K H G E) (defBody (top 15)) t__law_thing :=
  (ssu_cons (su_par (xs := ["_law_k", "_law_way"]) (is := [2, 3]) rfl sc.nd rfl (by decide) (fun k x i h1 h2 => match k, x, i, h1, h2 with | 0, _, _, rfl, rfl => ⟨rfl, rfl⟩ | 1, _, _, rfl, rfl => ⟨rfl, rfl⟩) (au_cons (eu_def (d := d__law_take) k__law_take (hr.mono (by decide)) rfl (g__law_take b) ⟨rfl, rfl, rfl⟩ (n := 2) (ks := []) (pl := [.p 0, .p 1]) (by decide) rfl rfl takes_u rfl (au_cons v0 (au_cons (eu_bin ou_add (eu_callB cu_len rfl (n_len b) boot_len (au_cons v1 au_nil rfl) (by decide) (by decide) rfl rfl) eu_int) au_nil rfl) rfl) ku_nil rfl rfl rfl rfl (by decide)) (au_cons (eu_def (d := d__law_take) k__law_take (hr.mono (by decide)) rfl (g__law_take b) ⟨rfl, rfl, rfl⟩ (n := 2) (ks := []) (pl := [.p 0, .p 1]) (by decide) rfl rfl takes_u rfl (au_cons v0 (au_cons eu_int au_nil rfl) rfl) ku_nil rfl rfl rfl rfl (by decide)) au_nil rfl) rfl) rfl rfl)
    (ssu_cons (su_ifC (tu_cmp (ou_eq hr.rm.units) v3 eu_int (nomark _)) (ssu_cons (su_ret (eu_bin ou_add (eu_bin ou_add (eu_slice v1 pou_none (pou_some v2)) (eu_tup (au_cons (eu_def (d := d__law_of) k__law_of (hr.mono (by decide)) rfl (g__law_of b) ⟨rfl, rfl, rfl⟩ (n := 2) (ks := []) (pl := [.p 0, .p 1]) (by decide) rfl rfl takes_u rfl (au_cons v0 (au_cons (eu_lst (au_cons eu_int (au_cons eu_int (au_cons eu_int (au_cons (eu_un nu_neg eu_int) (au_cons eu_bl (au_cons eu_non (au_cons (eu_strN (s := "1") (by decide +kernel)) (au_cons (eu_bin ou_pow eu_int eu_int) au_nil rfl) rfl) rfl) rfl) rfl) rfl) rfl) rfl)) au_nil rfl) rfl) ku_nil rfl rfl rfl rfl (by decide)) au_nil rfl))) (eu_slice v1 (pou_some v2) pou_none)))
    ssu_nil) ssu_nil)
    (ssu_cons (su_ifC (tu_cmp (ou_eq hr.rm.units) v3 eu_int (nomark _)) (ssu_cons (su_ret (eu_bin ou_add (eu_bin ou_add (eu_slice v1 pou_none (pou_some v2)) (eu_tup (au_cons (eu_def (d := d__law_of) k__law_of (hr.mono (by decide)) rfl (g__law_of b) ⟨rfl, rfl, rfl⟩ (n := 2) (ks := []) (pl := [.p 0, .p 1]) (by decide) rfl rfl takes_u rfl (au_cons v0 (au_cons (eu_lst (au_cons eu_int (au_cons eu_int (au_cons (eu_un nu_neg eu_int) (au_cons eu_bl (au_cons eu_bl (au_cons eu_non (au_cons eu_int (au_cons (eu_tup (au_cons eu_int au_nil rfl)) au_nil rfl) rfl) rfl) rfl) rfl) rfl) rfl) rfl)) au_nil rfl) rfl) ku_nil rfl rfl rfl rfl (by decide)) au_nil rfl))) (eu_slice v1 (pou_some (eu_bin ou_add v2 eu_int)) pou_none)))
    ssu_nil) ssu_nil)
    (ssu_cons (su_ifC (tu_cmp (ou_eq hr.rm.units) v3 eu_int (nomark _)) (ssu_cons (su_ret (eu_bin ou_add (eu_slice v1 pou_none (pou_some v2)) (eu_slice v1 (pou_some (eu_bin ou_add v2 eu_int)) pou_none)))
    ssu_nil) ssu_nil)
    (ssu_cons (su_ifC (tu_cmp (ou_eq hr.rm.units) v3 eu_int (nomark _)) (ssu_cons (su_ret (eu_def (d := d__law_of) k__law_of (hr.mono (by decide)) rfl (g__law_of b) ⟨rfl, rfl, rfl⟩ (n := 2) (ks := []) (pl := [.p 0, .p 1]) (by decide) rfl rfl takes_u rfl (au_cons v0 (au_cons (eu_lst (au_cons (eu_callTy cu_list rfl (n_list b) boot_list (au_cons v1 au_nil rfl) (by decide) (by decide) rfl rfl) (au_cons eu_non (au_cons eu_int (au_cons (eu_callB cu_len rfl (n_len b) boot_len (au_cons v1 au_nil rfl) (by decide) (by decide) rfl rfl) (au_cons eu_bl (au_cons (eu_strN (s := "") (by decide +kernel)) (au_cons (eu_tup (au_cons v1 au_nil rfl)) (au_cons (eu_lst (au_cons v1 au_nil rfl)) (au_cons (eu_callB (cu_sum rfl) rfl (n_sum b) boot_sum (au_cons v1 au_nil rfl) (by decide) (by decide) rfl rfl) (au_cons (eu_strN (s := "cut") (by decide +kernel)) au_nil rfl) rfl) rfl) rfl) rfl) rfl) rfl) rfl) rfl) rfl)) au_nil rfl) rfl) ku_nil rfl rfl rfl rfl (by decide)))
    ssu_nil) ssu_nil)
    (ssu_cons (su_ret v1)
    ssu_nil))))))
end F__law_thing
theorem ok__law_thing (b : Base K mg base) : Known P w K mg base d__law_thing 3 sp__law_thing :=
  ⟨fn_u (fd__law_thing b).D F__law_thing.sc rfl (fun cdv A outer s H G E hr => F__law_thing.body b (ok__law_of b) (ok__law_take b) hr) (fun ws G Q E h _ => law__law_thing ws G Q E h), (fd__law_thing b).D⟩
namespace F__law_are_right
def N : List Str := ["_law_bag_here", "_law_cuts", "_law_rows", "_law_many", "_law_told", "_law_turn", "_law_thing_here", "_law_due", "_law_cut", "_law_row", "_law_pairs", "_law_both", "_law_other"]
theorem sc : ScD N d__law_are_right := ⟨rfl, rfl, rfl, by decide +kernel, rfl, by decide +kernel, by decide +kernel⟩
abbrev X := cxV N d__law_are_right
theorem v0 {E : XK} : EU (X P w K mg base f cdv A outer s H E) W (.Name "_law_bag_here" pos) (tUVar 0) := ev
theorem v1 {E : XK} : EU (X P w K mg base f cdv A outer s H E) W (.Name "_law_cuts" pos) (tUVar 1) := ev
theorem v2 {E : XK} : EU (X P w K mg base f cdv A outer s H E) W (.Name "_law_rows" pos) (tUVar 2) := ev
theorem v3 {E : XK} : EU (X P w K mg base f cdv A outer s H E) W (.Name "_law_many" pos) (tUVar 3) := ev
theorem v4 {E : XK} : EU (X P w K mg base f cdv A outer s H E) W (.Name "_law_told" pos) (tUVar 4) := ev
theorem v6 {E : XK} : EU (X P w K mg base f cdv A outer s H E) W (.Name "_law_thing_here" pos) (tUVar 6) := ev
theorem v7 {E : XK} : EU (X P w K mg base f cdv A outer s H E) W (.Name "_law_due" pos) (tUVar 7) := ev
theorem v10 {E : XK} : EU (X P w K mg base f cdv A outer s H E) W (.Name "_law_pairs" pos) (tUVar 10) := ev
theorem v11 {E : XK} : EU (X P w K mg base f cdv A outer s H E) W (.Name "_law_both" pos) (tUVar 11) := ev
theorem body (b : Base K mg base) (k_Cuts___contains__ : Known P w K mg base d_Cuts___contains__ 2 sp_Cuts___contains__) (k_Cuts___len__ : Known P w K mg base d_Cuts___len__ 1 sp_Cuts___len__) (k_Cuts_each : KnownG P w K mg base d_Cuts_each 2 sp_Cuts_each) (k__law_is_cut : Known P w K mg base d__law_is_cut 1 sp__law_is_cut) (k__law_of : Known P w K mg base d__law_of 2 sp__law_of) (k__law_thing : Known P w K mg base d__law_thing 3 sp__law_thing) (hr : RoomU 5 (A.deeper (envOfC d__law_are_right.qual d__law_are_right.scope s.heap.objs.size f cdv))) : SsU (X P w K mg base f cdv A outer s H (LX K H G E)) (wOf K H G E) (defBody (top 17)) t__law_are_right :=
  (ssu_cons (su_ifC (tu_cmp (ou_ne hr.rm.units) (eu_callB (cu_lenI cu_len (mtl (mtc (mcall k_Cuts___len__ (hr.mono (by decide)) (ck_Cuts b).cls (meth_Cuts___len__ b) ⟨rfl, rfl, rfl⟩ (n := 0) (ks := []) (pl := [.p 0]) (by decide) rfl rfl takes_u rfl) trivial mt0))) rfl (n_len b) boot_len (au_cons v1 au_nil rfl) (by decide) (by decide) rfl rfl) (eu_callB (cu_lenI cu_len (mtl (mtc (mcall k_Cuts___len__ (hr.mono (by decide)) (ck_Cuts b).cls (meth_Cuts___len__ b) ⟨rfl, rfl, rfl⟩ (n := 0) (ks := []) (pl := [.p 0]) (by decide) rfl rfl takes_u rfl) trivial mt0))) rfl (n_len b) boot_len (au_cons v2 au_nil rfl) (by decide) (by decide) rfl rfl) (nomark _)) (ssu_cons (su_ret eu_bl)
    ssu_nil) ssu_nil)
    (ssu_cons (su_set (i := 4) sc.nd rfl (by first | exact Or.inl rfl | exact Or.inr rfl) (eu_listG (ign_meth (c := "Cuts") (m := "each") k_Cuts_each (hr.mono (by decide)) (ck_Cuts b).cls (meth_Cuts_each b) ⟨rfl, rfl, rfl⟩ rfl (by decide) v1 rfl) (hr.mono (by decide)) rfl (n_list b) boot_list (by decide) (by decide) rfl) rfl (Or.inl rfl))
    (ssu_cons (su_ifC (tu_cmp (ou_ne hr.rm.units) (eu_callB (cu_reprA hr.rm.units hr.gd) rfl (n_repr b) boot_repr (au_cons v4 au_nil rfl) (by decide) (by decide) rfl rfl) (eu_callB (cu_reprA hr.rm.units hr.gd) rfl (n_repr b) boot_repr (au_cons v2 au_nil rfl) (by decide) (by decide) rfl rfl) (nomark _)) (ssu_cons (su_ret eu_bl)
    ssu_nil) ssu_nil)
    (ssu_cons (su_for PassesOwn.leaving rfl (iu_range1 rfl (n_range b) eu_int rfl) (gu_name (i := 5) sc.nd rfl (by first | exact Or.inl rfl | exact Or.inr rfl) (Or.inl rfl)) (ssu_cons (su_set (i := 6) sc.nd rfl (by first | exact Or.inl rfl | exact Or.inr rfl) (eu_def (d := d__law_thing) k__law_thing (hr.mono (by decide)) rfl (g__law_thing b) ⟨rfl, rfl, rfl⟩ (n := 2) (ks := []) (pl := [.p 0, .p 1]) (by decide) rfl rfl takes_u rfl (au_cons v0 (au_cons (eu_def (d := d__law_of) k__law_of (hr.mono (by decide)) rfl (g__law_of b) ⟨rfl, rfl, rfl⟩ (n := 2) (ks := []) (pl := [.p 0, .p 1]) (by decide) rfl rfl takes_u rfl (au_cons v0 (au_cons v2 au_nil rfl) rfl) ku_nil rfl rfl rfl rfl (by decide)) au_nil rfl) rfl) ku_nil rfl rfl rfl rfl (by decide)) rfl (Or.inl rfl))
    (ssu_cons (su_set (i := 7) sc.nd rfl (by first | exact Or.inl rfl | exact Or.inr rfl) (eu_def (d := d__law_is_cut) k__law_is_cut (hr.mono (by decide)) rfl (g__law_is_cut b) ⟨rfl, rfl, rfl⟩ (n := 2) (ks := []) (pl := [.p 0, .p 1]) (by decide) rfl rfl takes_u rfl (au_cons v6 (au_cons v3 au_nil rfl) rfl) ku_nil rfl rfl rfl rfl (by decide)) rfl (Or.inl rfl))
    (ssu_cons (su_ifC (WU.tu (wu_and (tu_cmp (ou_eq hr.rm.units) (eu_callB (cu_lenI cu_len (mtl (mtc (mcall k_Cuts___len__ (hr.mono (by decide)) (ck_Cuts b).cls (meth_Cuts___len__ b) ⟨rfl, rfl, rfl⟩ (n := 0) (ks := []) (pl := [.p 0]) (by decide) rfl rfl takes_u rfl) trivial mt0))) rfl (n_len b) boot_len (au_cons v2 au_nil rfl) (by decide) (by decide) rfl rfl) eu_int (nomark _)) (wu_and1 (tu_val tr_u v7 fun _ => rfl)))) (ssu_cons (su_set (i := 7) sc.nd rfl (by first | exact Or.inl rfl | exact Or.inr rfl) (eu_cmp (ou_eq hr.rm.units) v6 (eu_ix iu0 v2 eu_int fun _ _ => rfl) (nomark _)) rfl (Or.inl rfl))
    ssu_nil) ssu_nil)
    (ssu_cons (su_ifC (tu_cmp (ou_ne hr.rm.units) (eu_cmp (ou_inI ou_in (mtl (mtc (mcall k_Cuts___contains__ (hr.mono (by decide)) (ck_Cuts b).cls (meth_Cuts___contains__ b) ⟨rfl, rfl, rfl⟩ (n := 1) (ks := []) (pl := [.p 0, .p 1]) (by decide) rfl rfl takes_u rfl) trivial mt0))) v6 v1 (by with_unfolding_all rfl)) v7 (nomark _)) (ssu_cons (su_ret eu_bl)
    ssu_nil) ssu_nil)
    ssu_nil)))) fun _ => rfl)
    (ssu_cons (su_expr (eu_bm PySem.F.plainAttrs_list PySem.F.slot_list_append PySem.F.type_list_append mu_append v4 (au_cons (eu_tup au_nil) au_nil rfl) rfl rfl rfl rfl rfl) rfl)
    (ssu_cons (su_ifC (tu_cmp ou_le (eu_callB (cu_lenI cu_len (mtl (mtc (mcall k_Cuts___len__ (hr.mono (by decide)) (ck_Cuts b).cls (meth_Cuts___len__ b) ⟨rfl, rfl, rfl⟩ (n := 0) (ks := []) (pl := [.p 0]) (by decide) rfl rfl takes_u rfl) trivial mt0))) rfl (n_len b) boot_len (au_cons v2 au_nil rfl) (by decide) (by decide) rfl rfl) eu_int (nomark _)) (ssu_cons (su_par (xs := ["_law_pairs", "_law_both"]) (is := [10, 11]) rfl sc.nd rfl (by decide) (fun k x i h1 h2 => match k, x, i, h1, h2 with | 0, _, _, rfl, rfl => ⟨rfl, rfl⟩ | 1, _, _, rfl, rfl => ⟨rfl, rfl⟩) (au_cons (eu_lst au_nil) (au_cons (eu_lst au_nil) au_nil rfl) rfl) rfl rfl)
    (ssu_cons (su_forG PassesOwn.leaving xeG_u (hr.mono (by decide)) (ign_meth (c := "Cuts") (m := "each") k_Cuts_each (hr.mono (by decide)) (ck_Cuts b).cls (meth_Cuts_each b) ⟨rfl, rfl, rfl⟩ rfl (by decide) v1 rfl) (gu_name (i := 8) sc.nd rfl (by first | exact Or.inl rfl | exact Or.inr rfl) (Or.inl rfl)) (ssu_cons (su_expr (eu_bm PySem.F.plainAttrs_list PySem.F.slot_list_extend PySem.F.type_list_extend mu_extend v10 (au_cons (eu_lcG (own := [("_law_other", 12)]) (hr.mono (by decide)) sc.nd (ign_meth (c := "Cuts") (m := "each") k_Cuts_each (hr.mono (by decide)) (ck_Cuts b).cls (meth_Cuts_each b) ⟨rfl, rfl, rfl⟩ rfl (by decide) v1 rfl) (blk_of rfl) (by decide) (fun _ _ _ _ _ => (gu_name (i := 12) sc.nd rfl (by first | exact Or.inl rfl | exact Or.inr rfl) (by first | exact Or.inr rfl | exact Or.inl rfl))) (fun _ _ _ _ _ => fsu_nil) (fun _ _ _ _ _ => (eu_tup (au_cons (ev (i := 8)) (au_cons (ev (i := 12)) au_nil rfl) rfl))) fun _ => rfl) au_nil rfl) rfl rfl rfl rfl rfl) rfl)
    ssu_nil) fun _ => rfl)
    (ssu_cons (su_for PassesOwn.leaving rfl (iu_any v2) (gu_name (i := 9) sc.nd rfl (by first | exact Or.inl rfl | exact Or.inr rfl) (Or.inl rfl)) (ssu_cons (su_expr (eu_bm PySem.F.plainAttrs_list PySem.F.slot_list_extend PySem.F.type_list_extend mu_extend v11 (au_cons (eu_lc (own := [("_law_other", 12)]) rfl sc.nd (iu_any v2) (blk_of rfl) (by decide) (fun _ _ _ _ _ => (gu_name (i := 12) sc.nd rfl (by first | exact Or.inl rfl | exact Or.inr rfl) (by first | exact Or.inr rfl | exact Or.inl rfl))) (fun _ _ _ _ _ => fsu_nil) (fun _ _ _ _ _ => (eu_tup (au_cons (ev (i := 9)) (au_cons (ev (i := 12)) au_nil rfl) rfl))) fun _ => rfl) au_nil rfl) rfl rfl rfl rfl rfl) rfl)
    ssu_nil) fun _ => rfl)
    (ssu_cons (su_ifC (tu_cmp (ou_ne hr.rm.units) (eu_callB (cu_reprA hr.rm.units hr.gd) rfl (n_repr b) boot_repr (au_cons v10 au_nil rfl) (by decide) (by decide) rfl rfl) (eu_callB (cu_reprA hr.rm.units hr.gd) rfl (n_repr b) boot_repr (au_cons v11 au_nil rfl) (by decide) (by decide) rfl rfl) (nomark _)) (ssu_cons (su_ret eu_bl)
    ssu_nil) ssu_nil)
    ssu_nil)))) ssu_nil)
    (ssu_cons (su_ret (eu_and (eu_cmp (ou_eq hr.rm.units) (eu_callB (cu_reprA hr.rm.units hr.gd) rfl (n_repr b) boot_repr (au_cons (eu_lcG (own := [("_law_cut", 8)]) (hr.mono (by decide)) sc.nd (ign_meth (c := "Cuts") (m := "each") k_Cuts_each (hr.mono (by decide)) (ck_Cuts b).cls (meth_Cuts_each b) ⟨rfl, rfl, rfl⟩ rfl (by decide) v1 rfl) (blk_of rfl) (by decide) (fun _ _ _ _ _ => (gu_name (i := 8) sc.nd rfl (by first | exact Or.inl rfl | exact Or.inr rfl) (by first | exact Or.inr rfl | exact Or.inl rfl))) (fun _ _ _ _ _ => fsu_nil) (fun _ _ _ _ _ => (ev (i := 8))) fun _ => rfl) au_nil rfl) (by decide) (by decide) rfl rfl) (eu_callB (cu_reprA hr.rm.units hr.gd) rfl (n_repr b) boot_repr (au_cons v2 au_nil rfl) (by decide) (by decide) rfl rfl) (nomark _)) (eu_one (eu_cmp (ou_eq hr.rm.units) (eu_callB (cu_lenI cu_len (mtl (mtc (mcall k_Cuts___len__ (hr.mono (by decide)) (ck_Cuts b).cls (meth_Cuts___len__ b) ⟨rfl, rfl, rfl⟩ (n := 0) (ks := []) (pl := [.p 0]) (by decide) rfl rfl takes_u rfl) trivial mt0))) rfl (n_len b) boot_len (au_cons v1 au_nil rfl) (by decide) (by decide) rfl rfl) (eu_callB (cu_lenI cu_len (mtl (mtc (mcall k_Cuts___len__ (hr.mono (by decide)) (ck_Cuts b).cls (meth_Cuts___len__ b) ⟨rfl, rfl, rfl⟩ (n := 0) (ks := []) (pl := [.p 0]) (by decide) rfl rfl takes_u rfl) trivial mt0))) rfl (n_len b) boot_len (au_cons v2 au_nil rfl) (by decide) (by decide) rfl rfl) (nomark _)))))
    ssu_nil)))))))
end F__law_are_right
theorem ok__law_are_right (b : Base K mg base) : Known P w K mg base d__law_are_right 6 sp__law_are_right :=
  ⟨fn_u (fd__law_are_right b).D F__law_are_right.sc rfl (fun cdv A outer s H G E hr => F__law_are_right.body b (ok_Cuts___contains__ b) (ok_Cuts___len__ b) (ok_Cuts_each b) (ok__law_is_cut b) (ok__law_of b) (ok__law_thing b) hr) (fun ws G Q E h _ => law__law_are_right ws G Q E h), (fd__law_are_right b).D⟩
namespace F_law
def N : List Str := ["_law_script", "_law_at", "_law_bag_here", "_law_rows", "_law_even_here", "_law_one", "_law_row", "_law_many", "_law_size"]
theorem sc : ScD N d_law := ⟨rfl, rfl, rfl, by decide +kernel, rfl, by decide +kernel, by decide +kernel⟩
abbrev X := cxV N d_law
theorem v0 {E : XK} : EU (X P w K mg base f cdv A outer s H E) W (.Name "_law_script" pos) (tUVar 0) := ev
theorem v1 {E : XK} : EU (X P w K mg base f cdv A outer s H E) W (.Name "_law_at" pos) (tUVar 1) := ev
theorem v2 {E : XK} : EU (X P w K mg base f cdv A outer s H E) W (.Name "_law_bag_here" pos) (tUVar 2) := ev
theorem v3 {E : XK} : EU (X P w K mg base f cdv A outer s H E) W (.Name "_law_rows" pos) (tUVar 3) := ev
theorem v4 {E : XK} : EU (X P w K mg base f cdv A outer s H E) W (.Name "_law_even_here" pos) (tUVar 4) := ev
theorem v5 {E : XK} : EU (X P w K mg base f cdv A outer s H E) W (.Name "_law_one" pos) (tUVar 5) := ev
theorem v6 {E : XK} : EU (X P w K mg base f cdv A outer s H E) W (.Name "_law_row" pos) (tUVar 6) := ev
theorem v7 {E : XK} : EU (X P w K mg base f cdv A outer s H E) W (.Name "_law_many" pos) (tUVar 7) := ev
theorem v8 {E : XK} : EU (X P w K mg base f cdv A outer s H E) W (.Name "_law_size" pos) (tUVar 8) := ev
theorem body (b : Base K mg base) (k_Cuts___contains__ : Known P w K mg base d_Cuts___contains__ 2 sp_Cuts___contains__) (k_Cuts___init__ : Known P w K mg base d_Cuts___init__ 3 sp_Cuts___init__) (k__law_all : Known P w K mg base d__law_all 1 sp__law_all) (k__law_are_right : Known P w K mg base d__law_are_right 6 sp__law_are_right) (k__law_bag : Known P w K mg base d__law_bag 1 sp__law_bag) (k__law_even : Known P w K mg base d__law_even 1 sp__law_even) (k__law_of : Known P w K mg base d__law_of 2 sp__law_of) (k__law_take : Known P w K mg base d__law_take 1 sp__law_take) (hr : RoomU 6 (A.deeper (envOfC d_law.qual d_law.scope s.heap.objs.size f cdv))) : SsU (X P w K mg base f cdv A outer s H (LX K H G E)) (wOf K H G E) (defBody (top 18)) t_law :=
  (ssu_cons (su_for PassesOwn.leaving rfl (iu_range1 rfl (n_range b) (eu_callB (cu_max rfl) rfl (n_max b) boot_max (au_cons eu_int (au_cons (eu_callB (cu_min rfl) rfl (n_min b) boot_min (au_cons eu_int (au_cons (eu_callB cu_len rfl (n_len b) boot_len (au_cons v0 au_nil rfl) (by decide) (by decide) rfl rfl) au_nil rfl) rfl) (by decide) (by decide) rfl rfl) au_nil rfl) rfl) (by decide) (by decide) rfl rfl) rfl) (gu_name (i := 1) sc.nd rfl (by first | exact Or.inl rfl | exact Or.inr rfl) (Or.inl rfl)) (ssu_cons (su_set (i := 2) sc.nd rfl (by first | exact Or.inl rfl | exact Or.inr rfl) (eu_def (d := d__law_bag) k__law_bag (hr.mono (by decide)) rfl (g__law_bag b) ⟨rfl, rfl, rfl⟩ (n := 2) (ks := []) (pl := [.p 0, .p 1]) (by decide) rfl rfl takes_u rfl (au_cons v0 (au_cons v1 au_nil rfl) rfl) ku_nil rfl rfl rfl rfl (by decide)) rfl (Or.inl rfl))
    (ssu_cons (su_par (xs := ["_law_many", "_law_size"]) (is := [7, 8]) rfl sc.nd rfl (by decide) (fun k x i h1 h2 => match k, x, i, h1, h2 with | 0, _, _, rfl, rfl => ⟨rfl, rfl⟩ | 1, _, _, rfl, rfl => ⟨rfl, rfl⟩) (au_cons (eu_def (d := d__law_of) k__law_of (hr.mono (by decide)) rfl (g__law_of b) ⟨rfl, rfl, rfl⟩ (n := 2) (ks := []) (pl := [.p 0, .p 1]) (by decide) rfl rfl takes_u rfl (au_cons v2 (au_cons (eu_lst (au_cons eu_int (au_cons eu_int (au_cons eu_int (au_cons eu_int (au_cons eu_int (au_cons eu_int (au_cons eu_int au_nil rfl) rfl) rfl) rfl) rfl) rfl) rfl)) au_nil rfl) rfl) ku_nil rfl rfl rfl rfl (by decide)) (au_cons (eu_bin ou_add eu_int (eu_def (d := d__law_take) k__law_take (hr.mono (by decide)) rfl (g__law_take b) ⟨rfl, rfl, rfl⟩ (n := 2) (ks := []) (pl := [.p 0, .p 1]) (by decide) rfl rfl takes_u rfl (au_cons v2 (au_cons eu_int au_nil rfl) rfl) ku_nil rfl rfl rfl rfl (by decide))) au_nil rfl) rfl) rfl rfl)
    (ssu_cons (su_ifC (WU.tu (wu_and (tu_cmp (ou_eq hr.rm.units) v1 eu_int (nomark _)) (wu_and1 (tu_cmp (ou_eq hr.rm.units) (eu_def (d := d__law_take) k__law_take (hr.mono (by decide)) rfl (g__law_take b) ⟨rfl, rfl, rfl⟩ (n := 2) (ks := []) (pl := [.p 0, .p 1]) (by decide) rfl rfl takes_u rfl (au_cons v2 (au_cons eu_int au_nil rfl) rfl) ku_nil rfl rfl rfl rfl (by decide)) eu_int (nomark _))))) (ssu_cons (su_set (i := 7) sc.nd rfl (by first | exact Or.inl rfl | exact Or.inr rfl) (eu_bin ou_add eu_int (eu_def (d := d__law_take) k__law_take (hr.mono (by decide)) rfl (g__law_take b) ⟨rfl, rfl, rfl⟩ (n := 2) (ks := []) (pl := [.p 0, .p 1]) (by decide) rfl rfl takes_u rfl (au_cons v2 (au_cons eu_int au_nil rfl) rfl) ku_nil rfl rfl rfl rfl (by decide))) rfl (Or.inl rfl))
    ssu_nil) ssu_nil)
    (ssu_cons (su_set (i := 3) sc.nd rfl (by first | exact Or.inl rfl | exact Or.inr rfl) (eu_def (d := d__law_all) k__law_all (hr.mono (by decide)) rfl (g__law_all b) ⟨rfl, rfl, rfl⟩ (n := 1) (ks := []) (pl := [.p 0]) (by decide) rfl rfl takes_u rfl (au_cons v7 au_nil rfl) ku_nil rfl rfl rfl rfl (by decide)) rfl (Or.inl rfl))
    (ssu_cons (su_ifC (tu_not (tu_val tr_u (eu_def (d := d__law_are_right) k__law_are_right (hr.mono (by decide)) rfl (g__law_are_right b) ⟨rfl, rfl, rfl⟩ (n := 4) (ks := []) (pl := [.p 0, .p 1, .p 2, .p 3]) (by decide) rfl rfl takes_u rfl (au_cons v2 (au_cons (eu_make (c := "Cuts") (ck_Cuts b) k_Cuts___init__ (hr.mono (by decide)) (by rfl) (gl_Cuts b) (mk_Cuts b) ⟨rfl, rfl, rfl⟩ (n := 2) (ks := []) (pl := [.p 0, .p 1, .q 0]) (by decide) rfl rfl takes_u rfl (au_cons v7 au_nil rfl) ku_nil rfl rfl rfl rfl (by decide)) (au_cons v3 (au_cons v7 au_nil rfl) rfl) rfl) rfl) ku_nil rfl rfl rfl rfl (by decide)) fun _ => rfl)) (ssu_cons (su_ret eu_bl)
    ssu_nil) ssu_nil)
    (ssu_cons (su_ifC (tu_not (tu_val tr_u (eu_def (d := d__law_are_right) k__law_are_right (hr.mono (by decide)) rfl (g__law_are_right b) ⟨rfl, rfl, rfl⟩ (n := 4) (ks := []) (pl := [.p 0, .p 1, .p 2, .p 3]) (by decide) rfl rfl takes_u rfl (au_cons v2 (au_cons (eu_make (c := "Cuts") (ck_Cuts b) k_Cuts___init__ (hr.mono (by decide)) (by rfl) (gl_Cuts b) (mk_Cuts b) ⟨rfl, rfl, rfl⟩ (n := 2) (ks := ["chunk"]) (pl := [.p 0, .p 1, .k 0]) (by decide) rfl rfl takes_u rfl (au_cons v7 au_nil rfl) (ku_cons eu_non ku_nil) rfl rfl rfl rfl (by decide)) (au_cons v3 (au_cons v7 au_nil rfl) rfl) rfl) rfl) ku_nil rfl rfl rfl rfl (by decide)) fun _ => rfl)) (ssu_cons (su_ret eu_bl)
    ssu_nil) ssu_nil)
    (ssu_cons (su_set (i := 4) sc.nd rfl (by first | exact Or.inl rfl | exact Or.inr rfl) (eu_def (d := d__law_even) k__law_even (hr.mono (by decide)) rfl (g__law_even b) ⟨rfl, rfl, rfl⟩ (n := 2) (ks := []) (pl := [.p 0, .p 1]) (by decide) rfl rfl takes_u rfl (au_cons v7 (au_cons v8 au_nil rfl) rfl) ku_nil rfl rfl rfl rfl (by decide)) rfl (Or.inl rfl))
    (ssu_cons (su_set (i := 5) sc.nd rfl (by first | exact Or.inl rfl | exact Or.inr rfl) (eu_make (c := "Cuts") (ck_Cuts b) k_Cuts___init__ (hr.mono (by decide)) (by rfl) (gl_Cuts b) (mk_Cuts b) ⟨rfl, rfl, rfl⟩ (n := 2) (ks := ["chunk"]) (pl := [.p 0, .p 1, .k 0]) (by decide) rfl rfl takes_u rfl (au_cons v7 au_nil rfl) (ku_cons v8 ku_nil) rfl rfl rfl rfl (by decide)) rfl (Or.inl rfl))
    (ssu_cons (su_ifC (tu_not (tu_val tr_u (eu_def (d := d__law_are_right) k__law_are_right (hr.mono (by decide)) rfl (g__law_are_right b) ⟨rfl, rfl, rfl⟩ (n := 4) (ks := []) (pl := [.p 0, .p 1, .p 2, .p 3]) (by decide) rfl rfl takes_u rfl (au_cons v2 (au_cons v5 (au_cons (eu_lst (au_cons v4 au_nil rfl)) (au_cons v7 au_nil rfl) rfl) rfl) rfl) ku_nil rfl rfl rfl rfl (by decide)) fun _ => rfl)) (ssu_cons (su_ret eu_bl)
    ssu_nil) ssu_nil)
    (ssu_cons (su_for PassesOwn.leaving rfl (iu_any (eu_slice v3 pou_none (pou_some eu_int))) (gu_name (i := 6) sc.nd rfl (by first | exact Or.inl rfl | exact Or.inr rfl) (Or.inl rfl)) (ssu_cons (su_ifC (tu_cmp (ou_ne hr.rm.units) (eu_cmp (ou_inI ou_in (mtl (mtc (mcall k_Cuts___contains__ (hr.mono (by decide)) (ck_Cuts b).cls (meth_Cuts___contains__ b) ⟨rfl, rfl, rfl⟩ (n := 1) (ks := []) (pl := [.p 0, .p 1]) (by decide) rfl rfl takes_u rfl) trivial mt0))) v6 v5 (by with_unfolding_all rfl)) (eu_cmp (ou_eq hr.rm.units) v6 v4 (nomark _)) (nomark _)) (ssu_cons (su_ret eu_bl)
    ssu_nil) ssu_nil)
    ssu_nil) fun _ => rfl)
    ssu_nil)))))))))) fun _ => rfl)
    (ssu_cons (su_ret eu_bl)
    ssu_nil))
end F_law
theorem ok_law (b : Base K mg base) : Known P w K mg base d_law 7 sp_law :=
  ⟨fn_u (fd_law b).D F_law.sc rfl (fun cdv A outer s H G E hr => F_law.body b (ok_Cuts___contains__ b) (ok_Cuts___init__ b) (ok__law_all b) (ok__law_are_right b) (ok__law_bag b) (ok__law_even b) (ok__law_of b) (ok__law_take b) hr) (fun ws G Q E h _ => law_law ws G Q E h), (fd_law b).D⟩
end
theorem want_ (ns : List Int) (h : ns.length ≤ 63) (_ : ∀ z ∈ ns, Builtin.Int.intBits z ≤ 1048576) : sp_law [.rol (IntU ns)] (fun _ => none) (fun v _ => v = .bl true) (fun _ _ => False) := ⟨ns, rfl, h, fun _ => rfl⟩
theorem room_ : RoomU 7 callerA := ⟨⟨rfl, by decide, by decide⟩, rfl⟩
theorem head_ {w : World} {mg : Str → Option Value} {fa_ : Addr} {h : Heap} (Y : hk.says w h) (g : h.Ns mainGlobals mg) (e : mg "law" = some (.ref fa_)) :
    ∃ (K : PySem.W.Frag) (fd : FuncData), K.In h ∧ (∀ (s : Shared) (u : Value), BindsTo s fd ⟨[u], []⟩ [("_law_script", u)]) ∧ ∀ base : Heap, K.In base → base.Ns mainGlobals mg → FnU R.prog w K mg base 7 fa_ fd ["_law_script"] sp_law := by
  obtain ⟨K, inK, c⟩ := Y
  have b : Base K mg h := ⟨c, inK, g⟩
  have z := e.symm.trans (g_law b)
  cases z
  refine ⟨K, _, inK, fun s u => ?_, fun base k1 k2 => (ok_law ⟨c, k1, k2⟩).F⟩
  exact FunD.bindsA (ps := ["_law_script"]) (fd_law b).D (fun _ _ _ _ _ _ us hl => match us, hl with | [_], _ => rfl) s [u] rfl
end K22
open PySem PySem.W PySem.Calls PyProof.Rows
theorem PySem.Challenge.cw_workerworlds_k22_all_cuts_holds : PySem.Challenge.rw_workerworlds_k22_all_cuts.Holds := by
  w_on; o_law
  refine HandSHeadRun.head_any (r := OpenLaw.row PySem.Challenge.rw_workerworlds_k22_all_cuts) (q := view (OpenLaw.row PySem.Challenge.rw_workerworlds_k22_all_cuts).prog [18]) (H := K22.hk) (ob := K22.ob) (M := 4000) (loose := K22.loose) (d := HandSHeadRun.topDef (OpenLaw.row PySem.Challenge.rw_workerworlds_k22_all_cuts).prog 18) (kwd := []) K22.ob_eq
    (by kernel_rfl) (fun s => by kernel_rfl) K22.run_ (by kernel_rfl) (by kernel_rfl) (by kernel_rfl) (by rfl) (by first | assumption | decide +kernel) (by decide +kernel) ⟨rfl, rfl, rfl, rfl, rfl, by decide +kernel⟩ ?hw ?hc
  case hw => w_witness2
  case hc =>
    refine UL.walk_u (l := PySem.Challenge.rw_workerworlds_k22_all_cuts) (n := 63) (k := 7) (x := "_law_script") (sp := K22.sp_law) rfl (by decide) (by kernel_rfl) K22.room_ ?F K22.want_
    intro w mg fa h Y g e
    have e1 : (HandSHeadRun.topDef (OpenLaw.row PySem.Challenge.rw_workerworlds_k22_all_cuts).prog 18).name = ("law" : PySem.Str) := by kernel_rfl
    rw [e1] at e
    exact K22.head_ Y g e
