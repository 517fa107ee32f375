import PyProof.Rows.All
import Wide.All
import OpenK.AllK
import Wide.FinOn
import HandS.Base
import HandS.Call
import HandS.List
import HandS.Comp
import HandS.Ends
import HandS.Exc
import HandS.Words
import HandS.WordsExc
import HandS.Defaults
import HandS.HeadHook1
import HandS.HeadHook2
import HandS.IsInst
import HandS.ExcInit
import HandS.Text
import HandS.TupAny
import HandS.TupMul
import HandS.TupLe
import HandS.Deep
import HandS.FStr
import HandS.Iter
import HandS.WordsDict
import HandS.HeadEnd
import HandS.EndBits
import HandS.Head2
import HandS.Codes
import HandS.SlotsOwn
import HandS.RaiseMore
import KE.KExcInit
import KE.KOpsOwn
import HandS.Property
import HandS.Style
import HandS.ClsMeth
import PyProof.EnumMake
import HandS.ExcField
import HandS.ExcIs
import PyProof.Draws
import PyProof.CallFns
import KE.KExcIs
import HandS.Dict
import HandS.More
import HandS.Star
import PyProof.ListStr
import HandS.TryMany
import HandS.Conv
import HandS.WideBits
import PyProof.AutoSeq1
import PyProof.Rows.StrPadWhole
import KE.DataCmp
import KE.GoesEnum
import PyProof.Rows.StrMul
import HandS.StrMore
import KE.DataEq
import HandS.Flt
import KE.KIndexOf
import HandS.SetFor
import HandS.TupSets
import KE.SortData
import KE.DataMinMax
import OpenK.KWalk
import KE.KExcMake
import HandS.Wide
import PySem.Challenge.RW_workerworlds_k08_errors_by_hand
set_option Elab.async false
set_option linter.all false
set_option maxRecDepth 100000
set_option maxHeartbeats 2000000
set_option maxHeartbeats 2000000
namespace UL
open PySem PySem.Spec PyProof.Rows L2

inductive U where
  | non | bl (b : Bool) | int (i : Int) | str (x : List Nat) | tup (us : List U) | ref (a : Addr) | ty (n : String) | rol (us : List U) | glo (x : String) | exc (a : Addr) (d : Option Addr) (c : String) (fl : List String) (us : List U)
  deriving Inhabited

abbrev S (s : String) : Str := Str.ofString s

/-- a list that is never written: the script -/
def RoL (K : PySem.W.Frag) (H : Hp) (a : Addr) (xs : List V) : Prop :=
  (∃ o, H a = some (.frz o (.lst xs))) ∨
    ∃ (o : Obj) (its : Array Value) (n : Nat), K.lookup a = some o ∧ o.cls = .type "list" ∧ o.dict = none ∧ o.data = .seq its n ∧ its.size ≤ sizeLine ∧ Vals xs its.toList
theorem RoL.sq {K : PySem.W.Frag} {H : Hp} {a : Addr} {xs : List V} (h : RoL K H a xs) : SqL K H a xs := by
  rcases h with ⟨o, h⟩ | h
  · exact .inl (.inr ⟨o, h⟩)
  · exact .inr h

mutual
def RelU (K : PySem.W.Frag) (H : Hp) : U → V → Prop
  | .non, v => v = .non
  | .bl b, v => v = .bl b
  | .int i, v => v = .int i
  | .str l, v => v = .str ⟨l.toArray⟩
  | .tup us, v => ∃ a vs, v = .ref a ∧ SqT K H a vs ∧ RelUs K H us vs
  | .ref a, v => v = .ref a
  | .ty n, v => v = .ty n
  | .rol us, v => ∃ a vs, v = .ref a ∧ RoL K H a vs ∧ RelUs K H us vs
  | .glo x, v => v = .ref (He.ga K (S x))
  | .exc a d _ fl us, v => v = .ref a ∧ (fl = [] ∨ ∃ x gs, d = some x ∧ H x = some (.xd gs) ∧ RelE K H gs fl us)
def RelUs (K : PySem.W.Frag) (H : Hp) : List U → List V → Prop
  | [], vs => vs = []
  | u :: us, vs => ∃ v ws, vs = v :: ws ∧ RelU K H u v ∧ RelUs K H us ws
/-- what a caught exception's dict holds -/
def RelE (K : PySem.W.Frag) (H : Hp) (gs : List (Str × V)) : List String → List U → Prop
  | _, [] => True
  | [], _ :: _ => False
  | f :: fl, u :: us => (∃ v, gs.lookup (S f) = some v ∧ RelU K H u v) ∧ RelE K H gs fl us
end

inductive Ob where
  | lst (us : List U)
  | dct (kvs : List (U × U))
  /-- a dict that is iterated over: read only -/
  | dcr (od : Obj) (gs : List (Key × V)) (kvs : List (U × U))
  | ins (c : String) (fs : List (String × U))
  /-- an exception made as a value: its class, its fields -/
  | xcp (c : String) (fs : List (String × U))
  deriving Inhabited
abbrev Gp := Addr → Option Ob
def gup (G : Gp) (a : Addr) (o : Ob) : Gp := fun b => if b = a then some o else G b
theorem gup_same {G : Gp} {a : Addr} {o : Ob} : gup G a o a = some o := if_pos rfl
theorem gup_ne {G : Gp} {a b : Addr} {o : Ob} (h : b ≠ a) : gup G a o b = G b := if_neg h

def fget : List (String × U) → String → Option U
  | [], _ => none
  | (g, u) :: r, f => if g = f then some u else fget r f
def fput : List (String × U) → String → U → List (String × U)
  | [], f, u => [(f, u)]
  | (g, w) :: r, f, u => if g = f then (g, u) :: r else (g, w) :: fput r f u

def RelF (K : PySem.W.Frag) (H : Hp) (C : Addr) : List (String × U) → List (Str × V) → Prop
  | [], gs => gs = []
  | (f, u) :: r, gs => ∃ v ws, gs = (S f, v) :: ws ∧ RelU K H u v ∧ NoAttr K C (S f) ∧ RelF K H C r ws

def fldsOf : String → List String
  | "Box" => ["contents"]
  | "World" => ["boxes"]
  | "Cuts" => ["count", "chunk", "many"]
  | "Dealings" => ["chunks", "workers", "many"]
  | "Program" => ["marks", "module", "of_module", "caller", "of_caller", "task"]
  | "Scope" => ["world", "own"]
  | "Task" => ["program", "parts", "targets"]
  | "Outcome" => ["answers", "failure", "world", "passed"]
  | "Worker" => ["start", "world"]
  | "Pool" => ["program", "way", "workers", "chunk", "back", "renew", "memory", "task", "crew", "opened"]
  | "Walk" => ["program", "workers", "chunk", "back", "renew", "all_seen", "begun_rows", "start", "sent", "first", "runs"]
  | "Verdict" => ["certificate", "levels"]
  | _ => []
def clsNames : List String := ["Box", "World", "Cuts", "Dealings", "Program", "Scope", "Task", "Way", "Outcome", "Worker", "Pool", "Walk", "Verdict"]
def tyNames : List String := ["int", "str", "bool", "list", "tuple", "dict", "set"]
/-- the name stands for an object of the text -/
def presB (d : String) (K : PySem.W.Frag) : Bool := match PySem.W.nsIn K mainGlobals (S d) with
  | some (some (.ref _)) => true
  | _ => false
def clsB (c : String) (K : PySem.W.Frag) : Bool :=
  let C := He.ga K (S c)
  PySem.W.plainGet K C Str.empty && PySem.W.hasDictIn K C && PySem.W.plainOver K C && decide (PySem.W.findIn K (.ref C) "__setattr__" = some (some (.builtin "object.__setattr__"))) &&
  decide (PySem.W.findIn K (.ref C) "__class__" = some (some (.builtin "object.__class__"))) && decide (PySem.W.specialIn K (.builtin "object.__class__") "__get__" = some (some (.builtin "getset_descriptor.__get__"))) &&
  decide (PySem.W.takesIn K (.builtin "object.__class__") = some true) && decide (PySem.W.mroIn K C (.type "object") = some true) &&
  decide (PySem.W.findIn K (.ref C) "__eq__" = some (some (.builtin "object.__eq__"))) && decide (PySem.W.findIn K (.ref C) "__ne__" = some (some (.builtin "object.__ne__"))) &&
  decide (PySem.W.findIn K (.ref C) "__hash__" = some (some (.builtin "object.__hash__"))) && PySem.W.selfFirst K C &&
  ((fldsOf c).all fun f => decide (PySem.W.findIn K (.ref C) (S f) = some none)) && (tyNames.all fun T => decide (PySem.W.kitOne K (.ref C) (.type T) = some false)) &&
  (clsNames.all fun d => !presB d K || decide (PySem.W.kitOne K (.ref C) (.ref (He.ga K (S d))) = some (decide (c = d))))
def ClsK (K : PySem.W.Frag) (c : String) : Prop := clsB c K = true
section
variable {K : PySem.W.Frag} {c : String}
theorem ClsK.all (h : ClsK K c) : (PySem.W.plainGet K (He.ga K (S c)) Str.empty = true ∧ PySem.W.hasDictIn K (He.ga K (S c)) = true ∧ PySem.W.plainOver K (He.ga K (S c)) = true ∧ PySem.W.findIn K (.ref (He.ga K (S c))) "__setattr__" = some (some (.builtin "object.__setattr__"))) ∧
    (PySem.W.findIn K (.ref (He.ga K (S c))) "__class__" = some (some (.builtin "object.__class__")) ∧ PySem.W.specialIn K (.builtin "object.__class__") "__get__" = some (some (.builtin "getset_descriptor.__get__")) ∧
    PySem.W.takesIn K (.builtin "object.__class__") = some true ∧ PySem.W.mroIn K (He.ga K (S c)) (.type "object") = some true) ∧
    (PySem.W.findIn K (.ref (He.ga K (S c))) "__eq__" = some (some (.builtin "object.__eq__")) ∧ PySem.W.findIn K (.ref (He.ga K (S c))) "__ne__" = some (some (.builtin "object.__ne__")) ∧ PySem.W.findIn K (.ref (He.ga K (S c))) "__hash__" = some (some (.builtin "object.__hash__"))) ∧
    PySem.W.selfFirst K (He.ga K (S c)) = true ∧ (∀ f ∈ fldsOf c, NoAttr K (He.ga K (S c)) (S f)) ∧ (∀ T ∈ tyNames, PySem.W.kitOne K (.ref (He.ga K (S c))) (.type T) = some false) ∧
    ∀ d ∈ clsNames, presB d K = true → PySem.W.kitOne K (.ref (He.ga K (S c))) (.ref (He.ga K (S d))) = some (decide (c = d)) := by
  unfold ClsK clsB at h
  simp only [Bool.and_eq_true, decide_eq_true_eq, List.all_eq_true, Bool.or_eq_true, Bool.not_eq_true'] at h
  obtain ⟨⟨⟨⟨⟨⟨⟨⟨⟨⟨⟨⟨⟨⟨h1, h2⟩, h3⟩, h4⟩, h5⟩, h6⟩, h7⟩, h8⟩, h9⟩, h10⟩, h11⟩, h12⟩, h13⟩, h14⟩, h15⟩ := h
  refine ⟨⟨h1, h2, h3, h4⟩, ⟨h5, h6, h7, h8⟩, ⟨h9, h10, h11⟩, h12, h13, h14, fun d hd hp => ?_⟩
  rcases h15 d hd with z | z
  · rw [hp] at z
    cases z
  · exact z
theorem ClsK.cls (h : ClsK K c) : Cls K (He.ga K (S c)) := ⟨h.all.1.1, h.all.1.2.1, h.all.1.2.2.1, h.all.1.2.2.2⟩
theorem ClsK.noat (h : ClsK K c) {f : String} (hf : f ∈ fldsOf c) : NoAttr K (He.ga K (S c)) (S f) := h.all.2.2.2.2.1 f hf
end

def KeyR : U → Key → Prop
  | .int i, k => k = .inl i
  | .str l, k => k = .inr ⟨l.toArray⟩
  | _, _ => False
def RelKV (K : PySem.W.Frag) (H : Hp) : List (U × U) → List (Key × V) → Prop
  | [], gs => gs = []
  | (k, u) :: r, gs => ∃ kk v ws, gs = (kk, v) :: ws ∧ KeyR k kk ∧ RelU K H u v ∧ RelKV K H r ws

def RepO (K : PySem.W.Frag) (H : Hp) (a : Addr) : Ob → Prop
  | .lst us => ∃ vs, H a = some (.lst vs) ∧ RelUs K H us vs
  | .dct kvs => ∃ gs, H a = some (.dK gs) ∧ RelKV K H kvs gs
  | .dcr od gs kvs => H a = some (.frz od (.dK gs)) ∧ RelKV K H kvs gs
  | .ins c fs => ClsK K c ∧ ∃ dx gs, H a = some (.ins (He.ga K (S c)) dx gs) ∧ RelF K H (He.ga K (S c)) fs gs
  | .xcp c fs => (fs = [] ∧ H a = some (exo a (He.ga K (S c)) none)) ∨ ∃ dx gs, H a = some (exo a (He.ga K (S c)) (some dx)) ∧ H dx = some (.xd gs) ∧ RelE K H gs (fs.map (·.1)) (fs.map (·.2))
def Rep (K : PySem.W.Frag) (H : Hp) (G : Gp) : Prop := ∀ a o, G a = some o → RepO K H a o

/-- what G does not know stays as it is, and unknown -/
def Ext (H : Hp) (G : Gp) (H' : Hp) (G' : Gp) : Prop := ∀ a o, H a = some o → G a = none → H' a = some o ∧ G' a = none
theorem Ext.refl (H : Hp) (G : Gp) : Ext H G H G := fun _ _ h g => ⟨h, g⟩
theorem Ext.trans {H H1 H2 : Hp} {G G1 G2 : Gp} (x : Ext H G H1 G1) (y : Ext H1 G1 H2 G2) : Ext H G H2 G2 := fun a o h g =>
  let ⟨h1, g1⟩ := x a o h g
  y a o h1 g1

section
variable {K : PySem.W.Frag} {H H' : Hp} {G G' : Gp}
theorem Rep.there (r : Rep K H G) {a : Addr} {o : Ob} (h : G a = some o) : ∃ u, H a = some u := by
  have q := r a o h
  cases o with
  | lst us => obtain ⟨vs, e, _⟩ := q; exact ⟨_, e⟩
  | dct kvs => obtain ⟨vs, e, _⟩ := q; exact ⟨_, e⟩
  | dcr od gs kvs => exact ⟨_, q.1⟩
  | ins c fs => obtain ⟨_, dx, gs, e, _⟩ := q; exact ⟨_, e⟩
  | xcp c fs => rcases q with ⟨_, e⟩ | ⟨dx, gs, e, _⟩ <;> exact ⟨_, e⟩
theorem Rep.fresh (r : Rep K H G) {a : Addr} (h : H a = none) : G a = none := by
  cases q : G a with
  | none => rfl
  | some o =>
    obtain ⟨u, e⟩ := r.there q
    rw [h] at e
    cases e
/-- tuples and read-only lists are not tracked by G -/
theorem Rep.noRd (r : Rep K H G) {a : Addr} {u : HO} (h : Rd H a u) (hu : (∃ xs, u = .tup xs) ∨ ∃ o xs, u = .lst xs ∧ H a = some (.frz o u)) : G a = none := by
  cases q : G a with
  | none => rfl
  | some o =>
    exfalso
    have z := r a o q
    have k : ∀ x, H a = some x → (∃ vs, x = .lst vs) ∨ (∃ vs, x = .dK vs) ∨ (∃ c d f, x = .ins c d f) ∨ (∃ od gs, x = .frz od (.dK gs)) ∨ ∃ φ, x = .ext φ := by
      intro x hx
      cases o with
      | lst us => obtain ⟨vs, e, _⟩ := z; rw [hx] at e; exact .inl ⟨_, Option.some.inj e⟩
      | dct kvs => obtain ⟨vs, e, _⟩ := z; rw [hx] at e; exact .inr (.inl ⟨_, Option.some.inj e⟩)
      | dcr od gs kvs => obtain ⟨e, _⟩ := z; rw [hx] at e; exact .inr (.inr (.inr (.inl ⟨_, _, Option.some.inj e⟩)))
      | ins c fs => obtain ⟨_, dx, gs, e, _⟩ := z; rw [hx] at e; exact .inr (.inr (.inl ⟨_, _, _, Option.some.inj e⟩))
      | xcp c fs => rcases z with ⟨_, e⟩ | ⟨dx, gs, e, _⟩ <;> (rw [hx] at e; exact .inr (.inr (.inr (.inr ⟨_, Option.some.inj e⟩))))
    rcases hu with ⟨xs, rfl⟩ | ⟨ob, xs, rfl, h2⟩
    · rcases h with h | ⟨ob, h⟩ <;> rcases k _ h with ⟨_, e⟩ | ⟨_, e⟩ | ⟨_, _, _, e⟩ | ⟨_, _, e⟩ | ⟨_, e⟩ <;> cases e
    · rcases k _ h2 with ⟨_, e⟩ | ⟨_, e⟩ | ⟨_, _, _, e⟩ | ⟨_, _, e⟩ | ⟨_, e⟩ <;> cases e
theorem Ext.sqT (x : Ext H G H' G') (r : Rep K H G) {a : Addr} {xs : List V} (h : SqT K H a xs) : SqT K H' a xs := by
  rcases h with h | h
  · have n := r.noRd h (.inl ⟨_, rfl⟩)
    rcases h with h | ⟨o, h⟩
    · exact .inl (.inl (x a _ h n).1)
    · exact .inl (.inr ⟨o, (x a _ h n).1⟩)
  · exact .inr h
theorem Ext.roL (x : Ext H G H' G') (r : Rep K H G) {a : Addr} {xs : List V} (h : RoL K H a xs) : RoL K H' a xs := by
  rcases h with ⟨o, h⟩ | h
  · have n := r.noRd (a := a) (u := .lst xs) (.inr ⟨o, h⟩) (.inr ⟨o, _, rfl, h⟩)
    exact .inl ⟨o, (x a _ h n).1⟩
  · exact .inr h
theorem Ext.xd (x : Ext H G H' G') (r : Rep K H G) {d : Addr} {gs : List (Str × V)} (h : H d = some (.xd gs)) : H' d = some (.xd gs) := by
  refine (x d _ h ?_).1
  cases q : G d with
  | none => rfl
  | some o =>
    exfalso
    have z := r d o q
    cases o with
    | lst us => obtain ⟨vs, e, _⟩ := z; rw [h] at e; cases e
    | dct us => obtain ⟨vs, e, _⟩ := z; rw [h] at e; cases e
    | dcr od gs kvs => obtain ⟨e, _⟩ := z; rw [h] at e; cases e
    | ins c fs => obtain ⟨_, dx, gs, e, _⟩ := z; rw [h] at e; cases e
    | xcp c fs => rcases z with ⟨_, e⟩ | ⟨dx, gs, e, _⟩ <;> (rw [h] at e; cases e)
mutual
theorem RelU.ext (x : Ext H G H' G') (r : Rep K H G) : ∀ {u : U} {v : V}, RelU K H u v → RelU K H' u v
  | .non, _, h => h
  | .bl _, _, h => h
  | .int _, _, h => h
  | .str _, _, h => h
  | .tup us, _, ⟨a, vs, e, t, q⟩ => ⟨a, vs, e, x.sqT r t, RelUs.ext x r q⟩
  | .ref _, _, h => h
  | .ty _, _, h => h
  | .glo _, _, h => h
  | .rol us, _, ⟨a, vs, e, t, q⟩ => ⟨a, vs, e, x.roL r t, RelUs.ext x r q⟩
  | .exc a dd c fl us, _, ⟨e, h⟩ => ⟨e, h.elim .inl fun ⟨y, gs, z, g, q⟩ => .inr ⟨y, gs, z, x.xd r g, RelE.ext x r q⟩⟩
theorem RelUs.ext (x : Ext H G H' G') (r : Rep K H G) : ∀ {us : List U} {vs : List V}, RelUs K H us vs → RelUs K H' us vs
  | [], _, h => h
  | u :: us, _, ⟨v, ws, e, h, t⟩ => ⟨v, ws, e, RelU.ext x r h, RelUs.ext x r t⟩
theorem RelE.ext (x : Ext H G H' G') (r : Rep K H G) {gs : List (Str × V)} : ∀ {fl : List String} {us : List U}, RelE K H gs fl us → RelE K H' gs fl us
  | _, [], _ => True.intro
  | [], _ :: _, h => h.elim
  | f :: fl, u :: us, ⟨⟨v, e, h⟩, t⟩ => ⟨⟨v, e, RelU.ext x r h⟩, RelE.ext x r t⟩
end
mutual
theorem RelU.mono (hT : ∀ a xs, SqT K H a xs → SqT K H' a xs) (hR : ∀ a xs, RoL K H a xs → RoL K H' a xs) (hX : ∀ d gs, H d = some (.xd gs) → H' d = some (.xd gs)) : ∀ {u : U} {v : V}, RelU K H u v → RelU K H' u v
  | .non, _, h => h
  | .bl _, _, h => h
  | .int _, _, h => h
  | .str _, _, h => h
  | .tup us, _, ⟨a, vs, e, t, q⟩ => ⟨a, vs, e, hT _ _ t, RelUs.mono hT hR hX q⟩
  | .ref _, _, h => h
  | .ty _, _, h => h
  | .glo _, _, h => h
  | .rol us, _, ⟨a, vs, e, t, q⟩ => ⟨a, vs, e, hR _ _ t, RelUs.mono hT hR hX q⟩
  | .exc a dd c fl us, _, ⟨e, h⟩ => ⟨e, h.elim .inl fun ⟨y, gs, z, g, q⟩ => .inr ⟨y, gs, z, hX _ _ g, RelE.mono hT hR hX q⟩⟩
theorem RelUs.mono (hT : ∀ a xs, SqT K H a xs → SqT K H' a xs) (hR : ∀ a xs, RoL K H a xs → RoL K H' a xs) (hX : ∀ d gs, H d = some (.xd gs) → H' d = some (.xd gs)) : ∀ {us : List U} {vs : List V}, RelUs K H us vs → RelUs K H' us vs
  | [], _, h => h
  | u :: us, _, ⟨v, ws, e, h, t⟩ => ⟨v, ws, e, RelU.mono hT hR hX h, RelUs.mono hT hR hX t⟩
theorem RelE.mono (hT : ∀ a xs, SqT K H a xs → SqT K H' a xs) (hR : ∀ a xs, RoL K H a xs → RoL K H' a xs) (hX : ∀ d gs, H d = some (.xd gs) → H' d = some (.xd gs)) {gs : List (Str × V)} : ∀ {fl : List String} {us : List U}, RelE K H gs fl us → RelE K H' gs fl us
  | _, [], _ => True.intro
  | [], _ :: _, h => h.elim
  | f :: fl, u :: us, ⟨⟨v, e, h⟩, t⟩ => ⟨⟨v, e, RelU.mono hT hR hX h⟩, RelE.mono hT hR hX t⟩
end
theorem RelF.mono (hT : ∀ a xs, SqT K H a xs → SqT K H' a xs) (hR : ∀ a xs, RoL K H a xs → RoL K H' a xs) (hX : ∀ d gs, H d = some (.xd gs) → H' d = some (.xd gs)) {C : Addr} : ∀ {fs : List (String × U)} {gs : List (Str × V)}, RelF K H C fs gs → RelF K H' C fs gs
  | [], _, h => h
  | (f, u) :: fs, _, ⟨v, ws, e, h, n, t⟩ => ⟨v, ws, e, h.mono hT hR hX, n, RelF.mono hT hR hX t⟩
theorem RelKV.mono (hT : ∀ a xs, SqT K H a xs → SqT K H' a xs) (hR : ∀ a xs, RoL K H a xs → RoL K H' a xs) (hX : ∀ d gs, H d = some (.xd gs) → H' d = some (.xd gs)) : ∀ {fs : List (U × U)} {gs : List (Key × V)}, RelKV K H fs gs → RelKV K H' fs gs
  | [], _, h => h
  | (f, u) :: fs, _, ⟨kk, v, ws, e, n, h, t⟩ => ⟨kk, v, ws, e, n, h.mono hT hR hX, RelKV.mono hT hR hX t⟩
/-- an untracked list of ours grows -/
theorem own_upd {D : Addr} {xs ys : List V} (hD : H D = some (.lst xs)) : (∀ a zs, SqT K H a zs → SqT K (upd H D (.lst ys)) a zs) ∧ (∀ a zs, RoL K H a zs → RoL K (upd H D (.lst ys)) a zs) ∧ ∀ d gs, H d = some (.xd gs) → upd H D (.lst ys) d = some (.xd gs) := by
  have k : ∀ a u, H a = some u → (∀ zs, u ≠ .lst zs) → upd H D (.lst ys) a = some u := fun a u h n => by
    have e : a ≠ D := fun e => n xs (by rw [e, hD] at h; exact (Option.some.inj h).symm)
    rw [upd_ne e]
    exact h
  refine ⟨?_, ?_, fun d gs h => k d _ h fun _ z => by cases z⟩
  · rintro a zs ((h | ⟨o, h⟩) | h)
    · exact .inl (.inl (k a _ h fun _ z => by cases z))
    · exact .inl (.inr ⟨o, k a _ h fun _ z => by cases z⟩)
    · exact .inr h
  · rintro a zs (⟨o, h⟩ | h)
    · exact .inl ⟨o, k a _ h fun _ z => by cases z⟩
    · exact .inr h
theorem Rep.own {D : Addr} {xs ys : List V} (r : Rep K H G) (hD : H D = some (.lst xs)) (gD : G D = none) : Rep K (upd H D (.lst ys)) G := by
  obtain ⟨hT, hR, hX⟩ := own_upd (K := K) (ys := ys) hD
  intro b v e
  have hb : b ≠ D := fun z => by rw [z, gD] at e; cases e
  have q := r b v e
  cases v with
  | lst us => obtain ⟨vs, e1, e2⟩ := q; exact ⟨vs, by rw [upd_ne hb]; exact e1, e2.mono hT hR hX⟩
  | dct us => obtain ⟨vs, e1, e2⟩ := q; exact ⟨vs, by rw [upd_ne hb]; exact e1, e2.mono hT hR hX⟩
  | dcr od gs kvs => obtain ⟨e1, e2⟩ := q; exact ⟨by rw [upd_ne hb]; exact e1, e2.mono hT hR hX⟩
  | ins c fs => obtain ⟨ck, dx, gs, e1, e2⟩ := q; exact ⟨ck, dx, gs, by rw [upd_ne hb]; exact e1, e2.mono hT hR hX⟩
  | xcp c fs =>
    rcases q with ⟨e0, e1⟩ | ⟨dx, gs, e1, e2, e3⟩
    · exact .inl ⟨e0, by rw [upd_ne hb]; exact e1⟩
    · exact .inr ⟨dx, gs, by rw [upd_ne hb]; exact e1, hX _ _ e2, RelE.mono hT hR hX e3⟩
theorem RelF.ext (x : Ext H G H' G') (r : Rep K H G) {C : Addr} : ∀ {fs : List (String × U)} {gs : List (Str × V)}, RelF K H C fs gs → RelF K H' C fs gs
  | [], _, h => h
  | (f, u) :: fs, _, ⟨v, ws, e, h, n, t⟩ => ⟨v, ws, e, h.ext x r, n, RelF.ext x r t⟩
theorem RelKV.ext (x : Ext H G H' G') (r : Rep K H G) : ∀ {fs : List (U × U)} {gs : List (Key × V)}, RelKV K H fs gs → RelKV K H' fs gs
  | [], _, h => h
  | (f, u) :: fs, _, ⟨kk, v, ws, e, n, h, t⟩ => ⟨kk, v, ws, e, n, h.ext x r, RelKV.ext x r t⟩
end

theorem RepO.move {K : PySem.W.Frag} {H H' : Hp} {G G' : Gp} (x : Ext H G H' G') (r : Rep K H G) {b : Addr} (e : H' b = H b) : ∀ {o : Ob}, RepO K H b o → RepO K H' b o
  | .lst us, ⟨vs, e1, e2⟩ => ⟨vs, e.trans e1, e2.ext x r⟩
  | .dct us, ⟨vs, e1, e2⟩ => ⟨vs, e.trans e1, e2.ext x r⟩
  | .dcr _ _ _, ⟨e1, e2⟩ => ⟨e.trans e1, e2.ext x r⟩
  | .ins c fs, ⟨ck, dx, gs, e1, e2⟩ => ⟨ck, dx, gs, e.trans e1, e2.ext x r⟩
  | .xcp c fs, h => h.elim (fun ⟨e0, e1⟩ => .inl ⟨e0, e.trans e1⟩) fun ⟨dx, gs, e1, e2, e3⟩ => .inr ⟨dx, gs, e.trans e1, x.xd r e2, RelE.ext x r e3⟩

abbrev USt := List (Option U)
def RelS (K : PySem.W.Frag) (H : Hp) : USt → L2.St → Prop
  | [], vs => vs = []
  | none :: us, vs => ∃ v ws, vs = v :: ws ∧ RelS K H us ws
  | some u :: us, vs => ∃ v ws, vs = some v :: ws ∧ RelU K H u v ∧ RelS K H us ws
section
variable {K : PySem.W.Frag} {H H' : Hp} {G G' : Gp}
theorem RelS.ext (x : Ext H G H' G') (r : Rep K H G) : ∀ {us : USt} {vs : L2.St}, RelS K H us vs → RelS K H' us vs
  | [], _, h => h
  | none :: us, _, ⟨v, ws, e, t⟩ => ⟨v, ws, e, RelS.ext x r t⟩
  | some u :: us, _, ⟨v, ws, e, h, t⟩ => ⟨v, ws, e, h.ext x r, RelS.ext x r t⟩
theorem RelS.get : ∀ {us : USt} {vs : L2.St} {i : Nat} {u : U}, RelS K H us vs → us[i]? = some (some u) → ∃ v, vs[i]? = some (some v) ∧ RelU K H u v
  | [], _, _, _, _, e => by cases e
  | none :: us, _, 0, _, _, e => by cases e
  | some u :: us, _, 0, _, ⟨v, ws, rfl, h, t⟩, e => by
    cases e
    exact ⟨v, rfl, h⟩
  | none :: us, _, i + 1, u, ⟨v, ws, rfl, t⟩, e => RelS.get (i := i) (u := u) t e
  | some w :: us, _, i + 1, u, ⟨v, ws, rfl, h, t⟩, e => RelS.get (i := i) (u := u) t e
theorem RelS.set {u : U} {v : V} (h : RelU K H u v) : ∀ {us : USt} {vs : L2.St} (i : Nat), RelS K H us vs → RelS K H (us.set i (some u)) (vs.set i (some v))
  | [], _, _, e => by
    have e' : _ = ([] : L2.St) := e
    subst e'
    rfl
  | none :: us, _, 0, ⟨w, ws, rfl, t⟩ => ⟨v, ws, rfl, h, t⟩
  | some _ :: us, _, 0, ⟨w, ws, rfl, _, t⟩ => ⟨v, ws, rfl, h, t⟩
  | none :: us, _, i + 1, ⟨w, ws, rfl, t⟩ => ⟨w, _, rfl, RelS.set h i t⟩
  | some _ :: us, _, i + 1, ⟨w, ws, rfl, q, t⟩ => ⟨w, _, rfl, q, RelS.set h i t⟩
def uwipe (σ : USt) : List Nat → USt
  | [] => σ
  | v :: vs => (uwipe σ vs).set v none
theorem RelUs.length : ∀ {us : List U} {vs : List V}, RelUs K H us vs → vs.length = us.length
  | [], _, e => by
    have e' : _ = ([] : List V) := e
    subst e'
    rfl
  | _ :: us, _, ⟨v, ws, rfl, _, t⟩ => by
    rw [List.length_cons, List.length_cons, t.length]
theorem RelUs.get : ∀ {us : List U} {vs : List V} {i : Nat} {u : U}, RelUs K H us vs → us[i]? = some u → ∃ v, vs[i]? = some v ∧ RelU K H u v
  | [], _, _, _, _, e => by cases e
  | u :: us, _, 0, _, ⟨v, ws, rfl, h, t⟩, e => by
    cases e
    exact ⟨v, rfl, h⟩
  | w :: us, _, i + 1, u, ⟨v, ws, rfl, h, t⟩, e => RelUs.get (i := i) (u := u) t e
theorem RelUs.append : ∀ {us us' : List U} {vs vs' : List V}, RelUs K H us vs → RelUs K H us' vs' → RelUs K H (us ++ us') (vs ++ vs')
  | [], _, _, _, e, h => by
    have e' : _ = ([] : List V) := e
    subst e'
    exact h
  | u :: us, _, _, _, ⟨v, ws, rfl, h, t⟩, q => ⟨v, _, rfl, h, t.append q⟩
theorem RelUs.set {u : U} {v : V} (h : RelU K H u v) : ∀ {us : List U} {vs : List V} (i : Nat), RelUs K H us vs → RelUs K H (us.set i u) (vs.set i v)
  | [], _, _, e => by
    have e' : _ = ([] : List V) := e
    subst e'
    rfl
  | _ :: us, _, 0, ⟨w, ws, rfl, _, t⟩ => ⟨v, ws, rfl, h, t⟩
  | _ :: us, _, i + 1, ⟨w, ws, rfl, q, t⟩ => ⟨w, _, rfl, q, RelUs.set h i t⟩
theorem RelUs.drop : ∀ {us : List U} {vs : List V} (n : Nat), RelUs K H us vs → RelUs K H (us.drop n) (vs.drop n)
  | _, _, 0, h => h
  | [], _, n + 1, e => by
    have e' : _ = ([] : List V) := e
    subst e'
    rfl
  | _ :: us, _, n + 1, ⟨w, ws, rfl, _, t⟩ => RelUs.drop n t
theorem RelUs.take : ∀ {us : List U} {vs : List V} (n : Nat), RelUs K H us vs → RelUs K H (us.take n) (vs.take n)
  | _, _, 0, h => rfl
  | [], _, n + 1, e => by
    have e' : _ = ([] : List V) := e
    subst e'
    rfl
  | _ :: us, _, n + 1, ⟨w, ws, rfl, h, t⟩ => ⟨w, _, rfl, h, RelUs.take n t⟩
theorem RelUs.nil : RelUs K H [] [] := rfl
theorem RelUs.one {u : U} {v : V} (h : RelU K H u v) : RelUs K H [u] [v] := ⟨v, [], rfl, h, rfl⟩
theorem RelUs.reverse : ∀ {us : List U} {vs : List V}, RelUs K H us vs → RelUs K H us.reverse vs.reverse
  | [], _, e => by
    have e' : _ = ([] : List V) := e
    subst e'
    rfl
  | u :: us, _, ⟨w, ws, rfl, h, t⟩ => by
    rw [List.reverse_cons, List.reverse_cons]
    exact t.reverse.append (.one h)
theorem RelUs.rep {us : List U} {vs : List V} (h : RelUs K H us vs) : ∀ k : Nat, RelUs K H (List.replicate k us).flatten (List.replicate k vs).flatten
  | 0 => rfl
  | k + 1 => by
    rw [List.replicate_succ, List.replicate_succ, List.flatten_cons, List.flatten_cons]
    exact h.append (h.rep k)
/-- a new object is laid and tracked -/
theorem Rep.laid {a : Addr} {o : Ob} {u : HO} (r : Rep K H G) (hn : H a = none) (new : RepO K (upd H a u) a o) : Rep K (upd H a u) (gup G a o) ∧ Ext H G (upd H a u) (gup G a o) := by
  have x0 : Ext H G (upd H a u) G := fun b v h g => ⟨by rw [upd_ne (ne_of_none h hn)]; exact h, g⟩
  refine ⟨fun b v e => ?_, fun b v h g => ⟨by rw [upd_ne (ne_of_none h hn)]; exact h, by rw [gup_ne (ne_of_none h hn)]; exact g⟩⟩
  by_cases hb : b = a
  · subst hb
    rw [gup_same] at e
    cases e
    exact new
  · rw [gup_ne hb] at e
    have q := r b v e
    cases v with
    | lst us => obtain ⟨vs, e1, e2⟩ := q; exact ⟨vs, by rw [upd_ne hb]; exact e1, e2.ext x0 r⟩
    | dct us => obtain ⟨vs, e1, e2⟩ := q; exact ⟨vs, by rw [upd_ne hb]; exact e1, e2.ext x0 r⟩
    | dcr od gs kvs => obtain ⟨e1, e2⟩ := q; exact ⟨by rw [upd_ne hb]; exact e1, e2.ext x0 r⟩
    | ins c fs => obtain ⟨ck, dx, gs, e1, e2⟩ := q; exact ⟨ck, dx, gs, by rw [upd_ne hb]; exact e1, e2.ext x0 r⟩
    | xcp c fs =>
      rcases q with ⟨e0, e1⟩ | ⟨dx, gs, e1, e2, e3⟩
      · exact .inl ⟨e0, by rw [upd_ne hb]; exact e1⟩
      · exact .inr ⟨dx, gs, by rw [upd_ne hb]; exact e1, x0.xd r e2, RelE.ext x0 r e3⟩
/-- something is laid that G does not track (a tuple) -/
theorem Rep.laid0 {a : Addr} {u : HO} (r : Rep K H G) (hn : H a = none) : Rep K (upd H a u) G ∧ Ext H G (upd H a u) G := by
  have x0 : Ext H G (upd H a u) G := fun b v h g => ⟨by rw [upd_ne (ne_of_none h hn)]; exact h, g⟩
  refine ⟨fun b v e => ?_, x0⟩
  have hb : b ≠ a := by
    obtain ⟨w, z⟩ := r.there e
    exact ne_of_none z hn
  have q := r b v e
  cases v with
  | lst us => obtain ⟨vs, e1, e2⟩ := q; exact ⟨vs, by rw [upd_ne hb]; exact e1, e2.ext x0 r⟩
  | dct us => obtain ⟨vs, e1, e2⟩ := q; exact ⟨vs, by rw [upd_ne hb]; exact e1, e2.ext x0 r⟩
  | dcr od gs kvs => obtain ⟨e1, e2⟩ := q; exact ⟨by rw [upd_ne hb]; exact e1, e2.ext x0 r⟩
  | ins c fs => obtain ⟨ck, dx, gs, e1, e2⟩ := q; exact ⟨ck, dx, gs, by rw [upd_ne hb]; exact e1, e2.ext x0 r⟩
  | xcp c fs =>
    rcases q with ⟨e0, e1⟩ | ⟨dx, gs, e1, e2, e3⟩
    · exact .inl ⟨e0, by rw [upd_ne hb]; exact e1⟩
    · exact .inr ⟨dx, gs, by rw [upd_ne hb]; exact e1, x0.xd r e2, RelE.ext x0 r e3⟩
/-- a tracked object is written -/
theorem Rep.write {a : Addr} {o o0 : Ob} {u : HO} (r : Rep K H G) (h0 : G a = some o0) (new : RepO K (upd H a u) a o) : Rep K (upd H a u) (gup G a o) ∧ Ext H G (upd H a u) (gup G a o) := by
  have ne : ∀ b, G b = none → b ≠ a := fun b g z => by rw [z, h0] at g; cases g
  have x0 : Ext H G (upd H a u) (gup G a o) := fun b v h g => ⟨by rw [upd_ne (ne b g)]; exact h, by rw [gup_ne (ne b g)]; exact g⟩
  refine ⟨fun b v e => ?_, x0⟩
  by_cases hb : b = a
  · subst hb
    rw [gup_same] at e
    cases e
    exact new
  · rw [gup_ne hb] at e
    have q := r b v e
    cases v with
    | lst us => obtain ⟨vs, e1, e2⟩ := q; exact ⟨vs, by rw [upd_ne hb]; exact e1, e2.ext x0 r⟩
    | dct us => obtain ⟨vs, e1, e2⟩ := q; exact ⟨vs, by rw [upd_ne hb]; exact e1, e2.ext x0 r⟩
    | dcr od gs kvs => obtain ⟨e1, e2⟩ := q; exact ⟨by rw [upd_ne hb]; exact e1, e2.ext x0 r⟩
    | ins c fs => obtain ⟨ck, dx, gs, e1, e2⟩ := q; exact ⟨ck, dx, gs, by rw [upd_ne hb]; exact e1, e2.ext x0 r⟩
    | xcp c fs =>
      rcases q with ⟨e0, e1⟩ | ⟨dx, gs, e1, e2, e3⟩
      · exact .inl ⟨e0, by rw [upd_ne hb]; exact e1⟩
      · exact .inr ⟨dx, gs, by rw [upd_ne hb]; exact e1, x0.xd r e2, RelE.ext x0 r e3⟩
end
end UL
set_option maxHeartbeats 2000000
namespace UL
open PySem PySem.Spec PyProof.Rows L2

structure UExc where
  cls : String
  fs : List (String × U)
abbrev UK := U → Gp → Prop
abbrev UX := UExc → Gp → Prop
abbrev UTE := USt → Gp → UK → UX → Prop
abbrev UTT := USt → Gp → (Bool → Gp → Prop) → UX → Prop
abbrev UTA := USt → Gp → (List U → Gp → Prop) → UX → Prop

def ExcR (K : PySem.W.Frag) (H : Hp) (x : UExc) (cls : Value) (d : Option Addr) : Prop :=
  cls = .ref (He.ga K (S x.cls)) ∧ ((x.fs = [] ∧ d = none) ∨ ∃ dx gs, d = some dx ∧ H dx = some (.xd gs) ∧ ∀ f u, fget x.fs f = some u → ∃ v, gs.lookup (S f) = some v ∧ RelU K H u v)

def LV (K : PySem.W.Frag) (H : Hp) (G : Gp) (Q : UK) : VK := fun v H' => ∃ u G', Ext H G H' G' ∧ Rep K H' G' ∧ RelU K H' u v ∧ Q u G'
def LB (K : PySem.W.Frag) (H : Hp) (G : Gp) (Q : Bool → Gp → Prop) : Bool → Hp → Prop := fun b H' => ∃ G', Ext H G H' G' ∧ Rep K H' G' ∧ Q b G'
def LA (K : PySem.W.Frag) (H : Hp) (G : Gp) (Q : List U → Gp → Prop) : List V → Hp → Prop := fun vs H' => ∃ us G', Ext H G H' G' ∧ Rep K H' G' ∧ RelUs K H' us vs ∧ Q us G'
def LX (K : PySem.W.Frag) (H : Hp) (G : Gp) (E : UX) : XK := fun c d H' => ∃ x G', Ext H G H' G' ∧ Rep K H' G' ∧ ExcR K H' x c d ∧ E x G'
section
variable {K : PySem.W.Frag} {H H1 : Hp} {G G1 : Gp}
theorem LV.trans (x : Ext H G H1 G1) {Q : UK} {v : V} {H' : Hp} : LV K H1 G1 Q v H' → LV K H G Q v H' := fun ⟨u, G', e, r, q⟩ => ⟨u, G', x.trans e, r, q⟩
theorem LB.trans (x : Ext H G H1 G1) {Q : Bool → Gp → Prop} {v : Bool} {H' : Hp} : LB K H1 G1 Q v H' → LB K H G Q v H' := fun ⟨G', e, r, q⟩ => ⟨G', x.trans e, r, q⟩
theorem LX.trans (x : Ext H G H1 G1) {E : UX} {c : Value} {d : Option Addr} {H' : Hp} : LX K H1 G1 E c d H' → LX K H G E c d H' := fun ⟨u, G', e, r, q⟩ => ⟨u, G', x.trans e, r, q⟩
theorem LV.here (r : Rep K H G) {Q : UK} {u : U} {v : V} (h : RelU K H u v) (q : Q u G) : LV K H G Q v H := ⟨u, G, .refl _ _, r, h, q⟩
end

structure EU (X : Cx) (W : WX) (e : Expr) (t : UTE) : Prop where
  run : ∀ (pins : List (Addr × Obj)) (s : Shared) (σ : L2.St) (H : Hp) (us : USt) (G : Gp) (Q : UK) (E : UX), Inv X pins σ H s → RelS X.K H us σ → Rep X.K H G → t us G Q E →
    (∀ c d H', LX X.K H G E c d H' → W c d σ H') → wpAny (model X.prog X.w) X.A (eval e X.env) (EP X pins σ (LV X.K H G Q)) X.xe s
structure TU (X : Cx) (W : WX) (e : Expr) (t : UTT) : Prop where
  run : ∀ (pins : List (Addr × Obj)) (s : Shared) (σ : L2.St) (H : Hp) (us : USt) (G : Gp) (Q : Bool → Gp → Prop) (E : UX), Inv X pins σ H s → RelS X.K H us σ → Rep X.K H G → t us G Q E →
    (∀ c d H', LX X.K H G E c d H' → W c d σ H') → wpAny (model X.prog X.w) X.A (isTrue e X.env (eval e X.env)) (TP X pins σ (LB X.K H G Q)) X.xe s
structure AU (X : Cx) (W : WX) (es : List Expr) (t : UTA) : Prop where
  run : ∀ (pos : Pos) (pins : List (Addr × Obj)) (s : Shared) (σ : L2.St) (H : Hp) (us : USt) (G : Gp) (Q : List U → Gp → Prop) (E : UX), Inv X pins σ H s → RelS X.K H us σ → Rep X.K H G → t us G Q E →
    (∀ c d H', LX X.K H G E c d H' → W c d σ H') → wpAny (model X.prog X.w) X.A (spliced (backTo pos (starEach es X.env))) (AP X pins σ (LA X.K H G Q)) X.xe s

def lE (K : PySem.W.Frag) (W : WX) (t : UTE) : TE := fun σ H Q => ∃ us G Qu Eu, RelS K H us σ ∧ Rep K H G ∧ t us G Qu Eu ∧ (∀ v H', LV K H G Qu v H' → Q v H') ∧ ∀ c d H', LX K H G Eu c d H' → W c d σ H'
def lT (K : PySem.W.Frag) (W : WX) (t : UTT) : TT := fun σ H Q => ∃ us G Qu Eu, RelS K H us σ ∧ Rep K H G ∧ t us G Qu Eu ∧ (∀ v H', LB K H G Qu v H' → Q v H') ∧ ∀ c d H', LX K H G Eu c d H' → W c d σ H'
def lA (K : PySem.W.Frag) (W : WX) (t : UTA) : TA := fun σ H Q => ∃ us G Qu Eu, RelS K H us σ ∧ Rep K H G ∧ t us G Qu Eu ∧ (∀ v H', LA K H G Qu v H' → Q v H') ∧ ∀ c d H', LX K H G Eu c d H' → W c d σ H'

section
variable {X : Cx} {W : WX} {e a b : Expr} {es : List Expr} {t ta tb : UTE} {tt : UTT} {tr : UTA} {pos : Pos}
theorem ep_imp {pins : List (Addr × Obj)} {σ : L2.St} {Q Q' : VK} {u : Value} {s : Shared} (h : ∀ v H, Q v H → Q' v H) : EP X pins σ Q u s → EP X pins σ Q' u s := fun ⟨v, H', I, r, q⟩ => ⟨v, H', I, r, h v H' q⟩
theorem EU.pe (h : EU X W e t) : PE X e (lE X.K W t) := ⟨fun pins s σ H Q I ⟨us, G, Qu, Eu, rs, rp, ht, hq, hx⟩ => thn (h.run pins s σ H us G Qu Eu I rs rp ht hx) fun v s' h => ep_imp hq h⟩
theorem EU.of {tv : TE} (h : PE X e tv) (k : ∀ σ H us G Q E, RelS X.K H us σ → Rep X.K H G → t us G Q E → (∀ c d H', LX X.K H G E c d H' → W c d σ H') → tv σ H (LV X.K H G Q)) : EU X W e t :=
  ⟨fun pins s σ H us G Q E I rs rp ht hx => h.run pins s σ H _ I (k σ H us G Q E rs rp ht hx)⟩
theorem TU.pt (h : TU X W e tt) : PT X e (lT X.K W tt) := ⟨fun pins s σ H Q I ⟨us, G, Qu, Eu, rs, rp, ht, hq, hx⟩ => thn (h.run pins s σ H us G Qu Eu I rs rp ht hx) fun v s' ⟨H', I', q⟩ => ⟨H', I', hq _ _ q⟩⟩
theorem TU.of {tv : TT} (h : PT X e tv) (k : ∀ σ H us G Q E, RelS X.K H us σ → Rep X.K H G → tt us G Q E → (∀ c d H', LX X.K H G E c d H' → W c d σ H') → tv σ H (LB X.K H G Q)) : TU X W e tt :=
  ⟨fun pins s σ H us G Q E I rs rp ht hx => h.run pins s σ H _ I (k σ H us G Q E rs rp ht hx)⟩
theorem AU.pa (h : AU X W es tr) : PA X es (lA X.K W tr) := ⟨fun pos pins s σ H Q I ⟨us, G, Qu, Eu, rs, rp, ht, hq, hx⟩ => thn (h.run pos pins s σ H us G Qu Eu I rs rp ht hx) fun v s' ⟨vs, H', I', r, q⟩ => ⟨vs, H', I', r, hq _ _ q⟩⟩
theorem EU.imp {t' : UTE} (h : EU X W e t) (k : ∀ us G Q E, t' us G Q E → t us G Q E) : EU X W e t' := ⟨fun pins s σ H us G Q E I rs rp ht hx => h.run pins s σ H us G Q E I rs rp (k _ _ _ _ ht) hx⟩
theorem TU.imp {t' : UTT} (h : TU X W e tt) (k : ∀ us G Q E, t' us G Q E → tt us G Q E) : TU X W e t' := ⟨fun pins s σ H us G Q E I rs rp ht hx => h.run pins s σ H us G Q E I rs rp (k _ _ _ _ ht) hx⟩

def tUVar (i : Nat) : UTE := fun us G Q _ => match us[i]? with
  | some (some u) => Q u G
  | _ => False
theorem eu_var {i : Nat} {x : Str} (hN : X.N[i]? = some x) (hv : Vis X.env.scope x) (hd : (x == ("__debug__" : Str)) = false) (hcd : (x == ("__classdict__" : Str)) = false) : EU X W (.Name x pos) (tUVar i) :=
  .of (pe_var hN hv hd hcd) fun σ H us G Q E rs rp q _ => by
    unfold tUVar at q
    split at q
    · rename_i u e
      obtain ⟨v, e2, r⟩ := rs.get e
      exact ⟨v, e2, .here rp r q⟩
    · exact q.elim
def tUC (u : U) : UTE := fun _ G Q _ => Q u G
theorem eu_c {u : U} {v : V} (h : PE X e (tC v)) (r : ∀ H, RelU X.K H u v) : EU X W e (tUC u) := .of h fun σ H us G Q E rs rp q _ => LV.here rp (r H) q
theorem eu_int {i j} : EU X W (.Constant (.int i) j pos) (tUC (.int i)) := eu_c pe_int fun _ => rfl
theorem eu_bl {i j} : EU X W (.Constant (.bool i) j pos) (tUC (.bl i)) := eu_c pe_bl fun _ => rfl
theorem eu_non {j} : EU X W (.Constant .none j pos) (tUC .non) := eu_c pe_non fun _ => rfl
theorem eu_str {x : Str} {j} : EU X W (.Constant (.str x) j pos) (tUC (.str x.cps.toList)) := eu_c pe_str fun _ => by
  show V.str x = V.str ⟨x.cps.toList.toArray⟩
  rfl

abbrev UR2 := U → U → Gp → UK → UX → Prop
def OpU (X : Cx) (W : WX) (f : Value → Value → Sem Value) (r : UR2) : Prop :=
  ∀ (pins : List (Addr × Obj)) (s : Shared) (σ : L2.St) (H : Hp) (x y : V) (v u : Value) (a b : U) (G : Gp) (Q : UK) (E : UX), Inv X pins σ H s → RelV x v → RelV y u → RelU X.K H a x → RelU X.K H b y → Rep X.K H G → r a b G Q E →
    (∀ c d H', LX X.K H G E c d H' → W c d σ H') → wpAny (model X.prog X.w) X.A (f v u) (EP X pins σ (LV X.K H G Q)) X.xe s
theorem OpU.of {f : Value → Value → Sem Value} {r : UR2} {rv : R2} (h : OpR X f rv) (k : ∀ x y H a b G Q E, RelU X.K H a x → RelU X.K H b y → Rep X.K H G → r a b G Q E → rv x y H (LV X.K H G Q)) : OpU X W f r :=
  fun pins s σ H x y v u a b G Q E I rx ry ra rb rp hr _ => h pins s σ H x y v u _ I rx ry (k x y H a b G Q E ra rb rp hr)
theorem OpU.imp {f : Value → Value → Sem Value} {r r' : UR2} (h : OpU X W f r) (k : ∀ a b G Q E, r' a b G Q E → r a b G Q E) : OpU X W f r' :=
  fun pins s σ H x y v u a b G Q E I rx ry ra rb rp hr hx => h pins s σ H x y v u a b G Q E I rx ry ra rb rp (k _ _ _ _ _ hr) hx
def tUOp (r : UR2) (ta tb : UTE) : UTE := fun us G Q E => ta us G (fun u G1 => tb us G1 (fun w G2 => r u w G2 Q E) E) E
/-- two expressions in a row -/
theorem bin2 (ha : EU X W a ta) (hb : EU X W b tb) {pins : List (Addr × Obj)} {s : Shared} {σ : L2.St} {H : Hp} {us : USt} {G : Gp} {E : UX} {R : U → U → Gp → Prop} (I : Inv X pins σ H s) (rs : RelS X.K H us σ) (rp : Rep X.K H G)
    (h : ta us G (fun u G1 => tb us G1 (fun w G2 => R u w G2) E) E) (hx : ∀ c d H', LX X.K H G E c d H' → W c d σ H') {Q : Value → Shared → Prop} {f : Value → Value → Sem Value}
    (hf : ∀ v u s2 x y H2 p q G2, Inv X pins σ H2 s2 → RelV x v → RelV y u → Ext H G H2 G2 → Rep X.K H2 G2 → RelS X.K H2 us σ → RelU X.K H2 p x → RelU X.K H2 q y → R p q G2 → (∀ c d H', LX X.K H2 G2 E c d H' → W c d σ H') → wpAny (model X.prog X.w) X.A (f v u) Q X.xe s2) :
    wpAny (model X.prog X.w) X.A (eval a X.env) (fun v s₁ => wpAny (model X.prog X.w) X.A (eval b X.env) (fun u s₂ => wpAny (model X.prog X.w) X.A (f v u) Q X.xe s₂) X.xe s₁) X.xe s := by
  refine thn (ha.run pins s σ H us G _ E I rs rp h hx) fun v s1 ⟨x, H1, I1, r1, p, G1, x1, rp1, rp', q1⟩ => ?_
  refine thn (hb.run pins s1 σ H1 us G1 _ E I1 (rs.ext x1 rp) rp1 q1 fun c d H' h => hx c d H' (h.trans x1)) fun u s2 ⟨y, H2, I2, r2, q, G2, x2, rp2, rq, q2⟩ => ?_
  exact hf v u s2 x y H2 p q G2 I2 r1 r2 (x1.trans x2) rp2 ((rs.ext x1 rp).ext x2 rp1) (rp'.ext x2 rp1) rq q2 fun c d H' h => hx c d H' (h.trans (x1.trans x2))
theorem lv_pins {pins : List (Addr × Obj)} {σ : L2.St} {H H2 : Hp} {G G2 : Gp} {Q : UK} {u : Value} {s : Shared} (x : Ext H G H2 G2) : EP X pins σ (LV X.K H2 G2 Q) u s → EP X pins σ (LV X.K H G Q) u s := ep_imp fun _ _ h => h.trans x
theorem eu_bin {op : Operator} {r : UR2} (ho : OpU X W (binaryOp op) r) (ha : EU X W a ta) (hb : EU X W b tb) : EU X W (.BinOp a op b pos) (tUOp r ta tb) := by
  refine ⟨fun pins s σ H us G Q E I rs rp h hx => ?_⟩
  exact wpAny_BinOp (bin2 ha hb I rs rp h hx fun v u s2 x y H2 p q G2 I2 r1 r2 ex rp2 rs2 rp' rq hr hx2 => thn (ho pins s2 σ H2 x y v u p q G2 Q E I2 r1 r2 rp' rq rp2 hr hx2) fun _ _ h => lv_pins ex h)
theorem eu_cmp {op : CmpOp} {r : UR2} (ho : OpU X W (compareOp op) r) (ha : EU X W a ta) (hb : EU X W b tb) (hm : behindInMarks op b = false) : EU X W (.Compare a [op] [b] pos) (tUOp r ta tb) := by
  refine ⟨fun pins s σ H us G Q E I rs rp h hx => ?_⟩
  exact wpAny_Compare1 (bin2 ha hb I rs rp h hx fun v u s2 x y H2 p q G2 I2 r1 r2 ex rp2 rs2 rp' rq hr hx2 => thn (ho pins s2 σ H2 x y v u p q G2 Q E I2 r1 r2 rp' rq rp2 hr hx2) fun _ _ h => lv_pins ex h) hm
/-- a comparison as a test: its answer is a truth value -/
def kBl (Q : Bool → Gp → Prop) : UK := fun u G => match u with
  | .bl b => Q b G
  | _ => False
theorem tu_cmp {op : CmpOp} {r : UR2} (ho : OpU X W (compareOp op) r) (ha : EU X W a ta) (hb : EU X W b tb) (hm : behindInMarks op b = false) : TU X W (.Compare a [op] [b] pos) (fun us G Q E => tUOp r ta tb us G (kBl Q) E) := by
  refine ⟨fun pins s σ H us G Q E I rs rp h hx => ?_⟩
  refine wpAny_isTrue_Compare1 (thn (bin2 ha hb I rs rp h hx fun v u s2 x y H2 p q G2 I2 r1 r2 ex rp2 rs2 rp' rq hr hx2 => thn (ho pins s2 σ H2 x y v u p q G2 _ E I2 r1 r2 rp' rq rp2 hr hx2) fun _ _ h => lv_pins ex h) fun v s1 h1 => thn h1 fun u s2 h2 => thn h2 fun c s3 h3 => ?_) hm
  obtain ⟨x, H3, I3, rv, u', G3, x3, rp3, ru, q3⟩ := h3
  cases u' with
  | bl b =>
    obtain rfl : x = V.bl b := ru
    cases rv
    exact wpAny_truthy_bool ⟨H3, I3, G3, x3, rp3, q3⟩
  | _ => exact False.elim q3

abbrev UR1 := U → Gp → UK → UX → Prop
def UnU (X : Cx) (W : WX) (f : Value → Sem Value) (r : UR1) : Prop :=
  ∀ (pins : List (Addr × Obj)) (s : Shared) (σ : L2.St) (H : Hp) (x : V) (v : Value) (a : U) (G : Gp) (Q : UK) (E : UX), Inv X pins σ H s → RelV x v → RelU X.K H a x → Rep X.K H G → r a G Q E →
    (∀ c d H', LX X.K H G E c d H' → W c d σ H') → wpAny (model X.prog X.w) X.A (f v) (EP X pins σ (LV X.K H G Q)) X.xe s
theorem UnU.of {f : Value → Sem Value} {r : UR1} {rv : V → Hp → VK → Prop} (h : UnR X f rv) (k : ∀ x H a G Q E, RelU X.K H a x → Rep X.K H G → r a G Q E → rv x H (LV X.K H G Q)) : UnU X W f r :=
  fun pins s σ H x v a G Q E I rx ra rp hr _ => h pins s σ H x v _ I rx (k x H a G Q E ra rp hr)
def tUUn (r : UR1) (ta : UTE) : UTE := fun us G Q E => ta us G (fun u G1 => r u G1 Q E) E
theorem eu_un {op : UnaryOp} {r : UR1} (ho : UnU X W (unaryOp op) r) (ha : EU X W a ta) : EU X W (.UnaryOp op a pos) (tUUn r ta) := by
  refine ⟨fun pins s σ H us G Q E I rs rp h hx => ?_⟩
  refine UnaryOp_ (thn (ha.run pins s σ H us G _ E I rs rp h hx) fun v s1 ⟨x, H1, I1, r1, p, G1, x1, rp1, rp', q1⟩ => ?_)
  exact thn (ho pins s1 σ H1 x v p G1 Q E I1 r1 rp' rp1 q1 fun c d H' h => hx c d H' (h.trans x1)) fun _ _ h => lv_pins x1 h

def TrU (X : Cx) (W : WX) (r : U → Gp → (Bool → Gp → Prop) → UX → Prop) : Prop :=
  ∀ (pins : List (Addr × Obj)) (s : Shared) (σ : L2.St) (H : Hp) (x : V) (v : Value) (a : U) (G : Gp) (Q : Bool → Gp → Prop) (E : UX), Inv X pins σ H s → RelV x v → RelU X.K H a x → Rep X.K H G → r a G Q E →
    (∀ c d H', LX X.K H G E c d H' → W c d σ H') → wpAny (model X.prog X.w) X.A (truthy v) (TP X pins σ (LB X.K H G Q)) X.xe s
/-- a value's truth -/
def tUTru (r : U → Gp → (Bool → Gp → Prop) → UX → Prop) (ta : UTE) : UTT := fun us G Q E => ta us G (fun u G1 => r u G1 Q E) E
theorem tu_val {r : U → Gp → (Bool → Gp → Prop) → UX → Prop} (ht : TrU X W r) (ha : EU X W e ta) (he : ∀ whole, isTrue e X.env whole = (do let v ← whole; standAt e.pos; holding [v] (truthy v))) : TU X W e (tUTru r ta) := by
  refine ⟨fun pins s σ H us G Q E I rs rp h hx => ?_⟩
  refine isTrue_plain (thn (ha.run pins s σ H us G _ E I rs rp h hx) fun v s1 ⟨x, H1, I1, r1, p, G1, x1, rp1, rp', q1⟩ => ?_) (he _)
  exact thn (ht pins s1 σ H1 x v p G1 Q E I1 r1 rp' rp1 q1 fun c d H' h => hx c d H' (h.trans x1)) fun _ _ ⟨H', I', q⟩ => ⟨H', I', q.trans x1⟩
def tUNot (t : UTT) : UTT := fun us G Q E => t us G (fun b G1 => Q (!b) G1) E
theorem tu_not (ha : TU X W a tt) : TU X W (.UnaryOp .Not a pos) (tUNot tt) := by
  refine ⟨fun pins s σ H us G Q E I rs rp h hx => ?_⟩
  exact thn (pt_not ha.pt |>.run pins s σ H (LB X.K H G Q) I ⟨us, G, _, E, rs, rp, h, fun b H' q => q, hx⟩) fun _ _ q => q
end
end UL
set_option maxHeartbeats 2000000
namespace UL
open PySem PySem.Spec PyProof.Rows L2

theorem lim_line {n : Nat} (h : n ≤ 1000000) : n ≤ sizeLine := by rw [sizeLine_eq]; omega
theorem lim_lt {n : Nat} (h : n < 1000000) : n < sizeLine := by rw [sizeLine_eq]; omega

section
variable {K : PySem.W.Frag} {H : Hp} {G : Gp}
theorem RelU.tup_of {us : List U} {v : V} (h : RelU K H (.tup us) v) : ∃ a vs, v = .ref a ∧ SqT K H a vs ∧ RelUs K H us vs := h
theorem Rep.lst {a : Addr} {us : List U} (r : Rep K H G) (h : G a = some (.lst us)) : ∃ vs, H a = some (.lst vs) ∧ RelUs K H us vs := r a _ h
theorem Rep.dct {a : Addr} {us : List (U × U)} (r : Rep K H G) (h : G a = some (.dct us)) : ∃ vs, H a = some (.dK vs) ∧ RelKV K H us vs := r a _ h
theorem Rep.ins {a : Addr} {c : String} {fs : List (String × U)} (r : Rep K H G) (h : G a = some (.ins c fs)) : ∃ dx gs, H a = some (.ins (He.ga K (S c)) dx gs) ∧ RelF K H (He.ga K (S c)) fs gs := (r a _ h).2
end

section
variable {K : PySem.W.Frag} {H : Hp} {G : Gp} {Q : UK}
theorem lv_int (r : Rep K H G) {i : Int} (q : Q (.int i) G) : LV K H G Q (.int i) H := LV.here (u := .int i) r rfl q
theorem lv_bl (r : Rep K H G) {i : Bool} (q : Q (.bl i) G) : LV K H G Q (.bl i) H := LV.here (u := .bl i) r rfl q
theorem lv_str (r : Rep K H G) {l : List Nat} (q : Q (.str l) G) : LV K H G Q (.str ⟨l.toArray⟩) H := LV.here (u := .str l) r rfl q
theorem lv_old (r : Rep K H G) {us : List U} {a : Addr} {vs : List V} (t : SqT K H a vs) (h : RelUs K H us vs) (q : Q (.tup us) G) : LV K H G Q (.ref a) H := LV.here (u := .tup us) r ⟨a, vs, rfl, t, h⟩ q
theorem lv_tup (r : Rep K H G) {us : List U} {vs : List V} (h : RelUs K H us vs) {p : Addr} (hp : H p = none) (q : Q (.tup us) G) : LV K H G Q (.ref p) (upd H p (.tup vs)) := by
  obtain ⟨r1, x1⟩ := r.laid0 (u := .tup vs) hp
  exact ⟨.tup us, G, x1, r1, ⟨p, vs, rfl, .of upd_same, h.ext x1 r⟩, q⟩
theorem lv_lst (r : Rep K H G) {us : List U} {vs : List V} (h : RelUs K H us vs) {p : Addr} (hp : H p = none) (q : Q (.ref p) (gup G p (.lst us))) : LV K H G Q (.ref p) (upd H p (.lst vs)) := by
  have x0 : Ext H G (upd H p (.lst vs)) G := (r.laid0 hp).2
  obtain ⟨r1, x1⟩ := r.laid (u := .lst vs) (o := .lst us) hp ⟨vs, upd_same, h.ext x0 r⟩
  exact ⟨.ref p, _, x1, r1, rfl, q⟩
theorem lv_setl (r : Rep K H G) {a : Addr} {o : Ob} (ho : G a = some o) {us : List U} {vs : List V} (h : RelUs K H us vs) {u : U} {v : V} (hu : RelU K H u v) (q : Q u (gup G a (.lst us))) : LV K H G Q v (upd H a (.lst vs)) := by
  have ne : ∀ b, G b = none → b ≠ a := fun b g z => by rw [z, ho] at g; cases g
  have x0 : Ext H G (upd H a (.lst vs)) (gup G a (.lst us)) := fun b w h g => ⟨by rw [upd_ne (ne b g)]; exact h, by rw [gup_ne (ne b g)]; exact g⟩
  obtain ⟨r1, x1⟩ := r.write (u := .lst vs) (o := .lst us) ho ⟨vs, upd_same, h.ext x0 r⟩
  exact ⟨u, _, x1, r1, hu.ext x1 r, q⟩
end

mutual
inductive Dat (G : Gp) : U → PyData → Prop
  | non : Dat G .non .none
  | bl (b : Bool) : Dat G (.bl b) (.bool b)
  | int (i : Int) : Dat G (.int i) (.int i)
  | str (l : List Nat) : Dat G (.str l) (.str ⟨l.toArray⟩)
  | tup {us : List U} {ds : List PyData} : Dats G us ds → Dat G (.tup us) (.tuple ds)
  | lst {a : Addr} {us : List U} {ds : List PyData} : G a = some (.lst us) → Dats G us ds → Dat G (.ref a) (.list ds)
inductive Dats (G : Gp) : List U → List PyData → Prop
  | nil : Dats G [] []
  | cons {u : U} {us : List U} {d : PyData} {ds : List PyData} : Dat G u d → Dats G us ds → Dats G (u :: us) (d :: ds)
end
section
variable {K : PySem.W.Frag} {H : Hp} {G : Gp}
mutual
theorem Dat.dp (r : Rep K H G) : ∀ (d : PyData) (u : U) (v : V), Dat G u d → RelU K H u v → Dp K H v d
  | _, _, v, .non, e => by rw [show v = .non from e]; exact .non
  | _, _, v, .bl b, e => by rw [show v = .bl b from e]; exact .bl b
  | _, _, v, .int i, e => by rw [show v = .int i from e]; exact .int i
  | _, _, v, .str l, e => by rw [show v = .str ⟨l.toArray⟩ from e]; exact .str _
  | .tuple ds, _, v, .tup h, e => by
    obtain ⟨a, vs, rfl, ht, hr⟩ := e.tup_of
    exact .tup ht (Dats.dp r ds _ vs h hr)
  | .list ds, _, v, .lst hg h, e => by
    rw [show v = .ref _ from e]
    obtain ⟨vs, e1, hr⟩ := r.lst hg
    exact .lst (.of e1) (Dats.dp r ds _ vs h hr)
theorem Dats.dp (r : Rep K H G) : ∀ (ds : List PyData) (us : List U) (vs : List V), Dats G us ds → RelUs K H us vs → DpAll K H vs ds
  | [], _, vs, .nil, e => by
    have e' : vs = [] := e
    subst e'
    exact .nil
  | d :: ds, _, vs, .cons h t, e => by
    obtain ⟨v, ws, rfl, hv, hs⟩ := e
    exact .cons (Dat.dp r d _ v h hv) (Dats.dp r ds _ ws t hs)
end
end

def addU : UR2 := fun x y G Q _ => match x, y with
  | .int i, .int j => Q (.int (i + j)) G
  | .str a, .str b => a.length + b.length ≤ 1000000 ∧ Q (.str (a ++ b)) G
  | .tup a, .tup b => a.length + b.length ≤ 1000000 ∧ Q (.tup (a ++ b)) G
  | .ref a, .ref b => ∃ xs ys, G a = some (.lst xs) ∧ G b = some (.lst ys) ∧ xs.length + ys.length ≤ 1000000 ∧ ∀ p, G p = none → Q (.ref p) (gup G p (.lst (xs ++ ys)))
  | _, _ => False
def subU : UR2 := fun x y G Q _ => match x, y with
  | .int i, .int j => Q (.int (i - j)) G
  | _, _ => False
/-- one factor below 2^64 -/
def mulU : UR2 := fun x y G Q _ => match x, y with
  | .int i, .int j => CMul i j ∧ Q (.int (i * j)) G
  | .tup a, .int k => a ≠ [] ∧ a.length ≤ 1000 ∧ 0 ≤ k ∧ k ≤ 1000 ∧ Q (.tup (List.replicate k.toNat a).flatten) G
  | .ref a, .int k => ∃ xs, G a = some (.lst xs) ∧ -(2 ^ 63) ≤ k ∧ k < 2 ^ 63 ∧ xs.length * k.toNat ≤ 1000000 ∧ ∀ p, G p = none → Q (.ref p) (gup G p (.lst (List.replicate k.toNat xs).flatten))
  | _, _ => False
def modU : UR2 := fun x y G Q _ => match x, y with
  | .int i, .int j => 0 < j ∧ Q (.int (i % j)) G
  | _, _ => False
def fdivU : UR2 := fun x y G Q _ => match x, y with
  | .int i, .int j => (0 < j ∧ j < 1073741824) ∧ Q (.int (i / j)) G
  | _, _ => False
def powU : UR2 := fun x y G Q _ => match x, y with
  | .int i, .int j => CPow i j ∧ Q (.int (i ^ j.toNat)) G
  | _, _ => False
section
variable {X : Cx} {W : WX}
theorem str_app {a b : List Nat} : (⟨a.toArray⟩ : Str) ++ (⟨b.toArray⟩ : Str) = ⟨(a ++ b).toArray⟩ := by
  show (⟨a.toArray ++ b.toArray⟩ : Str) = _
  simp
theorem ou_add : OpU X W (binaryOp .Add) addU := by
  intro pins s σ H x y v u a b G Q E I rx ry ra rb rp hr hx
  cases a <;> cases b <;> try exact hr.elim
  case int.int i j => exact op_add pins s σ H x y v u _ I rx ry ⟨i, j, ra, rb, lv_int rp hr⟩
  case str.str i j =>
    refine op_add_str pins s σ H x y v u _ I rx ry ⟨_, _, ra, rb, ?_, ?_⟩
    · show i.toArray.size + j.toArray.size ≤ sizeLine
      simp only [List.size_toArray]
      exact lim_line hr.1
    · exact (by rw [str_app]; exact lv_str rp hr.2)
  case tup.tup i j =>
    obtain ⟨pa, vs, ea, ta, sa⟩ := ra.tup_of
    obtain ⟨pb, ws, eb, tb, sb⟩ := rb.tup_of
    refine op_catA pins s σ H x y v u _ I rx ry ⟨pa, pb, vs, ws, ea, eb, ta, tb, by rw [sa.length, sb.length]; exact lim_line hr.1, fun e => ?_, fun ne e => ?_, fun n1 n2 p hp => ?_⟩
    · subst e
      have : i = [] := List.eq_nil_of_length_eq_zero sa.length.symm
      subst this
      exact lv_old rp tb sb (by simpa using hr.2)
    · subst e
      have : j = [] := List.eq_nil_of_length_eq_zero sb.length.symm
      subst this
      exact lv_old rp ta sa (by simpa using hr.2)
    · exact lv_tup rp (sa.append sb) hp hr.2
  case ref.ref i j =>
    obtain ⟨xs, ys, g1, g2, hl, hr⟩ := hr
    obtain ⟨vs, e1, r1⟩ := rp.lst g1
    obtain ⟨ws, e2, r2⟩ := rp.lst g2
    exact op_cat pins s σ H x y v u _ I rx ry ⟨i, j, vs, ws, ra, rb, e1, e2, by rw [r1.length, r2.length]; exact lim_line hl, fun p hp => lv_lst rp (r1.append r2) hp (hr p (rp.fresh hp))⟩
theorem ou_sub : OpU X W (binaryOp .Sub) subU := by
  intro pins s σ H x y v u a b G Q E I rx ry ra rb rp hr hx
  cases a <;> cases b <;> try exact hr.elim
  case int.int i j => exact op_sub pins s σ H x y v u _ I rx ry ⟨i, j, ra, rb, lv_int rp hr⟩
theorem ou_mod : OpU X W (binaryOp .Mod) modU := by
  intro pins s σ H x y v u a b G Q E I rx ry ra rb rp hr hx
  cases a <;> cases b <;> try exact hr.elim
  case int.int i j => exact op_mod pins s σ H x y v u _ I rx ry ⟨i, j, ra, rb, hr.1, lv_int rp hr.2⟩
theorem ou_pow : OpU X W (binaryOp .Pow) powU := by
  intro pins s σ H x y v u a b G Q E I rx ry ra rb rp hr hx
  cases a <;> cases b <;> try exact hr.elim
  case int.int i j => exact op_pow pins s σ H x y v u _ I rx ry ⟨i, j, ra, rb, hr.1, lv_int rp hr.2⟩
end
end UL
set_option maxHeartbeats 400000
namespace UL
open PySem PySem.Spec PyProof.Rows L2
theorem tup_mul1 (l : Addr) (items : Array Value) (n : Nat) (dd : Option Addr) (sl : Array (Option Value)) (u : Tok) :
    Meets (Builtin.«tuple.__mul__» ⟨[.ref l, .int 1 u], []⟩) (fun _ R s => s.heap.get? l = some { cls := .type "tuple", dict := dd, data := .seq items n, slots := sl } ∧ R (.ok (.ret (.ref l))) s) :=
  .of_wp fun prog w A R s h => by
    obtain ⟨hp, g, d, tk, os⟩ := s
    obtain ⟨hl, h⟩ := h
    have f1 := AutoSeq1.idx_int
    wp_walk using wpAny_loadPart' hl
    exact ⟨_, rfl, h⟩
theorem tup_mul0 (l : Addr) (items : Array Value) (n : Nat) (dd : Option Addr) (sl : Array (Option Value)) (x : Int) (u : Tok) (c0 : (decide (x < -(2 ^ 63)) || decide (x ≥ 2 ^ 63)) = false) (c1 : (items.isEmpty || x == 1) = false) (c2 : (decide (x ≤ 0) || items.isEmpty) = true) :
    Meets (Builtin.«tuple.__mul__» ⟨[.ref l, .int x u], []⟩) (fun _ R s => s.heap.get? l = some { cls := .type "tuple", dict := dd, data := .seq items n, slots := sl } ∧
      R (.ok (.ret (Value.ref s.heap.objs.size))) { s with heap := s.heap.push { cls := Value.type "tuple", data := Data.seq #[] }, toks := s.toks }) :=
  .of_wp fun prog w A R s h => by
    obtain ⟨hp, g, d, tk, os⟩ := s
    obtain ⟨hl, h⟩ := h
    have f1 := AutoSeq1.idx_int
    wp_walk using wpAny_loadPart' hl
    repeat (first
      | (refine wpAny_ite_false (decide_eq_false (by rw [c0]; exact Bool.false_ne_true)) ?_; wp_walk using wpAny_loadPart' hl)
      | (refine wpAny_ite_false (decide_eq_false (by rw [c1]; exact Bool.false_ne_true)) ?_; wp_walk using wpAny_loadPart' hl)
      | (refine wpAny_ite_true (decide_eq_true c2) ?_; wp_walk using wpAny_loadPart' hl))
    exact ⟨_, rfl, h⟩
section
variable {X : Cx} {W : WX}
/-- t * 0, t * 1 -/
def rRep01 (K : PySem.W.Frag) : R2 := fun x y H Q => ∃ l xs, x = .ref l ∧ SqT K H l xs ∧ xs ≠ [] ∧ ((y = .int 1 ∧ Q (.ref l) H) ∨ (y = .int 0 ∧ ∀ p, H p = none → Q (.ref p) (upd H p (.tup []))))
theorem op_rep01 : OpR X (binaryOp .Mult) (rRep01 X.K) := by
  intro pins s σ H x y v u Q I rx ry h
  obtain ⟨l, xs, rfl, hT, hne, h⟩ := h
  cases rx
  obtain ⟨its, r, ⟨⟨cls, dd, data, sl⟩, ho, hc, n, hd⟩, hs⟩ := I.tuple hT
  simp only at hc hd
  subst hc hd
  have hn : its ≠ [] := fun e => hne (by
    rw [e] at r
    exact List.eq_nil_of_length_eq_zero r.length)
  have hi : its.toArray.isEmpty = false := by
    cases its with
    | nil => exact absurd rfl hn
    | cons a b => rfl
  rcases h with ⟨rfl, q⟩ | ⟨rfl, q⟩
  · obtain ⟨t, rfl⟩ := ry
    exact wpAny_binaryOp_repeat_ref (T := "tuple") (U := "int") (by decide) ⟨_, ho, rfl⟩ (fun s' => typeIs_int s' 1 t) noFill_tuple_mul F.fills_int_mul F.slot_int_rmul repeat_tuple F.slot_int_index.lookup
      (call_meets F.slot_int_rmul (typeIs_int s 1 t) F.entry_int_rmul (F.args_int_rmul_2 _ _) (int_rmul_tuple 1 t l its.toArray n dd sl)
        ⟨ho, rfl, ⟨_, ho, rfl⟩, call_meets F.slot_tuple_mul ⟨_, ho, rfl⟩ F.entry_tuple_mul (F.args_tuple_mul_2 _ _) (tup_mul1 l its.toArray n dd sl t) ⟨ho, .ref l, H, I, rfl, q⟩⟩)
  · obtain ⟨t, rfl⟩ := ry
    refine wpAny_binaryOp_repeat_ref (T := "tuple") (U := "int") (by decide) ⟨_, ho, rfl⟩ (fun s' => typeIs_int s' 0 t) noFill_tuple_mul F.fills_int_mul F.slot_int_rmul repeat_tuple F.slot_int_index.lookup
      (call_meets F.slot_int_rmul (typeIs_int s 0 t) F.entry_int_rmul (F.args_int_rmul_2 _ _) (int_rmul_tuple 0 t l its.toArray n dd sl)
        ⟨ho, rfl, ⟨_, ho, rfl⟩, call_meets F.slot_tuple_mul ⟨_, ho, rfl⟩ F.entry_tuple_mul (F.args_tuple_mul_2 _ _) (tup_mul0 l its.toArray n dd sl 0 t (by decide) (by rw [hi]; rfl) (by rfl)) ⟨ho, ?_⟩⟩)
    refine ⟨.ref s.heap.objs.size, _, I.laid (t' := s.toks) (o := .tup []) (fun b ob q => Heap.get?_push_of_some _ q) (Nat.le_refl _) ?_, rfl, q _ (I.hok.fresh (Nat.le_refl _))⟩
    exact ⟨Nat.zero_le _, [], .nil, IsTup.new _ _⟩
theorem ou_mul : OpU X W (binaryOp .Mult) mulU := by
  intro pins s σ H x y v u a b G Q E I rx ry ra rb rp hr hx
  cases a <;> cases b <;> try exact hr.elim
  case int.int i j => exact op_mul pins s σ H x y v u _ I rx ry ⟨i, j, ra, rb, hr.1, lv_int rp hr.2⟩
  case tup.int i k =>
    obtain ⟨hne, hl, k0, k1, q⟩ := hr
    obtain ⟨pa, vs, ea, ta, sa⟩ := ra.tup_of
    have hv : vs ≠ [] := fun e => hne (by
      rw [e] at sa
      exact List.eq_nil_of_length_eq_zero sa.length.symm)
    by_cases h0 : k = 0
    · subst h0
      refine op_rep01 pins s σ H x y v u _ I rx ry ⟨pa, vs, ea, ta, hv, .inr ⟨rb, fun p hp => ?_⟩⟩
      exact lv_tup (us := []) rp rfl hp q
    · by_cases h1 : k = 1
      · subst h1
        refine op_rep01 pins s σ H x y v u _ I rx ry ⟨pa, vs, ea, ta, hv, .inl ⟨rb, ?_⟩⟩
        exact lv_old rp ta sa (by simpa using q)
      · exact op_repT pins s σ H x y v u _ I rx ry ⟨pa, k, vs, ea, rb, ta, hv, by omega, k1, by rw [sa.length]; exact hl, fun p hp => lv_tup rp (sa.rep _) hp q⟩
  case ref.int i k =>
    obtain ⟨xs, g1, k0, k1, hl, q⟩ := hr
    obtain ⟨vs, e1, r1⟩ := rp.lst g1
    exact op_rep pins s σ H x y v u _ I rx ry ⟨i, k, vs, ra, rb, e1, k0, k1, by rw [r1.length]; exact lim_line hl, fun p hp => lv_lst rp (r1.rep _) hp (q p (rp.fresh hp))⟩
end
end UL
set_option maxHeartbeats 400000
namespace UL
open PySem PySem.Spec PyProof.Rows L2

def ueq : U → U → Bool
  | .non, .non => true
  | .bl a, .bl b => a == b
  | .bl a, .int b => (if a then 1 else 0) == b
  | .int a, .bl b => a == (if b then 1 else 0)
  | .int a, .int b => a == b
  | .str a, .str b => a == b
  | _, _ => false
def uflat : U → Bool
  | .non => true
  | .bl _ => true
  | .int _ => true
  | .str _ => true
  | _ => false
theorem arr_eq {a b : List Nat} : ((⟨a.toArray⟩ : Str) == (⟨b.toArray⟩ : Str)) = (a == b) := by
  by_cases h : a = b
  · subst h
    rw [beq_self_eq_true, beq_self_eq_true]
  · have h2 : ¬ (⟨a.toArray⟩ : Str) = (⟨b.toArray⟩ : Str) := fun e => h (by
      have e' : a.toArray = b.toArray := congrArg Str.cps e
      simpa using e')
    rw [beq_eq_false_iff_ne.mpr h, beq_eq_false_iff_ne.mpr h2]
section
variable {K : PySem.W.Frag} {H : Hp} {G : Gp}
theorem flat_of {u : U} {v : V} (r : RelU K H u v) (h : uflat u = true) : flatV v = true := by
  cases u with
  | non => rw [show v = .non from r]; rfl
  | bl b => rw [show v = .bl b from r]; rfl
  | int b => rw [show v = .int b from r]; rfl
  | str b => rw [show v = .str ⟨b.toArray⟩ from r]; rfl
  | _ => cases h
theorem eqV_of {u w : U} {v z : V} (r : RelU K H u v) (q : RelU K H w z) (h : uflat u = true) (h2 : uflat w = true) : eqV v z = ueq u w := by
  cases u <;> first | (cases h; done) | skip
  all_goals (cases w <;> first | (cases h2; done) | skip)
  all_goals (have r' := r; have q' := q; simp only [RelU] at r' q'; subst r' q'; first | rfl | exact arr_eq)
theorem flatAll_of : ∀ {us : List U} {vs : List V}, RelUs K H us vs → us.all uflat = true → vs.all flatV = true
  | [], _, e, _ => by
    have e' : _ = ([] : List V) := e
    subst e'
    rfl
  | u :: us, _, ⟨v, ws, rfl, h, t⟩, a => by
    rw [List.all_cons, Bool.and_eq_true] at a
    rw [List.all_cons, flat_of h a.1, flatAll_of t a.2]
    rfl
theorem inV_of {x : U} {z : V} (rx : RelU K H x z) (fx : uflat x = true) : ∀ {us : List U} {vs : List V}, RelUs K H us vs → us.all uflat = true → inV z vs = us.any fun y => ueq y x
  | [], _, e, _ => by
    have e' : _ = ([] : List V) := e
    subst e'
    rfl
  | u :: us, _, ⟨v, ws, rfl, h, t⟩, a => by
    rw [List.all_cons, Bool.and_eq_true] at a
    have ih := inV_of rx fx t a.2
    unfold inV at ih ⊢
    rw [List.any_cons, List.any_cons, eqV_of h rx a.1 fx, ih]
end

def eqU : UR2 := fun x y G Q _ => match x, y with
  | .int i, .int j => Q (.bl (decide (i = j))) G
  | .str i, .str j => Q (.bl (decide (i = j))) G
  | .non, .non => Q (.bl true) G
  | x, y => ∃ d e, Dat G x d ∧ Dat G y e ∧ SeqAt.shaped d = true ∧ SeqAt.shaped e = true ∧ Q (.bl (PyData.eqv d e)) G
def neU : UR2 := fun x y G Q _ => match x, y with
  | .int i, .int j => Q (.bl (!decide (i = j))) G
  | .str i, .str j => Q (.bl (!decide (i = j))) G
  | .non, .non => Q (.bl false) G
  | x, y => ∃ d e, Dat G x d ∧ Dat G y e ∧ SeqAt.shaped d = true ∧ SeqAt.shaped e = true ∧ Q (.bl (!PyData.eqv d e)) G
def ltU : UR2 := fun x y G Q _ => match x, y with
  | .int i, .int j => Q (.bl (decide (i < j))) G
  | .str i, .str j => Q (.bl (decide (i < j))) G
  | _, _ => False
def leU : UR2 := fun x y G Q _ => match x, y with
  | .int i, .int j => Q (.bl (decide (i ≤ j))) G
  | .str i, .str j => Q (.bl (!decide (j < i))) G
  | _, _ => False
def gtU : UR2 := fun x y G Q _ => match x, y with
  | .int i, .int j => Q (.bl (decide (j < i))) G
  | .str i, .str j => Q (.bl (decide (j < i))) G
  | _, _ => False
def geU : UR2 := fun x y G Q _ => match x, y with
  | .int i, .int j => Q (.bl (decide (j ≤ i))) G
  | .str i, .str j => Q (.bl (!decide (i < j))) G
  | _, _ => False
def inU : UR2 := fun x y G Q _ => match x, y with
  | .str c, .str l => ∃ k, c = [k] ∧ Q (.bl (decide (k ∈ l))) G
  | x, .tup us => uflat x = true ∧ us.all uflat = true ∧ Q (.bl (us.any fun y => ueq y x)) G
  | x, .ref a => ∃ us, G a = some (.lst us) ∧ uflat x = true ∧ us.all uflat = true ∧ Q (.bl (us.any fun y => ueq y x)) G
  | _, _ => False
def notInU : UR2 := fun x y G Q _ => match x, y with
  | .str c, .str l => ∃ k, c = [k] ∧ Q (.bl (!decide (k ∈ l))) G
  | x, .tup us => uflat x = true ∧ us.all uflat = true ∧ Q (.bl (!us.any fun y => ueq y x)) G
  | x, .ref a => ∃ us, G a = some (.lst us) ∧ uflat x = true ∧ us.all uflat = true ∧ Q (.bl (!us.any fun y => ueq y x)) G
  | _, _ => False
def noDict : Ob → Bool
  | .lst _ => true
  | .ins _ _ => true
  | _ => false
section
variable {X : Cx} {W : WX}
theorem dec_strU {i j : List Nat} : decide (V.str ⟨i.toArray⟩ = V.str ⟨j.toArray⟩) = decide (i = j) := by
  by_cases h : i = j
  · subst h
    simp
  · have h2 : ¬ V.str ⟨i.toArray⟩ = V.str ⟨j.toArray⟩ := fun e => h (by
      have e' : i.toArray = j.toArray := congrArg Str.cps (V.str.inj e)
      simpa using e')
    rw [decide_eq_false h, decide_eq_false h2]
theorem dec_intU {i j : Int} : decide (V.int i = V.int j) = decide (i = j) := by
  by_cases h : i = j
  · subst h
    simp
  · have h2 : ¬ V.int i = V.int j := fun e => h (V.int.inj e)
    rw [decide_eq_false h, decide_eq_false h2]
theorem ou_eq (hu : X.A.units + 64 < cLine) : OpU X W (compareOp .Eq) eqU := by
  intro pins s σ H x y v u a b G Q E I rx ry ra rb rp hr hx
  unfold eqU at hr
  split at hr
  · exact op_eq pins s σ H x y v u _ I rx ry (by
      rw [show x = .int _ from ra, show y = .int _ from rb]
      exact ⟨rfl, by rw [dec_intU]; exact lv_bl rp hr⟩)
  · exact op_eq pins s σ H x y v u _ I rx ry (by
      rw [show x = .str _ from ra, show y = .str _ from rb]
      exact ⟨rfl, by rw [dec_strU]; exact lv_bl rp hr⟩)
  · exact op_eq pins s σ H x y v u _ I rx ry (by
      rw [show x = .non from ra, show y = .non from rb]
      exact ⟨rfl, lv_bl rp hr⟩)
  · obtain ⟨d, e, h1, h2, h3, h4, q⟩ := hr
    exact op_eqD hu pins s σ H x y v u _ I rx ry ⟨d, e, h1.dp rp _ _ _ ra, h2.dp rp _ _ _ rb, h3, h4, lv_bl rp q⟩
theorem ou_ne (hu : X.A.units + 64 < cLine) : OpU X W (compareOp .NotEq) neU := by
  intro pins s σ H x y v u a b G Q E I rx ry ra rb rp hr hx
  unfold neU at hr
  split at hr
  · exact op_ne pins s σ H x y v u _ I rx ry (by
      rw [show x = .int _ from ra, show y = .int _ from rb]
      exact ⟨rfl, by rw [dec_intU]; exact lv_bl rp hr⟩)
  · exact op_ne pins s σ H x y v u _ I rx ry (by
      rw [show x = .str _ from ra, show y = .str _ from rb]
      exact ⟨rfl, by rw [dec_strU]; exact lv_bl rp hr⟩)
  · exact op_ne pins s σ H x y v u _ I rx ry (by
      rw [show x = .non from ra, show y = .non from rb]
      exact ⟨rfl, lv_bl rp hr⟩)
  · obtain ⟨d, e, h1, h2, h3, h4, q⟩ := hr
    exact op_neD hu pins s σ H x y v u _ I rx ry ⟨d, e, h1.dp rp _ _ _ ra, h2.dp rp _ _ _ rb, h3, h4, lv_bl rp q⟩
theorem ou_lt : OpU X W (compareOp .Lt) ltU := by
  intro pins s σ H x y v u a b G Q E I rx ry ra rb rp hr hx
  cases a <;> cases b <;> try exact hr.elim
  case int.int i j => exact op_lt pins s σ H x y v u _ I rx ry ⟨i, j, ra, rb, lv_bl rp hr⟩
  case str.str i j => exact op_lt_str pins s σ H x y v u _ I rx ry ⟨_, _, ra, rb, lv_bl rp hr⟩
theorem ou_gt : OpU X W (compareOp .Gt) gtU := by
  intro pins s σ H x y v u a b G Q E I rx ry ra rb rp hr hx
  cases a <;> cases b <;> try exact hr.elim
  case int.int i j => exact op_gt pins s σ H x y v u _ I rx ry ⟨i, j, ra, rb, lv_bl rp hr⟩
  case str.str i j => exact op_gt_str pins s σ H x y v u _ I rx ry ⟨_, _, ra, rb, lv_bl rp hr⟩
theorem ou_ge : OpU X W (compareOp .GtE) geU := by
  intro pins s σ H x y v u a b G Q E I rx ry ra rb rp hr hx
  cases a <;> cases b <;> try exact hr.elim
  case int.int i j => exact op_ge pins s σ H x y v u _ I rx ry ⟨i, j, ra, rb, lv_bl rp hr⟩
  case str.str i j => exact op_ge_str pins s σ H x y v u _ I rx ry ⟨_, _, ra, rb, lv_bl rp hr⟩
theorem inU_cases {neg : Bool} {x y : U} {v z : V} {H : Hp} {G : Gp} {Q : VK} (rp : Rep X.K H G) (ra : RelU X.K H x v) (rb : RelU X.K H y z) {us : List U}
    (hy : y = .tup us ∨ ∃ a, y = .ref a ∧ G a = some (.lst us)) (fx : uflat x = true) (fu : us.all uflat = true) (q : Q (.bl (if neg then !us.any fun y => ueq y x else us.any fun y => ueq y x)) H) : rIn X.K neg v z H Q := by
  rcases hy with rfl | ⟨a, rfl, hg⟩
  · obtain ⟨p, vs, rfl, t, r⟩ := rb.tup_of
    exact ⟨p, vs, rfl, .inr t, flat_of ra fx, flatAll_of r fu, by rw [inV_of ra fx r fu]; exact q⟩
  · obtain ⟨vs, e, r⟩ := rp.lst hg
    rw [show z = .ref a from rb]
    exact ⟨a, vs, rfl, .inl (.of e), flat_of ra fx, flatAll_of r fu, by rw [inV_of ra fx r fu]; exact q⟩
theorem ou_in : OpU X W (compareOp .In) inU := by
  intro pins s σ H x y v u a b G Q E I rx ry ra rb rp hr hx
  cases b with
  | str l =>
    cases a with
    | str c =>
      obtain ⟨k, rfl, q⟩ := hr
      exact op_in_sign pins s σ H x y v u _ I rx ry ⟨k, _, ra, rb, lv_bl rp q⟩
    | _ => exact hr.elim
  | tup us =>
    have hr' : uflat a = true ∧ us.all uflat = true ∧ Q (.bl (us.any fun y => ueq y a)) G := by cases a <;> exact hr
    exact op_in_seq pins s σ H x y v u _ I rx ry (inU_cases rp ra rb (.inl rfl) hr'.1 hr'.2.1 (lv_bl rp hr'.2.2))
  | ref p =>
    have hr' : ∃ us, G p = some (.lst us) ∧ uflat a = true ∧ us.all uflat = true ∧ Q (.bl (us.any fun y => ueq y a)) G := by cases a <;> exact hr
    obtain ⟨us, g, h1, h2, q⟩ := hr'
    exact op_in_seq pins s σ H x y v u _ I rx ry (inU_cases rp ra rb (.inr ⟨p, rfl, g⟩) h1 h2 (lv_bl rp q))
  | _ => exact (show False by cases a <;> exact hr).elim
def truU (u : U) (G : Gp) (Q : Bool → Gp → Prop) : Prop := match u with
  | .non => Q false G
  | .bl b => Q b G
  | .int i => Q (i != 0) G
  | .str l => l.length ≤ 1000000 ∧ Q (!l.isEmpty) G
  | .tup us => Q (!us.isEmpty) G
  | .ref a => (∃ us, G a = some (.lst us) ∧ Q (!us.isEmpty) G) ∨ ∃ kvs, G a = some (.dct kvs) ∧ Q (!kvs.isEmpty) G
  | _ => False
theorem isEmptyUs {K : PySem.W.Frag} {H : Hp} {us : List U} {vs : List V} (h : RelUs K H us vs) : vs.isEmpty = us.isEmpty := by
  cases us with
  | nil =>
    have e' : vs = [] := h
    subst e'
    rfl
  | cons u us =>
    obtain ⟨v, ws, rfl, _⟩ := h
    rfl
theorem isEmptyKv {K : PySem.W.Frag} {H : Hp} {us : List (U × U)} {vs : List (Key × V)} (h : RelKV K H us vs) : vs.isEmpty = us.isEmpty := by
  cases us with
  | nil =>
    have e' : vs = [] := h
    subst e'
    rfl
  | cons u us =>
    obtain ⟨k, u⟩ := u
    obtain ⟨kk, v, ws, rfl, _⟩ := h
    rfl
theorem tr_u : TrU X W (fun u G Q _ => truU u G Q) := by
  intro pins s σ H x v a G Q E I rx ra rp hr hx
  have key : ∀ k, TruV X.K x H k → Q k G → wpAny (model X.prog X.w) X.A (truthy v) (TP X pins σ (LB X.K H G Q)) X.xe s := fun k t q => tru_ok pins s σ H x v _ I rx ⟨k, t, G, .refl _ _, rp, q⟩
  cases a with
  | non =>
    rw [show x = .non from ra] at key
    exact key false rfl hr
  | bl b =>
    rw [show x = .bl b from ra] at key
    exact key b rfl hr
  | int i =>
    rw [show x = .int i from ra] at key
    exact key _ rfl hr
  | str l =>
    rw [show x = .str ⟨l.toArray⟩ from ra] at key
    refine key _ ⟨?_, ?_⟩ hr.2
    · show l.toArray.size ≤ sizeLine
      rw [List.size_toArray]
      exact lim_line hr.1
    · show (!l.isEmpty) = (((l.toArray.size : Nat) : Int) != 0)
      rw [List.size_toArray]
      cases l with
      | nil => rfl
      | cons c l =>
        have : (((c :: l).length : Nat) : Int) ≠ 0 := by simp only [List.length_cons]; omega
        rw [bne_iff_ne.mpr this]
        rfl
  | tup us =>
    obtain ⟨p, vs, rfl, t, r⟩ := ra.tup_of
    exact key _ (.inr (.inl ⟨vs, t, by rw [isEmptyUs r]⟩)) hr
  | ref a =>
    rw [show x = .ref a from ra] at key
    rcases hr with ⟨us, g, q⟩ | ⟨kvs, g, q⟩
    · obtain ⟨vs, e, r⟩ := rp.lst g
      exact key _ (.inl ⟨vs, .of e, by rw [isEmptyUs r]⟩) q
    · obtain ⟨vs, e, r⟩ := rp.dct g
      exact key _ (.inr (.inr ⟨vs, e, by rw [isEmptyKv r]⟩)) q
  | _ => exact hr.elim
def negU : UR1 := fun u G Q _ => match u with
  | .int i => Q (.int (-i)) G
  | _ => False
theorem nu_neg : UnU X W (unaryOp .USub) negU := by
  intro pins s σ H x v a G Q E I rx ra rp hr hx
  cases a with
  | int i => exact un_neg pins s σ H x v _ I rx ⟨i, ra, lv_int rp hr⟩
  | _ => exact hr.elim
end
end UL
set_option maxHeartbeats 400000
namespace UL
open PySem PySem.Spec PyProof.Rows L2

section
variable {X : Cx} {W : WX} {e a b c o : Expr} {es : List Expr} {t ta tb : UTE} {tt tt' : UTT} {tr : UTA} {pos : Pos}
def tUAnd (ta tb : UTE) : UTE := fun us G Q E => ta us G (fun u G1 => match u with
  | .bl true => tb us G1 Q E
  | .bl false => Q (.bl false) G1
  | _ => False) E
def tBAnd (ta tb : UTT) : UTT := fun us G Q E => ta us G (fun b G1 => bif b then tb us G1 Q E else Q false G1) E
def tBOr (ta tb : UTT) : UTT := fun us G Q E => ta us G (fun b G1 => bif b then Q true G1 else tb us G1 Q E) E
def tUNil : UTA := fun _ G Q _ => Q [] G
def tUCons (ta : UTE) (tr : UTA) : UTA := fun us G Q E => ta us G (fun u G1 => tr us G1 (fun ws G2 => Q (u :: ws) G2) E) E
theorem au_nil : AU X W [] tUNil := ⟨fun _ _ s σ H us G Q E I rs rp h _ => Calls.spliced_nil ⟨[], H, I, .nil, [], G, .refl _ _, rp, rfl, h⟩⟩
theorem au_cons (ha : EU X W e t) (hr : AU X W es tr) (hs : starEach (e :: es) X.env = (false, eval e X.env) :: starEach es X.env) : AU X W (e :: es) (tUCons t tr) := by
  refine ⟨fun pos pins s σ H us G Q E I rs rp h hx => ?_⟩
  rw [hs]
  show wpAny _ _ (spliced ((false, eval e X.env) :: backTo pos (starEach es X.env))) _ _ s
  refine Calls.spliced_cons (thn (ha.run pins s σ H us G _ E I rs rp h hx) fun u s1 ⟨x, H1, I1, r1, p, G1, x1, rp1, ru, q1⟩ => ?_)
  exact thn (hr.run pos pins s1 σ H1 us G1 _ E I1 (rs.ext x1 rp) rp1 q1 fun c d H' h' => hx c d H' (h'.trans x1)) fun us' s2 ⟨xs, H2, I2, r2, ps, G2, x2, rp2, rs2, q2⟩ =>
    ⟨x :: xs, H2, I2, .cons r1 r2, p :: ps, G2, x1.trans x2, rp2, ⟨x, xs, rfl, ru.ext x2 rp1, rs2⟩, q2⟩
def tUTup (t : UTA) : UTE := fun us G Q E => t us G (fun ws G1 => ws.length ≤ 1000000 ∧ Q (.tup ws) G1) E
def tULst (t : UTA) : UTE := fun us G Q E => t us G (fun ws G1 => ws.length ≤ 1000000 ∧ ∀ p, G1 p = none → Q (.ref p) (gup G1 p (.lst ws))) E
theorem eu_tup {x1} (h : AU X W es tr) : EU X W (.Tuple es x1 pos) (tUTup tr) :=
  .of (pe_tup h.pa) fun σ H us G Q E rs rp ht hx => ⟨us, G, _, E, rs, rp, ht, fun vs H1 ⟨ws, G1, x1, r1, rw', q1⟩ => ⟨by rw [rw'.length]; exact lim_line q1.1, fun p hp => (lv_tup r1 rw' hp q1.2).trans x1⟩, hx⟩
theorem eu_lst (h : AU X W es tr) : EU X W (.List es pos) (tULst tr) :=
  .of (pe_lst h.pa) fun σ H us G Q E rs rp ht hx => ⟨us, G, _, E, rs, rp, ht, fun vs H1 ⟨ws, G1, x1, r1, rw', q1⟩ => ⟨by rw [rw'.length]; exact lim_line q1.1, fun p hp => (lv_lst r1 rw' hp (q1.2 p (r1.fresh hp))).trans x1⟩, hx⟩

def IxU (X : Cx) (W : WX) (r : UR2) : Prop :=
  ∀ (value slice : Expr) (pins : List (Addr × Obj)) (s : Shared) (σ : L2.St) (H : Hp) (x y : V) (v u : Value) (a b : U) (G : Gp) (Q : UK) (E : UX), Inv X pins σ H s → RelV x v → RelV y u → RelU X.K H a x → RelU X.K H b y → Rep X.K H G → r a b G Q E →
    (∀ c d H', LX X.K H G E c d H' → W c d σ H') → subscripted slice false v u = operate [v, u] (getItem v u) → wpAny (model X.prog X.w) X.A (subscriptTail value slice v u) (EP X pins σ (LV X.K H G Q)) X.xe s
theorem eu_ix {r : UR2} (hr : IxU X W r) (ha : EU X W a ta) (hb : EU X W b tb) (hs : PlainIx b) : EU X W (.Subscript a b pos) (tUOp r ta tb) := by
  refine ⟨fun pins s σ H us G Q E I rs rp h hx => ?_⟩
  exact Subscript_ (bin2 ha hb I rs rp h hx fun v u s2 x y H2 p q G2 I2 r1 r2 ex rp2 rs2 rp' rq hq hx2 => thn (hr a b pins s2 σ H2 x y v u p q G2 Q E I2 r1 r2 rp' rq rp2 hq hx2 (hs _ _)) fun _ _ h => lv_pins ex h)
theorem atI_rel {K : PySem.W.Frag} {H : Hp} {us : List U} {vs : List V} {i : Int} {u : U} (r : RelUs K H us vs) (h : atI us i = some u) : ∃ v, atI vs i = some v ∧ RelU K H u v := by
  unfold atI at h ⊢
  rw [r.length]
  cases hi : ixN us.length i with
  | none =>
    rw [hi] at h
    cases h
  | some j =>
    rw [hi] at h
    exact r.get h
def ixU0 : UR2 := fun x y G Q _ => match x, y with
  | .ref a, .int i => ∃ us u, G a = some (.lst us) ∧ atI us i = some u ∧ Q u G
  | .tup us, .int i => ∃ u, atI us i = some u ∧ Q u G
  | .rol us, .int i => ∃ u, atI us i = some u ∧ Q u G
  | .str l, .int i => l.length ≤ 1000000 ∧ ∃ c, atI l i = some c ∧ Q (.str [c]) G
  | _, _ => False
theorem iu0 : IxU X W ixU0 := by
  intro value slice pins s σ H x y v u a b G Q E I rx ry ra rb rp hr hx hs
  cases b with
  | int i =>
    cases a with
    | ref p =>
      obtain ⟨us, w, g, hi, q⟩ := hr
      obtain ⟨vs, e, r⟩ := rp.lst g
      obtain ⟨z, hz, rz⟩ := atI_rel r hi
      exact ix_list value slice pins s σ H x y v u _ I rx ry ⟨p, vs, i, z, ra, rb, .of e, hz, .here rp rz q⟩ hs
    | tup us =>
      obtain ⟨w, hi, q⟩ := hr
      obtain ⟨p, vs, e, t, r⟩ := ra.tup_of
      obtain ⟨z, hz, rz⟩ := atI_rel r hi
      exact ix_tup value slice pins s σ H x y v u _ I rx ry ⟨p, vs, i, z, e, rb, t, hz, .here rp rz q⟩ hs
    | rol us =>
      obtain ⟨w, hi, q⟩ := hr
      obtain ⟨p, vs, e, t, r⟩ := (show ∃ a vs, x = .ref a ∧ RoL X.K H a vs ∧ RelUs X.K H us vs from ra)
      obtain ⟨z, hz, rz⟩ := atI_rel r hi
      exact ix_list value slice pins s σ H x y v u _ I rx ry ⟨p, vs, i, z, e, rb, t.sq, hz, .here rp rz q⟩ hs
    | str l =>
      obtain ⟨hl, c, hi, q⟩ := hr
      exact ix_str value slice pins s σ H x y v u _ I rx ry ⟨_, i, c, ra, rb, by show l.toArray.size ≤ sizeLine; rw [List.size_toArray]; exact lim_line hl, hi, lv_str (l := [c]) rp q⟩ hs
    | _ => exact hr.elim
  | _ => exact (show False by cases a <;> exact hr).elim

abbrev UTO := USt → Gp → (Option Int → Gp → Prop) → UX → Prop
def LO (K : PySem.W.Frag) (H : Hp) (G : Gp) (Q : Option Int → Gp → Prop) : Option Int → Hp → Prop := fun o H' => ∃ G', Ext H G H' G' ∧ Rep K H' G' ∧ Q o G'
def lO (K : PySem.W.Frag) (W : WX) (t : UTO) : TO := fun σ H Q => ∃ us G Qu Eu, RelS K H us σ ∧ Rep K H G ∧ t us G Qu Eu ∧ (∀ v H', LO K H G Qu v H' → Q v H') ∧ ∀ c d H', LX K H G Eu c d H' → W c d σ H'
def tUNoPart : UTO := fun _ G Q _ => Q none G
def tUPart (t : UTE) : UTO := fun us G Q E => t us G (fun u G1 => match u with
  | .int i => Q (some i) G1
  | _ => False) E
theorem pou_none : PO X none (lO X.K W tUNoPart) := ⟨fun pins s σ H Q I ⟨us, G, Qu, Eu, rs, rp, h, hq, _⟩ => po_none.run pins s σ H Q I (hq none H ⟨G, .refl _ _, rp, h⟩)⟩
theorem pou_some (h : EU X W e t) : PO X (some e) (lO X.K W (tUPart t)) := by
  refine ⟨fun pins s σ H Q I ⟨us, G, Qu, Eu, rs, rp, ht, hq, hx⟩ => (po_some h.pe).run pins s σ H Q I ⟨us, G, _, Eu, rs, rp, ht, fun v H' ⟨u, G', x1, r1, ru, q1⟩ => ?_, hx⟩⟩
  cases u with
  | int i => exact ⟨i, ru, hq _ _ ⟨G', x1, r1, q1⟩⟩
  | _ => exact False.elim q1
def cutU (xs : List U) (lo hi : Option Int) : List U := (xs.drop (HT.sIx xs.length 0 lo)).take (HT.sIx xs.length xs.length hi - HT.sIx xs.length 0 lo)
def cutN (xs : List Nat) (lo hi : Option Int) : List Nat := (xs.drop (HT.sIx xs.length 0 lo)).take (HT.sIx xs.length xs.length hi - HT.sIx xs.length 0 lo)
theorem RelUs.cut {K : PySem.W.Frag} {H : Hp} {us : List U} {vs : List V} (r : RelUs K H us vs) (lo hi : Option Int) : RelUs K H (cutU us lo hi) (cutV vs lo hi) := by
  unfold cutU cutV
  rw [r.length]
  exact (r.drop _).take _
def slU (x : U) (lo hi : Option Int) (G : Gp) (Q : UK) : Prop := match x with
  | .ref a => ∃ us, G a = some (.lst us) ∧ ∀ p, G p = none → Q (.ref p) (gup G p (.lst (cutU us lo hi)))
  | .rol us => ∀ p, G p = none → Q (.ref p) (gup G p (.lst (cutU us lo hi)))
  | .tup us => Q (.tup (cutU us lo hi)) G
  | .str l => l.length ≤ 1000000 ∧ Q (.str (cutN l lo hi)) G
  | _ => False
def tUSl (te : UTE) (tl th : UTO) : UTE := fun us G Q E => te us G (fun x G1 => tl us G1 (fun l G2 => th us G2 (fun h G3 => slU x l h G3 Q) E) E) E
theorem eu_slice {p2 : Pos} {lo hi : Option Expr} {tl th : UTO} (he : EU X W e t) (hl : PO X lo (lO X.K W tl)) (hh : PO X hi (lO X.K W th)) : EU X W (.Subscript e (.Slice lo hi none p2) pos) (tUSl t tl th) := by
  refine .of (pe_slice (sl_list.or (sl_tupA.or sl_str)) he.pe hl hh) fun σ H us G Q E rs rp h hx => ?_
  refine ⟨us, G, _, E, rs, rp, h, fun v H1 ⟨u, G1, x1, r1, ru, q1⟩ => ?_, hx⟩
  have hx1 : ∀ c d H', LX X.K H1 G1 E c d H' → W c d σ H' := fun c d H' h' => hx c d H' (h'.trans x1)
  refine ⟨us, G1, _, E, rs.ext x1 rp, r1, q1, fun l H2 ⟨G2, x2, r2, q2⟩ => ?_, hx1⟩
  refine ⟨us, G2, _, E, (rs.ext x1 rp).ext x2 r1, r2, q2, fun h' H3 ⟨G3, x3, r3, q3⟩ => ?_, fun c d H' h' => hx1 c d H' (h'.trans x2)⟩
  have ru3 := (ru.ext x2 r1).ext x3 r2
  have ex := (x1.trans x2).trans x3
  cases u with
  | ref a =>
    obtain ⟨us', g, q⟩ := q3
    obtain ⟨vs, e1, r⟩ := r3.lst g
    exact .inl ⟨a, vs, ru3, .of e1, fun p hp => (lv_lst r3 (r.cut l h') hp (q p (r3.fresh hp))).trans ex⟩
  | rol us' =>
    obtain ⟨p, vs, e1, t1, r⟩ := (show ∃ a vs, v = .ref a ∧ RoL X.K H3 a vs ∧ RelUs X.K H3 us' vs from ru3)
    exact .inl ⟨p, vs, e1, t1.sq, fun p hp => (lv_lst r3 (r.cut l h') hp (q3 p (r3.fresh hp))).trans ex⟩
  | tup us' =>
    obtain ⟨p, vs, e1, t1, r⟩ := ru3.tup_of
    have hl := r.length
    refine .inr (.inl ⟨p, vs, e1, t1, fun hw => ?_, fun _ p hp => (lv_tup r3 (r.cut l h') hp q3).trans ex⟩)
    refine (lv_old r3 t1 r ?_).trans ex
    have hc : cutU us' l h' = us' := by
      unfold cutU
      rw [hl] at hw
      rw [hw.1, hw.2]
      simp
    have q4 : Q (.tup (cutU us' l h')) G3 := q3
    rw [hc] at q4
    exact q4
  | str x =>
    refine .inr (.inr ⟨_, ru3, ?_, ?_⟩)
    · show x.toArray.size ≤ sizeLine
      rw [List.size_toArray]
      exact lim_line q3.1
    · have q4 := (lv_str (l := cutN x l h') r3 q3.2).trans ex
      have hz : L2.cutS ⟨x.toArray⟩ l h' = ⟨(cutN x l h').toArray⟩ := by
        unfold L2.cutS cutN
        show (⟨((x.toArray.toList.drop (HT.sIx x.toArray.size 0 l)).take (HT.sIx x.toArray.size x.toArray.size h' - HT.sIx x.toArray.size 0 l)).toArray⟩ : Str) = _
        rw [List.size_toArray]
      rw [hz]
      exact q4
  | _ => exact False.elim q3
end

abbrev URC := List U → Gp → UK → UX → Prop
def CallU (X : Cx) (W : WX) (f : Value) (r : URC) : Prop :=
  ∀ (pins : List (Addr × Obj)) (s : Shared) (σ : L2.St) (H : Hp) (xs : List V) (us : List Value) (as : List U) (G : Gp) (Q : UK) (E : UX), Inv X pins σ H s → Vals xs us → RelUs X.K H as xs → Rep X.K H G → r as G Q E →
    (∀ c d H', LX X.K H G E c d H' → W c d σ H') → wpAny (model X.prog X.w) X.A (call f us) (EP X pins σ (LV X.K H G Q)) X.xe s
theorem CallU.of {X : Cx} {W : WX} {f : Value} {r : URC} {rv : List V → Hp → VK → Prop} (h : CallR X f rv) (k : ∀ xs H as G Q E, RelUs X.K H as xs → Rep X.K H G → r as G Q E → rv xs H (LV X.K H G Q)) : CallU X W f r :=
  fun pins s σ H xs us as G Q E I rx ra rp hr _ => h pins s σ H xs us _ I rx (k xs H as G Q E ra rp hr)
def tUCall (r : URC) (t : UTA) : UTE := fun us G Q E => t us G (fun as G1 => r as G1 Q E) E
section
variable {X : Cx} {W : WX} {x : Str} {p pos : Pos} {e : Expr} {es : List Expr} {tr : UTA} {id T : String} {r : URC}
theorem eu_callB (hc : CallU X W (.builtin id) r) (hg : Gl X x) (hm : X.mg x = none) (hv : bootBuiltins x = some (.builtin id)) (ha : AU X W (e :: es) tr) (hn : x ≠ "__name__") (hdb : (x == ("__debug__" : Str)) = false)
    (he : starEach (e :: es) X.env = (false, eval e X.env) :: starEach es X.env) (hpl : (backTo pos (starEach es X.env)).any (·.1) = false) : EU X W (.Call (.Name x p) (e :: es) [] pos) (tUCall r tr) := by
  refine ⟨fun pins s σ H us G Q E I rs rp h hx => ?_⟩
  refine wpAny_Call_Name_kw (ld_blt I hg hm hv ?_ hn hdb)
  refine PyProof.Rows.callWith_builtin1 (thn (ha.run pos pins s σ H us G _ E I rs rp h hx) fun us' s1 ⟨vs, H1, I1, r1, as, G1, x1, rp1, ra, q1⟩ => ?_) he hpl
  exact thn (hc pins s1 σ H1 vs us' as G1 Q E I1 r1 ra rp1 q1 fun c d H' h' => hx c d H' (h'.trans x1)) fun _ _ h => lv_pins x1 h
theorem eu_callTy (hc : CallU X W (.type T) r) (hg : Gl X x) (hm : X.mg x = none) (hv : bootBuiltins x = some (.type T)) (ha : AU X W (e :: es) tr) (hn : x ≠ "__name__") (hdb : (x == ("__debug__" : Str)) = false)
    (he : starEach (e :: es) X.env = (false, eval e X.env) :: starEach es X.env) (hpl : (backTo pos (starEach es X.env)).any (·.1) = false) : EU X W (.Call (.Name x p) (e :: es) [] pos) (tUCall r tr) := by
  refine ⟨fun pins s σ H us G Q E I rs rp h hx => ?_⟩
  refine wpAny_Call_Name_kw (ld_blt I hg hm hv ?_ hn hdb)
  refine PyProof.Rows.callWith_type1 (thn (ha.run pos pins s σ H us G _ E I rs rp h hx) fun us' s1 ⟨vs, H1, I1, r1, as, G1, x1, rp1, ra, q1⟩ => ?_) he hpl
  exact thn (hc pins s1 σ H1 vs us' as G1 Q E I1 r1 ra rp1 q1 fun c d H' h' => hx c d H' (h'.trans x1)) fun _ _ h => lv_pins x1 h
def MtU (X : Cx) (W : WX) (id : String) (r : U → List U → Gp → UK → UX → Prop) : Prop :=
  ∀ (pins : List (Addr × Obj)) (s : Shared) (σ : L2.St) (H : Hp) (x : V) (xs : List V) (v : Value) (us : List Value) (a : U) (as : List U) (G : Gp) (Q : UK) (E : UX), Inv X pins σ H s → RelV x v → Vals xs us → RelU X.K H a x → RelUs X.K H as xs → Rep X.K H G → r a as G Q E →
    (∀ c d H', LX X.K H G E c d H' → W c d σ H') → wpAny (model X.prog X.w) X.A (call (.builtin id) (v :: us)) (EP X pins σ (LV X.K H G Q)) X.xe s
/-- of which builtin type a value is -/
def tyU (T : String) (x : U) (G : Gp) : Prop := match x with
  | .str _ => T = "str"
  | .int _ => T = "int"
  | .ref p => (T = "list" ∧ ∃ us, G p = some (.lst us)) ∨ (T = "dict" ∧ ∃ us, G p = some (.dct us))
  | _ => False
theorem tyU_v {K : PySem.W.Frag} {H : Hp} {G : Gp} {T : String} {a : U} {x : V} (rp : Rep K H G) (r : RelU K H a x) (h : tyU T a G) : tyV K T x H := by
  cases a with
  | str l => rw [show x = .str ⟨l.toArray⟩ from r]; exact h
  | int l => rw [show x = .int l from r]; exact h
  | ref p =>
    rw [show x = .ref p from r]
    rcases h with ⟨rfl, us, g⟩ | ⟨rfl, us, g⟩
    · obtain ⟨vs, e, _⟩ := rp.lst g
      exact .inl ⟨rfl, vs, .of e⟩
    · obtain ⟨vs, e, _⟩ := rp.dct g
      exact .inr (.inr (.inl ⟨rfl, .inl ⟨vs, e⟩⟩))
  | _ => exact h.elim
variable {o : Expr} {to : UTE} {name : Str} {apos cpos : Pos} {rm : U → List U → Gp → UK → UX → Prop}
def tUBM (T : String) (rm : U → List U → Gp → UK → UX → Prop) (to : UTE) (t : UTA) : UTE := fun us G Q E => to us G (fun u G1 => tyU T u G1 ∧ t us G1 (fun as G2 => rm u as G2 Q E) E) E
theorem eu_bm (pa : PlainAttrs T) (slot : Slot T name id) (hty : typeOf (.builtin id) = pure (.type "method_descriptor")) (hm : MtU X W id rm) (ho : EU X W o to) (ha : AU X W (e :: es) tr)
    (hbase : attributeBase o name X.env (eval o X.env) = eval o X.env)
    (hfew : ((backTo cpos (starEach (e :: es) X.env)).all (fun x => !x.1) && (backToKw cpos (keywordEach [] X.env)).all (fun x => x.1.isSome)
      && decide ((e :: es).length + ([] : List Keyword).length + (if ([] : List Keyword).isEmpty then 0 else 1) < 30)) = true)
    (hline : (apos.endLine == cpos.line) = true) (hs : starEach (e :: es) X.env = (false, eval e X.env) :: starEach es X.env) (hplain : (backTo cpos (starEach es X.env)).any (·.1) = false) :
    EU X W (.Call (.Attribute o name apos) (e :: es) [] cpos) (tUBM T rm to tr) := by
  refine ⟨fun pins s σ H us G Q E I rs rp h hx => ?_⟩
  refine wpAny_Call_method_late hbase hfew hline rfl (thn (ho.run pins s σ H us G _ E I rs rp h hx) fun v s1 ⟨x, H1, I1, r1, u, G1, x1, rp1, ru, ty, q1⟩ => ?_)
  obtain ⟨h1, h2⟩ := tyV_is I1 r1 (tyU_v rp1 ru ty)
  refine ⟨T, id, pa, slot, hty, h1, h2, ?_⟩
  have hx1 : ∀ c d H', LX X.K H1 G1 E c d H' → W c d σ H' := fun c d H' h' => hx c d H' (h'.trans x1)
  have hA := ha.run cpos pins s1 σ H1 us G1 _ E I1 (rs.ext x1 rp) rp1 q1 hx1
  rw [hs] at hA ⊢
  refine Calls.callWith_builtin (by show (false || (backTo cpos (starEach es X.env)).any (·.1)) = false; rw [hplain] <;> rfl) (Calls.evalArgs_plain ?_)
  exact thn hA fun us' s2 ⟨vs, H2, I2, r2, as, G2, x2, rp2, ra, q2⟩ => thn (hm pins s2 σ H2 x vs v us' u as G2 Q E I2 r1 r2 (ru.ext x2 rp1) ra rp2 q2 fun c d H' h' => hx1 c d H' (h'.trans x2)) fun _ _ h => lv_pins (x1.trans x2) h
end
end UL
set_option maxHeartbeats 400000
namespace UL
open PySem PySem.Spec PyProof.Rows L2

structure UEnds where
  nx : USt → Gp → Prop
  rt : UK
  bk : USt → Gp → Prop
  ct : USt → Gp → Prop
  ex : UExc → USt → Gp → Prop
abbrev UTS := UEnds → USt → Gp → Prop
def LS (K : PySem.W.Frag) (H : Hp) (G : Gp) (P : USt → Gp → Prop) : L2.St → Hp → Prop := fun σ' H' => ∃ us' G', Ext H G H' G' ∧ Rep K H' G' ∧ RelS K H' us' σ' ∧ P us' G'
def LXS (K : PySem.W.Frag) (H : Hp) (G : Gp) (E : UExc → USt → Gp → Prop) : WX := fun c d σ' H' => ∃ x us' G', Ext H G H' G' ∧ Rep K H' G' ∧ RelS K H' us' σ' ∧ ExcR K H' x c d ∧ E x us' G'
def lD (K : PySem.W.Frag) (H : Hp) (G : Gp) (D : UEnds) : Ends := { nx := LS K H G D.nx, rt := LV K H G D.rt, bk := LS K H G D.bk, ct := LS K H G D.ct }
theorem LS.trans {K : PySem.W.Frag} {H H1 : Hp} {G G1 : Gp} (x : Ext H G H1 G1) {P : USt → Gp → Prop} {σ' : L2.St} {H' : Hp} : LS K H1 G1 P σ' H' → LS K H G P σ' H' := fun ⟨us, G', e, r⟩ => ⟨us, G', x.trans e, r⟩
theorem LXS.trans {K : PySem.W.Frag} {H H1 : Hp} {G G1 : Gp} (x : Ext H G H1 G1) {E : UExc → USt → Gp → Prop} {c : Value} {d : Option Addr} {σ' : L2.St} {H' : Hp} : LXS K H1 G1 E c d σ' H' → LXS K H G E c d σ' H' := fun ⟨y, us, G', e, r⟩ => ⟨y, us, G', x.trans e, r⟩
theorem LXS.of {K : PySem.W.Frag} {H : Hp} {G : Gp} {E : UExc → USt → Gp → Prop} {c : Value} {d : Option Addr} {us : USt} {σ : L2.St} {H' : Hp} (rs : RelS K H us σ) (rp : Rep K H G) : LX K H G (fun x G' => E x us G') c d H' → LXS K H G E c d σ H' :=
  fun ⟨x, G', e, r, q, h⟩ => ⟨x, us, G', e, r, rs.ext e rp, q, h⟩
structure SU (X : Cx) (W : WX) (st : Stmt) (t : UTS) : Prop where
  run : ∀ (pins : List (Addr × Obj)) (s : Shared) (σ : L2.St) (H : Hp) (us : USt) (G : Gp) (D : UEnds), Inv X pins σ H s → RelS X.K H us σ → Rep X.K H G → t D us G → (∀ c d σ' H', LXS X.K H G D.ex c d σ' H' → W c d σ' H') →
    wpAny (model X.prog X.w) X.A (exec st X.env) (SP X pins (lD X.K H G D)) X.xe s
structure SsU (X : Cx) (W : WX) (st : List Stmt) (t : UTS) : Prop where
  run : ∀ (pins : List (Addr × Obj)) (s : Shared) (σ : L2.St) (H : Hp) (us : USt) (G : Gp) (D : UEnds), Inv X pins σ H s → RelS X.K H us σ → Rep X.K H G → t D us G → (∀ c d σ' H', LXS X.K H G D.ex c d σ' H' → W c d σ' H') →
    wpAny (model X.prog X.w) X.A (execs st X.env) (SP X pins (lD X.K H G D)) X.xe s
def lS (K : PySem.W.Frag) (W : WX) (t : UTS) : TS := fun D σ H => ∃ us G Du, RelS K H us σ ∧ Rep K H G ∧ t Du us G ∧ (∀ σ' H', LS K H G Du.nx σ' H' → D.nx σ' H') ∧ (∀ v H', LV K H G Du.rt v H' → D.rt v H') ∧ (∀ σ' H', LS K H G Du.bk σ' H' → D.bk σ' H') ∧ (∀ σ' H', LS K H G Du.ct σ' H' → D.ct σ' H') ∧
  ∀ c d σ' H', LXS K H G Du.ex c d σ' H' → W c d σ' H'
theorem sp_imp {X : Cx} {pins : List (Addr × Obj)} {D D' : Ends} {f : Flow} {s : Shared} (h1 : ∀ σ H, D.nx σ H → D'.nx σ H) (h2 : ∀ v H, D.rt v H → D'.rt v H) (h3 : ∀ σ H, D.bk σ H → D'.bk σ H) (h4 : ∀ σ H, D.ct σ H → D'.ct σ H) : SP X pins D f s → SP X pins D' f s := by
  intro h
  cases f with
  | next => obtain ⟨σ', H', I, q⟩ := h; exact ⟨σ', H', I, h1 _ _ q⟩
  | ret v => obtain ⟨x, σ', H', I, r, q⟩ := h; exact ⟨x, σ', H', I, r, h2 _ _ q⟩
  | brk => obtain ⟨σ', H', I, q⟩ := h; exact ⟨σ', H', I, h3 _ _ q⟩
  | cont => obtain ⟨σ', H', I, q⟩ := h; exact ⟨σ', H', I, h4 _ _ q⟩
theorem sp_trans {X : Cx} {pins : List (Addr × Obj)} {H H1 : Hp} {G G1 : Gp} {D : UEnds} {f : Flow} {s : Shared} (x : Ext H G H1 G1) : SP X pins (lD X.K H1 G1 D) f s → SP X pins (lD X.K H G D) f s :=
  sp_imp (fun _ _ h => h.trans x) (fun _ _ h => h.trans x) (fun _ _ h => h.trans x) (fun _ _ h => h.trans x)
section
variable {X : Cx} {W : WX} {st : Stmt} {rest : List Stmt} {t u : UTS} {e : Expr} {te : UTE} {pos : Pos}
theorem SU.ps (h : SU X W st t) : PS X st (lS X.K W t) := ⟨fun pins s σ H D I ⟨us, G, Du, rs, rp, ht, h1, h2, h3, h4, hx⟩ => thn (h.run pins s σ H us G Du I rs rp ht hx) fun f s' q => sp_imp h1 h2 h3 h4 q⟩
theorem SsU.pss (h : SsU X W rest t) : PSs X rest (lS X.K W t) := ⟨fun pins s σ H D I ⟨us, G, Du, rs, rp, ht, h1, h2, h3, h4, hx⟩ => thn (h.run pins s σ H us G Du I rs rp ht hx) fun f s' q => sp_imp h1 h2 h3 h4 q⟩
theorem SU.of {tv : TS} (h : PS X st tv) (k : ∀ σ H us G D, RelS X.K H us σ → Rep X.K H G → t D us G → (∀ c d σ' H', LXS X.K H G D.ex c d σ' H' → W c d σ' H') → tv (lD X.K H G D) σ H) : SU X W st t :=
  ⟨fun pins s σ H us G D I rs rp ht hx => h.run pins s σ H _ I (k σ H us G D rs rp ht hx)⟩
theorem SU.imp {t' : UTS} (h : SU X W st t) (k : ∀ D us G, t' D us G → t D us G) : SU X W st t' := ⟨fun pins s σ H us G D I rs rp ht hx => h.run pins s σ H us G D I rs rp (k _ _ _ ht) hx⟩
def tUNext : UTS := fun D us G => D.nx us G
def tUSeq (t u : UTS) : UTS := fun D us G => t { D with nx := u D } us G
theorem ssu_nil : SsU X W [] tUNext := ⟨fun pins s σ H us G D I rs rp h _ => wpAny_execs_nil ⟨σ, H, I, us, G, .refl _ _, rp, rs, h⟩⟩
theorem ssu_cons (h1 : SU X W st t) (h2 : SsU X W rest u) : SsU X W (st :: rest) (tUSeq t u) := by
  refine ⟨fun pins s σ H us G D I rs rp h hx => ?_⟩
  refine wpAny_execs_cons (thn (h1.run pins s σ H us G { D with nx := u D } I rs rp h hx) fun f s1 q => ?_)
  cases f with
  | next =>
    obtain ⟨σ', H', I', us', G', x1, rp', rs', q⟩ := q
    exact thn (h2.run pins s1 σ' H' us' G' D I' rs' rp' q fun c d σ2 H2 h' => hx c d σ2 H2 (h'.trans x1)) fun _ _ q => sp_trans x1 q
  | ret v => exact q
  | brk => exact q
  | cont => exact q
def tUDrop (te : UTE) : UTS := fun D us G => te us G (fun _ G1 => D.nx us G1) (fun x G1 => D.ex x us G1)
theorem su_expr (he : EU X W e te) (hs : swapsWith e none pos.line X.env = pure false) : SU X W (.Expr e pos) (tUDrop te) :=
  .of (ps_expr he.pe hs) fun σ H us G D rs rp h hx => ⟨us, G, _, _, rs, rp, h, fun v H' ⟨u, G1, x1, r1, _, q⟩ => ⟨us, G1, x1, r1, rs.ext x1 rp, q⟩, fun c d H' h' => hx c d σ H' (LXS.of rs rp h')⟩
def tURet (te : UTE) : UTS := fun D us G => te us G D.rt (fun x G1 => D.ex x us G1)
theorem su_ret (he : EU X W e te) : SU X W (.Return (some e) pos) (tURet te) :=
  .of (ps_ret he.pe) fun σ H us G D rs rp h hx => ⟨us, G, _, _, rs, rp, h, fun v H' h => h, fun c d H' h' => hx c d σ H' (LXS.of rs rp h')⟩
abbrev UTG := U → USt → Gp → (USt → Gp → Prop) → UX → Prop
abbrev UTGs := List U → USt → Gp → (USt → Gp → Prop) → UX → Prop
/-- the slots outside sl are as they were -/
def Out (sl : List Nat) (σ σ' : L2.St) : Prop := σ'.length = σ.length ∧ ∀ i, i ∉ sl → σ'[i]? = σ[i]?
theorem Out.refl (sl : List Nat) (σ : L2.St) : Out sl σ σ := ⟨rfl, fun _ _ => rfl⟩
theorem Out.trans {sl sl' : List Nat} {σ σ1 σ2 : L2.St} (a : Out sl σ σ1) (b : Out sl' σ1 σ2) : Out (sl ++ sl') σ σ2 :=
  ⟨b.1.trans a.1, fun i hi => (b.2 i fun z => hi (List.mem_append_right _ z)).trans (a.2 i fun z => hi (List.mem_append_left _ z))⟩
theorem Out.set (i : Nat) (σ : L2.St) (v : Option V) : Out [i] σ (σ.set i v) := ⟨List.length_set, fun j hj => List.getElem?_set_ne fun z => hj (by simp [z])⟩
structure GU (X : Cx) (W : WX) (tg : Expr) (t : UTG) (sl : List Nat) : Prop where
  run : ∀ (pins : List (Addr × Obj)) (s : Shared) (σ : L2.St) (H : Hp) (v : V) (u : Value) (w : U) (us : USt) (G : Gp) (Q : USt → Gp → Prop) (E : UX), Inv X pins σ H s → RelV v u → RelU X.K H w v → RelS X.K H us σ → Rep X.K H G → t w us G Q E →
    (∀ c d H', LX X.K H G E c d H' → W c d σ H') → wpAny (model X.prog X.w) X.A (assign tg X.env u) (fun _ s' => ∃ σ' H', Inv X pins σ' H' s' ∧ LS X.K H G Q σ' H' ∧ Out sl σ σ') X.xe s
structure GsU (X : Cx) (W : WX) (ts : List Expr) (t : UTGs) (sl : List Nat) : Prop where
  run : ∀ (pins : List (Addr × Obj)) (s : Shared) (σ : L2.St) (H : Hp) (vs : List V) (us : List Value) (ws : List U) (ss : USt) (G : Gp) (Q : USt → Gp → Prop), Inv X pins σ H s → Vals vs us → RelUs X.K H ws vs → RelS X.K H ss σ → Rep X.K H G → t ws ss G Q (fun _ _ => False) →
    wpAny (model X.prog X.w) X.A (assignInOrder ((assignEach ts X.env).map (·.2)) us) (fun _ s' => ∃ σ' H', Inv X pins σ' H' s' ∧ LS X.K H G Q σ' H' ∧ Out sl σ σ') X.xe s
def gUName (i : Nat) : UTG := fun w us G Q _ => Q (us.set i (some w)) G
theorem gu_name {i : Nat} {x : Str} (hN : X.N.Nodup) (hi : X.N[i]? = some x) (hx : Loc X.env.scope x) (hf : X.fn x = true ∨ X.env.scope.names.lookup x = some .local) : GU X W (.Name x pos) (gUName i) [i] :=
  ⟨fun pins s σ H v u w us G Q E I r ru rs rp h _ => wpAny_assign_Name (store_ok I hN hi hx r (fun s' I' => ⟨_, H, I', ⟨us.set i (some w), G, .refl _ _, rp, RelS.set ru i rs, h⟩, Out.set i σ _⟩) hf)⟩
def gUNil : UTGs := fun ws us G Q _ => ws = [] ∧ Q us G
def gUCons (t : UTG) (tr : UTGs) : UTGs := fun ws us G Q E => match ws with
  | w :: r => t w us G (fun us1 G1 => tr r us1 G1 Q E) E
  | [] => False
theorem gsu_nil : GsU X W [] gUNil [] := ⟨fun pins s σ H vs us ws ss G Q I r ru rs rp ⟨e, q⟩ => by
  subst e
  have e' : vs = [] := ru
  subst e'
  cases r
  exact assignInOrder_nil ⟨σ, H, I, ⟨ss, G, .refl _ _, rp, rs, q⟩, Out.refl _ _⟩⟩
theorem gsu_cons {e : Expr} {es : List Expr} {t : UTG} {tr : UTGs} {sl sl' : List Nat} (h1 : GU X W e t sl) (h2 : GsU X W es tr sl') (hs : (assignEach (e :: es) X.env).map (·.2) = assign e X.env :: (assignEach es X.env).map (·.2)) : GsU X W (e :: es) (gUCons t tr) (sl ++ sl') := by
  refine ⟨fun pins s σ H vs us ws ss G Q I r ru rs rp h => ?_⟩
  cases ws with
  | nil => exact h.elim
  | cons w wr =>
    obtain ⟨v, vr, rfl, hw, hr⟩ := ru
    cases r with
    | cons r rr =>
      rw [hs]
      refine assignInOrder_cons (thn (h1.run pins s σ H v _ w ss G _ _ I r hw rs rp h fun c d H' ⟨_, _, _, _, _, z⟩ => z.elim) fun _ s1 ⟨σ1, H1, I1, ⟨us1, G1, x1, rp1, rs1, q1⟩, o1⟩ => ?_)
      exact thn (h2.run pins s1 σ1 H1 vr _ wr us1 G1 Q I1 rr (hr.ext x1 rp) rs1 rp1 q1) fun _ s2 ⟨σ2, H2, I2, q2, o2⟩ => ⟨σ2, H2, I2, q2.trans x1, o1.trans o2⟩
def gUTup (n : Nat) (t : UTGs) : UTG := fun w us G Q _ => match w with
  | .tup ws => ws.length = n ∧ t ws us G Q (fun _ _ => False)
  | _ => False
theorem gu_tup {es : List Expr} {k : Nat} {t : UTGs} {n : Nat} {sl : List Nat} (hc : X.calm = true) (h : GsU X W es t sl) (hn : (assignEach es X.env).length = n) (hst : (assignEach es X.env).findIdx? (·.1) = none) : GU X W (.Tuple es k pos) (gUTup n t) sl := by
  refine ⟨fun pins s σ H v u w us G Q E I r ru rs rp hw _ => ?_⟩
  cases w with
  | tup ws =>
    obtain ⟨hl, hw⟩ := hw
    obtain ⟨a, xs, e1, hq, hr⟩ := ru.tup_of
    subst e1
    cases r
    obtain ⟨its, rv, ht, hz⟩ := I.tuple hq
    refine assign_Tuple_tuple (I.ok.hd hc) ht (by simp [hn, ← hl, ← hr.length, rv.length]) hst fun h' hx => ?_
    have I1 : Inv X pins σ H { s with heap := h' } := I.kept (t' := s.toks) fun b o e => hx b o (Nat.ne_of_lt (Heap.lt_size e)) e
    exact h.run pins _ σ H xs _ ws us G Q I1 (by simpa using rv) hr rs rp hw
  | _ => exact hw.elim
def StU (X : Cx) (W : WX) (t : U → U → U → Gp → (Gp → Prop) → UX → Prop) : Prop :=
  ∀ (pins : List (Addr × Obj)) (s : Shared) (σ : L2.St) (H : Hp) (o i v : V) (ov iv u : Value) (a b c : U) (G : Gp) (Q : Gp → Prop) (E : UX), Inv X pins σ H s → RelV o ov → RelV i iv → RelV v u → RelU X.K H a o → RelU X.K H b i → RelU X.K H c v → Rep X.K H G → t a b c G Q E →
    (∀ c d H', LX X.K H G E c d H' → W c d σ H') → wpAny (model X.prog X.w) X.A (setItem ov iv u) (fun _ s' => ∃ H' G', Inv X pins σ H' s' ∧ Ext H G H' G' ∧ Rep X.K H' G' ∧ Q G') X.xe s
def gUSub (to ti : UTE) (t : U → U → U → Gp → (Gp → Prop) → UX → Prop) : UTG := fun w us G Q E => to us G (fun o G1 => ti us G1 (fun i G2 => t o i w G2 (fun G3 => Q us G3) E) E) E
theorem gu_sub {o i : Expr} {to ti : UTE} {t : U → U → U → Gp → (Gp → Prop) → UX → Prop} (ho : EU X W o to) (hi : EU X W i ti) (hs : StU X W t)
    (ha : ∀ v, assign (.Subscript o i pos) X.env v = (do
      let ov ← holding [v] (eval o X.env)
      let iv ← holding [v, ov] (eval i X.env)
      standAt pos
      holding [v, ov, iv] (setItem ov iv v)
      release [v, ov, iv] [])) : GU X W (.Subscript o i pos) (gUSub to ti t) [] := by
  refine ⟨fun pins s σ H v u w us G Q E I r ru rs rp h hx => ?_⟩
  rw [ha]
  refine wpAny_bind (wpAny_holding (thn (ho.run pins s σ H us G _ E I rs rp h hx) fun ov s1 ⟨x, H1, I1, r1, p, G1, x1, rp1, rup, q1⟩ => ?_))
  have hx1 : ∀ c d H', LX X.K H1 G1 E c d H' → W c d σ H' := fun c d H' h' => hx c d H' (h'.trans x1)
  refine wpAny_bind (wpAny_holding (thn (hi.run pins s1 σ H1 us G1 _ E I1 (rs.ext x1 rp) rp1 q1 hx1) fun iv s2 ⟨y, H2, I2, r2, q, G2, x2, rp2, ruq, q2⟩ => ?_))
  refine wpAny_bind (wpAny_standAt (wpAny_bind (wpAny_holding (thn (hs pins s2 σ H2 x y v ov iv u p q w G2 _ E I2 r1 r2 r (rup.ext x2 rp1) ruq ((ru.ext x1 rp).ext x2 rp1) rp2 q2 fun c d H' h' => hx1 c d H' (h'.trans x2)) fun _ s3 ⟨H3, G3, I3, x3, rp3, q3⟩ => ?_))))
  exact wpAny_release ⟨σ, H3, I3, ⟨us, G3, (x1.trans x2).trans x3, rp3, ((rs.ext x1 rp).ext x2 rp1).ext x3 rp2, q3⟩, Out.refl _ _⟩
def setU0 (o i v : U) (G : Gp) (Q : Gp → Prop) (_ : UX) : Prop := match o, i with
  | .ref a, .int k => ∃ us j, G a = some (.lst us) ∧ ixN us.length k = some j ∧ Q (gup G a (.lst (us.set j v)))
  | _, _ => False
theorem stu0 : StU X W setU0 := by
  intro pins s σ H o i v ov iv u a b c G Q E I ro ri rv ra rb rc rp h hx
  cases a with
  | ref p =>
    cases b with
    | int k =>
      obtain ⟨us, j, g, hj, q⟩ := h
      obtain ⟨vs, e, r⟩ := rp.lst g
      refine thn (set_list pins s σ H o i v ov iv u (fun H' => ∃ G', Ext H G H' G' ∧ Rep X.K H' G' ∧ Q G') I ro ri rv ⟨p, vs, k, j, ra, rb, e, by rw [r.length]; exact hj, ?_⟩) fun _ s' ⟨H', I', G', x1, r1, q1⟩ => ⟨H', G', I', x1, r1, q1⟩
      obtain ⟨u', G', x1, r1, _, q1⟩ := lv_setl (Q := fun _ G' => Q G') (u := .non) (v := .non) rp g (r.set rc j) rfl q
      exact ⟨G', x1, r1, q1⟩
    | _ => exact h.elim
  | _ => exact (show False by cases b <;> exact h).elim
def tUAsg (te : UTE) (g : UTG) : UTS := fun D us G => te us G (fun x G1 => g x us G1 D.nx (fun x G1 => D.ex x us G1)) (fun x G1 => D.ex x us G1)
theorem su_asg {tg e : Expr} {te : UTE} {g : UTG} {sl : List Nat} (he : EU X W e te) (hg : GU X W tg g sl) (hs : swapsWithSole [tg] e pos.line X.env = pure false) (hw : swappedStores [tg] e X.env = pure none)
    (h1 : (assignEach [tg] X.env).map (·.2) = [assign tg X.env]) : SU X W (.Assign [tg] e pos) (tUAsg te g) := by
  refine ⟨fun pins s σ H us G D I rs rp h hx => ?_⟩
  have hx0 : ∀ c d H', LX X.K H G (fun x G1 => D.ex x us G1) c d H' → W c d σ H' := fun c d H' h' => hx c d σ H' (LXS.of rs rp h')
  refine wpAny_Assign_stores (thn (he.run pins s σ H us G _ _ I rs rp h hx0) fun v s1 ⟨x, H1, I1, r1, p, G1, x1, rp1, ru, q1⟩ => ?_) hs hw
  rw [h1]
  exact thn (hg.run pins s1 σ H1 x v p us G1 _ _ I1 r1 ru (rs.ext x1 rp) rp1 q1 fun c d H' h' => hx0 c d H' (h'.trans x1)) fun _ s2 ⟨σ2, H2, I2, q2, _⟩ => ⟨σ2, H2, I2, q2.trans x1⟩
theorem su_set {i : Nat} {x : Str} {pos' : Pos} (hN : X.N.Nodup) (hi : X.N[i]? = some x) (hx : Loc X.env.scope x) (he : EU X W e te) (hs : swapsWith e (some (.Name x pos')) pos.line X.env = pure false) (hf : X.fn x = true ∨ X.env.scope.names.lookup x = some .local) :
    SU X W (.Assign [.Name x pos'] e pos) (tUAsg te (gUName i)) :=
  .of (ps_set hN hi hx he.pe hs hf) fun σ H us G D rs rp h hx => ⟨us, G, _, _, rs, rp, h, fun v H' ⟨u, G1, x1, r1, ru, q⟩ => ⟨us.set i (some u), G1, x1, r1, RelS.set ru i (rs.ext x1 rp), q⟩, fun c d H' h' => hx c d σ H' (LXS.of rs rp h')⟩
def setAll (us : USt) : List Nat → List U → USt
  | i :: is, w :: ws => setAll (us.set i (some w)) is ws
  | _, _ => us
def tUPar (is : List Nat) (ta : UTA) : UTS := fun D us G => ta us G (fun ws G1 => ws.length = is.length ∧ D.nx (setAll us is.reverse ws.reverse) G1) (fun x G1 => D.ex x us G1)
theorem par_store {E : Value → Shared → Prop} {pins : List (Addr × Obj)} (hN : X.N.Nodup) {Q : Unit → Shared → Prop} : ∀ (xs : List Str) (is : List Nat) (vs : List V) (us : List Value) (ws : List U) (ss : USt) (G : Gp) (s : Shared) (σ : L2.St) (H : Hp),
    xs.length = is.length → ws.length = is.length → (∀ (k : Nat) x i, xs[k]? = some x → is[k]? = some i → X.N[i]? = some x ∧ X.env.scope.names.lookup x = some .local) → Inv X pins σ H s → Vals vs us → RelUs X.K H ws vs → RelS X.K H ss σ → Rep X.K H G →
    (∀ s' σ', Inv X pins σ' H s' → RelS X.K H (setAll ss is ws) σ' → Q () s') → wpAny (model X.prog X.w) X.A (assignInOrder (xs.map fun n v => bindName X.env n v) us) Q E s
  | [], [], vs, us, ws, ss, G, s, σ, H, _, h2, _, I, rv, rw', rs, rp, q => by
    have : ws = [] := List.eq_nil_of_length_eq_zero h2
    subst this
    have e' : vs = [] := rw'
    subst e'
    cases rv
    exact assignInOrder_nil (q s σ I rs)
  | x :: xs, i :: is, vs, us, [], ss, G, s, σ, H, _, h2, _, I, rv, rw', rs, rp, q => by cases h2
  | x :: xs, i :: is, vs, us, w :: ws, ss, G, s, σ, H, h1, h2, hk, I, rv, rw', rs, rp, q => by
    obtain ⟨v, vr, rfl, hv, hr⟩ := rw'
    cases rv with
    | cons r rr =>
      obtain ⟨hi, hl⟩ := hk 0 x i rfl rfl
      rw [List.map_cons]
      refine assignInOrder_cons (wpAny_bindName (store_ok I hN hi (.inl hl) r (fun s2 I2 => ?_) (.inr hl)))
      exact par_store hN xs is vr _ ws _ G s2 _ H (by simpa using h1) (by simpa using h2) (fun k y j e1 e2 => hk (k + 1) y j e1 e2) I2 rr hr (RelS.set hv i rs) rp q
  | [], _ :: _, _, _, _, _, _, _, _, _, h1, _, _, _, _, _, _, _, _ => by cases h1
  | _ :: _, [], _, _, _, _, _, _, _, _, h1, _, _, _, _, _, _, _, _ => by cases h1
theorem su_par {ts es : List Expr} {kt k2 : Nat} {pt pt2 : Pos} {xs : List Str} {is : List Nat} {ta : UTA} (hc : X.calm = true) (hN : X.N.Nodup) (hl : xs.length = is.length) (h23 : is.length ≤ 3)
    (hk : ∀ (k : Nat) x i, xs[k]? = some x → is[k]? = some i → X.N[i]? = some x ∧ X.env.scope.names.lookup x = some .local) (ha : AU X W es ta)
    (hw : swappedStores [.Tuple ts kt pt] (.Tuple es k2 pt2) X.env = pure (some xs)) (hs : swapsWithSole [.Tuple ts kt pt] (.Tuple es k2 pt2) pos.line X.env = pure false) : SU X W (.Assign [.Tuple ts kt pt] (.Tuple es k2 pt2) pos) (tUPar is ta) := by
  refine ⟨fun pins s σ H us G D I rs rp h hx => ?_⟩
  have hx0 : ∀ c d H', LX X.K H G (fun x G1 => D.ex x us G1) c d H' → W c d σ H' := fun c d H' h' => hx c d σ H' (LXS.of rs rp h')
  rw [exec_Assign_arm]
  refine wpAny_bind (wpAny_standAt ?_)
  rw [hs]
  refine wpAny_bind (wpAny_pure ?_)
  rw [if_neg (by decide)]
  refine wpAny_bind (Tuple_ (thn (ha.run _ pins s σ H us G _ _ I rs rp h hx0) fun vals s1 ⟨vs, H1, I1, r1, ws, G1, x1, rp1, ru, hlen, q1⟩ => ?_))
  have lv : vals.length = is.length := by rw [← r1.length, ru.length, hlen]
  refine wpAny_newObj_type ?_ (by show vals.toArray.size ≤ sizeLine; rw [List.size_toArray, lv, sizeLine_eq]; omega)
  have I2 : Inv X pins σ H1 { s1 with heap := s1.heap.push { cls := .type "tuple", data := .seq vals.toArray } } := I1.kept (t' := s1.toks) fun b o e => Heap.get?_push_of_some _ e
  rw [hw]
  refine wpAny_bind (wpAny_pure ?_)
  show wpAny (model X.prog X.w) X.A (do rule "assign.swapped-stores"; let items ← unpackItems (.ref s1.heap.objs.size) xs.length none; assignInOrder (xs.reverse.map fun n v => bindName X.env n v) items.reverse; pure Flow.next) _ _ _
  have e1 : vals.toArray.size = xs.length := by rw [List.size_toArray, lv, hl]
  rw [← e1]
  refine wpAny_bind (wpAny_rule (wpAny_bind (unpackItems_tuple (items := vals.toArray) (I.ok.hd hc) (IsTup.new s1.heap _) fun h' hx' => ?_)))
  have I3 := I2.kept (h' := h') (t' := s1.toks) fun b o e => hx' b o (Nat.ne_of_lt (Heap.lt_size e)) e
  refine wpAny_bind (par_store hN xs.reverse is.reverse vs.reverse _ ws.reverse us G1 _ σ H1 (by simp [hl]) (by simp [hlen]) (fun k y j h1 h2 => ?_) I3 (by simpa using r1.reverse) ru.reverse (rs.ext x1 rp) rp1 fun s2 σ' I4 rs4 => wpAny_pure ⟨σ', H1, I4, _, G1, x1, rp1, rs4, q1⟩)
  have kl : k < xs.length := by
    have := (List.getElem?_eq_some_iff.mp h1).1
    simpa using this
  rw [List.getElem?_reverse (by omega)] at h1
  rw [List.getElem?_reverse (by omega), ← hl] at h2
  exact hk _ y j h1 h2
end
end UL
set_option maxHeartbeats 400000
namespace UL
open PySem PySem.Spec PyProof.Rows L2

abbrev UKI := (Gp → Prop) → List U → Gp → Prop
abbrev UTI := USt → Gp → UKI → UX → Prop
/-- the iterator J gives just these items while chk holds -/
structure ItU (K : PySem.W.Frag) (J : It) (chk : Gp → Prop) (items : List U) (H0 : Hp) (G0 : Gp) : Prop where
  go : ∀ (i : Nat) H G, Ext H0 G0 H G → Rep K H G → chk G → i < items.length → J.go i H ∧ ∀ x H', J.yld i H x H' → ∃ u, items[i]? = some u ∧ Ext H G H' G ∧ Rep K H' G ∧ RelU K H' u x
  stop : ∀ H G, Ext H0 G0 H G → Rep K H G → chk G → J.stop items.length H
def RI (K : PySem.W.Frag) (H : Hp) (G : Gp) (Q : UKI) : It → Hp → Prop := fun J H1 => ∃ chk items G1, Ext H G H1 G1 ∧ Rep K H1 G1 ∧ ItU K J chk items H1 G1 ∧ Q chk items G1
theorem RI.trans {K : PySem.W.Frag} {H H1 : Hp} {G G1 : Gp} (x : Ext H G H1 G1) {Q : UKI} {J : It} {H' : Hp} : RI K H1 G1 Q J H' → RI K H G Q J H' := fun ⟨c, i, G', e, r⟩ => ⟨c, i, G', x.trans e, r⟩
structure IU (X : Cx) (W : WX) (tg iter : Expr) (t : UTI) : Prop where
  run : ∀ (pins : List (Addr × Obj)) (s : Shared) (σ : L2.St) (H : Hp) (us : USt) (G : Gp) (Q : UKI) (E : UX), Inv X pins σ H s → RelS X.K H us σ → Rep X.K H G → t us G Q E → (∀ c d H', LX X.K H G E c d H' → W c d σ H') →
    wpAny (model X.prog X.w) X.A (eval iter X.env) (fun v s1 => wpAny (model X.prog X.w) X.A (pyIter v) (PIE X pins σ tg (RI X.K H G Q)) X.xe s1) X.xe s
def lI (K : PySem.W.Frag) (W : WX) (t : UTI) : TI := fun σ H R => ∃ us G Qu Eu, RelS K H us σ ∧ Rep K H G ∧ t us G Qu Eu ∧ (∀ J H', RI K H G Qu J H' → R J H') ∧ ∀ c d H', LX K H G Eu c d H' → W c d σ H'
theorem pie_imp {X : Cx} {pins : List (Addr × Obj)} {σ : L2.St} {tg : Expr} {R R' : It → Hp → Prop} {v : Value} {s : Shared} (h : ∀ J H, R J H → R' J H) : PIE X pins σ tg R v s → PIE X pins σ tg R' v s :=
  fun ⟨it, fp, tn, J, H', e, I, T, st, f, r⟩ => ⟨it, fp, tn, J, H', e, I, T, st, f, h _ _ r⟩
theorem IU.pi {X : Cx} {W : WX} {tg iter : Expr} {t : UTI} (h : IU X W tg iter t) : PI X tg iter (lI X.K W t) :=
  ⟨fun pins s σ H R I ⟨us, G, Qu, Eu, rs, rp, ht, hq, hx⟩ => thn (h.run pins s σ H us G Qu Eu I rs rp ht hx) fun v s1 h1 => thn h1 fun _ _ h2 => pie_imp hq h2⟩
section
variable {K : PySem.W.Frag} {H0 : Hp} {G0 : Gp}
def sgs (l : List Nat) : List U := l.map fun c => .str [c]
def rngs (lo : Int) (n : Nat) : List U := (List.range n).map fun i => .int (lo + (i : Nat))
theorem itu_range {lo : Int} {n : Nat} : ItU K (Itr lo n) (fun _ => True) (rngs lo n) H0 G0 := by
  have sz : (rngs lo n).length = n := by unfold rngs; simp
  refine ⟨fun i H G x r _ hi => ?_, fun H G x r _ => ?_⟩
  · refine ⟨by rw [sz] at hi; exact hi, fun y H' ⟨eH, hy⟩ => ?_⟩
    subst eH hy
    refine ⟨.int (lo + (i : Nat)), ?_, .refl _ _, r, rfl⟩
    unfold rngs
    rw [List.getElem?_map, List.getElem?_range (by omega)]
    rfl
  · show n ≤ (rngs lo n).length
    rw [sz]
    exact Nat.le_refl _
theorem ext_tup {H : Hp} {G : Gp} (r : Rep K H G) {T : Addr} {xs : List V} (hT : H T = none) : Ext H G (upd H T (.tup xs)) G ∧ Rep K (upd H T (.tup xs)) G := ⟨(r.laid0 hT).2, (r.laid0 hT).1⟩
def enumU : Nat → List U → List U
  | _, [] => []
  | n, u :: us => .tup [.int (n : Nat), u] :: enumU (n + 1) us
theorem enumU_len : ∀ (n : Nat) (us : List U), (enumU n us).length = us.length
  | _, [] => rfl
  | n, u :: us => by rw [enumU, List.length_cons, List.length_cons, enumU_len]
theorem enumU_get : ∀ (n : Nat) (us : List U) (i : Nat) (u : U), us[i]? = some u → (enumU n us)[i]? = some (.tup [.int ((n + i : Nat)), u])
  | _, [], _, _, h => by cases h
  | n, w :: us, 0, _, h => by
    cases h
    rfl
  | n, w :: us, i + 1, u, h => by
    rw [enumU, List.getElem?_cons_succ, enumU_get (n + 1) us i u (by simpa using h)]
    congr 5
    omega
end
section
variable {X : Cx} {W : WX} {tg e : Expr} {te : UTE} {ta : UTA} {pos p : Pos}
/-- any value that may be walked -/
def iterU (u : U) (G : Gp) (Q : UKI) : Prop := match u with
  | .ref a => ∃ us, G a = some (.lst us) ∧ Q (fun G => G a = some (.lst us)) us G
  | .tup us => Q (fun _ => True) us G
  | .rol us => Q (fun _ => True) us G
  | .str l => Q (fun _ => True) (sgs l) G
  | _ => False
def tIAny (te : UTE) : UTI := fun us G Q E => te us G (fun u G1 => iterU u G1 Q) E
def rngA (u : U) (G : Gp) (Q : UKI) : Prop := match u with
  | .int j => (-(2 ^ 62) ≤ j ∧ j < 2 ^ 62) ∧ Q (fun _ => True) (rngs 0 j.toNat) G
  | _ => False
def rngQ1 (Q : UKI) (ws : List U) (G : Gp) : Prop := match ws with
  | [u] => rngA u G Q
  | _ => False
def tIRng1 (ta : UTE) : UTI := fun us G Q E => ta us G (fun u G1 => rngA u G1 Q) E
theorem iu_range1 {a : Expr} (hg : Gl X "range") (hm : X.mg "range" = none) (ha : EU X W a te) (hs : starEach [a] X.env = (false, eval a X.env) :: starEach [] X.env) : IU X W tg (.Call (.Name "range" p) [a] [] pos) (tIRng1 te) := by
  refine ⟨fun pins s σ H us G Q E I rs rp h hx => ?_⟩
  refine Call_ (ld_blt I hg hm boot_range (PyProof.Rows.callWith_type1 (thn ((au_cons ha au_nil hs).run pos pins s σ H us G (rngQ1 Q) E I rs rp h hx) fun vals s1 ⟨vs, H1, I1, r1, ws, G1, x1, rp1, ru, q1⟩ => ?_) hs rfl))
  cases ws with
  | nil => exact q1.elim
  | cons u r =>
    cases r with
    | cons _ _ => exact q1.elim
    | nil =>
      obtain ⟨v, vr, e1, ev, e2⟩ := ru
      have e2' : vr = [] := e2
      subst e1 e2'
      cases u with
      | int j =>
        rw [show v = .int j from ev] at r1
        cases r1 with
        | cons r rr =>
          cases rr
          obtain ⟨t, rfl⟩ := r
          obtain ⟨⟨q2, q3⟩, q⟩ := q1
          exact call_range_1 (range_it I1 (by omega) (by omega) q2 q3 ⟨_, _, G1, x1, rp1, itu_range, by simpa using q⟩)
      | _ => exact q1.elim
end

def forU (tg : UTG) (body : UTS) (chk : Gp → Prop) : List U → UTS
  | [] => fun D us G => chk G ∧ D.nx us G
  | x :: xs => fun D us G => chk G ∧ tg x us G (fun us1 G1 => body { D with nx := forU tg body chk xs D, ct := forU tg body chk xs D, bk := D.nx } us1 G1) (fun x G1 => D.ex x us G1)
def tUFor (ti : UTI) (tg : UTG) (body : UTS) : UTS := fun D us G => ti us G (fun chk items G1 => forU tg body chk items D us G1) (fun x G1 => D.ex x us G1)
def lG (K : PySem.W.Frag) (W : WX) (t : UTG) (sl : List Nat) : TG := fun v σ H Q => ∃ w us G Qu Eu, RelU K H w v ∧ RelS K H us σ ∧ Rep K H G ∧ t w us G Qu Eu ∧ (∀ σ' H', LS K H G Qu σ' H' → Out sl σ σ' → Q σ' H') ∧ ∀ c d H', LX K H G Eu c d H' → W c d σ H'
theorem GU.pg {X : Cx} {W : WX} {tg : Expr} {t : UTG} {sl : List Nat} (h : GU X W tg t sl) : PG X tg (lG X.K W t sl) :=
  ⟨fun pins s σ H v u Q I r ⟨w, us, G, Qu, Eu, ru, rs, rp, ht, hq, hx⟩ => thn (h.run pins s σ H v u w us G Qu Eu I r ru rs rp ht hx) fun _ s' ⟨σ', H', I', q, o⟩ => ⟨σ', H', I', hq _ _ q o⟩⟩
theorem drop_cons {α : Type} {xs : List α} {i : Nat} {x : α} (h : xs[i]? = some x) : xs.drop i = x :: xs.drop (i + 1) := by
  obtain ⟨hi, e⟩ := List.getElem?_eq_some_iff.mp h
  rw [List.drop_eq_getElem_cons hi, e]
theorem su_for {X : Cx} {W : WX} {iter tg : Expr} {body : List Stmt} {ti : UTI} {g : UTG} {sl : List Nat} {tb : UTS} {pos : Pos} (hp : PassesOwn (model X.prog X.w) X.A X.env X.xe) (hc : X.calm = true) (hi : IU X W tg iter ti) (hg : GU X W tg g sl) (hb : SsU X W body tb)
    (hs : ∀ x, foldedSetIterable iter X.env x = pure x) : SU X W (.For tg iter body [] pos) (tUFor ti g tb) := by
  refine .of (ps_for hp hc hi.pi hg.pg hb.pss hs) fun σ H us G D rs rp h hx => ⟨us, G, _, _, rs, rp, h, fun J H1 ⟨chk, items, G1, x1, rp1, it, q⟩ => ?_, fun c d H' h' => hx c d σ H' (LXS.of rs rp h')⟩
  refine ⟨fun i m σ' H' => m = items.length - i ∧ i ≤ items.length ∧ ∃ us' G', Ext H1 G1 H' G' ∧ RelS X.K H' us' σ' ∧ Rep X.K H' G' ∧ forU g tb chk (items.drop i) D us' G', ⟨_, rfl, Nat.zero_le _, us, G1, .refl _ _, rs.ext x1 rp, rp1, by simpa using q⟩, ?_⟩
  rintro i m σ' H' ⟨rfl, hi, us', G', x2, rs', rp', q'⟩
  by_cases hlt : i < items.length
  · obtain ⟨u, eu⟩ : ∃ u, items[i]? = some u := ⟨_, List.getElem?_eq_getElem hlt⟩
    rw [drop_cons eu] at q'
    obtain ⟨hchk, q'⟩ := q'
    obtain ⟨hgo, hy⟩ := it.go i H' G' x2 rp' hchk hlt
    refine .inr ⟨hgo, LS X.K H' G' (forU g tb chk (items.drop (i + 1)) D), fun σ2 H2 ⟨us2, G2, x3, rp2, rs2, q2⟩ => ⟨items.length - (i + 1), by omega, rfl, hlt, us2, G2, x2.trans x3, rs2, rp2, q2⟩, fun x H2 y => ?_⟩
    obtain ⟨w, ew, x3, rp3, rw'⟩ := hy x H2 y
    rw [eu] at ew
    cases ew
    have rs3 := rs'.ext x3 rp'
    refine ⟨u, us', G', _, _, rw', rs3, rp3, q', fun σ4 H4 ⟨us4, G4, x4, rp4, rs4, q4⟩ _ => ?_, fun c d H4 h' => hx c d _ H4 (((LXS.of rs3 rp3 h').trans x3).trans (x1.trans x2))⟩
    have xa := x3.trans x4
    have xb := (x1.trans x2).trans xa
    exact ⟨us4, G4, _, rs4, rp4, q4, fun _ _ h => h.trans xa, fun _ _ h => h.trans xb, fun _ _ h => h.trans xb, fun _ _ h => h.trans xa, fun c d σ5 H5 h' => hx c d σ5 H5 (h'.trans xb)⟩
  · have e : i = items.length := by omega
    subst e
    rw [List.drop_length] at q'
    exact .inl ⟨it.stop H' G' x2 rp' q'.1, us', G', x1.trans x2, rp', rs', q'.2⟩

def F0 : UX := fun _ _ => False
def lcU (tg : UTG) (tt : UTT) (te : UTE) (chk : Gp → Prop) (us : USt) (Q : List U → Gp → Prop) : List U → List U → Gp → Prop
  | [], acc, G => chk G ∧ Q acc G
  | x :: xs, acc, G => chk G ∧ tg x us G (fun us1 G1 => tt us1 G1 (fun b G2 => bif b then te us1 G2 (fun y G3 => acc.length < 1000000 ∧ lcU tg tt te chk us Q xs (acc ++ [y]) G3) F0 else lcU tg tt te chk us Q xs acc G2) F0) F0
def tULc (ti : UTI) (tg : UTG) (tt : UTT) (te : UTE) (own : List Nat) : UTE := fun us G Q E => ti us G (fun chk items G1 => lcU tg tt te chk (uwipe us own) (fun acc G2 => ∀ p, G2 p = none → Q (.ref p) (gup G2 p (.lst acc))) items [] G1) E
section
variable {X : Cx} {W : WX} {elt tg iter : Expr} {ifs : List Expr} {scope : Scope} {own : List (Str × Nat)} {pos spos : Pos} {ti : UTI} {g : UTG} {tt : UTT} {te : UTE} {sl : List Nat}
end
end UL
set_option maxHeartbeats 400000
namespace UL
open PySem PySem.Spec PyProof.Rows L2 PySem.W

section
variable {α : Type}
/-- the keywords' values behind the positional ones; none where one is refused -/
def kwAdd (names : List Str) : List (Str × α) → List (Str × α) → Option (List (Str × α))
  | slots, [] => some slots
  | slots, (k, v) :: r => if names.contains k then (if (slots.lookup k).isSome then none else kwAdd names (slots ++ [(k, v)]) r) else none
def dfAdd : List (Str × α) → List (Str × α) → List (Str × α)
  | slots, [] => slots
  | slots, (k, v) :: r => dfAdd (if (slots.lookup k).isNone then slots ++ [(k, v)] else slots) r
def kdAdd (kd : List (Str × α)) : List (Str × α) → List Str → Option (List (Str × α))
  | slots, [] => some slots
  | slots, k :: r => if (slots.lookup k).isNone then (match kd.lookup k with
    | some v => kdAdd kd (slots ++ [(k, v)]) r
    | none => none) else kdAdd kd slots r
def getAll (slots : List (Str × α)) : List Str → Option (List α)
  | [] => some []
  | n :: r => match slots.lookup n, getAll slots r with
    | some v, some vs => some (v :: vs)
    | _, _ => none
def bindV (normal kwonly : List Str) (us : List α) (kws : List (Str × α)) (dv : List α) (kd : List (Str × α)) : Option (List α) :=
  if us.length ≤ normal.length ∧ dv.length ≤ normal.length then
    match kwAdd (normal ++ kwonly) (normal.zip us) kws with
    | none => none
    | some s1 => if ((normal.take (normal.length - dv.length)).filter fun n => (s1.lookup n).isNone).isEmpty then
        match kdAdd kd (dfAdd s1 ((normal.drop (normal.length - dv.length)).zip dv)) kwonly with
        | none => none
        | some s2 => getAll s2 (normal ++ kwonly)
      else none
  else none
end
theorem getAll_zip {α : Type} {slots : List (Str × α)} : ∀ {ns : List Str} {vs : List α}, getAll slots ns = some vs → (ns.filterMap fun n => (slots.lookup n).map (n, ·)) = ns.zip vs
  | [], vs, h => by
    cases h
    rfl
  | n :: ns, vs, h => by
    unfold getAll at h
    cases e1 : slots.lookup n with
    | none =>
      rw [e1] at h
      cases h
    | some v =>
      cases e2 : getAll slots ns with
      | none =>
        rw [e1, e2] at h
        cases h
      | some ws =>
        rw [e1, e2] at h
        cases h
        rw [List.filterMap_cons, e1]
        show (n, v) :: _ = _
        rw [getAll_zip e2]
        rfl
theorem looks_forIn {M : Model} {h : Heap} {α β : Type} {f : α → β → Sem (ForInStep β)} : ∀ (l : List α) (b r : β) (g : β → List α → β → Prop), (∀ b x l r, g b (x :: l) r → ∃ b', Looks M h (f x b) (.yield b') ∧ g b' l r) → (∀ b r, g b [] r → b = r) → g b l r → Looks M h (forIn l b f) r
  | [], b, r, g, _, h0, hh => by
    rw [List.forIn_nil, h0 b r hh]
    exact .now
  | x :: l, b, r, g, hs, h0, hh => by
    obtain ⟨b', e, h'⟩ := hs b x l r hh
    rw [List.forIn_cons]
    exact e.andThen (looks_forIn l b' r g hs h0 h')
theorem bind_gen {M : Model} {h : Heap} {fd : FuncData} {us : List Value} {kws : List (Str × Value)} {normal kwonly : List Str} {dv : List Value} {kd : List (Str × Value)} {zs : List Value}
    (h1 : fd.params.posonlyargs = []) (h2 : fd.params.args.map (·.arg) = normal) (h3 : fd.params.kwonlyargs.map (·.arg) = kwonly) (h4 : fd.params.vararg = none) (h5 : fd.params.kwarg = none)
    (hd : ∃ o : Option (Array Value), Looks M h (seqItems? fd.defaults) o ∧ (o.getD #[]).toList = dv)
    (hk : ∀ k v, kd.lookup k = some v → ∃ D, fd.kwdefaults = .ref D ∧ Looks M h (nsGet D k) (some v))
    (e : bindV normal kwonly us kws dv kd = some zs) : Looks M h (bindArgs fd ⟨us, kws⟩) ((normal ++ kwonly).zip zs) := by
  unfold bindV at e
  split at e
  · rename_i hl
    obtain ⟨hl1, hl2⟩ := hl
    split at e
    · cases e
    · rename_i s1 e1
      split at e
      · rename_i hm
        split at e
        · cases e
        · rename_i s2 e2
          obtain ⟨o, ho, eo⟩ := hd
          unfold bindArgs
          simp only [h1, h2, h3, h4, h5, List.map_nil, List.nil_append]
          refine Looks.andThen (a := (s1, [])) (looks_forIn _ _ _ (fun b l r => b.2 = [] ∧ r.2 = [] ∧ kwAdd (normal ++ kwonly) b.1 l = some r.1) ?_ ?_ ⟨rfl, rfl, e1⟩) ?_
          · rintro ⟨b1, b2⟩ ⟨k, v⟩ l ⟨r1, r2⟩ ⟨hb, hr, hh⟩
            dsimp only at hb hr hh
            subst hb hr
            unfold kwAdd at hh
            split at hh
            · rename_i hc
              split at hh
              · cases hh
              · rename_i hn
                refine ⟨(b1 ++ [(k, v)], []), ?_, rfl, rfl, hh⟩
                have hc' : (normal.contains k || kwonly.contains k) = true := by
                  rw [List.contains_append] at hc
                  exact hc
                simp only [hc', if_true]
                rw [if_neg hn]
                exact .now
            · cases hh
          · rintro ⟨b1, b2⟩ ⟨r1, r2⟩ ⟨hb, hr, hh⟩
            dsimp only at hb hr hh
            subst hb hr
            cases hh
            rfl
          · dsimp only
            refine ho.andThen ?_
            simp only [eo]
            have hg : (decide (us.length > normal.length) && (none : Option Arg).isNone) = false := by
              rw [decide_eq_false (by omega)]
              rfl
            rw [if_neg (by rw [hg]; exact Bool.false_ne_true)]
            have hdrop : List.drop (dv.length - normal.length) dv = dv := by
              rw [show dv.length - normal.length = 0 by omega]
              rfl
            simp only [hdrop]
            rw [if_neg (by rw [hm]; decide)]
            refine Looks.andThen (a := dfAdd s1 ((normal.drop (normal.length - dv.length)).zip dv)) (looks_forIn _ _ _ (fun b l r => dfAdd b l = r) ?_ ?_ rfl) ?_
            · rintro b ⟨k, v⟩ l r hh
              unfold dfAdd at hh
              refine ⟨_, ?_, hh⟩
              dsimp only
              split
              · exact .now
              · exact .now
            · intro b r hh
              exact hh
            · refine Looks.andThen (a := (s2, [])) (looks_forIn _ _ _ (fun b l r => b.2 = [] ∧ r.2 = [] ∧ kdAdd kd b.1 l = some r.1) ?_ ?_ ⟨rfl, rfl, e2⟩) ?_
              · rintro ⟨b1, b2⟩ k l ⟨r1, r2⟩ ⟨hb, hr, hh⟩
                dsimp only at hb hr hh
                subst hb hr
                unfold kdAdd at hh
                dsimp only
                split at hh
                · rename_i hn
                  rw [if_pos hn]
                  split at hh
                  · rename_i v hv
                    obtain ⟨D, eD, lD⟩ := hk k v hv
                    refine ⟨(b1 ++ [(k, v)], []), ?_, rfl, rfl, hh⟩
                    rw [eD]
                    exact lD.andThen .now
                  · cases hh
                · rename_i hn
                  rw [if_neg hn]
                  exact ⟨(b1, []), .now, rfl, rfl, hh⟩
              · rintro ⟨b1, b2⟩ ⟨r1, r2⟩ ⟨hb, hr, hh⟩
                dsimp only at hb hr hh
                subst hb hr
                cases hh
                rfl
              · dsimp only
                rw [if_neg (by decide)]
                exact .of_pure (by rw [getAll_zip e])
      · cases e
  · cases e
end UL
set_option maxHeartbeats 400000
namespace UL
open PySem PySem.Spec PyProof.Rows L2 PySem.W

structure RoomU (k : Nat) (A : Around) : Prop where
  rm : Room k A
  gd : A.guards = some []
theorem RoomU.mono {j k : Nat} {A : Around} (r : RoomU k A) (h : j ≤ k) : RoomU j A := ⟨r.rm.mono h, r.gd⟩
theorem RoomU.deeper {k : Nat} {A : Around} (r : RoomU (k + 1) A) (env : Env) : RoomU k (A.deeper env) := ⟨r.rm.deeper env, r.gd⟩
theorem RoomU.in1 {k : Nat} {A : Around} (r : RoomU (k + 1) A) : RoomU k A.in1 := ⟨r.rm.in1, r.gd⟩
theorem make_guards {A : Around} {C : Addr} {us : List Value} {kw : List (Str × Value)} (h : A.guards = some []) : (A.under (.builtin "type.__call__" ⟨.ref C :: us, kw⟩)).guards = some [] := by
  simp [Around.under, Code.guards, Code.isGuard, guardIds, pushGuards, h]
theorem RoomU.make {k : Nat} {A : Around} (r : RoomU (k + 1) A) (C : Addr) (us : List Value) (kw : List (Str × Value)) : RoomU k (A.under (.builtin "type.__call__" ⟨.ref C :: us, kw⟩)) := ⟨r.rm.make C us kw, make_guards r.gd⟩

abbrev USp := List U → Gp → UK → UX → Prop
structure FnU (P : Program) (w : World) (K : PySem.W.Frag) (mg : Str → Option Value) (base : Heap) (k : Nat) (f : Addr) (fd : FuncData) (ps : List Str) (sp : USp) : Prop where
  run : ∀ (A : Around) (outer : List Env) (s : Shared) (H : Hp) (args : Args) (us : List Value) (vs : List V) (ws : List U) (G : Gp) (Q : UK) (E : UX), RoomU k A → Env0 P w K mg base A outer s H → BindsTo s fd args (ps.zip us) →
    Vals vs us → RelUs K H ws vs → ws.length = ps.length → Rep K H G → sp ws G Q E → codeAny (model P w) A (.call (.ref f) args) (CR (L2.CX P w) outer P w H s (LV K H G Q) (LX K H G E)) s
theorem FnU.mono {P : Program} {w : World} {K : PySem.W.Frag} {mg : Str → Option Value} {base : Heap} {j k : Nat} {f : Addr} {fd : FuncData} {ps : List Str} {sp : USp} (F : FnU P w K mg base j f fd ps sp) (h : j ≤ k) : FnU P w K mg base k f fd ps sp :=
  ⟨fun A outer s H args us vs ws G Q E hr => F.run A outer s H args us vs ws G Q E (hr.mono h)⟩

def ustart (n : Nat) (ws : List U) : USt := ws.map some ++ List.replicate (n - ws.length) none
theorem RelS.nones {K : PySem.W.Frag} {H : Hp} : ∀ m : Nat, RelS K H (List.replicate m none) (List.replicate m none)
  | 0 => rfl
  | m + 1 => by
    rw [List.replicate_succ, List.replicate_succ]
    exact ⟨none, List.replicate m none, rfl, RelS.nones m⟩
theorem relS_start {K : PySem.W.Frag} {H : Hp} {n : Nat} {N : List Str} (hn : N.length = n) {ws : List U} {vs : List V} (h : RelUs K H ws vs) : RelS K H (ustart n ws) (L2.start N vs) := by
  have go : ∀ (m : Nat) {ws : List U} {vs : List V}, RelUs K H ws vs → RelS K H (ws.map some ++ List.replicate m none) (vs.map some ++ List.replicate m none) := by
    intro m ws
    induction ws with
    | nil =>
      intro vs h
      have e : vs = [] := h
      subst e
      exact RelS.nones m
    | cons w ws ih =>
      intro vs h
      obtain ⟨v, r, rfl, h1, h2⟩ := h
      exact ⟨v, _, rfl, h1, ih h2⟩
  unfold ustart L2.start
  rw [h.length, hn]
  exact go _ h

/-- a part of what is known -/
def Sub (G2 G1 : Gp) : Prop := ∀ a o, G2 a = some o → G1 a = some o
theorem Sub.refl (G : Gp) : Sub G G := fun _ _ h => h
theorem Sub.trans {G1 G2 G3 : Gp} (x : Sub G1 G2) (y : Sub G2 G3) : Sub G1 G3 := fun a o h => y a o (x a o h)
theorem Sub.rep {K : PySem.W.Frag} {H : Hp} {G1 G2 : Gp} (x : Sub G2 G1) (r : Rep K H G1) : Rep K H G2 := fun a o h => r a o (x a o h)
theorem Sub.ext {H H' : Hp} {G G1 G2 : Gp} (x : Sub G2 G1) (e : Ext H G H' G1) : Ext H G H' G2 := fun a o h g => by
  obtain ⟨h1, h2⟩ := e a o h g
  refine ⟨h1, ?_⟩
  cases z : G2 a with
  | none => rfl
  | some u =>
    rw [x a u z] at h2
    cases h2
/-- at the end a def may forget -/
def KF (Q : UK) : UK := fun u G => ∃ G2, Sub G2 G ∧ Q u G2
theorem KF.now {Q : UK} {u : U} {G : Gp} (h : Q u G) : KF Q u G := ⟨G, .refl G, h⟩
theorem lv_forget {K : PySem.W.Frag} {H H' : Hp} {G : Gp} {Q : UK} {v : V} : LV K H G (KF Q) v H' → LV K H G Q v H' := fun ⟨u, G', x, r, ru, G2, s, q⟩ => ⟨u, G2, s.ext x, s.rep r, ru, q⟩
def KX (E : UX) : UX := fun x G => ∃ G2, Sub G2 G ∧ E x G2
theorem KX.now {E : UX} {x : UExc} {G : Gp} (h : E x G) : KX E x G := ⟨G, .refl G, h⟩
theorem KX.of {E : UX} {x : UExc} {G G2 : Gp} (s : Sub G2 G) (h : E x G2) : KX E x G := ⟨G2, s, h⟩
def endsU (Q : UK) (E : UX) : UEnds := { nx := fun _ G => KF Q .non G, rt := KF Q, bk := fun _ _ => False, ct := fun _ _ => False, ex := fun x _ G => KX E x G }
/-- the frame of a def's body -/
abbrev wOf (K : PySem.W.Frag) (H : Hp) (G : Gp) (E : UX) : WX := fun c d _ H' => LX K H G E c d H'
abbrev cxU (P : Program) (w : World) (K : PySem.W.Frag) (mg : Str → Option Value) (base : Heap) (N : List Str) (qual : Str) (scope : Scope) (f : Addr) (cdv : Value) (A : Around) (outer : List Env) (s : Shared) (H : Hp) (E : XK) : Cx :=
  cxOf (L2.CX P w) P w K mg base N qual scope f cdv A outer s H E
theorem takes_u {P : Program} {w : World} {K : PySem.W.Frag} {mg : Str → Option Value} {base : Heap} {N : List Str} {qual : Str} {scope : Scope} {f : Addr} {cdv : Value} {A : Around} {outer : List Env} {s : Shared} {H : Hp} {G : Gp} {E : UX} :
    Takes (cxU P w K mg base N qual scope f cdv A outer s H (LX K H G E)) (wOf K H G E) := takes_of rfl rfl rfl rfl

theorem fn_u {P : Program} {w : World} {K : PySem.W.Frag} {mg : Str → Option Value} {base : Heap} {k n : Nat} {f : Addr} {fd : FuncData} {name qual : Str} {params : Arguments} {body : List Stmt} {scope : Scope} {dvs : List V} {kws : List (Str × V)} {N ps : List Str} {sp : USp} {t : UTS}
    (F : FunD K name qual params body scope dvs kws f fd) (S : FnScope N ps scope) (hn : N.length = n)
    (hb : ∀ (cdv : Value) (A : Around) (outer : List Env) (s : Shared) (H : Hp) (G : Gp) (E : UX), RoomU k (A.deeper (envOfC qual scope s.heap.objs.size f cdv)) →
      SsU (cxU P w K mg base N qual scope f cdv A outer s H (LX K H G E)) (wOf K H G E) body t)
    (hsp : ∀ ws G Q E, sp ws G Q E → ws.length = ps.length → t (endsU Q E) (ustart n ws) G) : FnU P w K mg base (k + 1) f fd ps sp := by
  obtain ⟨oc, od, dV, kV, doc, pm, an, cdv, ct, osl, rfl, lk, hcd, _, _⟩ := F.ex
  refine ⟨fun A outer s H args us vs ws G Q E room at0 binds rv ru hlen rp want => ?_⟩
  have hvs : vs.length = ps.length := ru.length.trans hlen
  have inK : K.In s.heap := at0.mod.kin.keeps fun b o e => (at0.bs b o e).1
  have noLim : s.heap.NoLimit := at0.mod.nolimit.keeps fun b o e => (at0.bs b o e).1
  refine codeAny_call_function room.rm.depth (inK _ _ lk) rfl S.co S.gen rfl (PySem.W.codeRec_of inK hcd) (binds _ _ _ _ ?_)
  refine wpAny_newFunctionEnv_cells S.kind (fun q hq => ?_) fun env he s1 x => ?_
  · rcases S.par q.1 (List.of_mem_zip (show (q.1, q.2) ∈ ps.zip us from hq)).1 with z | z
    · exact .inl z
    · exact .inr ⟨z, PySem.W.cellsFrom_some _ _ _ (.inl z)⟩
  subst he
  refine ⟨noLim.keeps x.toInCall.keep, codeAny_func ?_⟩
  have I0 : Inv (cxU P w K mg base N qual scope f cdv A outer s H (LX K H G E)) [] (L2.start N vs) H s1 := inv_start S room.rm.hd at0 hvs rv x
  have body_ := (hb cdv A outer s H G E (room.deeper _)).run [] s1 (L2.start N vs) H (ustart n ws) G (endsU Q E) I0 (relS_start hn ru) rp (hsp ws G Q E want hlen)
    fun c d σ' H' ⟨y, us', G', x1, rp', _, q, G2, sb, z⟩ => ⟨y, G2, sb.ext x1, sb.rep rp', q, z⟩
  have done_ : ∀ {σ' : L2.St} {H' : Hp} {v : V} {u : Value} {s' : Shared}, Inv (cxU P w K mg base N qual scope f cdv A outer s H (LX K H G E)) [] σ' H' s' → RelV v u → LV K H G (KF Q) v H' → L2.CE outer P w H s (LV K H G Q) u s' :=
    fun {σ' H' v u s'} J r q => ⟨v, H', J.os, J.bare, J.base, J.hok, r, lv_forget q⟩
  refine wpAny_mono body_ (fun fl s' hs => ?_) fun e s' hs => hs
  cases fl with
  | next =>
    obtain ⟨σ', H', J, us', G', x1, rp', _, q⟩ := hs
    exact done_ (v := V.non) (u := Value.none) J rfl ⟨.non, G', x1, rp', rfl, q⟩
  | ret u =>
    obtain ⟨v, σ', H', J, r, q⟩ := hs
    exact done_ J r q
  | brk =>
    obtain ⟨_, _, _, _, _, _, _, _, q⟩ := hs
    exact q.elim
  | cont =>
    obtain ⟨_, _, _, _, _, _, _, _, q⟩ := hs
    exact q.elim
end UL
set_option maxHeartbeats 400000
namespace UL
open PySem PySem.Spec PyProof.Rows L2 PySem.W

inductive Src where | p (i : Nat) | k (i : Nat) | d (i : Nat) | q (i : Nat)
  deriving DecidableEq
def Src.get {α : Type} (z : α) (us ws dv kv : List α) : Src → α
  | .p i => us.getD i z
  | .k i => ws.getD i z
  | .d i => dv.getD i z
  | .q i => kv.getD i z
section
variable {α β : Type} (f : α → β)
def mp (l : List (Str × α)) : List (Str × β) := l.map fun q => (q.1, f q.2)
theorem lookup_mp (k : Str) : ∀ l : List (Str × α), (mp f l).lookup k = (l.lookup k).map f
  | [] => rfl
  | (a, b) :: r => by
    show List.lookup k ((a, f b) :: mp f r) = _
    rw [List.lookup_cons, List.lookup_cons]
    cases h : k == a with
    | true => simp [h]
    | false => simp [h, lookup_mp k r]
theorem mp_append (l r : List (Str × α)) : mp f (l ++ r) = mp f l ++ mp f r := List.map_append
theorem zip_mp (l : List Str) (r : List α) : l.zip (r.map f) = mp f (l.zip r) := by
  unfold mp
  induction l generalizing r with
  | nil => rfl
  | cons a l ih =>
    cases r with
    | nil => rfl
    | cons b r => simp [ih]
theorem kwAdd_mp (names : List Str) : ∀ (ks s : List (Str × α)), kwAdd names (mp f s) (mp f ks) = (kwAdd names s ks).map (mp f)
  | [], s => rfl
  | (k, v) :: r, s => by
    show (if names.contains k then (if ((mp f s).lookup k).isSome then none else kwAdd names (mp f s ++ [(k, f v)]) (mp f r)) else none) = _
    rw [lookup_mp, Option.isSome_map, show mp f s ++ [(k, f v)] = mp f (s ++ [(k, v)]) from (mp_append f s [(k, v)]).symm, kwAdd_mp names r]
    rw [kwAdd]
    split
    · split <;> rfl
    · rfl
theorem dfAdd_mp : ∀ (ks s : List (Str × α)), dfAdd (mp f s) (mp f ks) = mp f (dfAdd s ks)
  | [], s => rfl
  | (k, v) :: r, s => by
    show dfAdd (if ((mp f s).lookup k).isNone then mp f s ++ [(k, f v)] else mp f s) (mp f r) = _
    rw [lookup_mp, Option.isNone_map, show mp f s ++ [(k, f v)] = mp f (s ++ [(k, v)]) from (mp_append f s [(k, v)]).symm]
    rw [dfAdd]
    split
    · exact dfAdd_mp r _
    · exact dfAdd_mp r _
theorem kdAdd_mp (kd : List (Str × α)) : ∀ (ks : List Str) (s : List (Str × α)), kdAdd (mp f kd) (mp f s) ks = (kdAdd kd s ks).map (mp f)
  | [], s => rfl
  | k :: r, s => by
    rw [kdAdd, kdAdd, lookup_mp, lookup_mp, Option.isNone_map]
    split
    · cases kd.lookup k with
      | none => rfl
      | some v =>
        show kdAdd (mp f kd) (mp f s ++ [(k, f v)]) r = _
        rw [show mp f s ++ [(k, f v)] = mp f (s ++ [(k, v)]) from (mp_append f s [(k, v)]).symm]
        exact kdAdd_mp kd r _
    · exact kdAdd_mp kd r s
theorem getAll_mp (s : List (Str × α)) : ∀ ks : List Str, getAll (mp f s) ks = (getAll s ks).map (List.map f)
  | [] => rfl
  | k :: r => by
    rw [getAll, getAll, lookup_mp, getAll_mp s r]
    cases s.lookup k <;> cases getAll s r <;> rfl
theorem bindV_mp (normal kwonly : List Str) (us : List α) (kws : List (Str × α)) (dv : List α) (kd : List (Str × α)) :
    bindV normal kwonly (us.map f) (mp f kws) (dv.map f) (mp f kd) = (bindV normal kwonly us kws dv kd).map (List.map f) := by
  unfold bindV
  rw [List.length_map, List.length_map, zip_mp, kwAdd_mp, zip_mp]
  split
  · cases kwAdd (normal ++ kwonly) (normal.zip us) kws with
    | none => rfl
    | some s1 =>
      dsimp only [Option.map]
      have e : (List.filter (fun n => (List.lookup n (mp f s1)).isNone) (List.take (normal.length - dv.length) normal)) = (List.filter (fun n => (List.lookup n s1).isNone) (List.take (normal.length - dv.length) normal)) := by
        congr 1
        funext n
        rw [lookup_mp, Option.isNone_map]
      rw [e, dfAdd_mp, kdAdd_mp]
      split
      · cases kdAdd kd (dfAdd s1 ((normal.drop (normal.length - dv.length)).zip dv)) kwonly with
        | none => rfl
        | some s2 => exact getAll_mp f s2 _
      · rfl
  · rfl
end
theorem range_get {α : Type} (z : α) (us : List α) {n : Nat} (h : us.length = n) : (List.range n).map (fun i => us.getD i z) = us := by
  apply List.ext_getElem
  · simp [h]
  · intro i h1 h2
    simp [List.getElem?_eq_getElem h2]
def planOf (normal kwonly : List Str) (n : Nat) (ks : List Str) (a : Nat) (kn : List Str) : Option (List Src) :=
  bindV normal kwonly ((List.range n).map .p) (ks.zip ((List.range ks.length).map .k)) ((List.range a).map .d) (kn.zip ((List.range kn.length).map .q))
theorem bindV_plan {α : Type} (z : α) {normal kwonly : List Str} {n a : Nat} {ks kn : List Str} {pl : List Src} (e : planOf normal kwonly n ks a kn = some pl) {us ws dv kv : List α} (h1 : us.length = n) (h2 : ws.length = ks.length) (h3 : dv.length = a) (h4 : kv.length = kn.length) :
    bindV normal kwonly us (ks.zip ws) dv (kn.zip kv) = some (pl.map (Src.get z us ws dv kv)) := by
  have q := bindV_mp (Src.get z us ws dv kv) normal kwonly ((List.range n).map Src.p) (ks.zip ((List.range ks.length).map .k)) ((List.range a).map .d) (kn.zip ((List.range kn.length).map .q))
  rw [show bindV normal kwonly ((List.range n).map Src.p) (ks.zip ((List.range ks.length).map .k)) ((List.range a).map .d) (kn.zip ((List.range kn.length).map .q)) = some pl from e] at q
  rw [← zip_mp, ← zip_mp, List.map_map, List.map_map, List.map_map, List.map_map] at q
  rw [show (List.range n).map (Src.get z us ws dv kv ∘ Src.p) = us from range_get z us h1, show (List.range ks.length).map (Src.get z us ws dv kv ∘ Src.k) = ws from range_get z ws h2,
    show (List.range a).map (Src.get z us ws dv kv ∘ Src.d) = dv from range_get z dv h3, show (List.range kn.length).map (Src.get z us ws dv kv ∘ Src.q) = kv from range_get z kv h4] at q
  exact q
theorem paired_getD {α β : Type} {R : α → β → Prop} {z : α} {y : β} (h0 : R z y) : ∀ {l : List α} {r : List β} (i : Nat), Paired R l r → R (l.getD i z) (r.getD i y)
  | _, _, i, .nil => by simpa using h0
  | _, _, 0, .cons h _ => by simpa using h
  | _, _, i + 1, .cons _ t => by simpa using paired_getD h0 i t
theorem RelUs.getD {K : PySem.W.Frag} {H : Hp} : ∀ {us : List U} {vs : List V} (i : Nat), RelUs K H us vs → RelU K H (us.getD i .non) (vs.getD i .non)
  | [], _, i, e => by
    have e' : _ = ([] : List V) := e
    subst e'
    simp [RelU]
  | _ :: _, _, 0, ⟨v, ws, rfl, h, t⟩ => by simpa using h
  | _ :: us, _, i + 1, ⟨v, ws, rfl, h, t⟩ => by simpa using RelUs.getD i t
theorem plan_vals {us ws dv kv : List Value} {vs zs d q : List V} (h1 : Vals vs us) (h2 : Vals zs ws) (h3 : Vals d dv) (h4 : Vals q kv) : ∀ pl : List Src, Vals (pl.map (Src.get .non vs zs d q)) (pl.map (Src.get .none us ws dv kv))
  | [] => .nil
  | .p i :: pl => .cons (paired_getD (R := RelV) (z := V.non) (y := Value.none) rfl i h1) (plan_vals h1 h2 h3 h4 pl)
  | .k i :: pl => .cons (paired_getD (R := RelV) (z := V.non) (y := Value.none) rfl i h2) (plan_vals h1 h2 h3 h4 pl)
  | .d i :: pl => .cons (paired_getD (R := RelV) (z := V.non) (y := Value.none) rfl i h3) (plan_vals h1 h2 h3 h4 pl)
  | .q i :: pl => .cons (paired_getD (R := RelV) (z := V.non) (y := Value.none) rfl i h4) (plan_vals h1 h2 h3 h4 pl)
theorem plan_rel {K : PySem.W.Frag} {H : Hp} {us ws dv kv : List U} {vs zs d q : List V} (h1 : RelUs K H us vs) (h2 : RelUs K H ws zs) (h3 : RelUs K H dv d) (h4 : RelUs K H kv q) : ∀ pl : List Src, RelUs K H (pl.map (Src.get .non us ws dv kv)) (pl.map (Src.get .non vs zs d q))
  | [] => rfl
  | .p i :: pl => ⟨_, _, rfl, h1.getD i, plan_rel h1 h2 h3 h4 pl⟩
  | .k i :: pl => ⟨_, _, rfl, h2.getD i, plan_rel h1 h2 h3 h4 pl⟩
  | .d i :: pl => ⟨_, _, rfl, h3.getD i, plan_rel h1 h2 h3 h4 pl⟩
  | .q i :: pl => ⟨_, _, rfl, h4.getD i, plan_rel h1 h2 h3 h4 pl⟩

def parN (p : Arguments) : List Str := p.args.map (·.arg)
def parK (p : Arguments) : List Str := p.kwonlyargs.map (·.arg)
/-- no parameter behind a slash, none starred -/
structure Plain (p : Arguments) : Prop where
  po : p.posonlyargs = []
  va : p.vararg = none
  kw : p.kwarg = none
theorem lookup_zip_mem {α : Type} {k : Str} {v : α} : ∀ {ks : List Str} {vs : List α}, (ks.zip vs).lookup k = some v → (k, v) ∈ ks.zip vs
  | [], _, h => by simp at h
  | _ :: _, [], h => by simp at h
  | a :: ks, b :: vs, h => by
    rw [List.zip_cons_cons, List.lookup_cons] at h
    cases e : k == a with
    | true =>
      rw [e] at h
      cases h
      rw [beq_iff_eq.mp e]
      exact List.mem_cons_self
    | false =>
      rw [e] at h
      exact List.mem_cons_of_mem _ (lookup_zip_mem h)
/-- how a call with n positional values and keywords ks binds the parameters of the def -/
structure BindU (K : PySem.W.Frag) (fd : FuncData) (ps : List Str) (n : Nat) (ks : List Str) (pl : List Src) (dvs kvs : List V) : Prop where
  ex : ∃ dv kv : List Value, Vals dvs dv ∧ Vals kvs kv ∧ ∀ (s : Shared) (us ws : List Value), K.In s.heap → us.length = n → ws.length = ks.length → BindsTo s fd ⟨us, ks.zip ws⟩ (ps.zip (pl.map (Src.get .none us ws dv kv)))
theorem bind_u {K : PySem.W.Frag} {name qual : Str} {params : Arguments} {body : List Stmt} {scope : Scope} {dvs : List V} {kws : List (Str × V)} {f : Addr} {fd : FuncData} {n : Nat} {ks : List Str} {pl : List Src}
    (F : FunD K name qual params body scope dvs kws f fd) (hp : Plain params) (e : planOf (parN params) (parK params) n ks dvs.length (kws.map (·.1)) = some pl) :
    BindU K fd (parN params ++ parK params) n ks pl dvs (kws.map (·.2)) := by
  obtain ⟨oc, od, dV, kV, doc, pm, an, cdv, ct, osl, rfl, lk, hcd, hD, hK⟩ := F.ex
  have hd : ∃ dv : List Value, Vals dvs dv ∧ ∀ (M : Model) (h : Heap), K.In h → ∃ o : Option (Array Value), Looks M h (seqItems? dV) o ∧ (o.getD #[]).toList = dv := by
    rcases hD with ⟨rfl, rfl⟩ | ⟨_, T, o, its, m, rfl, lT, oT, rT⟩
    · exact ⟨[], .nil, fun M h _ => ⟨none, .of_pure rfl, rfl⟩⟩
    · refine ⟨its, rT, fun M h X => ⟨some its.toArray, fun A Q E s kp q => ?_, by simp⟩⟩
      exact wpAny_seqItems (kp _ _ (X _ _ lT)) oT q
  have hk : ∃ kv : List Value, Vals (kws.map (·.2)) kv ∧ ∀ (M : Model) (h : Heap), K.In h → ∀ k v, ((kws.map (·.1)).zip kv).lookup k = some v → ∃ D, kV = .ref D ∧ Looks M h (nsGet D k) (some v) := by
    rcases hK with rfl | ⟨D, rfl, hq⟩
    · exact ⟨[], .nil, fun M h _ k v z => by simp at z⟩
    · obtain ⟨kv, _, rk, hks⟩ := kwd_vals hq
      exact ⟨kv, rk, fun M h X k v z => ⟨D, rfl, looks_nsIn X (hks (k, v) (lookup_zip_mem z))⟩⟩
  obtain ⟨dv, rd, hd⟩ := hd
  obtain ⟨kv, rk, hk⟩ := hk
  refine ⟨dv, kv, rd, rk, fun s us ws X l1 l2 => BindsTo.of_looks fun M => ?_⟩
  exact bind_gen (fd := PySem.W.fnOf name qual params body scope dV kV doc pm an cdv ct) hp.po rfl rfl hp.va hp.kw (hd M _ X) (hk M _ X) (bindV_plan .none e l1 l2 rd.length.symm (by rw [← rk.length, List.length_map, List.length_map]))
end UL
set_option maxHeartbeats 400000
namespace UL
open PySem PySem.Spec PyProof.Rows L2 PySem.W

structure KU (X : Cx) (W : WX) (kws : List Keyword) (t : UTA) : Prop where
  run : ∀ (pos : Pos) (pins : List (Addr × Obj)) (s : Shared) (σ : L2.St) (H : Hp) (us : USt) (G : Gp) (Q : List U → Gp → Prop) (E : UX), Inv X pins σ H s → RelS X.K H us σ → Rep X.K H G → t us G Q E →
    (∀ c d H', LX X.K H G E c d H' → W c d σ H') → wpAny (model X.prog X.w) X.A (evalAll ((backToKw pos (keywordEach kws X.env)).map (·.2))) (AP X pins σ (LA X.K H G Q)) X.xe s
section
variable {X : Cx} {W : WX} {e : Expr} {es : List Expr} {kws : List Keyword} {te : UTE} {t tk ta : UTA} {nm : Option Str} {pos p kpos apos : Pos}
theorem ku_nil : KU X W [] tUNil := ⟨fun _ _ s σ H us G Q E I rs rp h _ => wpAny_evalAll_nil ⟨[], H, I, .nil, [], G, .refl _ _, rp, rfl, h⟩⟩
theorem ku_cons (ha : EU X W e te) (hr : KU X W kws t) : KU X W (⟨nm, e, kpos⟩ :: kws) (tUCons te t) := by
  refine ⟨fun pos pins s σ H us G Q E I rs rp h hx => ?_⟩
  show wpAny _ _ (evalAll ((do let v ← eval e X.env; standAt pos; pure v) :: (backToKw pos (keywordEach kws X.env)).map (·.2))) _ _ s
  refine wpAny_evalAll_cons (wpAny_bind (thn (ha.run pins s σ H us G _ E I rs rp h hx) fun u s1 ⟨x, H1, I1, r1, w, G1, x1, rp1, ru, q1⟩ => wpAny_bind (wpAny_standAt (wpAny_pure ?_))))
  refine thn (hr.run pos pins s1 σ H1 us G1 _ E I1 (rs.ext x1 rp) rp1 q1 fun c d H' z => hx c d H' (z.trans x1)) fun vs s2 ⟨xs, H2, I2, r2, ws, G2, x2, rp2, ru2, q2⟩ => ?_
  exact ⟨x :: xs, H2, I2, .cons r1 r2, w :: ws, G2, x1.trans x2, rp2, ⟨x, xs, rfl, ru.ext x2 rp1, ru2⟩, q2⟩

/-- the first argument is not starred; no argument: no value -/
def Unst (env : Env) : List Expr → UTA → Prop
  | [], t => ∀ us G Q E, t us G Q E → Q [] G
  | e :: r, _ => starEach (e :: r) env = (false, eval e env) :: starEach r env
theorem unst_nil {env : Env} : Unst env [] tUNil := fun _ _ _ _ h => h
/-- values come, then the callee runs -/
theorem call_with {f : Value} {first : List Value} {ks : List Str} (hk : PySem.W.keepIn X.K f = true) (ha : AU X W es ta) (hkw : KU X W kws tk) (hst : Unst X.env es ta)
    (hall : (backToKw pos (keywordEach kws X.env)).all (·.1.isSome) = true) (hks : (backToKw pos (keywordEach kws X.env)).filterMap (·.1) = ks)
    (hpl : ((backTo pos (starEach es X.env)).any (·.1) || (backToKw pos (keywordEach kws X.env)).any (·.1.isNone)) = false)
    {pins : List (Addr × Obj)} {s : Shared} {σ : L2.St} {H : Hp} {us : USt} {G : Gp} {R : List U → List U → Gp → Prop} {Q : Value → Shared → Prop} {E : UX} (I : Inv X pins σ H s) (rs : RelS X.K H us σ) (rp : Rep X.K H G)
    (h : ta us G (fun vs G1 => tk us G1 (fun zs G2 => R vs zs G2) E) E) (hx : ∀ c d H', LX X.K H G E c d H' → W c d σ H')
    (go : ∀ (s2 : Shared) (H2 : Hp) (G2 : Gp) (vs zs : List U) (vv zv : List V) (vl zl : List Value), Inv X pins σ H2 s2 → Ext H G H2 G2 → Rep X.K H2 G2 → Vals vv vl → Vals zv zl → RelUs X.K H2 vs vv → RelUs X.K H2 zs zv → R vs zs G2 →
      wpAny (model X.prog X.w) X.A (call f (first ++ vl) (ks.zip zl)) Q X.xe s2) :
    wpAny (model X.prog X.w) X.A (callWith pos f first (backTo pos (starEach es X.env)) (backToKw pos (keywordEach kws X.env))) Q X.xe s := by
  have kwp : ∀ {s1 : Shared} {H1 : Hp} {G1 : Gp} {vs : List U} {vv : List V} {vl : List Value}, Inv X pins σ H1 s1 → Ext H G H1 G1 → Rep X.K H1 G1 → Vals vv vl → RelUs X.K H1 vs vv → tk us G1 (fun zs G2 => R vs zs G2) E →
      wpAny (model X.prog X.w) X.A (evalAll ((backToKw pos (keywordEach kws X.env)).map (·.2))) (fun zl s2 => X.K.In s2.heap ∧ wpAny (model X.prog X.w) X.A (call f (first ++ vl) (((backToKw pos (keywordEach kws X.env)).filterMap (·.1)).zip zl)) Q X.xe s2) X.xe s1 := by
    intro s1 H1 G1 vs vv vl I1 x1 rp1 rv ru q
    refine thn (hkw.run pos pins s1 σ H1 us G1 _ E I1 (rs.ext x1 rp) rp1 q fun c d H' z => hx c d H' (z.trans x1)) fun zl s2 ⟨zv, H2, I2, rz, zs, G2, x2, rp2, ru2, q2⟩ => ⟨I2.kIn, ?_⟩
    rw [hks]
    exact go s2 H2 G2 vs zs vv zv vl zl I2 (x1.trans x2) rp2 rv rz (ru.ext x2 rp1) ru2 q2
  cases es with
  | nil =>
    refine PySem.W.callWith_KW0 (h₀ := X.base) I.ok.mod.kin hk hall ?_ hpl
    exact kwp (vs := []) (vv := []) (vl := []) I (.refl _ _) rp .nil rfl (hst _ _ _ _ h)
  | cons e r =>
    exact PySem.W.callWith_KW (h₀ := X.base) I.ok.mod.kin hk hall (thn (ha.run pos pins s σ H us G _ E I rs rp h hx) fun vl s1 ⟨vv, H1, I1, rv, vs, G1, x1, rp1, ru, q⟩ => kwp I1 x1 rp1 rv ru q) hpl hst

variable {k n : Nat} {f : Addr} {fd : FuncData} {ps ks : List Str} {sp : USp} {pl : List Src} {dvs kvs : List V} {udv ukv : List U}
theorem run_uA {A : Around} {pins : List (Addr × Obj)} {s2 : Shared} {σ : L2.St} {H H2 : Hp} {G G2 : Gp} {Q : UK} {E : UX} {vs zs : List U} {vv zv : List V} {vl zl : List Value}
    (F : FnU X.prog X.w X.K X.mg X.base k f fd ps sp) (hr : RoomU k A) (frA : A.frames = some X.stack) (hb : BindU X.K fd ps n ks pl dvs kvs) (hd : ∀ H, RelUs X.K H udv dvs) (hk : ∀ H, RelUs X.K H ukv kvs) (tk : Takes X W)
    (I : Inv X pins σ H2 s2) (x : Ext H G H2 G2) (rp : Rep X.K H2 G2) (rv : Vals vv vl) (rz : Vals zv zl) (ru : RelUs X.K H2 vs vv) (ruz : RelUs X.K H2 zs zv) (l1 : vs.length = n) (l2 : zs.length = ks.length) (l3 : pl.length = ps.length)
    (h : sp (pl.map (Src.get .non vs zs udv ukv)) G2 Q E) (hx : ∀ c d H', LX X.K H G E c d H' → W c d σ H') :
    wpAny (model X.prog X.w) A (call (.ref f) vl (ks.zip zl)) (EP X pins σ (LV X.K H G Q)) X.xe s2 := by
  obtain ⟨dv, kv, rd, rk, bt⟩ := hb.ex
  have bt2 := bt s2 vl zl I.kIn (by rw [← rv.length, ru.length, l1]) (by rw [← rz.length, ruz.length, l2])
  have lv := plan_vals rv rz rd rk pl
  have lu := plan_rel ru ruz (hd H2) (hk H2) pl
  refine wpAny_call (codeAny_mono (F.run A X.stack s2 H2 ⟨vl, ks.zip zl⟩ _ _ _ G2 Q E hr ⟨frA, I.env0.mod, I.env0.bs, I.env0.bsz, I.env0.funs, I.env0.frf, I.env0.hok, I.env0.bare⟩ bt2 lv lu (by rw [List.length_map, l3]) rp h) fun r s' hq => ?_)
  cases r with
  | error e => exact tk e s' (XE.of_call I (fun c d H' z => hx c d H' (z.trans x)) hq)
  | ok fl =>
    cases fl with
    | ret u => exact ep_imp (fun v H' q => q.trans x) (I.after hq)
    | next => exact False.elim hq
    | brk => exact False.elim hq
    | cont => exact False.elim hq

theorem run_u {pins : List (Addr × Obj)} {s2 : Shared} {σ : L2.St} {H H2 : Hp} {G G2 : Gp} {Q : UK} {E : UX} {vs zs : List U} {vv zv : List V} {vl zl : List Value}
    (F : FnU X.prog X.w X.K X.mg X.base k f fd ps sp) (hr : RoomU k X.A) (hb : BindU X.K fd ps n ks pl dvs kvs) (hd : ∀ H, RelUs X.K H udv dvs) (hk : ∀ H, RelUs X.K H ukv kvs) (tk : Takes X W)
    (I : Inv X pins σ H2 s2) (x : Ext H G H2 G2) (rp : Rep X.K H2 G2) (rv : Vals vv vl) (rz : Vals zv zl) (ru : RelUs X.K H2 vs vv) (ruz : RelUs X.K H2 zs zv) (l1 : vs.length = n) (l2 : zs.length = ks.length) (l3 : pl.length = ps.length)
    (h : sp (pl.map (Src.get .non vs zs udv ukv)) G2 Q E) (hx : ∀ c d H', LX X.K H G E c d H' → W c d σ H') :
    wpAny (model X.prog X.w) X.A (call (.ref f) vl (ks.zip zl)) (EP X pins σ (LV X.K H G Q)) X.xe s2 :=
  run_uA F hr I.ok.frames hb hd hk tk I x rp rv rz ru ruz l1 l2 l3 h hx
def tUDef (sp : USp) (n m : Nat) (pl : List Src) (udv ukv : List U) (t tk : UTA) : UTE := fun us G Q E => t us G (fun vs G1 => tk us G1 (fun zs G2 => vs.length = n ∧ zs.length = m ∧ sp (pl.map (Src.get .non vs zs udv ukv)) G2 Q E) E) E
theorem eu_call {x : Str} (F : FnU X.prog X.w X.K X.mg X.base k f fd ps sp) (hr : RoomU k X.A) (hg : Gl X x) (hm : X.mg x = some (.ref f)) (hkp : PySem.W.keepIn X.K (.ref f) = true) (hb : BindU X.K fd ps n ks pl dvs kvs)
    (hd : ∀ H, RelUs X.K H udv dvs) (hk : ∀ H, RelUs X.K H ukv kvs) (hT : Takes X W) (l3 : pl.length = ps.length) (ha : AU X W es ta) (hkw : KU X W kws tk) (hst : Unst X.env es ta)
    (hall : (backToKw pos (keywordEach kws X.env)).all (·.1.isSome) = true) (hks : (backToKw pos (keywordEach kws X.env)).filterMap (·.1) = ks)
    (hpl : ((backTo pos (starEach es X.env)).any (·.1) || (backToKw pos (keywordEach kws X.env)).any (·.1.isNone)) = false) (hdb : (x == ("__debug__" : Str)) = false) :
    EU X W (.Call (.Name x p) es kws pos) (tUDef sp n ks.length pl udv ukv ta tk) := by
  refine ⟨fun pins s σ H us G Q E I rs rp h hx => ?_⟩
  refine wpAny_Call_Name_kw (ld_glob I hg hm ?_ hdb)
  refine call_with (first := []) hkp ha hkw hst hall hks hpl I rs rp h hx fun s2 H2 G2 vs zs vv zv vl zl I2 x2 rp2 rv rz ru ruz ⟨l1, l2, q⟩ => ?_
  exact run_u F hr hb hd hk hT I2 x2 rp2 rv rz ru ruz l1 l2 l3 q hx
end
end UL
set_option maxHeartbeats 400000
namespace UL
open PySem PySem.Spec PyProof.Rows L2

section
variable {K : PySem.W.Frag} {H : Hp} {G : Gp}
theorem relUs1 {u : U} {xs : List V} (h : RelUs K H [u] xs) : ∃ x, xs = [x] ∧ RelU K H u x := by
  obtain ⟨v, ws, rfl, h1, h2⟩ := h
  have e : ws = [] := h2
  subst e
  exact ⟨v, rfl, h1⟩
theorem relUs2 {u w : U} {xs : List V} (h : RelUs K H [u, w] xs) : ∃ x y, xs = [x, y] ∧ RelU K H u x ∧ RelU K H w y := by
  obtain ⟨v, ws, rfl, h1, h2⟩ := h
  obtain ⟨y, rfl, h3⟩ := relUs1 h2
  exact ⟨v, y, rfl, h1, h3⟩
end
def u1 (f : U → Gp → UK → Prop) : URC := fun as G Q _ => match as with
  | [u] => f u G Q
  | _ => False
def u2 (f : U → U → Gp → UK → Prop) : URC := fun as G Q _ => match as with
  | [u, w] => f u w G Q
  | _ => False
theorem u1_of {f : U → Gp → UK → Prop} {as : List U} {G : Gp} {Q : UK} {E : UX} (h : u1 f as G Q E) : ∃ u, as = [u] ∧ f u G Q := by
  rcases as with _ | ⟨a, _ | ⟨b, r⟩⟩
  · exact h.elim
  · exact ⟨a, rfl, h⟩
  · exact h.elim
theorem u2_of {f : U → U → Gp → UK → Prop} {as : List U} {G : Gp} {Q : UK} {E : UX} (h : u2 f as G Q E) : ∃ u w, as = [u, w] ∧ f u w G Q := by
  rcases as with _ | ⟨a, _ | ⟨b, _ | ⟨c, r⟩⟩⟩
  · exact h.elim
  · exact h.elim
  · exact ⟨a, b, rfl, h⟩
  · exact h.elim
def absV : U → Gp → UK → Prop := fun u G Q => match u with
  | .int i => Q (.int (if i < 0 then -i else i)) G
  | _ => False
def maxV : U → U → Gp → UK → Prop := fun u w G Q => match u, w with
  | .int i, .int j => Q (.int (if j > i then j else i)) G
  | _, _ => False
def minV : U → U → Gp → UK → Prop := fun u w G Q => match u, w with
  | .int i, .int j => Q (.int (if j < i then j else i)) G
  | _, _ => False
def intV : U → Gp → UK → Prop := fun u G Q => match u with
  | .int i => Q (.int i) G
  | .bl k => Q (.int (if k then 1 else 0)) G
  | _ => False
/-- the items of a list or tuple -/
def seqOf (G : Gp) : U → Option (List U)
  | .tup us => some us
  | .rol us => some us
  | .ref a => match G a with
    | some (.lst us) => some us
    | _ => none
  | _ => none
def lenV : U → Gp → UK → Prop := fun u G Q => match u with
  | .str l => l.length ≤ 1000000 ∧ Q (.int l.length) G
  | .ref a => (match G a with
    | some (.lst us) => Q (.int us.length) G
    | some (.dct us) => Q (.int us.length) G
    | _ => False)
  | .tup us => Q (.int us.length) G
  | .rol us => Q (.int us.length) G
  | _ => False
def listV : U → Gp → UK → Prop := fun u G Q => match seqOf G u with
  | some us => ∀ p, G p = none → Q (.ref p) (gup G p (.lst us))
  | none => False
/-- what repr shows of data: its text fits -/
def Shows (G : Gp) (u : U) (d : PyData) : Prop := Dat G u d ∧ d.showable = true ∧ d.depth ≤ 40 ∧ d.shown.length ≤ sizeLine
theorem seq_rel {K : PySem.W.Frag} {H : Hp} {G : Gp} {u : U} {x : V} {us : List U} (rp : Rep K H G) (r : RelU K H u x) (h : seqOf G u = some us) : ∃ p vs, x = .ref p ∧ RelUs K H us vs ∧ (SqL K H p vs ∨ (SqT K H p vs ∧ u = .tup us)) := by
  cases u with
  | tup ws =>
    cases h
    obtain ⟨a, vs, rfl, t, ru⟩ := r.tup_of
    exact ⟨a, vs, rfl, ru, .inr ⟨t, rfl⟩⟩
  | rol ws =>
    cases h
    obtain ⟨a, vs, rfl, t, ru⟩ := r
    exact ⟨a, vs, rfl, ru, .inl t.sq⟩
  | ref a =>
    have h' : (match G a with
      | some (.lst us) => some us
      | _ => none) = some us := h
    cases g : G a with
    | none => rw [g] at h'; cases h'
    | some o =>
      rw [g] at h'
      cases o with
      | lst ws =>
        cases h'
        obtain ⟨vs, e1, ru⟩ := rp.lst g
        exact ⟨a, vs, r, ru, .inl (.of e1)⟩
      | _ => cases h'
  | _ => cases h
theorem relKV_length {K : PySem.W.Frag} {H : Hp} : ∀ {us : List (U × U)} {vs : List (Key × V)}, RelKV K H us vs → vs.length = us.length
  | [], vs, h => by
    have e : vs = [] := h
    subst e
    rfl
  | _ :: us, _, ⟨_, _, ws, rfl, _, _, t⟩ => by
    show ws.length + 1 = us.length + 1
    rw [relKV_length t]
mutual
theorem Dp.noDict {K : PySem.W.Frag} {H : Hp} : ∀ (d : PyData) (v : V), Dp K H v d → d.hasDict = false
  | .none, _, _ => by simp only [PyData.hasDict]
  | .bool _, _, _ => by simp only [PyData.hasDict]
  | .int _, _, _ => by simp only [PyData.hasDict]
  | .str _, _, _ => by simp only [PyData.hasDict]
  | .list ds, _, h => by
    cases h with
    | lst _ ha =>
      simp only [PyData.hasDict]
      exact Dp.noDictAll ds _ ha
  | .tuple ds, _, h => by
    cases h with
    | tup _ ha =>
      simp only [PyData.hasDict]
      exact Dp.noDictAll ds _ ha
  | .dict _, _, h => by cases h
theorem Dp.noDictAll {K : PySem.W.Frag} {H : Hp} : ∀ (ds : List PyData) (vs : List V), DpAll K H vs ds → PyData.hasDictAll ds = false
  | [], _, _ => by simp only [PyData.hasDictAll]
  | d :: ds, _, h => by
    cases h with
    | cons h1 h2 => simp only [PyData.hasDictAll, Dp.noDict d _ h1, Dp.noDictAll ds _ h2, Bool.or_self]
end
section
variable {X : Cx} {W : WX}
theorem cu_abs : CallU X W (.builtin "abs") (u1 absV) := .of call_abs fun xs H as G Q E r rp h => by
  obtain ⟨u, rfl, q⟩ := u1_of h
  clear h
  obtain ⟨x, rfl, e⟩ := relUs1 r
  cases u <;> try exact q.elim
  case int i => exact ⟨i, by rw [show x = .int i from e], lv_int rp q⟩
theorem cu_max (hc : X.calm = true) : CallU X W (.builtin "max") (u2 maxV) := .of (call_max2 hc) fun xs H as G Q E r rp h => by
  obtain ⟨u, w, rfl, q⟩ := u2_of h
  clear h
  obtain ⟨x, y, rfl, e, e'⟩ := relUs2 r
  cases u <;> try exact q.elim
  cases w <;> try exact q.elim
  case int.int i j => exact ⟨i, j, by rw [show x = .int i from e, show y = .int j from e'], lv_int rp q⟩
theorem cu_min (hc : X.calm = true) : CallU X W (.builtin "min") (u2 minV) := .of (call_min2 hc) fun xs H as G Q E r rp h => by
  obtain ⟨u, w, rfl, q⟩ := u2_of h
  clear h
  obtain ⟨x, y, rfl, e, e'⟩ := relUs2 r
  cases u <;> try exact q.elim
  cases w <;> try exact q.elim
  case int.int i j => exact ⟨i, j, by rw [show x = .int i from e, show y = .int j from e'], lv_int rp q⟩
theorem cu_int : CallU X W (.type "int") (u1 intV) := .of call_int1 fun xs H as G Q E r rp h => by
  obtain ⟨u, rfl, q⟩ := u1_of h
  clear h
  obtain ⟨x, rfl, e⟩ := relUs1 r
  cases u <;> try exact q.elim
  case int i => exact .inl ⟨i, by rw [show x = .int i from e], lv_int rp q⟩
  case bl i => exact .inr ⟨i, by rw [show x = .bl i from e], lv_int rp q⟩
theorem cu_len : CallU X W (.builtin "len") (u1 lenV) := .of (call_len.or call_lenD) fun xs H as G Q E r rp h => by
  obtain ⟨u, rfl, q⟩ := u1_of h
  clear h
  obtain ⟨x, rfl, e⟩ := relUs1 r
  cases u <;> try exact q.elim
  case str l => exact .inl ⟨x, l.length, rfl, by rw [show x = .str ⟨l.toArray⟩ from e]; exact ⟨lim_line q.1, rfl⟩, lv_int rp q.2⟩
  case tup us =>
    obtain ⟨a, vs, rfl, t, ru⟩ := e.tup_of
    exact .inl ⟨_, us.length, rfl, .inr ⟨vs, t, ru.length.symm⟩, lv_int rp q⟩
  case rol us =>
    obtain ⟨a, vs, rfl, t, ru⟩ := e
    exact .inl ⟨_, us.length, rfl, .inl ⟨vs, t.sq, ru.length.symm⟩, lv_int rp q⟩
  case ref a =>
    have h' : (match G a with
      | some (.lst us) => Q (.int us.length) G
      | some (.dct us) => Q (.int us.length) G
      | _ => False) := q
    have ex : x = .ref a := e
    subst ex
    cases g : G a with
    | none =>
      rw [g] at h'
      exact h'.elim
    | some o =>
      rw [g] at h'
      cases o with
      | lst us =>
        obtain ⟨vs, e1, ru⟩ := rp.lst g
        exact .inl ⟨_, us.length, rfl, .inl ⟨vs, .of e1, ru.length.symm⟩, lv_int rp h'⟩
      | dct us =>
        obtain ⟨vs, e1, ru⟩ := rp.dct g
        exact .inr ⟨a, vs, rfl, e1, by rw [relKV_length ru]; exact lv_int rp h'⟩
      | dcr od gs kvs => exact h'.elim
      | ins c fs => exact h'.elim
      | xcp c fs => exact h'.elim
theorem cu_list : CallU X W (.type "list") (u1 listV) := .of call_list_of fun xs H as G Q E r rp h => by
  obtain ⟨u, rfl, q⟩ := u1_of h
  clear h
  obtain ⟨x, rfl, e⟩ := relUs1 r
  unfold listV at q
  cases g : seqOf G u with
  | none => rw [g] at q; exact q.elim
  | some us =>
    rw [g] at q
    obtain ⟨p, vs, rfl, ru, t⟩ := seq_rel rp e g
    exact ⟨p, vs, rfl, t.imp id (·.1), fun l hl => lv_lst rp ru hl (q l (rp.fresh hl))⟩
end
end UL
set_option maxHeartbeats 400000
namespace UL
open PySem PySem.Spec PyProof.Rows L2

abbrev URM := U → List U → Gp → UK → UX → Prop
theorem MtU.of {X : Cx} {W : WX} {id : String} {r : URM} {rv : V → List V → Hp → VK → Prop} (h : MtM X id rv) (k : ∀ x xs H a as G Q E, RelU X.K H a x → RelUs X.K H as xs → Rep X.K H G → r a as G Q E → rv x xs H (LV X.K H G Q)) : MtU X W id r :=
  fun pins s σ H x xs v us a as G Q E I rx rv' ra ras rp hr _ => h pins s σ H x xs v us _ I rx rv' (k x xs H a as G Q E ra ras rp hr)
/-- the receiver is a list -/
def onLst (f : Addr → List U → List U → Gp → UK → Prop) : URM := fun x as G Q _ => match x with
  | .ref a => match G a with
    | some (.lst us) => f a us as G Q
    | _ => False
  | _ => False
theorem onLst_of {f : Addr → List U → List U → Gp → UK → Prop} {x : U} {as : List U} {G : Gp} {Q : UK} {E : UX} (h : onLst f x as G Q E) : ∃ a us, x = .ref a ∧ G a = some (.lst us) ∧ f a us as G Q := by
  cases x <;> try exact h.elim
  case ref a =>
    have h' : (match G a with
      | some (.lst us) => f a us as G Q
      | _ => False) := h
    cases g : G a with
    | none =>
      rw [g] at h'
      exact h'.elim
    | some o =>
      rw [g] at h'
      cases o with
      | lst us => exact ⟨a, us, rfl, g, h'⟩
      | _ => exact h'.elim
def appendL : Addr → List U → List U → Gp → UK → Prop := fun a us as G Q => match as with
  | [y] => us.length < 1000000 ∧ Q .non (gup G a (.lst (us ++ [y])))
  | _ => False
section
variable {X : Cx} {W : WX}
theorem mu_append : MtU X W "list.append" (onLst appendL) := .of mt_append fun x xs H u as G Q E ru ras rp h => by
  obtain ⟨a, us, rfl, g, h⟩ := onLst_of h
  rcases as with _ | ⟨y, _ | ⟨z, r⟩⟩
  · exact h.elim
  · obtain ⟨yv, rfl, ry⟩ := relUs1 ras
    obtain ⟨vs, e, rv⟩ := rp.lst g
    exact ⟨a, vs, yv, ru, rfl, e, by rw [rv.length]; exact lim_lt h.1, lv_setl (u := .non) rp g (rv.append (.one ry)) rfl h.2⟩
  · exact h.elim
end

def IntU (ns : List Int) : List U := ns.map .int
theorem relUs_ints {K : PySem.W.Frag} {H : Hp} : ∀ ns : List Int, RelUs K H (IntU ns) (ns.map V.int)
  | [] => rfl
  | n :: ns => ⟨.int n, _, rfl, rfl, relUs_ints ns⟩
theorem law_u {P : Program} {w : World} {K : PySem.W.Frag} {mg mb : Str → Option Value} {k : Nat} {fa a : Addr} {fd : FuncData} {x : Str} {sp : USp} {s1 : Shared} {vs : List Value} {ns : List Int}
    (inK : K.In s1.heap) (glo : s1.heap.Ns mainGlobals mg) (blt : s1.heap.Ns builtinsNs mb) (bb : ∀ x : Str, x ≠ "__name__" → mb x = bootBuiltins x) (lim : s1.heap.NoLimit) (noGen : s1.gens = #[])
    (at_ : s1.heap.get? a = some { cls := .type "list", data := .seq vs.toArray }) (ints_ : IntsAre vs ns) (short : ns.length ≤ sizeLine) (room : RoomU k callerA)
    (F : ∀ base : Heap, K.In base → base.Ns mainGlobals mg → FnU P w K mg base k fa fd [x] sp) (bind1 : ∀ (s : Shared) (u : Value), BindsTo s fd ⟨[u], []⟩ [(x, u)])
    (want : sp [.rol (IntU ns)] (fun _ => none) (fun v _ => v = .bl true) fun _ _ => False) :
    codeAny (model P w) callerA (.call (.ref fa) ⟨[.ref a], []⟩) (fun r s' => r = .ok (.ret (.bool true)) ∧ OldK s1.heap s'.heap ∧ s'.os = s1.os ∧ AllBare s'.gens) s1 := by
  have rv := vals_ints ints_
  have lenV := ints_.length
  -- H: nothing is tracked but, at most, the script
  suffices main : ∀ H : Hp, (∀ b, b ≠ a → H b = none) → (H a = none ∨ (H a = some (.frz { cls := .type "list", data := .seq vs.toArray } (.lst (ns.map V.int))) ∧ K.lookup a = none)) → RoL K H a (ns.map V.int) → HOk P w H s1.heap →
      codeAny (model P w) callerA (.call (.ref fa) ⟨[.ref a], []⟩) (fun r s' => r = .ok (.ret (.bool true)) ∧ OldK s1.heap s'.heap ∧ s'.os = s1.os ∧ AllBare s'.gens) s1 by
    cases kl : K.lookup a with
    | some o =>
      have e := inK a o kl
      rw [at_] at e
      cases e
      exact main (fun _ => none) (fun _ _ => rfl) (.inl rfl) (.inr ⟨_, vs.toArray, _, kl, rfl, rfl, rfl, by rw [List.size_toArray, lenV]; exact short, by simpa using rv⟩) fun b u z => nomatch (show (none : Option HO) = some u from z)
    | none =>
      have here : (fun b => if b = a then some (HO.frz { cls := .type "list", data := .seq vs.toArray } (.lst (ns.map V.int))) else none : Hp) a = some (HO.frz { cls := .type "list", data := .seq vs.toArray } (.lst (ns.map V.int))) := if_pos rfl
      refine main (fun b => if b = a then some (.frz { cls := .type "list", data := .seq vs.toArray } (.lst (ns.map V.int))) else none) (fun b hb => if_neg hb) (.inr ⟨here, kl⟩) (.inl ⟨_, here⟩) fun b u z => ?_
      by_cases hb : b = a
      · subst hb
        cases here.symm.trans z
        exact ⟨at_, by rw [List.length_map]; exact short, vs, _, rv, at_⟩
      · cases (if_neg hb).symm.trans z
  intro H off on rl hok
  have isSeq : ∀ {b : Addr} {o : Obj}, s1.heap.get? b = some o → (∀ n, o ≠ { cls := .type "list", data := .seq vs.toArray n }) → H b = none := fun {b o} e ne => by
    by_cases hb : b = a
    · subst hb
      rw [at_] at e
      cases e
      exact absurd rfl (ne _)
    · exact off b hb
  have nsB : ∀ {b : Addr} {m : Str → Option Value}, s1.heap.Ns b m → (hidT s1.heap H).Ns b m := fun {b m} ⟨o, es, ep, e, d, r⟩ =>
    ⟨o, es, ep, hidT_get e (isSeq e fun n z => by rw [z] at d; exact nomatch (show Data.seq vs.toArray n = Data.dict es ep from d)), d, r⟩
  have kB : K.In (hidT s1.heap H) := fun b o e => hidT_get (inK b o e) (by
    by_cases hb : b = a
    · subst hb
      rcases on with z | ⟨_, z⟩
      · exact z
      · rw [e] at z
        cases z
    · exact off b hb)
  obtain ⟨mc, c1, c2⟩ := lim
  have at0 : Env0 P w K mg (hidT s1.heap H) callerA [] s1 H := ⟨rfl, ⟨kB, nsB glo, ⟨mb, nsB blt, bb⟩, mc, nsB c1, c2⟩, fun b o e => of_hidT e, Nat.le_of_eq (hidT_size _ _), trivial, (fun b hb => nomatch hb), hok, .of_eq noGen⟩
  have rp : Rep K H (fun _ => none) := fun b o z => nomatch (show (none : Option Ob) = some o from z)
  refine codeAny_mono ((F _ kB (nsB glo)).run callerA [] s1 H ⟨[.ref a], []⟩ [.ref a] [.ref a] [.rol (IntU ns)] (fun _ => none) _ _ room at0 (bind1 s1 (.ref a)) (.cons rfl .nil) ⟨.ref a, [], rfl, ⟨a, ns.map V.int, rfl, rl, relUs_ints ns⟩, rfl⟩ rfl rp want) fun r s' h => ?_
  cases r with
  | error e =>
    obtain ⟨_, _, H', c, d, _, _, _, _, _, _, _, y, G', _, _, _, z⟩ := h
    exact z.elim
  | ok fl =>
    cases fl with
    | next => exact False.elim h
    | brk => exact False.elim h
    | cont => exact False.elim h
    | ret u =>
      obtain ⟨v, H', os, bare, un, hok', r', w', G', _, _, rw', e⟩ := h
      have e' : w' = .bl true := e
      subst e'
      have ev : v = .bl true := rw'
      subst ev
      obtain rfl : u = Value.bool true := r'
      refine ⟨rfl, OldK.of_keep fun b o e => ?_, os, bare⟩
      by_cases hb : b = a
      · subst hb
        rcases on with z | ⟨z, _⟩
        · exact un.keep b o e z (fun q => nomatch q) (fun q => nomatch q)
        · obtain ⟨e1, _⟩ := hok b _ z
          obtain ⟨e2, _⟩ := hok' b _ (un.frzs b _ _ z)
          rw [e] at e1
          cases e1
          exact e2
      · exact un.keep b o e (off b hb) (fun q => nomatch q) (fun q => nomatch q)
theorem walk_u {l : PySem.W.OpenLaw} {n k : Nat} {q : Program} {loose : List Str} {XP : (Str → Option Value) → Heap → Prop} {YP : World → Heap → Prop} {d : DefRec} {x : Str} {sp : USp}
    (hn : l.most = some n) (hn2 : n ≤ sizeLine) (hdf : d.params.defaults = []) (room : RoomU k callerA)
    (F : ∀ (w : World) (mg : Str → Option Value) (fa : Addr) (h : Heap), YP w h → h.Ns mainGlobals mg → mg d.name = some (.ref fa) →
      ∃ (K : PySem.W.Frag) (fd : FuncData), K.In h ∧ (∀ (s : Shared) (u : Value), BindsTo s fd ⟨[u], []⟩ [(x, u)]) ∧ ∀ base : Heap, K.In base → base.Ns mainGlobals mg → FnU l.prog w K mg base k fa fd [x] sp)
    (want : ∀ ns : List Int, ns.length ≤ n → (∀ z ∈ ns, Builtin.Int.intBits z ≤ 1048576) → sp [.rol (IntU ns)] (fun _ => none) (fun v _ => v = .bl true) fun _ _ => False) :
    PySem.W.WalkO q loose XP YP l.row.toRowW d [] (fun f vs => PySem.call f vs) := by
  refine Att.attach_callB hn hdf fun w s₀ s1 mg mb fa o pm cd doc a vs ns G Y ho hd hcd hmg hobj hints hlen hbits hg => ?_
  obtain ⟨K, fd, inK, hb, hF⟩ := F w mg fa _ Y G.T.g hmg
  exact law_u inK G.T.g G.T.b G.T.builtins G.T.nolimit hg hobj hints (Nat.le_trans hlen hn2) room hF hb (want ns hlen hbits)
end UL
set_option maxHeartbeats 400000
namespace UL
open PySem PySem.Spec PyProof.Rows L2

structure DD where
  at_ : PySem.W.Frag → Addr
  name : Str
  qual : Str
  params : Arguments
  body : List Stmt
  scope : Scope
  dfl : List He.Dv := []
  kwd : List (Str × He.Dv) := []
def DD.dvs (K : PySem.W.Frag) (d : DD) : List V := d.dfl.map (He.Dv.v K)
def DD.kws (K : PySem.W.Frag) (d : DD) : List (Str × V) := d.kwd.map fun z => (z.1, z.2.v K)
def gAt (x : String) (K : PySem.W.Frag) : Addr := He.ga K (S x)
def mAt (c m : String) (K : PySem.W.Frag) : Addr := He.ma K (He.ga K (S c)) (S m)
def codeOf (d : FuncData) : He.FnW := some (d.name, d.qualname, d.params, d.body, d.scope, d.globals, d.closure, d.builtins)
def told (K : PySem.W.Frag) (a : Addr) : He.FnW := (K.lookup a).bind fun o => match o.data with
  | .func z => codeOf z
  | _ => none
def DD.due (d : DD) : He.FnW := some (d.name, d.qual, d.params, .stmts d.body, d.scope, mainGlobals, [], builtinsNs)
def DD.fit (K : PySem.W.Frag) (d : DD) : Bool := PySem.W.keepIn K (.ref (d.at_ K)) && (match (K.lookup (d.at_ K)).map (fun o : Obj => o.data) with
  | some (.func z) => PySem.W.codeIn K z.code d.qual && He.dflB K z.defaults (d.dvs K) && He.kwdB K z.kwdefaults (d.kws K)
  | _ => false)
theorem DD.funD {K : PySem.W.Frag} {d : DD} (e : told K (d.at_ K) = d.due) (c : d.fit K = true) : ∃ z, FunD K d.name d.qual d.params d.body d.scope (d.dvs K) (d.kws K) (d.at_ K) z := by
  unfold DD.fit at c
  rw [Bool.and_eq_true] at c
  obtain ⟨kp, c⟩ := c
  unfold told at e
  cases hl : K.lookup (d.at_ K) with
  | none => rw [hl] at c; cases c
  | some o =>
    rw [hl] at c e
    obtain ⟨ocl, odi, oda, osl⟩ := o
    cases oda <;> try (cases c; done)
    rename_i z
    simp only [Option.map_some, Bool.and_eq_true] at c
    obtain ⟨⟨c1, c2⟩, c3⟩ := c
    have e2 : codeOf z = d.due := e
    unfold codeOf DD.due at e2
    obtain ⟨z1, z2, z3, z4, z5, z6, z7, z8, z9, z10, z11, z12, z13, z14, z15⟩ := z
    simp only [Option.some.injEq, Prod.mk.injEq] at e2
    obtain ⟨rfl, rfl, rfl, rfl, rfl, rfl, rfl, rfl⟩ := e2
    exact ⟨_, ⟨ocl, odi, z8, z9, z10, z11, z12, z13, z14, osl, rfl, hl, c1, He.dflB_ok c2, He.kwdB_ok c3⟩, kp⟩
end UL
set_option maxHeartbeats 400000
namespace UL
open PySem PySem.Spec PyProof.Rows L2

def fdOf (K : PySem.W.Frag) (a : Addr) : FuncData := match K.lookup a with
  | some ⟨_, _, .func fd, _⟩ => fd
  | _ => default
structure FunK (K : PySem.W.Frag) (d : DD) : Prop where
  D : FunD K d.name d.qual d.params d.body d.scope (d.dvs K) (d.kws K) (d.at_ K) (fdOf K (d.at_ K))
theorem funK {K : PySem.W.Frag} {d : DD} (h : ∃ fd, FunD K d.name d.qual d.params d.body d.scope (d.dvs K) (d.kws K) (d.at_ K) fd) : FunK K d := by
  obtain ⟨fd, F⟩ := h
  obtain ⟨oc, od, dV, kV, doc, pm, an, cdv, ct, osl, e, lk, r⟩ := F.ex
  have z : fdOf K (d.at_ K) = fd := by
    unfold fdOf
    rw [lk]
  exact ⟨by rw [z]; exact F⟩
structure Known (P : Program) (w : World) (K : PySem.W.Frag) (mg : Str → Option Value) (base : Heap) (d : DD) (k : Nat) (sp : USp) : Prop where
  F : FnU P w K mg base k (d.at_ K) (fdOf K (d.at_ K)) (parN d.params ++ parK d.params) sp
  D : FunD K d.name d.qual d.params d.body d.scope (d.dvs K) (d.kws K) (d.at_ K) (fdOf K (d.at_ K))
def uOf : He.Dv → U
  | .bl b => .bl b
  | .int i => .int i
  | .str x => .str x.cps.toList
  | .ty n => .ty n
  | _ => .non
def plainD : He.Dv → Bool
  | .non => true
  | .bl _ => true
  | .int _ => true
  | .str _ => true
  | .ty _ => true
  | _ => false
theorem rel_dv {K : PySem.W.Frag} {H : Hp} (d : He.Dv) (h : plainD d = true) : RelU K H (uOf d) (d.v K) := by
  cases d <;> first
    | rfl
    | cases h
theorem relUs_dv {K : PySem.W.Frag} {H : Hp} : ∀ l : List He.Dv, l.all plainD = true → RelUs K H (l.map uOf) (l.map (He.Dv.v K))
  | [], _ => rfl
  | d :: l, h => by
    rw [List.all_cons, Bool.and_eq_true] at h
    exact ⟨_, _, rfl, rel_dv d h.1, relUs_dv l h.2⟩
theorem relUs_kd {K : PySem.W.Frag} {H : Hp} : ∀ l : List (Str × He.Dv), l.all (fun q => plainD q.2) = true → RelUs K H (l.map fun q => uOf q.2) ((l.map fun q => (q.1, q.2.v K)).map (·.2))
  | [], _ => rfl
  | d :: l, h => by
    rw [List.all_cons, Bool.and_eq_true] at h
    exact ⟨_, _, rfl, rel_dv d.2 h.1, relUs_kd l h.2⟩
def tUTest (t : UTE) : UTT := fun us G Q E => t us G (kBl Q) E
def KS (P : USt → Gp → Prop) : USt → Gp → Prop := fun us G => ∃ G2, Sub G2 G ∧ P us G2
theorem KS.now {P : USt → Gp → Prop} {us : USt} {G : Gp} (h : P us G) : KS P us G := ⟨G, .refl G, h⟩
def tUCut (t : UTS) : UTS := fun D us G => ∃ M : USt → Gp → Prop, (∀ us G, M us G → KS D.nx us G) ∧ t { D with nx := M } us G
/-- a condition with a cut behind it -/
def CondE (k : Bool) (x y : UK → UX → Prop) (Q : UK) (E : UX) : Prop := ∃ M : UK, (∀ u G, M u G → KF Q u G) ∧ bif k then x M E else y M E
def CondS (k : Bool) (x y : UEnds → Prop) (D : UEnds) : Prop := ∃ M : USt → Gp → Prop, (∀ us G, M us G → KS D.nx us G) ∧ bif k then x { D with nx := M } else y { D with nx := M }
def tUIfC (c : UTT) (ta tb : UTE) : UTE := fun us G Q E => c us G (fun k G1 => CondE k (ta us G1) (tb us G1) Q E) E
def tUIfSC (c : UTT) (t u : UTS) : UTS := fun D us G => c us G (fun k G1 => CondS k (fun D' => t D' us G1) (fun D' => u D' us G1) D) (fun x G1 => D.ex x us G1)
theorem lv_weak {K : PySem.W.Frag} {H H' : Hp} {G : Gp} {M Q : UK} (le : ∀ u G, M u G → KF Q u G) {v : V} (q : LV K H G M v H') : LV K H G Q v H' := by
  obtain ⟨u, G', a, b, c, m⟩ := q
  obtain ⟨G2, sb, n⟩ := le _ _ m
  exact ⟨u, G2, sb.ext a, sb.rep b, c, n⟩
theorem eu_ifC {X : Cx} {W : WX} {c a b : Expr} {tc : UTT} {ta tb : UTE} {pos : Pos} (hc : TU X W c tc) (ha : EU X W a ta) (hb : EU X W b tb) : EU X W (.IfExp c a b pos) (tUIfC tc ta tb) := by
  refine ⟨fun pins s σ H us G Q E I rs rp h hx => ?_⟩
  refine wpAny_IfExp (thn (hc.run pins s σ H us G _ E I rs rp h hx) fun d s1 ⟨H1, I1, G1, x1, r1, M, le, q1⟩ => ?_)
  cases d with
  | true => exact thn (ha.run pins s1 σ H1 us G1 M E I1 (rs.ext x1 rp) r1 q1 fun c d H' h' => hx c d H' (h'.trans x1)) fun _ _ h => ep_imp (fun _ _ h => lv_weak le (h.trans x1)) h
  | false => exact thn (hb.run pins s1 σ H1 us G1 M E I1 (rs.ext x1 rp) r1 q1 fun c d H' h' => hx c d H' (h'.trans x1)) fun _ _ h => ep_imp (fun _ _ h => lv_weak le (h.trans x1)) h
theorem ls_weak {K : PySem.W.Frag} {H H' : Hp} {G : Gp} {M Q : USt → Gp → Prop} (le : ∀ u G, M u G → KS Q u G) {σ' : L2.St} (q : LS K H G M σ' H') : LS K H G Q σ' H' := by
  obtain ⟨u, G', a, b, c, m⟩ := q
  obtain ⟨G2, sb, n⟩ := le _ _ m
  exact ⟨u, G2, sb.ext a, sb.rep b, c, n⟩
theorem su_ifC {X : Cx} {W : WX} {c : Expr} {a b : List Stmt} {tc : UTT} {t u : UTS} {pos : Pos} (hc : TU X W c tc) (ha : SsU X W a t) (hb : SsU X W b u) : SU X W (.If c a b pos) (tUIfSC tc t u) := by
  refine .of (ps_if hc.pt ha.pss hb.pss) fun σ H us G D rs rp h hx => ⟨us, G, _, _, rs, rp, h, fun v H' ⟨G1, x1, r1, M, le, q⟩ => ?_, fun c d H' h' => hx c d σ H' (LXS.of rs rp h')⟩
  cases v with
  | true =>
    rw [if_pos rfl]
    exact ⟨us, G1, _, rs.ext x1 rp, r1, q, fun _ _ h => ls_weak le (h.trans x1), fun _ _ h => h.trans x1, fun _ _ h => h.trans x1, fun _ _ h => h.trans x1, fun c d σ' H' h' => hx c d σ' H' (h'.trans x1)⟩
  | false =>
    rw [if_neg Bool.false_ne_true]
    exact ⟨us, G1, _, rs.ext x1 rp, r1, q, fun _ _ h => ls_weak le (h.trans x1), fun _ _ h => h.trans x1, fun _ _ h => h.trans x1, fun _ _ h => h.trans x1, fun c d σ' H' h' => hx c d σ' H' (h'.trans x1)⟩
theorem condT {x y : UK → UX → Prop} {Q : UK} {E : UX} (h : x Q E) : CondE true x y Q E := ⟨Q, fun _ _ h => KF.now h, h⟩
theorem condF {x y : UK → UX → Prop} {Q : UK} {E : UX} (h : y Q E) : CondE false x y Q E := ⟨Q, fun _ _ h => KF.now h, h⟩
theorem scondT {x y : UEnds → Prop} {D : UEnds} (h : x D) : CondS true x y D := ⟨D.nx, fun _ _ h => KS.now h, h⟩
theorem scondF {x y : UEnds → Prop} {D : UEnds} (h : y D) : CondS false x y D := ⟨D.nx, fun _ _ h => KS.now h, h⟩
/-- both ways go on by themselves -/
theorem cond2 {k : Bool} {x y : UK → UX → Prop} {Q : UK} {E : UX} (h1 : k = true → x Q E) (h2 : k = false → y Q E) : CondE k x y Q E := by
  cases k with
  | true => exact condT (h1 rfl)
  | false => exact condF (h2 rfl)
theorem scond2 {k : Bool} {x y : UEnds → Prop} {D : UEnds} (h1 : k = true → x D) (h2 : k = false → y D) : CondS k x y D := by
  cases k with
  | true => exact scondT (h1 rfl)
  | false => exact scondF (h2 rfl)
theorem dcond2 {p : Prop} [Decidable p] {x y : UK → UX → Prop} {Q : UK} {E : UX} (h1 : p → x Q E) (h2 : ¬p → y Q E) : CondE (decide p) x y Q E :=
  cond2 (fun e => h1 (of_decide_eq_true e)) fun e => h2 (of_decide_eq_false e)
theorem dscond2 {p : Prop} [Decidable p] {x y : UEnds → Prop} {D : UEnds} (h1 : p → x D) (h2 : ¬p → y D) : CondS (decide p) x y D :=
  scond2 (fun e => h1 (of_decide_eq_true e)) fun e => h2 (of_decide_eq_false e)
/-- both ways lead to M -/
theorem condM {k : Bool} {x y : UK → UX → Prop} {Q : UK} {E : UX} (M : UK) (h1 : k = true → x (KF M) E) (h2 : k = false → y (KF M) E) (h : ∀ u G, M u G → Q u G) : CondE k x y Q E :=
  ⟨KF M, fun u G ⟨G2, s, m⟩ => ⟨G2, s, h u G2 m⟩, by cases k with
    | true => exact h1 rfl
    | false => exact h2 rfl⟩
theorem cut {t : UTS} {D : UEnds} {us : USt} {G : Gp} (M : USt → Gp → Prop) (h : t { D with nx := KS M } us G) (k : ∀ us G, M us G → D.nx us G) : tUCut t D us G := ⟨_, fun us G ⟨G2, s, m⟩ => ⟨G2, s, k us G2 m⟩, h⟩
section
variable {X : Cx} {W : WX} {es : List Expr} {kws : List Keyword} {tk ta : UTA} {pos p : Pos} {k k' n : Nat} {ks : List Str} {sp : USp} {pl : List Src} {x : Str} {d : DD}
/-- a call of a def of the module -/
theorem eu_def (kn : Known X.prog X.w X.K X.mg X.base d k sp) (hr : RoomU k X.A) (hg : Gl X x) (hm : X.mg x = some (.ref (d.at_ X.K))) (hP : Plain d.params) (e : planOf (parN d.params) (parK d.params) n ks d.dfl.length (d.kwd.map (·.1)) = some pl)
    (hd : d.dfl.all plainD = true) (hk : d.kwd.all (fun q => plainD q.2) = true) (hT : Takes X W) (l3 : pl.length = (parN d.params ++ parK d.params).length) (ha : AU X W es ta) (hkw : KU X W kws tk) (hst : Unst X.env es ta)
    (hall : (backToKw pos (keywordEach kws X.env)).all (·.1.isSome) = true) (hks : (backToKw pos (keywordEach kws X.env)).filterMap (·.1) = ks)
    (hpl : ((backTo pos (starEach es X.env)).any (·.1) || (backToKw pos (keywordEach kws X.env)).any (·.1.isNone)) = false) (hdb : (x == ("__debug__" : Str)) = false) :
    EU X W (.Call (.Name x p) es kws pos) (tUDef sp n ks.length pl (d.dfl.map uOf) (d.kwd.map fun q => uOf q.2) ta tk) := by
  have b := bind_u (n := n) (ks := ks) (pl := pl) kn.D hP (by
    unfold DD.dvs DD.kws
    rw [List.length_map, List.map_map]
    exact e)
  exact eu_call kn.F hr hg hm kn.D.kp b (fun _ => relUs_dv _ hd) (fun _ => relUs_kd _ hk) hT l3 ha hkw hst hall hks hpl hdb
end
end UL
set_option maxHeartbeats 400000
namespace UL
open PySem PySem.Spec PyProof.Rows L2 PySem.W

theorem S_list (s : String) : (S s).cps.toList = s.toList.map Char.toNat := by
  show (PySem.cpsOfBytes 0 0 s.toByteArray.data.toList).toArray.toList = _
  rw [PySem.cpsOfBytes_string]
theorem S_inj {a b : String} (h : S a = S b) : a = b := by
  have e : a.toList.map Char.toNat = b.toList.map Char.toNat := by rw [← S_list, ← S_list, h]
  have e2 : a.toList = b.toList := by
    have go : ∀ (l m : List Char), l.map Char.toNat = m.map Char.toNat → l = m := by
      intro l
      induction l with
      | nil =>
        intro m h
        cases m with
        | nil => rfl
        | cons _ _ => cases h
      | cons x l ih =>
        intro m h
        cases m with
        | nil => cases h
        | cons y m =>
          simp only [List.map_cons, List.cons.injEq] at h
          have e : x = y := Char.ext (UInt32.toNat_inj.mp h.1)
          rw [e, ih m h.2]
    exact go _ _ e
  exact String.toList_inj.mp e2
theorem RelF.get {K : PySem.W.Frag} {H : Hp} {C : Addr} {f : String} {u : U} : ∀ {fs : List (String × U)} {gs : List (Str × V)}, RelF K H C fs gs → fget fs f = some u → ∃ v, gs.lookup (S f) = some v ∧ RelU K H u v ∧ NoAttr K C (S f)
  | [], _, _, h => by cases h
  | (g, w) :: r, _, ⟨v, ws, rfl, rw_, na, t⟩, h => by
    unfold fget at h
    by_cases e : g = f
    · subst e
      rw [if_pos rfl] at h
      cases h
      exact ⟨v, by rw [List.lookup_cons]; simp, rw_, na⟩
    · rw [if_neg e] at h
      obtain ⟨v', h1, h2, h3⟩ := RelF.get t h
      have ne : (S f == S g) = false := beq_eq_false_iff_ne.mpr fun z => e (S_inj z.symm)
      exact ⟨v', by rw [List.lookup_cons, ne]; exact h1, h2, h3⟩
theorem RelF.none {K : PySem.W.Frag} {H : Hp} {C : Addr} {f : String} : ∀ {fs : List (String × U)} {gs : List (Str × V)}, RelF K H C fs gs → fget fs f = none → gs.lookup (S f) = none
  | [], _, e, _ => by
    have e' : _ = ([] : List (Str × V)) := e
    subst e'
    rfl
  | (g, w) :: r, _, ⟨v, ws, rfl, rw_, na, t⟩, h => by
    unfold fget at h
    by_cases e : g = f
    · subst e
      rw [if_pos rfl] at h
      cases h
    · rw [if_neg e] at h
      have ne : (S f == S g) = false := beq_eq_false_iff_ne.mpr fun z => e (S_inj z.symm)
      rw [List.lookup_cons, ne]
      exact RelF.none t h
theorem RelF.put {K : PySem.W.Frag} {H : Hp} {C : Addr} {f : String} {u : U} {v : V} (hu : RelU K H u v) (na : NoAttr K C (S f)) : ∀ {fs : List (String × U)} {gs : List (Str × V)}, RelF K H C fs gs → RelF K H C (fput fs f u) (putF (S f) v gs)
  | [], _, e => by
    have e' : _ = ([] : List (Str × V)) := e
    subst e'
    exact ⟨v, [], rfl, hu, na, rfl⟩
  | (g, w) :: r, _, ⟨z, ws, rfl, rw_, na', t⟩ => by
    unfold fput putF
    by_cases e : g = f
    · subst e
      rw [if_pos rfl, if_pos rfl]
      exact ⟨v, ws, rfl, hu, na, t⟩
    · have ne : ¬ S g = S f := fun q => e (S_inj q)
      rw [if_neg e, if_neg ne]
      exact ⟨z, _, rfl, rw_, na', RelF.put hu na t⟩
theorem RelF.length {K : PySem.W.Frag} {H : Hp} {C : Addr} : ∀ {fs : List (String × U)} {gs : List (Str × V)}, RelF K H C fs gs → gs.length = fs.length
  | [], _, e => by
    have e' : _ = ([] : List (Str × V)) := e
    subst e'
    rfl
  | _ :: r, _, ⟨_, ws, rfl, _, _, t⟩ => by
    show ws.length + 1 = r.length + 1
    rw [RelF.length t]

/-- e.f -/
def fldU (f : String) : U → Gp → UK → Prop := fun x G Q => match x with
  | .ref a => (match G a with
    | some (.ins _ fs) => (match fget fs f with
      | some u => Q u G
      | none => False)
    | _ => False)
  | _ => False
def tUFld (f : String) (te : UTE) : UTE := fun us G Q E => te us G (fun x G1 => fldU f x G1 Q) E
section
variable {X : Cx} {W : WX} {e : Expr} {te : UTE} {f : String} {pos : Pos}
/-- o.f = w -/
def setF (f : String) (x w : U) (G : Gp) (Z : Gp → Prop) : Prop := match x with
  | .ref a => (match G a with
    | some (.ins c fs) => f ∈ fldsOf c ∧ fs.length < 100 ∧ Z (gup G a (.ins c (fput fs f w)))
    | _ => False)
  | _ => False
def gUFld (f : String) (to : UTE) : UTG := fun w us G Q E => to us G (fun x G1 => setF f x w G1 fun G2 => Q us G2) E
end
end UL
set_option maxHeartbeats 400000
namespace UL
open PySem PySem.Spec PyProof.Rows L2 PySem.W

abbrev MAp := U → List U → List U → Gp → UK → UX → Prop
section
variable {X : Cx} {W : WX} {es : List Expr} {kws : List Keyword} {e o : Expr} {to te ta' tb : UTE} {tk ta : UTA} {pos p apos : Pos} {k n : Nat} {ks : List Str} {sp : USp} {pl : List Src} {x m : Str} {d : DD} {c : String} {ap : MAp}
end
end UL
set_option maxHeartbeats 400000
namespace UL
open PySem PySem.Spec PyProof.Rows L2 PySem.W

section
variable {X : Cx} {W : WX} {es : List Expr} {kws : List Keyword} {e o : Expr} {to te ta' tb : UTE} {tk ta : UTA} {pos p apos : Pos} {k n : Nat} {ks : List Str} {sp : USp} {pl : List Src} {x m : Str} {d : DD} {c : String} {ap : MAp}
theorem eu_ty {T : String} (hg : Gl X x) (hm : X.mg x = none) (hv : bootBuiltins x = some (.type T)) (hn : x ≠ "__name__") (hd : (x == ("__debug__" : Str)) = false) : EU X W (.Name x pos) (tUC (.ty T)) := eu_c (pe_bltn (v := .ty T) hg hm hv rfl hn hd) fun _ => rfl
theorem eu_glo {y : String} (hg : Gl X (S y)) (hm : X.mg (S y) = some (.ref (He.ga X.K (S y)))) (hd : (S y == ("__debug__" : Str)) = false) : EU X W (.Name (S y) pos) (tUC (.glo y)) := eu_c (pe_glob (v := .ref (He.ga X.K (S y))) hg hm rfl hd) fun _ => rfl
def tUMake (c : String) (sp : USp) (n m : Nat) (pl : List Src) (ud uk : List U) (t tk : UTA) : UTE := fun us G Q E => t us G (fun vs G1 => tk us G1 (fun zs G2 => vs.length + 1 = n ∧ zs.length = m ∧ ∀ a, G2 a = none →
  sp (pl.map (Src.get .non (.ref a :: vs) zs ud uk)) (gup G2 a (.ins c [])) (fun v G3 => v = .non ∧ Q (.ref a) G3) E) E) E
end
end UL
set_option maxHeartbeats 400000
namespace UL
open PySem PySem.Spec PyProof.Rows L2 PySem.W

inductive TD where | b (n : String) | o (c : String)
  deriving DecidableEq
def TD.v (K : PySem.W.Frag) : TD → Value
  | .b n => .type n
  | .o c => .ref (He.ga K (S c))
def tdOf (G : Gp) : U → Option TD
  | .non => some (.b "NoneType")
  | .bl _ => some (.b "bool")
  | .int _ => some (.b "int")
  | .str _ => some (.b "str")
  | .tup _ => some (.b "tuple")
  | .rol _ => some (.b "list")
  | .ref a => match G a with
    | some (.lst _) => some (.b "list")
    | some (.dct _) => some (.b "dict")
    | some (.dcr _ _ _) => some (.b "dict")
    | some (.ins c _) => some (.o c)
    | some (.xcp _ _) => none
    | none => none
  | _ => none
def tdC : U → Option TD
  | .ty n => some (.b n)
  | .glo c => some (.o c)
  | _ => none
theorem tdC_of {K : PySem.W.Frag} {H : Hp} {c : U} {z : V} {t : TD} (h : tdC c = some t) (r : RelU K H c z) : ClsV z (t.v K) := by
  cases c <;> try cases h
  · rw [show z = .ty _ from r]
    exact .ty _
  · rw [show z = .ref _ from r]
    exact .own _
def isiF : TD → TD → Bool
  | .b t, .b c => decide (t = c) || (decide (t = "bool") && decide (c = "int"))
  | .o t, .o c => decide (t = c)
  | _, _ => false
/-- what may stand behind the comma: built-in types, classes of ds -/
def isiOk (ds : List String) : TD → Prop
  | .b c => c ∈ tyNames
  | .o c => c ∈ ds ∧ c ∈ clsNames
def isiK (ds : List String) (t c : Option TD) (Q : Bool → Prop) : Prop := match t, c with
  | some t, some d => isiOk ds d ∧ Q (isiF t d)
  | _, _ => False
def isiV (ds : List String) : U → U → Gp → UK → Prop := fun x c G Q => isiK ds (tdOf G x) (tdC c) fun b => Q (.bl b) G
section
variable {X : Cx} {W : WX}
end

section
variable {prog : Program} {w : World} {A : Around} {E : Value → Shared → Prop} {s : Shared} {K : PySem.W.Frag} {x y C : Addr} {ox oy : Obj} {od : Option Obj}
end
section
variable {X : Cx} {W : WX}
end
end UL
set_option maxHeartbeats 400000
namespace UL
open PySem PySem.Spec PyProof.Rows L2 PySem.W

def joinN (a : List Nat) : List (List Nat) → List Nat
  | [] => []
  | [x] => x
  | x :: y :: r => x ++ (a ++ joinN a (y :: r))
theorem joinN_nil : ∀ l : List (List Nat), joinN [] l = l.flatten
  | [] => rfl
  | [x] => by simp [joinN]
  | x :: y :: r => by
    rw [joinN, joinN_nil (y :: r)]
    rfl
def strsU : List U → Option (List (List Nat))
  | [] => some []
  | .str l :: r => (strsU r).map (l :: ·)
  | _ :: _ => none
/-- a.join(items) -/
def joinU : URM := fun x as G Q _ => match x, as with
  | .str a, [y] => (match seqOf G y with
    | some us => (match strsU us with
      | some ls => (ls.map List.length).sum + ls.length * a.length ≤ 1000000 ∧ Q (.str (joinN a ls)) G
      | none => False)
    | none => False)
  | _, _ => False
section
variable {X : Cx} {W : WX}
def strV : U → Gp → UK → Prop := fun u G Q => match u with
  | .str l => Q (.str l) G
  | .int i => i.natAbs.log2 < 1920 ∧ Q (.str (Str.ofString (toString i)).cps.toList) G
  | _ => False
def fmtV : U → Gp → UK → Prop := fun u G Q => match u with
  | .str l => l.length ≤ 1000000 ∧ Q (.str l) G
  | .int i => i.natAbs.log2 < 1920 ∧ Q (.str (Str.ofString (toString i)).cps.toList) G
  | _ => False
def tUFmt (te : UTE) : UTE := fun us G Q E => te us G (fun x G1 => fmtV x G1 Q) E
/-- the parts one behind the other -/
def tUJs : List UTE → List Nat → USt → Gp → UK → UX → Prop
  | [], acc, _, G, Q, _ => Q (.str acc) G
  | t :: ts, acc, us, G, Q, E => t us G (fun x G1 => match x with
    | .str l => acc.length + l.length ≤ 1000000 ∧ tUJs ts (acc ++ l) us G1 Q E
    | _ => False) E
end
end UL
set_option maxHeartbeats 4000000
namespace UL
open PySem PySem.Spec PyProof.Rows L2 PySem.W

structure OexG (K : PySem.W.Frag) (C : Addr) : Prop where
  cls : ∃ B newId initId bmB nm q N bs bm sn sub ab col dd k0 k1 k2 k3 k5, K.lookup C = some (excClassObj nm q C N bs bm true sn sub ab col dd k0 k1 k2 k3 k5 newId) ∧ excTail bmB bm = true ∧ ExcBaseFacts B newId initId bmB ∧ StoreFacts B bmB "object.__setattr__" "object"
  sa : PySem.W.findIn K (.ref C) "__setattr__" = some (some (.builtin "object.__setattr__"))
  exC : PySem.W.subIn K (.ref C) (.type "BaseException") = some true
  tyC : PySem.W.typeIn K (.ref C) = some (.type "type")
  kC : PySem.W.keepIn K (.ref C) = true

section
open PySem.Builtin PySem.Builtin.ObjectAttr
variable {prog : Program} {w : World} {A : Around} {E : Value → Shared → Prop} {R : Result → Shared → Prop} {hp : Heap} {g : Array GenState} {d : Drawn} {t : Nat} {os : OsState} {K : PySem.W.Frag} {name : Str} {tk : Tok} {v : Value} {x C : Addr} {fv : Array Value} {cd : ClassData} {B : String} {bmB : List Value}
theorem over_of {bm : List Value} (hcd : clsIn K C = some cd) (hm : cd.mro = .ref C :: bm) (ht : excTail bmB bm = true) : excOver K C bmB = true := by
  unfold excOver
  rw [hcd]
  show (match cd.mro with | .ref C' :: bm => C' == C && excTail bmB bm | _ => false) = true
  rw [hm]
  show (C == C && excTail bmB bm) = true
  rw [ht]
  simp
theorem taker_of (ha : findIn K (.ref C) name = some none) : takerIn K C name = some none := by
  unfold takerIn
  rw [ha]
  rfl
theorem osaG_new (SF : StoreFacts B bmB "object.__setattr__" "object") (X : K.In hp) (hx : hp.get? x = some { cls := .ref C, data := .fields fv }) (hcd : clsIn K C = some cd) (ho : excOver K C bmB = true) (hh : cd.hasDict = true) (ha : findIn K (.ref C) name = some none)
    (hq : ∀ h' tk' dx, (∀ b o, b ≠ x → hp.get? b = some o → h'.get? b = some o) → hp.objs.size ≤ dx → dx ≠ x → h'.get? x = some { cls := .ref C, dict := some dx, data := .fields fv } →
      h'.Ns1 dx (fun y => if y = name then some v else none) → R (.ok (.ret .none)) ⟨h', g, d, tk', os⟩) :
    codeAny (model prog w) A (.call (.builtin "object.__setattr__") ⟨[.ref x, .str name tk, v], []⟩) R ⟨hp, g, d, t, os⟩ := by
  have hxs : x ≠ hp.objs.size := Nat.ne_of_lt (Heap.lt_size hx)
  have hcls : Looks (model prog w) hp (classData C) cd := looks_clsIn X hcd
  refine osa_openX (s := ⟨hp, g, d, t, os⟩) (od := none) (r := none) SF X ⟨hx, rfl, rfl, trivial⟩ ho (taker_of ha) fun b => ?_
  show wpAny _ _ (storeInOwnDict (.ref x) (.ref C) (.str name tk) name v b) _ _ _
  obtain ⟨nm, bs, mro, ns, qn, hd, sn, sb, ab, col, del⟩ := cd
  dsimp only at hh
  subst hh
  unfold storeInOwnDict ownDictForStores
  repeat (first | with_reducible refine PySem.HandSPX.store_in_new ?_ ?_ | with_reducible refine wpAny_loadPart_at hx ?_ | with_reducible refine hcls.at ?_ | wp_step)
  · exact ⟨_, #[], _, (Heap.get?_update_ne _ _ _ _ hxs.symm).trans (Heap.get?_push_at rfl rfl), rfl, fun e he => absurd he (by simp), fun _ => rfl⟩
  · intro h' tk' hn' hs
    have hx₁ : (hp.push { cls := .type "dict", data := .dict #[] }).get? x = some { cls := .ref C, data := .fields fv } := Heap.get?_push_of_some _ hx
    refine hq h' tk' hp.objs.size (fun b o hb ho => ?_) (Nat.le_refl _) hxs.symm ?_ hn'
    · exact (hs.2 b (Nat.ne_of_lt (Heap.lt_size ho))).trans ((Heap.get?_update_ne _ _ _ _ hb).trans (Heap.get?_push_of_some _ ho))
    · exact (hs.2 x hxs).trans (Heap.get?_update_self _ hx₁ rfl)
theorem osaG_old {dx : Addr} {m0 : Str → Option Value} {nl : List Str} (SF : StoreFacts B bmB "object.__setattr__" "object")
    (X : K.In hp) (hx : hp.get? x = some { cls := .ref C, dict := some dx, data := .fields fv }) (hns : hp.Ns1 dx m0) (hw : Within m0 nl) (hz : nl.length ≤ 1000) (hcd : clsIn K C = some cd) (ho : excOver K C bmB = true) (hh : cd.hasDict = true)
    (ha : findIn K (.ref C) name = some none)
    (hq : ∀ h' tk', (∀ b o, b ≠ dx → hp.get? b = some o → h'.get? b = some o) → h'.Ns1 dx (fun y => if y = name then some v else m0 y) → R (.ok (.ret .none)) ⟨h', g, d, tk', os⟩) :
    codeAny (model prog w) A (.call (.builtin "object.__setattr__") ⟨[.ref x, .str name tk, v], []⟩) R ⟨hp, g, d, t, os⟩ := by
  obtain ⟨oD, esD, epD, hoD, hdD, _⟩ := hns.count hw
  have hcls : Looks (model prog w) hp (classData C) cd := looks_clsIn X hcd
  refine osa_openX (s := ⟨hp, g, d, t, os⟩) (od := some oD) (r := none) SF X ⟨hx, rfl, rfl, hoD⟩ ho (taker_of ha) fun b => ?_
  show wpAny _ _ (storeInOwnDict (.ref x) (.ref C) (.str name tk) name v b) _ _ _
  obtain ⟨nm, bs, mro, ns, qn, hd, sn, sb, ab, col, del⟩ := cd
  dsimp only at hh
  subst hh
  unfold storeInOwnDict ownDictForStores
  repeat (first | with_reducible refine PySem.OEX.store_in_old hns hw hz ?_ | with_reducible refine wpAny_loadPart_at hx ?_ | with_reducible refine hcls.at ?_ | wp_step)
  intro h' tk' hn' hs
  exact hq h' tk' (fun b o hb ho => (hs.2 b hb).trans ho) hn'
end

theorem OexG.cdata {K : PySem.W.Frag} {C : Addr} (T : OexG K C) : ∃ B bmB cd, StoreFacts B bmB "object.__setattr__" "object" ∧ clsIn K C = some cd ∧ excOver K C bmB = true ∧ cd.hasDict = true := by
  obtain ⟨B, newId, initId, bmB, nm, q, N, bs, bm, sn, sub, ab, col, dd, k0, k1, k2, k3, k5, hC, ht, FB, SF⟩ := T.cls
  have hcl : PySem.W.clsIn K C = some { name := nm, bases := bs, mro := .ref C :: bm, ns := N, qualname := q, hasDict := true, slotNames := sn, subclasses := sub, abstract := ab, collection := col, hasDel := false } := by unfold PySem.W.clsIn; rw [hC] <;> rfl
  exact ⟨B, bmB, _, SF, hcl, over_of hcl rfl ht, rfl⟩

section
variable {X : Cx} {pins : List (Addr × Obj)} {σ : L2.St} {H : Hp} {s : Shared} {a C dx : Addr} {f : Str} {y : V} {u : Value} {fs : List (Str × V)} {Q : Unit → Shared → Prop} {E : Value → Shared → Prop} {A : Around}
/-- self.f = y, the first one -/
theorem ostG_new (T : OexG X.K C) (I : Inv X pins σ H s) (e : H a = some (exo a C none)) (hno : PySem.W.findIn X.K (.ref C) f = some none) (ry : RelV y u)
    (h : ∀ dx s', H dx = none → dx ≠ a → Inv X pins σ (upd (upd H dx (exd dx [(f, y)])) a (exo a C (some dx))) s' → Q () s') : wpAny (model X.prog X.w) A (setAttr (.ref a) f u) Q E s := by
  obtain ⟨B, bmB, cd, SF, hcl, hov, hhd⟩ := T.cdata
  obtain ⟨t1, ho⟩ := exo_at I.hok e
  obtain ⟨hp, g, d, t, os⟩ := s
  refine PySem.W.set_plain I.kIn (ox := { cls := .ref C, dict := none, data := .fields #[.ref t1, .none, .none, .none, .bool false, .none] }) (od := none) ⟨ho, rfl, rfl, trivial⟩ T.sa ?_
  refine osaG_new SF I.kIn ho hcl hov hhd hno (fun h' tk' dx k dn dne hx hn => ?_)
  have hnd : H dx = none := I.hok.fresh dn
  have nd : ∀ {b : Addr} {o : Obj}, hp.get? b = some o → b ≠ dx := fun {b o} q => Nat.ne_of_lt (Nat.lt_of_lt_of_le (Heap.lt_size q) dn)
  have na : ∀ {b : Addr}, H b = none → b ≠ a := fun {b} n z => by
    rw [z, e] at n
    cases n
  have Un1 : Un X.fs [] H (upd (upd H dx (exd dx [(f, y)])) a (exo a C (some dx))) hp h' := {
    keep := fun b o q n _ _ => k b o (na n) q
    slot := fun b o q n _ _ => ⟨o.slots, k b o (na n) q⟩
    free := fun b o q n _ => by rw [upd_ne (na n), upd_ne (nd q)]; exact n
    there := fun b o q _ => by
      by_cases hb : b = a
      · exact ⟨_, by rw [hb]; exact hx⟩
      · exact ⟨o, k b o hb q⟩
    tups := fun b xs q => by rw [upd_ne (at_ne e q exo_tup), upd_ne (ne_of_none q hnd)]; exact q
    frzs := fun b o v q => by rw [upd_ne (at_ne e q exo_frz), upd_ne (ne_of_none q hnd)]; exact q
    tbls := fun b ps q => ⟨#[], by rw [upd_ne (at_ne e q exo_tbl), upd_ne (ne_of_none q hnd), q]; simp⟩ }
  refine h dx _ hnd dne (I.un (t' := tk') Un1 fun b o q => ?_)
  by_cases hb : b = a
  · subst hb
    rw [upd_same] at q
    cases q
    exact exo_ok hx
  · rw [upd_ne hb] at q
    by_cases hd : b = dx
    · subst hd
      rw [upd_same] at q
      cases q
      exact exd_ok hn (relO_put (fs := []) ry fun g => True.intro)
    · rw [upd_ne hd] at q
      exact (I.hok b o q).stay (fun c v hc z => k c v (by
          rcases hc with hc | hc
          · rw [hc]
            exact hb
          · exact at_ne e hc exo_own) z)
        (fun c hc => by rw [upd_ne (at_ne e hc exo_own), upd_ne (ne_of_none hc hnd)]; exact hc) (fun c xs hc => by rw [upd_ne (at_ne e hc exo_tup), upd_ne (ne_of_none hc hnd)]; exact hc)
/-- self.f = y, a further one -/
theorem ostG_old (T : OexG X.K C) (I : Inv X pins σ H s) (e : H a = some (exo a C (some dx))) (ed : H dx = some (exd dx fs)) (hl : fs.length ≤ 900) (hno : PySem.W.findIn X.K (.ref C) f = some none) (ry : RelV y u)
    (h : ∀ s', Inv X pins σ (upd H dx (exd dx ((f, y) :: fs))) s' → Q () s') : wpAny (model X.prog X.w) A (setAttr (.ref a) f u) Q E s := by
  obtain ⟨B, bmB, cd, SF, hcl, hov, hhd⟩ := T.cdata
  obtain ⟨t1, ho⟩ := exo_at I.hok e
  obtain ⟨mA, hns, rel⟩ := exd_at I.hok ed
  have hw := within_of rel
  obtain ⟨hp, g, d, t, os⟩ := s
  obtain ⟨oD, _, _, hoD, _, _⟩ := hns.count hw
  refine PySem.W.set_plain I.kIn (ox := { cls := .ref C, dict := some dx, data := .fields #[.ref t1, .none, .none, .none, .bool false, .none] }) (od := some oD) ⟨ho, rfl, rfl, hoD⟩ T.sa ?_
  refine osaG_old SF I.kIn ho hns hw (by rw [List.length_map]; omega) hcl hov hhd hno (fun h' tk' k hn => ?_)
  have hd : ∃ o, h'.get? dx = some o := by
    obtain ⟨o, _, _, e', _⟩ := hn
    exact ⟨o, e'⟩
  exact h _ (I.write (t' := tk') (x := dx) (e := dx) (o := exd dx ((f, y) :: fs)) (by rw [ed]; exact True.intro) (.inl rfl) k hd (exd_ok hn (relO_put ry rel)))
end

def tOstG (K : PySem.W.Frag) (f : Str) (to te : TE) : TS := fun D σ H => te σ H fun y H1 => to σ H1 fun x H2 => ∃ a C : Addr, x = .ref a ∧ OexG K C ∧ PySem.W.findIn K (.ref C) f = some none ∧
  ((H2 a = some (exo a C none) ∧ ∀ dx, H2 dx = none → dx ≠ a → D.nx σ (upd (upd H2 dx (exd dx [(f, y)])) a (exo a C (some dx)))) ∨
    ∃ (dx : Addr) (fs : List (Str × V)), H2 a = some (exo a C (some dx)) ∧ H2 dx = some (exd dx fs) ∧ fs.length ≤ 900 ∧ D.nx σ (upd H2 dx (exd dx ((f, y) :: fs))))
section
variable {X : Cx} {o e : Expr} {es : List Expr} {to te : TE} {ta : TA} {f : Str} {p p' p1 p2 pos : Pos}
theorem ps_ostG (ho : PE X o to) (he : PE X e te) (hs : swapsWith e (some (.Attribute o f p')) pos.line X.env = pure false := by rfl) : PS X (.Assign [.Attribute o f p'] e pos) (tOstG X.K f to te) := by
  refine ⟨fun pins s σ H D I h => ?_⟩
  refine plainObj_wpAny_Assign_Attribute (thn (he.run pins s σ H _ I h) fun v s1 ⟨y, H1, I1, r1, q1⟩ => thn (ho.run pins s1 σ H1 _ I1 q1) fun u s2 ⟨x, H2, I2, r2, a, C, ex, T, hno, q⟩ => ?_) hs
  subst ex
  obtain rfl : u = Value.ref a := r2
  rcases q with ⟨ea, q⟩ | ⟨dx, fs, ea, ed, hl, q⟩
  · exact ostG_new T I2 ea hno r1 fun dx s' n ne J => ⟨σ, _, J, q dx n ne⟩
  · exact ostG_old T I2 ea ed hl hno r1 fun s' J => ⟨σ, _, J, q⟩
end
end UL
set_option maxHeartbeats 400000
namespace UL
open PySem PySem.Spec PyProof.Rows L2 PySem.W

def pairsF (fl : List String) (xs : List V) : List (Str × V) := (fl.map S).zip xs
def spIni (C : Addr) (fl : List String) : Sp := fun vs H Q _ => ∃ a xs, vs = .ref a :: xs ∧ xs.length = fl.length ∧ H a = some (exo a C none) ∧ ∀ dx, H dx = none → dx ≠ a → Q .non (upd (upd H dx (exd dx (pairsF fl xs).reverse)) a (exo a C (some dx)))
section
variable {P : Program} {w : World} {K : PySem.W.Frag} {mg : Str → Option Value} {base : Heap} {name qual : Str} {params : Arguments} {scope : Scope} {fa C : Addr} {fd : FuncData} {x0 x1 x2 x3 : Str} {f1 f2 f3 : String} {p1 p2 p3 p4 q1 q2 q3 q4 r1 r2 r3 r4 : Pos}
def okN (x : Str) : Prop := (x == ("__debug__" : Str)) = false ∧ (x == ("__classdict__" : Str)) = false
theorem vis_of {N ps : List Str} (Sc : FnScope N ps scope) {x : Str} (h : x ∈ ps) : Vis scope x := (Sc.par x h).imp id .inl
theorem ini1 (F : FunD K name qual params [.Assign [.Attribute (.Name x0 p1) (S f1) p2] (.Name x1 p3) p4] scope [] [] fa fd) (Sc : FnScope [x0, x1] [x0, x1] scope) (T : OexG K C) (n1 : findIn K (.ref C) (S f1) = some none) (o0 : okN x0) (o1 : okN x1) :
    FnOk P w K mg base L2.CX0 1 fa fd [x0, x1] (spIni C [f1]) := by
  refine F.ok Sc (fun vs H Q E ⟨a, xs, e, l, _⟩ => ?_) (fun cdv A outer s H vs Q E hr ⟨a, xs, e, l, ha, q⟩ => ⟨tOstG K (S f1) (tVar 0) (tVar 1), PSs.nox (pss_one (ps_ostG (pe_var rfl (vis_of Sc (by simp)) o0.1 o0.2) (pe_var rfl (vis_of Sc (by simp)) o1.1 o1.2) rfl)), ?_⟩)
  · subst e
    simp only [List.length_cons, l, List.length_nil]
  · subst e
    rcases xs with _ | ⟨y, _ | ⟨z, r⟩⟩
    · cases l
    · exact ⟨y, rfl, _, rfl, a, C, rfl, T, n1, .inl ⟨ha, fun dx h1 h2 => q dx h1 h2⟩⟩
    · cases l
theorem swap_upd {H : Hp} {a dx : Addr} {o u v : HO} (ne : dx ≠ a) : upd (upd (upd H dx o) a u) dx v = upd (upd H dx v) a u := by
  funext b
  unfold upd
  by_cases e1 : b = dx
  · subst e1
    rw [if_pos rfl, if_neg ne, if_pos rfl]
  · rw [if_neg e1]
    by_cases e2 : b = a
    · rw [if_pos e2, if_pos e2]
    · rw [if_neg e2, if_neg e2, if_neg e1, if_neg e1]
theorem ini2 (F : FunD K name qual params [.Assign [.Attribute (.Name x0 p1) (S f1) p2] (.Name x1 p3) p4, .Assign [.Attribute (.Name x0 q1) (S f2) q2] (.Name x2 q3) q4] scope [] [] fa fd) (Sc : FnScope [x0, x1, x2] [x0, x1, x2] scope) (T : OexG K C)
    (n1 : findIn K (.ref C) (S f1) = some none) (n2 : findIn K (.ref C) (S f2) = some none) (o0 : okN x0) (o1 : okN x1) (o2 : okN x2) : FnOk P w K mg base L2.CX0 1 fa fd [x0, x1, x2] (spIni C [f1, f2]) := by
  refine F.ok Sc (fun vs H Q E ⟨a, xs, e, l, _⟩ => ?_) (fun cdv A outer s H vs Q E hr ⟨a, xs, e, l, ha, q⟩ => ⟨tSeq (tOstG K (S f1) (tVar 0) (tVar 1)) (tOstG K (S f2) (tVar 0) (tVar 2)),
    PSs.nox (pss_cons (ps_ostG (pe_var rfl (vis_of Sc (by simp)) o0.1 o0.2) (pe_var rfl (vis_of Sc (by simp)) o1.1 o1.2) rfl) (pss_one (ps_ostG (pe_var rfl (vis_of Sc (by simp)) o0.1 o0.2) (pe_var rfl (vis_of Sc (by simp)) o2.1 o2.2) rfl))), ?_⟩)
  · subst e
    simp only [List.length_cons, l, List.length_nil]
  · subst e
    rcases xs with _ | ⟨y, _ | ⟨z, _ | ⟨t, r⟩⟩⟩
    · cases l
    · cases l
    · refine ⟨y, rfl, _, rfl, a, C, rfl, T, n1, .inl ⟨ha, fun dx h1 h2 => ?_⟩⟩
      refine ⟨z, rfl, _, rfl, a, C, rfl, T, n2, .inr ⟨dx, [(S f1, y)], upd_same, by rw [upd_ne h2, upd_same], by simp, ?_⟩⟩
      rw [swap_upd h2]
      exact q dx h1 h2
    · cases l
theorem ini3 (F : FunD K name qual params [.Assign [.Attribute (.Name x0 p1) (S f1) p2] (.Name x1 p3) p4, .Assign [.Attribute (.Name x0 q1) (S f2) q2] (.Name x2 q3) q4, .Assign [.Attribute (.Name x0 r1) (S f3) r2] (.Name x3 r3) r4] scope [] [] fa fd)
    (Sc : FnScope [x0, x1, x2, x3] [x0, x1, x2, x3] scope) (T : OexG K C) (n1 : findIn K (.ref C) (S f1) = some none) (n2 : findIn K (.ref C) (S f2) = some none) (n3 : findIn K (.ref C) (S f3) = some none) (o0 : okN x0) (o1 : okN x1) (o2 : okN x2) (o3 : okN x3) :
    FnOk P w K mg base L2.CX0 1 fa fd [x0, x1, x2, x3] (spIni C [f1, f2, f3]) := by
  refine F.ok Sc (fun vs H Q E ⟨a, xs, e, l, _⟩ => ?_) (fun cdv A outer s H vs Q E hr ⟨a, xs, e, l, ha, q⟩ => ⟨tSeq (tOstG K (S f1) (tVar 0) (tVar 1)) (tSeq (tOstG K (S f2) (tVar 0) (tVar 2)) (tOstG K (S f3) (tVar 0) (tVar 3))),
    PSs.nox (pss_cons (ps_ostG (pe_var rfl (vis_of Sc (by simp)) o0.1 o0.2) (pe_var rfl (vis_of Sc (by simp)) o1.1 o1.2) rfl) (pss_cons (ps_ostG (pe_var rfl (vis_of Sc (by simp)) o0.1 o0.2) (pe_var rfl (vis_of Sc (by simp)) o2.1 o2.2) rfl)
      (pss_one (ps_ostG (pe_var rfl (vis_of Sc (by simp)) o0.1 o0.2) (pe_var rfl (vis_of Sc (by simp)) o3.1 o3.2) rfl)))), ?_⟩)
  · subst e
    simp only [List.length_cons, l, List.length_nil]
  · subst e
    rcases xs with _ | ⟨y, _ | ⟨z, _ | ⟨t, _ | ⟨t', r⟩⟩⟩⟩
    · cases l
    · cases l
    · cases l
    · refine ⟨y, rfl, _, rfl, a, C, rfl, T, n1, .inl ⟨ha, fun dx h1 h2 => ?_⟩⟩
      refine ⟨z, rfl, _, rfl, a, C, rfl, T, n2, .inr ⟨dx, [(S f1, y)], upd_same, by rw [upd_ne h2, upd_same], by simp, ?_⟩⟩
      rw [swap_upd h2]
      refine ⟨t, rfl, _, rfl, a, C, rfl, T, n3, .inr ⟨dx, [(S f2, z), (S f1, y)], upd_same, by rw [upd_ne h2, upd_same], by simp, ?_⟩⟩
      rw [swap_upd h2]
      exact q dx h1 h2
    · cases l
end

theorem pairs_look {K : PySem.W.Frag} {H : Hp} {f : String} {u : U} : ∀ {fl : List String} {us : List U} {xs : List V}, RelUs K H us xs → us.length = fl.length → fget (fl.zip us) f = some u → ∃ v, (pairsF fl xs).lookup (S f) = some v ∧ RelU K H u v
  | [], _, _, _, _, h => by cases h
  | g :: fl, [], _, _, l, _ => by cases l
  | g :: fl, w :: us, _, ⟨v, ws, rfl, hv, t⟩, l, h => by
    rw [List.zip_cons_cons, fget] at h
    show ∃ v', List.lookup (S f) ((S g, v) :: pairsF fl ws) = some v' ∧ _
    rw [List.lookup_cons]
    by_cases e : g = f
    · subst e
      rw [if_pos rfl] at h
      cases h
      exact ⟨v, by simp, hv⟩
    · rw [if_neg e] at h
      rw [beq_eq_false_iff_ne.mpr fun z => e (S_inj z.symm)]
      exact pairs_look t (by simpa using l) h
theorem lookup_rev {f : Str} {v : V} : ∀ {l : List (Str × V)}, (l.map (·.1)).Nodup → l.lookup f = some v → l.reverse.lookup f = some v := by
  intro l nd h
  have mem : ∀ {l : List (Str × V)}, l.lookup f = some v → (f, v) ∈ l := by
    intro l
    induction l with
    | nil => intro h; cases h
    | cons q r ih =>
      obtain ⟨a, b⟩ := q
      intro h
      rw [List.lookup_cons] at h
      cases e : f == a with
      | true =>
        rw [e] at h
        cases h
        rw [beq_iff_eq.mp e]
        exact List.mem_cons_self
      | false =>
        rw [e] at h
        exact List.mem_cons_of_mem _ (ih h)
  have uniq : ∀ {l : List (Str × V)}, (l.map (·.1)).Nodup → (f, v) ∈ l → l.lookup f = some v := by
    intro l
    induction l with
    | nil => intro _ h; cases h
    | cons q r ih =>
      obtain ⟨a, b⟩ := q
      intro nd h
      rw [List.map_cons, List.nodup_cons] at nd
      rw [List.lookup_cons]
      rcases List.mem_cons.mp h with e | h
      · cases e
        simp
      · have ne : f ≠ a := fun e => nd.1 (by rw [← e]; exact List.mem_map.mpr ⟨_, h, rfl⟩)
        rw [beq_eq_false_iff_ne.mpr ne]
        exact ih nd.2 h
  exact uniq (by rw [List.map_reverse]; exact (List.reverse_perm _).nodup_iff.mpr nd) (List.mem_reverse.mpr (mem h))
theorem pairs_keys : ∀ {fl : List String} {xs : List V}, xs.length = fl.length → (pairsF fl xs).map (·.1) = fl.map S
  | [], _, _ => rfl
  | f :: fl, [], l => by cases l
  | f :: fl, x :: xs, l => by
    show S f :: (pairsF fl xs).map (·.1) = S f :: fl.map S
    rw [pairs_keys (by simpa using l)]
theorem nodup_S {fl : List String} (h : fl.Nodup) : (fl.map S).Nodup := by
  unfold List.Nodup at h ⊢
  rw [List.pairwise_map]
  exact h.imp fun ne z => ne (S_inj z)
def tURaise (c : String) (fl : List String) (t : UTA) : UTS := fun D us G => t us G (fun vs G1 => vs.length = fl.length ∧ D.ex ⟨c, fl.zip vs⟩ us G1) (fun x G1 => D.ex x us G1)
section
variable {X : Cx} {W : WX} {e : Expr} {es : List Expr} {ta : UTA} {p pos pos' : Pos} {k : Nat} {fd : FuncData} {ps : List Str} {c : String} {fl : List String} {fI : Addr}
end
end UL
set_option maxHeartbeats 400000
namespace UL
open PySem PySem.Spec PyProof.Rows L2 PySem.W

abbrev AlX : Type := Bool × List He.FnW
def obsX (fx : List (PySem.W.Frag → Bool)) (fa : List He.Fa) (fn : List DD) (K : PySem.W.Frag) : AlX := (fx.all (fun f => f K) && (fa.all (fun f => f.ok K) && fn.all fun d => d.fit K), fn.map fun d => told K (d.at_ K))
structure SaysX (fx : List (PySem.W.Frag → Bool)) (fa : List He.Fa) (fn : List DD) (K : PySem.W.Frag) : Prop where
  all : (fx.all (fun f => f K) && (fa.all (fun f => f.ok K) && fn.all fun d => d.fit K)) = true
  code : (fn.map fun d => told K (d.at_ K)) = fn.map DD.due
section
variable {fx : List (PySem.W.Frag → Bool)} {fa : List He.Fa} {fn : List DD} {K : PySem.W.Frag}
theorem SaysX.fact (c : SaysX fx fa fn K) (i : Nat) {f : PySem.W.Frag → Bool} (h : fx[i]? = some f) : f K = true :=
  List.all_eq_true.mp (Bool.and_eq_true _ _ ▸ c.all).1 f (List.mem_of_getElem? h)
theorem SaysX.he (c : SaysX fx fa fn K) (i : Nat) {f : He.Fa} (h : fa[i]? = some f) : f.ok K = true := by
  have h1 := c.all
  rw [Bool.and_eq_true, Bool.and_eq_true] at h1
  exact List.all_eq_true.mp h1.2.1 f (List.mem_of_getElem? h)
theorem SaysX.def_ (c : SaysX fx fa fn K) (i : Nat) {d : DD} (h : fn[i]? = some d) : ∃ z, FunD K d.name d.qual d.params d.body d.scope (d.dvs K) (d.kws K) (d.at_ K) z := by
  have h1 := c.all
  rw [Bool.and_eq_true, Bool.and_eq_true] at h1
  refine DD.funD ?_ (List.all_eq_true.mp h1.2.2 d (List.mem_of_getElem? h))
  have e := congrArg (fun l => l[i]?) c.code
  simp only [List.getElem?_map, h, Option.map_some] at e
  exact Option.some.inj e
end
def bmVE : List Value := [.type "ValueError", .type "Exception", .type "BaseException", .type "object"]
def bmLE : List Value := [.type "LookupError", .type "Exception", .type "BaseException", .type "object"]
def bmRE : List Value := [.type "RuntimeError", .type "Exception", .type "BaseException", .type "object"]
def newB (n : String) (bm : List Value) : Bool := (n == "ValueError.__new__" && excTail bmVE bm) || ((n == "LookupError.__new__" && excTail bmLE bm) || (n == "RuntimeError.__new__" && excTail bmRE bm))
theorem newB_of {n : String} {bm : List Value} (h : newB n bm = true) : ∃ B initId bmB, excTail bmB bm = true ∧ ExcBaseFacts B n initId bmB ∧ StoreFacts B bmB "object.__setattr__" "object" := by
  unfold newB at h
  rw [Bool.or_eq_true, Bool.or_eq_true, Bool.and_eq_true, Bool.and_eq_true, Bool.and_eq_true] at h
  rcases h with ⟨e, q⟩ | ⟨e, q⟩ | ⟨e, q⟩
  · rw [beq_iff_eq.mp e]
    exact ⟨_, _, _, q, F.excBase_ValueError, F.store_ValueError⟩
  · rw [beq_iff_eq.mp e]
    exact ⟨_, _, _, q, F.excBase_LookupError, F.store_LookupError⟩
  · rw [beq_iff_eq.mp e]
    exact ⟨_, _, _, q, F.excBase_RuntimeError, F.store_RuntimeError⟩
def oexB (c : String) (K : PySem.W.Frag) : Bool := (match K.lookup (He.ga K (S c)) with
  | some ⟨.type t, _, .cls cd, sl⟩ => t == "type" && (cd.hasDict && (!cd.hasDel && ((match cd.mro, sl.toList with
    | .ref a :: bm, [_, _, _, _, some (.builtin n), _] => decide (a = He.ga K (S c)) && newB n bm
    | _, _ => false))))
  | _ => false) && (decide (findIn K (.ref (He.ga K (S c))) "__setattr__" = some (some (.builtin "object.__setattr__"))) && (decide (subIn K (.ref (He.ga K (S c))) (.type "BaseException") = some true) &&
    (decide (typeIn K (.ref (He.ga K (S c))) = some (.type "type")) && keepIn K (.ref (He.ga K (S c))))))
theorem oex_of {c : String} {K : PySem.W.Frag} (h : oexB c K = true) : OexG K (He.ga K (S c)) := by
  unfold oexB at h
  rw [Bool.and_eq_true] at h
  obtain ⟨h1, h2⟩ := h
  simp only [Bool.and_eq_true, decide_eq_true_eq] at h2
  obtain ⟨a1, a2, a3, a4⟩ := h2
  refine ⟨?_, a1, a2, a3, a4⟩
  split at h1
  · rename_i t dd cd sl lk
    obtain ⟨nm, bs, mro, N, q, hd, sn, sub, ab, col, dl⟩ := cd
    simp only [Bool.and_eq_true, Bool.not_eq_true'] at h1
    obtain ⟨e1, e2, e3, e4⟩ := h1
    split at e4
    · rename_i a bm k0 k1 k2 k3 n k5 es
      simp only [Bool.and_eq_true, decide_eq_true_eq] at e4
      obtain ⟨e4, e6⟩ := e4
      have e8 : t = "type" := beq_iff_eq.mp e1
      have e9 : sl = #[k0, k1, k2, k3, some (.builtin n), k5] := Array.toList_inj.mp es
      subst e8 e9 e4
      have e2' : hd = true := e2
      have e3' : dl = false := e3
      subst e2' e3'
      obtain ⟨B, initId, bmB, q1, q2, q3⟩ := newB_of e6
      exact ⟨B, n, initId, bmB, nm, q, N, bs, bm, sn, sub, ab, col, dd, k0, k1, k2, k3, k5, lk, q1, q2, q3⟩
    · cases e4
  · cases h1
theorem eu_strN {X : Cx} {W : WX} {s : String} {l : List Nat} {j : Nat} {pos : Pos} (h : (S s).cps.toList = l) : EU X W (.Constant (.str (S s)) j pos) (tUC (.str l)) := by
  rw [← h]
  exact eu_str
def bodyOf : Stmt → List Stmt
  | .ClassDef (body := b) .. => b
  | _ => []
theorem allc {P : String → Prop} {c : String} {r : List String} (h : P c) (t : ∀ c' ∈ r, P c') : ∀ c' ∈ c :: r, P c' := fun c' m => by
  rcases List.mem_cons.mp m with e | m
  · rw [e]
    exact h
  · exact t c' m
theorem all0 {α : Type} {P : α → Prop} : ∀ c' ∈ ([] : List α), P c' := fun _ m => by cases m
theorem allp {α : Type} {P : α → Prop} {c : α} {r : List α} (h : P c) (t : ∀ c' ∈ r, P c') : ∀ c' ∈ c :: r, P c' := fun c' m => by
  rcases List.mem_cons.mp m with e | m
  · rw [e]
    exact h
  · exact t c' m
end UL
set_option maxHeartbeats 1000000
namespace UL
open PySem PySem.Spec PyProof.Rows L2
def lvX (g : Addr → Option Obj) (as : List Addr) : List Addr := (as.flatMap fun a => match g a with
  | some o => He.refsD o
  | none => []).eraseDups
def asX (g : Addr → Option Obj) : Nat → List Addr → List Addr
  | 0, f => f
  | n + 1, f => f ++ asX g n (lvX g f)
def obsYG (n : Nat) (fx : List (PySem.W.Frag → Bool)) (fa : List He.Fa) (fn : List DD) (g : Addr → Option Obj) : AlX := obsX fx fa fn (He.frG g (asX g n [mainGlobals] ++ [cStatics]))
def hookY (n : Nat) (fx : List (PySem.W.Frag → Bool)) (fa : List He.Fa) (fn : List DD) : PySem.W.Hook where
  α := AlX
  obs := fun s => obsYG n fx fa fn s.heap.get?
  val := fun _ => (true, fn.map DD.due)
  says := fun _ h => ∃ K : PySem.W.Frag, K.In h ∧ SaysX fx fa fn K
  of := fun _ _ e => ⟨_, He.frG_in, congrArg Prod.fst e, congrArg Prod.snd e⟩
  keeps := fun _ _ _ ⟨K, hK, c⟩ k => ⟨K, PySem.W.Frag.In.keeps hK k, c⟩
theorem obsYG_eq {n : Nat} {fx : List (PySem.W.Frag → Bool)} {fa : List He.Fa} {fn : List DD} {g : Addr → Option Obj} {s : Shared} (h : ∀ a, g a = s.heap.get? a) : obsYG n fx fa fn g = (hookY n fx fa fn).obs s := by
  have e : g = s.heap.get? := funext h
  rw [e]
  rfl
def dues_ : List DD → List He.FnW
  | [] => []
  | d :: r => d.due :: dues_ r
theorem dues_eq : ∀ fn : List DD, dues_ fn = fn.map DD.due
  | [] => rfl
  | d :: r => congrArg (d.due :: ·) (dues_eq r)
end UL
set_option maxHeartbeats 2000000
namespace UL
open PySem PySem.Spec PyProof.Rows L2 PySem.W
def isXB (c : String) (tds anc : List TD) (K : PySem.W.Frag) : Bool :=
  (tds.all fun t => decide (PySem.W.kitOne K (.ref (He.ga K (S c))) (t.v K) = some (decide (t ∈ anc)))) && ((PySem.W.clsIn K (He.ga K (S c))).isSome && (decide (PySem.W.findIn K (.ref (He.ga K (S c))) "__getattribute__" = some (some (.builtin "BaseException.__getattribute__"))) &&
  (decide (PySem.W.findIn K (.ref (He.ga K (S c))) "__getattr__" = some none) && (decide (PySem.W.subIn K (.ref (He.ga K (S c))) (.type "BaseException") = some true) && (decide (PySem.W.findIn K (.ref (He.ga K (S c))) "__class__" = some (some (.builtin "object.__class__"))) &&
  (decide (PySem.W.specialIn K (.builtin "object.__class__") "__get__" = some (some (.builtin "getset_descriptor.__get__"))) && (decide (PySem.W.takesIn K (.builtin "object.__class__") = some true) && decide (PySem.W.mroIn K (He.ga K (S c)) (.type "object") = some true))))))))
def excI (n : String) : String := if n = "ValueError.__new__" then "ValueError.__init__" else if n = "LookupError.__new__" then "LookupError.__init__" else "RuntimeError.__init__"
def oex0B (c : String) (K : PySem.W.Frag) : Bool := (match K.lookup (He.ga K (S c)) with
  | some ⟨.type t, _, .cls cd, sl⟩ => t == "type" && (cd.hasDict && (!cd.hasDel && ((match cd.mro, sl.toList with
    | .ref a :: bm, [_, _, _, _, some (.builtin n), _] => decide (a = He.ga K (S c)) && (newB n bm && decide (findIn K (.ref (He.ga K (S c))) "__init__" = some (some (.builtin (excI n)))))
    | _, _ => false))))
  | _ => false) && keepIn K (.ref (He.ga K (S c)))
def xfK (c : String) (f : String) (K : PySem.W.Frag) : Bool := xfB K (He.ga K (S c)) && decide (PySem.W.findIn K (.ref (He.ga K (S c))) (S f) = some none)
end UL
namespace K08
open PySem PySem.Spec PyProof.Rows L2 UL
def top (i : Nat) : Stmt := PySem.Challenge.pw_workerworlds_k08_errors_by_hand.main.body.getD i (.Pass ⟨0, 0, 0, 0⟩)
def clsm (i j : Nat) : Stmt := (bodyOf (top i)).getD j (.Pass ⟨0, 0, 0, 0⟩)
def d_BadBox___init__ : DD := ⟨mAt "BadBox" "__init__", "__init__", "BadBox.__init__", defArgs (clsm 2 0), defBody (clsm 2 0), defScope (clsm 2 0), [], []⟩
def d_BadName___init__ : DD := ⟨mAt "BadName" "__init__", "__init__", "BadName.__init__", defArgs (clsm 3 0), defBody (clsm 3 0), defScope (clsm 3 0), [], []⟩
def d_BadWorld___init__ : DD := ⟨mAt "BadWorld" "__init__", "__init__", "BadWorld.__init__", defArgs (clsm 4 0), defBody (clsm 4 0), defScope (clsm 4 0), [], []⟩
def d_BadRow___init__ : DD := ⟨mAt "BadRow" "__init__", "__init__", "BadRow.__init__", defArgs (clsm 5 0), defBody (clsm 5 0), defScope (clsm 5 0), [], []⟩
def d_BadProgram___init__ : DD := ⟨mAt "BadProgram" "__init__", "__init__", "BadProgram.__init__", defArgs (clsm 6 0), defBody (clsm 6 0), defScope (clsm 6 0), [], []⟩
def d_BadText___init__ : DD := ⟨mAt "BadText" "__init__", "__init__", "BadText.__init__", defArgs (clsm 7 0), defBody (clsm 7 0), defScope (clsm 7 0), [], []⟩
def d_TooMany___init__ : DD := ⟨mAt "TooMany" "__init__", "__init__", "TooMany.__init__", defArgs (clsm 8 0), defBody (clsm 8 0), defScope (clsm 8 0), [], []⟩
def d_BadSetting___init__ : DD := ⟨mAt "BadSetting" "__init__", "__init__", "BadSetting.__init__", defArgs (clsm 9 0), defBody (clsm 9 0), defScope (clsm 9 0), [], []⟩
def d_BadItem___init__ : DD := ⟨mAt "BadItem" "__init__", "__init__", "BadItem.__init__", defArgs (clsm 10 0), defBody (clsm 10 0), defScope (clsm 10 0), [], []⟩
def d_BadCut___init__ : DD := ⟨mAt "BadCut" "__init__", "__init__", "BadCut.__init__", defArgs (clsm 11 0), defBody (clsm 11 0), defScope (clsm 11 0), [], []⟩
def d_BadDealing___init__ : DD := ⟨mAt "BadDealing" "__init__", "__init__", "BadDealing.__init__", defArgs (clsm 12 0), defBody (clsm 12 0), defScope (clsm 12 0), [], []⟩
def d_NoName___init__ : DD := ⟨mAt "NoName" "__init__", "__init__", "NoName.__init__", defArgs (clsm 13 0), defBody (clsm 13 0), defScope (clsm 13 0), [], []⟩
def d_NoWorker___init__ : DD := ⟨mAt "NoWorker" "__init__", "__init__", "NoWorker.__init__", defArgs (clsm 14 0), defBody (clsm 14 0), defScope (clsm 14 0), [], []⟩
def d_TaskFailed___init__ : DD := ⟨mAt "TaskFailed" "__init__", "__init__", "TaskFailed.__init__", defArgs (clsm 15 0), defBody (clsm 15 0), defScope (clsm 15 0), [], []⟩
def d_CannotCross___init__ : DD := ⟨mAt "CannotCross" "__init__", "__init__", "CannotCross.__init__", defArgs (clsm 16 0), defBody (clsm 16 0), defScope (clsm 16 0), [], []⟩
def d__law_bag : DD := ⟨gAt "_law_bag", "_law_bag", "_law_bag", defArgs (top 19), defBody (top 19), defScope (top 19), [], []⟩
def d__law_take : DD := ⟨gAt "_law_take", "_law_take", "_law_take", defArgs (top 20), defBody (top 20), defScope (top 20), [], []⟩
def d__law_value : DD := ⟨gAt "_law_value", "_law_value", "_law_value", defArgs (top 21), defBody (top 21), defScope (top 21), [], []⟩
def d__law_kinds : DD := ⟨gAt "_law_kinds", "_law_kinds", "_law_kinds", defArgs (top 22), defBody (top 22), defScope (top 22), [], []⟩
def d__law_are_right : DD := ⟨gAt "_law_are_right", "_law_are_right", "_law_are_right", defArgs (top 23), defBody (top 23), defScope (top 23), [], []⟩
def d_law : DD := ⟨gAt "law", "law", "law", defArgs (top 24), defBody (top 24), defScope (top 24), [], []⟩
def fn : List DD := [d_BadBox___init__, d_BadName___init__, d_BadWorld___init__, d_BadRow___init__, d_BadProgram___init__, d_BadText___init__, d_TooMany___init__, d_BadSetting___init__, d_BadItem___init__, d_BadCut___init__, d_BadDealing___init__, d_NoName___init__, d_NoWorker___init__, d_TaskFailed___init__, d_CannotCross___init__, d__law_bag, d__law_take, d__law_value, d__law_kinds, d__law_are_right, d_law]
def fa : List He.Fa := [.glo "_law_bag", .glo "_law_take", .glo "_law_value", .glo "_law_kinds", .glo "_law_are_right", .glo "law", .free "len", .free "min", .free "max", .free "range", .free "repr", .free "enumerate", .free "RuntimeError", .free "isinstance", .free "LookupError", .free "ValueError", .free "list", .free "abs", .free "int", .glo "CannotCross", .glo "NoName", .glo "NoWorker", .glo "TaskFailed", .glo "BadCut", .glo "BadDealing", .glo "BadProgram", .glo "BadText", .glo "TooMany", .glo "BadSetting", .glo "BadItem", .glo "BadBox", .glo "BadName", .glo "BadWorld", .glo "BadRow", .meth "CannotCross" "__init__", .meth "NoName" "__init__", .meth "NoWorker" "__init__", .meth "TaskFailed" "__init__", .meth "BadCut" "__init__", .meth "BadDealing" "__init__", .meth "BadProgram" "__init__", .meth "BadText" "__init__", .meth "TooMany" "__init__", .meth "BadSetting" "__init__", .meth "BadItem" "__init__", .meth "BadBox" "__init__", .meth "BadName" "__init__", .meth "BadWorld" "__init__", .meth "BadRow" "__init__", .glo "Closed", .glo "WorkerworldsError", .noat "CannotCross" "at", .noat "CannotCross" "what", .noat "NoName" "name", .noat "NoWorker" "number", .noat "TaskFailed" "at", .noat "TaskFailed" "told", .noat "TaskFailed" "cause", .noat "BadCut" "at", .noat "BadDealing" "at", .noat "BadProgram" "part", .noat "BadProgram" "at", .noat "BadText" "at", .noat "TooMany" "what", .noat "BadSetting" "what", .noat "BadItem" "at", .noat "BadBox" "contents", .noat "BadName" "name", .noat "BadWorld" "at", .noat "BadRow" "row"]
def fx : List (PySem.W.Frag → Bool) := [xfK "BadWorld" "at", xfK "BadProgram" "at", xfK "BadText" "at", xfK "BadItem" "at", xfK "BadCut" "at", xfK "BadDealing" "at", xfK "TaskFailed" "at", xfK "CannotCross" "at", xfK "TooMany" "what", xfK "BadSetting" "what", xfK "CannotCross" "what", xfK "BadName" "name", xfK "NoName" "name", xfK "NoWorker" "number", xfK "TaskFailed" "told", xfK "TaskFailed" "cause", xfK "BadProgram" "part", xfK "BadBox" "contents", xfK "BadRow" "row", oex0B "Closed", oex0B "WorkerworldsError", isXB "WorkerworldsError" [.o "WorkerworldsError", .o "BadBox", .o "BadName", .o "BadWorld", .o "BadRow", .o "BadProgram", .o "BadText", .o "TooMany", .o "BadSetting", .o "BadItem", .o "BadCut", .o "BadDealing", .o "NoName", .o "NoWorker", .o "TaskFailed", .o "CannotCross", .o "Closed", .b "ValueError", .b "LookupError", .b "RuntimeError"] [.o "WorkerworldsError", .b "ValueError"], isXB "BadBox" [.o "WorkerworldsError", .o "BadBox", .o "BadName", .o "BadWorld", .o "BadRow", .o "BadProgram", .o "BadText", .o "TooMany", .o "BadSetting", .o "BadItem", .o "BadCut", .o "BadDealing", .o "NoName", .o "NoWorker", .o "TaskFailed", .o "CannotCross", .o "Closed", .b "ValueError", .b "LookupError", .b "RuntimeError"] [.o "WorkerworldsError", .o "BadBox", .b "ValueError"], isXB "BadName" [.o "WorkerworldsError", .o "BadBox", .o "BadName", .o "BadWorld", .o "BadRow", .o "BadProgram", .o "BadText", .o "TooMany", .o "BadSetting", .o "BadItem", .o "BadCut", .o "BadDealing", .o "NoName", .o "NoWorker", .o "TaskFailed", .o "CannotCross", .o "Closed", .b "ValueError", .b "LookupError", .b "RuntimeError"] [.o "WorkerworldsError", .o "BadName", .b "ValueError"], isXB "BadWorld" [.o "WorkerworldsError", .o "BadBox", .o "BadName", .o "BadWorld", .o "BadRow", .o "BadProgram", .o "BadText", .o "TooMany", .o "BadSetting", .o "BadItem", .o "BadCut", .o "BadDealing", .o "NoName", .o "NoWorker", .o "TaskFailed", .o "CannotCross", .o "Closed", .b "ValueError", .b "LookupError", .b "RuntimeError"] [.o "WorkerworldsError", .o "BadWorld", .b "ValueError"], isXB "BadRow" [.o "WorkerworldsError", .o "BadBox", .o "BadName", .o "BadWorld", .o "BadRow", .o "BadProgram", .o "BadText", .o "TooMany", .o "BadSetting", .o "BadItem", .o "BadCut", .o "BadDealing", .o "NoName", .o "NoWorker", .o "TaskFailed", .o "CannotCross", .o "Closed", .b "ValueError", .b "LookupError", .b "RuntimeError"] [.o "WorkerworldsError", .o "BadRow", .b "ValueError"], isXB "BadProgram" [.o "WorkerworldsError", .o "BadBox", .o "BadName", .o "BadWorld", .o "BadRow", .o "BadProgram", .o "BadText", .o "TooMany", .o "BadSetting", .o "BadItem", .o "BadCut", .o "BadDealing", .o "NoName", .o "NoWorker", .o "TaskFailed", .o "CannotCross", .o "Closed", .b "ValueError", .b "LookupError", .b "RuntimeError"] [.o "WorkerworldsError", .o "BadProgram", .b "ValueError"], isXB "BadText" [.o "WorkerworldsError", .o "BadBox", .o "BadName", .o "BadWorld", .o "BadRow", .o "BadProgram", .o "BadText", .o "TooMany", .o "BadSetting", .o "BadItem", .o "BadCut", .o "BadDealing", .o "NoName", .o "NoWorker", .o "TaskFailed", .o "CannotCross", .o "Closed", .b "ValueError", .b "LookupError", .b "RuntimeError"] [.o "WorkerworldsError", .o "BadText", .b "ValueError"], isXB "TooMany" [.o "WorkerworldsError", .o "BadBox", .o "BadName", .o "BadWorld", .o "BadRow", .o "BadProgram", .o "BadText", .o "TooMany", .o "BadSetting", .o "BadItem", .o "BadCut", .o "BadDealing", .o "NoName", .o "NoWorker", .o "TaskFailed", .o "CannotCross", .o "Closed", .b "ValueError", .b "LookupError", .b "RuntimeError"] [.o "WorkerworldsError", .o "TooMany", .b "ValueError"], isXB "BadSetting" [.o "WorkerworldsError", .o "BadBox", .o "BadName", .o "BadWorld", .o "BadRow", .o "BadProgram", .o "BadText", .o "TooMany", .o "BadSetting", .o "BadItem", .o "BadCut", .o "BadDealing", .o "NoName", .o "NoWorker", .o "TaskFailed", .o "CannotCross", .o "Closed", .b "ValueError", .b "LookupError", .b "RuntimeError"] [.o "WorkerworldsError", .o "BadSetting", .b "ValueError"], isXB "BadItem" [.o "WorkerworldsError", .o "BadBox", .o "BadName", .o "BadWorld", .o "BadRow", .o "BadProgram", .o "BadText", .o "TooMany", .o "BadSetting", .o "BadItem", .o "BadCut", .o "BadDealing", .o "NoName", .o "NoWorker", .o "TaskFailed", .o "CannotCross", .o "Closed", .b "ValueError", .b "LookupError", .b "RuntimeError"] [.o "WorkerworldsError", .o "BadItem", .b "ValueError"], isXB "BadCut" [.o "WorkerworldsError", .o "BadBox", .o "BadName", .o "BadWorld", .o "BadRow", .o "BadProgram", .o "BadText", .o "TooMany", .o "BadSetting", .o "BadItem", .o "BadCut", .o "BadDealing", .o "NoName", .o "NoWorker", .o "TaskFailed", .o "CannotCross", .o "Closed", .b "ValueError", .b "LookupError", .b "RuntimeError"] [.o "WorkerworldsError", .o "BadCut", .b "ValueError"], isXB "BadDealing" [.o "WorkerworldsError", .o "BadBox", .o "BadName", .o "BadWorld", .o "BadRow", .o "BadProgram", .o "BadText", .o "TooMany", .o "BadSetting", .o "BadItem", .o "BadCut", .o "BadDealing", .o "NoName", .o "NoWorker", .o "TaskFailed", .o "CannotCross", .o "Closed", .b "ValueError", .b "LookupError", .b "RuntimeError"] [.o "WorkerworldsError", .o "BadDealing", .b "ValueError"], isXB "NoName" [.o "WorkerworldsError", .o "BadBox", .o "BadName", .o "BadWorld", .o "BadRow", .o "BadProgram", .o "BadText", .o "TooMany", .o "BadSetting", .o "BadItem", .o "BadCut", .o "BadDealing", .o "NoName", .o "NoWorker", .o "TaskFailed", .o "CannotCross", .o "Closed", .b "ValueError", .b "LookupError", .b "RuntimeError"] [.o "NoName", .b "LookupError"], isXB "NoWorker" [.o "WorkerworldsError", .o "BadBox", .o "BadName", .o "BadWorld", .o "BadRow", .o "BadProgram", .o "BadText", .o "TooMany", .o "BadSetting", .o "BadItem", .o "BadCut", .o "BadDealing", .o "NoName", .o "NoWorker", .o "TaskFailed", .o "CannotCross", .o "Closed", .b "ValueError", .b "LookupError", .b "RuntimeError"] [.o "NoWorker", .b "LookupError"], isXB "TaskFailed" [.o "WorkerworldsError", .o "BadBox", .o "BadName", .o "BadWorld", .o "BadRow", .o "BadProgram", .o "BadText", .o "TooMany", .o "BadSetting", .o "BadItem", .o "BadCut", .o "BadDealing", .o "NoName", .o "NoWorker", .o "TaskFailed", .o "CannotCross", .o "Closed", .b "ValueError", .b "LookupError", .b "RuntimeError"] [.o "TaskFailed", .b "RuntimeError"], isXB "CannotCross" [.o "WorkerworldsError", .o "BadBox", .o "BadName", .o "BadWorld", .o "BadRow", .o "BadProgram", .o "BadText", .o "TooMany", .o "BadSetting", .o "BadItem", .o "BadCut", .o "BadDealing", .o "NoName", .o "NoWorker", .o "TaskFailed", .o "CannotCross", .o "Closed", .b "ValueError", .b "LookupError", .b "RuntimeError"] [.o "CannotCross", .b "RuntimeError"], isXB "Closed" [.o "WorkerworldsError", .o "BadBox", .o "BadName", .o "BadWorld", .o "BadRow", .o "BadProgram", .o "BadText", .o "TooMany", .o "BadSetting", .o "BadItem", .o "BadCut", .o "BadDealing", .o "NoName", .o "NoWorker", .o "TaskFailed", .o "CannotCross", .o "Closed", .b "ValueError", .b "LookupError", .b "RuntimeError"] [.o "Closed", .b "RuntimeError"], oexB "CannotCross", oexB "NoName", oexB "NoWorker", oexB "TaskFailed", oexB "BadCut", oexB "BadDealing", oexB "BadProgram", oexB "BadText", oexB "TooMany", oexB "BadSetting", oexB "BadItem", oexB "BadBox", oexB "BadName", oexB "BadWorld", oexB "BadRow"]
abbrev R : PySem.W.OpenRow := PySem.W.OpenLaw.row PySem.Challenge.rw_workerworlds_k08_errors_by_hand
abbrev hk : PySem.W.Hook := hookY 5 fx fa fn
def ob (s : PySem.W.SharedT) : AlX := obsYG 5 fx fa fn (HandSHeadRun.getT s)
theorem ob_eq (s : PySem.W.SharedT) : ob s = hk.obs s.abs := obsYG_eq (HandSHeadRun.getT_eq s)
def loose : List Str := (["WorkerworldsError", "BadBox", "BadName", "BadWorld", "BadRow", "BadProgram", "BadText", "TooMany", "BadSetting", "BadItem", "BadCut", "BadDealing", "NoName", "NoWorker", "TaskFailed", "CannotCross", "Closed", "_law_bag", "_law_take", "_law_value", "_law_kinds", "_law_are_right"] : List Str)
open HandSHeadRun PySem.W PySem.Calls in
theorem run_a (w : World) (os : OsState) : (endF (stepQ (denQ tabQ) R.prog w) 8000 R.prog w os).map (fun s => looksF R.prog (boot_heap w.params) s.abs) = some true := by
  kernel_rfl
open HandSHeadRun PySem.W PySem.Calls in
theorem run_b (w : World) (os : OsState) : (endF (stepQ (denQ tabQ) R.prog w) 8000 R.prog w os).map (fun s => seenQ (view R.prog [24]) loose (importedModules R.prog.main.body) (fun s => xlAt (view R.prog [24]) [] s && recOk R.toRowW.records s) s.abs) = some (openGood (view R.prog [24]) loose) := by
  kernel_rfl
def kOf_ (s : PySem.W.SharedT) : PySem.W.Frag := He.frG (HandSHeadRun.getT s) (asX (HandSHeadRun.getT s) 5 [mainGlobals] ++ [cStatics])
open HandSHeadRun PySem.W PySem.Calls in
theorem run_c1 (w : World) (os : OsState) : (endF (stepQ (denQ tabQ) R.prog w) 8000 R.prog w os).map (fun s => fx.all (fun f => f (kOf_ s))) = some true := by
  kernel_rfl
open HandSHeadRun PySem.W PySem.Calls in
theorem run_c2 (w : World) (os : OsState) : (endF (stepQ (denQ tabQ) R.prog w) 8000 R.prog w os).map (fun s => fa.all (fun f => f.ok (kOf_ s))) = some true := by
  kernel_rfl
theorem allJ_ {α β : Type} {X : Option α} {h : β → α → Bool} (n : Nat) (l : List β) (e1 : X.map (fun s => (l.take n).all (fun d => h d s)) = some true) (e2 : X.map (fun s => (l.drop n).all (fun d => h d s)) = some true) : X.map (fun s => l.all (fun d => h d s)) = some true := by
  cases X with
  | none => cases e1
  | some x =>
    show some (l.all fun d => h d x) = _
    have e3 : (l.take n).all (fun d => h d x) = true := Option.some.inj e1
    have e4 : (l.drop n).all (fun d => h d x) = true := Option.some.inj e2
    have e5 : ((l.take n ++ l.drop n).all fun d => h d x) = true := by rw [List.all_append, e3, e4]; rfl
    rw [List.take_append_drop] at e5
    rw [e5]
open HandSHeadRun PySem.W PySem.Calls in
theorem run_c31 (w : World) (os : OsState) : (endF (stepQ (denQ tabQ) R.prog w) 8000 R.prog w os).map (fun s => (fn.take 40).all (fun d => d.fit (kOf_ s))) = some true := by
  kernel_rfl
open HandSHeadRun PySem.W PySem.Calls in
theorem run_c32 (w : World) (os : OsState) : (endF (stepQ (denQ tabQ) R.prog w) 8000 R.prog w os).map (fun s => ((fn.drop 40).take 35).all (fun d => d.fit (kOf_ s))) = some true := by
  kernel_rfl
open HandSHeadRun PySem.W PySem.Calls in
theorem run_c33 (w : World) (os : OsState) : (endF (stepQ (denQ tabQ) R.prog w) 8000 R.prog w os).map (fun s => ((fn.drop 40).drop 35).all (fun d => d.fit (kOf_ s))) = some true := by
  kernel_rfl
open HandSHeadRun PySem.W PySem.Calls in
theorem run_c3 (w : World) (os : OsState) : (endF (stepQ (denQ tabQ) R.prog w) 8000 R.prog w os).map (fun s => fn.all (fun d => d.fit (kOf_ s))) = some true :=
  allJ_ (h := fun (d : DD) s => d.fit (kOf_ s)) 40 fn (run_c31 w os) (allJ_ (h := fun (d : DD) s => d.fit (kOf_ s)) 35 _ (run_c32 w os) (run_c33 w os))
open HandSHeadRun PySem.W PySem.Calls in
theorem run_c4 (w : World) (os : OsState) : (endF (stepQ (denQ tabQ) R.prog w) 8000 R.prog w os).map (fun s => fn.map (fun d => told (kOf_ s) (d.at_ (kOf_ s)))) = some (dues_ fn) := by
  kernel_rfl
theorem four_ {α δ : Type} {X : Option α} {f g h : α → Bool} {k : α → δ} {c : δ} (e1 : X.map f = some true) (e2 : X.map g = some true) (e3 : X.map h = some true) (e4 : X.map k = some c) : X.map (fun s => ((f s && (g s && h s)), k s)) = some (true, c) := by
  cases X with
  | none => cases e1
  | some x =>
    show some ((f x && (g x && h x)), k x) = _
    rw [show f x = true from Option.some.inj e1, show g x = true from Option.some.inj e2, show h x = true from Option.some.inj e3, show k x = c from Option.some.inj e4]
    rfl
open HandSHeadRun PySem.W PySem.Calls in
theorem run_c (w : World) (os : OsState) : (endF (stepQ (denQ tabQ) R.prog w) 8000 R.prog w os).map (fun s => ob s) = some (hk.val w) := by
  have e := four_ (run_c1 w os) (run_c2 w os) (run_c3 w os) (run_c4 w os)
  rw [dues_eq] at e
  exact e
theorem three_ {α β γ δ : Type} {X : Option α} {f : α → β} {g : α → γ} {h : α → δ} {a : β} {b : γ} {c : δ} (e1 : X.map f = some a) (e2 : X.map g = some b) (e3 : X.map h = some c) : X.map (fun s => (f s, g s, h s)) = some (a, b, c) := by
  cases X with
  | none => cases e1
  | some x =>
    rw [← Option.some.inj e1, ← Option.some.inj e2, ← Option.some.inj e3]
    rfl
theorem run_ (w : World) : HandSHeadRun.RunEq R (PySem.W.view R.prog [24]) hk ob 8000 loose w := by
  intro os
  exact three_ (run_a w os) (run_b w os) (run_c w os)
end K08
set_option maxHeartbeats 400000
namespace UL
open PySem PySem.Spec PyProof.Rows L2

/-- an argument that simp leaves as it is (a later one hangs on it) -/
abbrev Tag {α : Sort u} (_ : α) : Type := Unit
def condP (b : Bool) (x y : Prop) (_ : Tag x := ()) (_ : Tag y := ()) : Prop := bif b then x else y
def slotK (o : Option (Option U)) (Q : U → Prop) (_ : Tag Q := ()) : Prop := match o with
  | some (some u) => Q u
  | _ => False
def asBl (u : U) (Q : Bool → Prop) (_ : Tag Q := ()) : Prop := match u with
  | .bl b => Q b
  | _ => False
def asInt (u : U) (Q : Int → Prop) (_ : Tag Q := ()) : Prop := match u with
  | .int b => Q b
  | _ => False
def asStr (u : U) (Q : List Nat → Prop) (_ : Tag Q := ()) : Prop := match u with
  | .str b => Q b
  | _ => False
def asRef (u : U) (Q : Addr → Prop) (_ : Tag Q := ()) : Prop := match u with
  | .ref b => Q b
  | _ => False
def getLst (o : Option Ob) (Q : List U → Prop) (_ : Tag Q := ()) : Prop := match o with
  | some (.lst us) => Q us
  | _ => False
def getIns (o : Option Ob) (Q : String → List (String × U) → Prop) (_ : Tag Q := ()) : Prop := match o with
  | some (.ins c fs) => Q c fs
  | _ => False
def getO (o : Option U) (Q : U → Prop) (_ : Tag Q := ()) : Prop := match o with
  | some u => Q u
  | none => False
def getOb (o : Option Ob) (Q : Ob → Prop) (_ : Tag Q := ()) : Prop := match o with
  | some u => Q u
  | none => False
def getUs (o : Option (List U)) (Q : List U → Prop) (_ : Tag Q := ()) : Prop := match o with
  | some u => Q u
  | none => False
def getN (o : Option Nat) (Q : Nat → Prop) (_ : Tag Q := ()) : Prop := match o with
  | some u => Q u
  | none => False
def getLs (o : Option (List (List Nat))) (Q : List (List Nat) → Prop) : Prop := match o with
  | some u => Q u
  | none => False
/-- a promise asked for -/
def Call (sp : USp) (as : List U) (G : Gp) (Q : UK) (E : UX) (_ : Tag Q := ()) (_ : Tag E := ()) : Prop := sp as G Q E
theorem e_condT {x y : Prop} : condP true x y = x := (rfl)
theorem e_condF {x y : Prop} : condP false x y = y := (rfl)
theorem slotK_s {u : U} {Q} : slotK (some (some u)) Q = Q u := (rfl)
theorem asBl_s {u : Bool} {Q} : asBl (.bl u) Q = Q u := (rfl)
theorem asInt_s {u : Int} {Q} : asInt (.int u) Q = Q u := (rfl)
theorem asStr_s {u : List Nat} {Q} : asStr (.str u) Q = Q u := (rfl)
theorem asRef_s {u : Addr} {Q} : asRef (.ref u) Q = Q u := (rfl)
theorem getLst_s {u} {Q} : getLst (some (.lst u)) Q = Q u := (rfl)
theorem getIns_s {c fs} {Q} : getIns (some (.ins c fs)) Q = Q c fs := (rfl)
theorem getOb_s {u} {Q} : getOb (some u) Q = Q u := (rfl)
theorem getO_s {u} {Q} : getO (some u) Q = Q u := (rfl)
theorem getUs_s {u} {Q} : getUs (some u) Q = Q u := (rfl)
theorem getN_s {u} {Q} : getN (some u) Q = Q u := (rfl)
theorem getLs_s {u} {Q} : getLs (some u) Q = Q u := (rfl)
section
variable {us : USt} {G : Gp} {Q : UK} {E : UX} {D : UEnds} {ta tb te to ti' : UTE} {r : UR2} {r1 : UR1} {t u : UTS} {tt tt' : UTT} {B : Bool → Gp → Prop} {tr tk : UTA} {L : List U → Gp → Prop} {g : UTG} {w z : U} {S0 : USt → Gp → Prop} {i : Nat} {sp : USp} {zs vs : List U} {pl : List Src} {f c m : String}
theorem x_var : tUVar i us G Q E = slotK us[i]? fun u => Q u G := (rfl)
theorem x_c : tUC w us G Q E = Q w G := (rfl)
theorem x_op : tUOp r ta tb us G Q E = ta us G (fun x G1 => tb us G1 (fun y G2 => r x y G2 Q E) E) E := (rfl)
theorem x_un : tUUn r1 ta us G Q E = ta us G (fun x G1 => r1 x G1 Q E) E := (rfl)
theorem x_and : tUAnd ta tb us G Q E = ta us G (fun u G1 => asBl u fun b => condP b (tb us G1 Q E) (Q (.bl false) G1)) E := by
  unfold tUAnd
  congr 1
  funext u G1
  cases u <;> try rfl
  rename_i b
  cases b <;> rfl
theorem x_ifC : tUIfC tt ta tb us G Q E = tt us G (fun k G1 => CondE k (ta us G1) (tb us G1) Q E) E := (rfl)
theorem x_nil : tUNil us G L E = L [] G := (rfl)
theorem x_cons : tUCons ta tr us G L E = ta us G (fun u G1 => tr us G1 (fun ws G2 => L (u :: ws) G2) E) E := (rfl)
theorem x_tup : tUTup tr us G Q E = tr us G (fun ws G1 => ws.length ≤ 1000000 ∧ Q (.tup ws) G1) E := (rfl)
theorem x_lst : tULst tr us G Q E = tr us G (fun ws G1 => ws.length ≤ 1000000 ∧ ∀ p, G1 p = none → Q (.ref p) (gup G1 p (.lst ws))) E := (rfl)
theorem x_test : tUTest ta us G B E = ta us G (fun u G1 => asBl u fun b => B b G1) E := (rfl)
theorem x_not : tUNot tt us G B E = tt us G (fun b G1 => B (!b) G1) E := (rfl)
theorem x_bAnd : tBAnd tt tt' us G B E = tt us G (fun b G1 => condP b (tt' us G1 B E) (B false G1)) E := (rfl)
theorem x_bOr : tBOr tt tt' us G B E = tt us G (fun b G1 => condP b (B true G1) (tt' us G1 B E)) E := (rfl)
theorem x_tru {rr : U → Gp → (Bool → Gp → Prop) → UX → Prop} : tUTru rr ta us G B E = ta us G (fun u G1 => rr u G1 B E) E := (rfl)
theorem x_call {rc : URC} : tUCall rc tr us G Q E = tr us G (fun as G1 => rc as G1 Q E) E := (rfl)
theorem x_def {n m : Nat} {d k : List U} : tUDef sp n m pl d k tr tk us G Q E = tr us G (fun vs G1 => tk us G1 (fun zs G2 => vs.length = n ∧ zs.length = m ∧ Call sp (pl.map (Src.get .non vs zs d k)) G2 Q E) E) E := (rfl)
theorem x_bm {T : String} {rm : URM} : tUBM T rm to tr us G Q E = to us G (fun u G1 => tyU T u G1 ∧ tr us G1 (fun as G2 => rm u as G2 Q E) E) E := (rfl)
theorem x_u1 {f : U → Gp → UK → Prop} : u1 f [w] G Q E = f w G Q := (rfl)
theorem x_u2 {f : U → U → Gp → UK → Prop} : u2 f [w, z] G Q E = f w z G Q := (rfl)
theorem x_seq : tUSeq t u D us G = t { D with nx := u D } us G := (rfl)
theorem x_next : tUNext D us G = D.nx us G := (rfl)
theorem x_drop : tUDrop te D us G = te us G (fun _ G1 => D.nx us G1) (fun x G1 => D.ex x us G1) := (rfl)
theorem x_ret : tURet te D us G = te us G D.rt (fun x G1 => D.ex x us G1) := (rfl)
theorem x_ifSC : tUIfSC tt t u D us G = tt us G (fun k G1 => CondS k (fun D' => t D' us G1) (fun D' => u D' us G1) D) (fun x G1 => D.ex x us G1) := (rfl)
theorem x_asg : tUAsg te g D us G = te us G (fun x G1 => g x us G1 D.nx (fun x G1 => D.ex x us G1)) (fun x G1 => D.ex x us G1) := (rfl)
theorem x_par {is : List Nat} : tUPar is tr D us G = tr us G (fun ws G1 => ws.length = is.length ∧ D.nx (setAll us is.reverse ws.reverse) G1) (fun x G1 => D.ex x us G1) := (rfl)
theorem x_gname : gUName i w us G S0 E = S0 (us.set i (some w)) G := (rfl)
theorem x_gsub {st : U → U → U → Gp → (Gp → Prop) → UX → Prop} : gUSub to ti' st w us G S0 E = to us G (fun o G1 => ti' us G1 (fun i G2 => st o i w G2 (fun G3 => S0 us G3) E) E) E := (rfl)
theorem x_gtup {n : Nat} {ts : UTGs} {ws : List U} : gUTup n ts (.tup ws) us G S0 E = (ws.length = n ∧ ts ws us G S0 (fun _ _ => False)) := (rfl)
theorem x_gcons {ts : UTGs} {ws : List U} : gUCons g ts (w :: ws) us G S0 E = g w us G (fun us1 G1 => ts ws us1 G1 S0 E) E := (rfl)
theorem x_gnil {ws : List U} : gUNil ws us G S0 E = (ws = [] ∧ S0 us G) := (rfl)
theorem x_sl {tl th : UTO} : tUSl te tl th us G Q E = te us G (fun x G1 => tl us G1 (fun l G2 => th us G2 (fun h G3 => slU x l h G3 Q) E) E) E := (rfl)
theorem x_noPart {O : Option Int → Gp → Prop} : tUNoPart us G O E = O none G := (rfl)
theorem x_part {O : Option Int → Gp → Prop} : tUPart te us G O E = te us G (fun u G1 => asInt u fun i => O (some i) G1) E := by
  unfold tUPart
  congr 1
theorem x_for {ti : UTI} : tUFor ti g t D us G = ti us G (fun chk items G1 => forU g t chk items D us G1) (fun x G1 => D.ex x us G1) := (rfl)
theorem x_rng1 {R : UKI} : tIRng1 ta us G R E = ta us G (fun u G1 => rngA u G1 R) E := (rfl)
theorem x_any {R : UKI} : tIAny ta us G R E = ta us G (fun u G1 => iterU u G1 R) E := (rfl)
theorem x_lc {ti : UTI} {own : List Nat} : tULc ti g tt te own us G Q E = ti us G (fun chk items G1 => lcU g tt te chk (uwipe us own) (fun acc G2 => ∀ p, G2 p = none → Q (.ref p) (gup G2 p (.lst acc))) items [] G1) E := (rfl)
theorem x_fld : tUFld f te us G Q E = te us G (fun x G1 => fldU f x G1 Q) E := (rfl)
theorem x_fldU {a : Addr} : fldU f (.ref a) G Q = getIns (G a) fun _ fs => getO (fget fs f) fun u => Q u G := by
  unfold fldU getIns getO
  all_goals (try dsimp only)
  all_goals (cases G a with
    | none => rfl
    | some o => cases o <;> rfl)
theorem x_gfld : gUFld f to w us G S0 E = to us G (fun x G1 => setF f x w G1 fun G2 => S0 us G2) E := (rfl)
theorem x_setF {a : Addr} {Z : Gp → Prop} : setF f (.ref a) w G Z = getIns (G a) fun c fs => f ∈ fldsOf c ∧ fs.length < 100 ∧ Z (gup G a (.ins c (fput fs f w))) := by
  unfold setF getIns
  all_goals (try dsimp only)
  all_goals (cases G a with
    | none => rfl
    | some o => cases o <;> rfl)
theorem x_make {n nk : Nat} {ud uk : List U} : tUMake c sp n nk pl ud uk tr tk us G Q E = tr us G (fun vs G1 => tk us G1 (fun zs G2 => vs.length + 1 = n ∧ zs.length = nk ∧ ∀ a, G2 a = none → Call sp (pl.map (Src.get .non (.ref a :: vs) zs ud uk)) (gup G2 a (.ins c [])) (fun v G3 => v = .non ∧ Q (.ref a) G3) E) E) E := (rfl)
theorem x_raise {fl : List String} : tURaise c fl tr D us G = tr us G (fun vs G1 => vs.length = fl.length ∧ D.ex ⟨c, fl.zip vs⟩ us G1) (fun x G1 => D.ex x us G1) := (rfl)
variable {a b i' j : Int} {x y : List Nat} {xs ys : List U} {p q : Addr} {R : UKI}
theorem x_addI : addU (.int a) (.int b) G Q E = Q (.int (a + b)) G := (rfl)
theorem x_addS : addU (.str x) (.str y) G Q E = (x.length + y.length ≤ 1000000 ∧ Q (.str (x ++ y)) G) := (rfl)
theorem lst_ex {P : List U → Prop} {o : Option Ob} : (∃ us, o = some (.lst us) ∧ P us) = getLst o P := by
  unfold getLst
  apply propext
  constructor
  · rintro ⟨us, rfl, h⟩
    exact h
  · intro h
    split at h
    · exact ⟨_, rfl, h⟩
    · exact h.elim
theorem x_subI : subU (.int a) (.int b) G Q E = Q (.int (a - b)) G := (rfl)
theorem x_mulI : mulU (.int a) (.int b) G Q E = (CMul a b ∧ Q (.int (a * b)) G) := (rfl)
theorem x_mulL : mulU (.ref p) (.int b) G Q E = getLst (G p) fun xs => -(2 ^ 63) ≤ b ∧ b < 2 ^ 63 ∧ xs.length * b.toNat ≤ 1000000 ∧ ∀ r, G r = none → Q (.ref r) (gup G r (.lst (List.replicate b.toNat xs).flatten)) := lst_ex
theorem x_modI : modU (.int a) (.int b) G Q E = (0 < b ∧ Q (.int (a % b)) G) := (rfl)
theorem x_fdivI : fdivU (.int a) (.int b) G Q E = ((0 < b ∧ b < 1073741824) ∧ Q (.int (a / b)) G) := (rfl)
theorem x_powI : powU (.int a) (.int b) G Q E = (CPow a b ∧ Q (.int (a ^ b.toNat)) G) := (rfl)
theorem x_negI : negU (.int a) G Q E = Q (.int (-a)) G := (rfl)
theorem x_eqI : eqU (.int a) (.int b) G Q E = Q (.bl (decide (a = b))) G := (rfl)
theorem x_eqS : eqU (.str x) (.str y) G Q E = Q (.bl (decide (x = y))) G := (rfl)
theorem x_neS : neU (.str x) (.str y) G Q E = Q (.bl (!decide (x = y))) G := (rfl)
theorem x_ltI : ltU (.int a) (.int b) G Q E = Q (.bl (decide (a < b))) G := (rfl)
theorem x_gtI : gtU (.int a) (.int b) G Q E = Q (.bl (decide (b < a))) G := (rfl)
theorem x_geI : geU (.int a) (.int b) G Q E = Q (.bl (decide (b ≤ a))) G := (rfl)
theorem x_leS : leU (.str x) (.str y) G Q E = Q (.bl (!decide (y < x))) G := (rfl)
theorem x_inS : inU (.str x) (.str y) G Q E = ∃ k, x = [k] ∧ Q (.bl (decide (k ∈ y))) G := (rfl)
theorem x_notInS : notInU (.str x) (.str y) G Q E = ∃ k, x = [k] ∧ Q (.bl (!decide (k ∈ y))) G := (rfl)
theorem x_inS1 {c : Nat} : inU (.str [c]) (.str y) G Q E = Q (.bl (decide (c ∈ y))) G := by
  rw [x_inS]
  apply propext
  constructor
  · rintro ⟨k, e, h⟩
    cases e
    exact h
  · exact fun h => ⟨c, rfl, h⟩
theorem x_notInS1 {c : Nat} : notInU (.str [c]) (.str y) G Q E = Q (.bl (!decide (c ∈ y))) G := by
  rw [x_notInS]
  apply propext
  constructor
  · rintro ⟨k, e, h⟩
    cases e
    exact h
  · exact fun h => ⟨c, rfl, h⟩
theorem x_ixR : ixU0 (.rol xs) (.int a) G Q E = getO (atI xs a) fun u => Q u G := by
  show (∃ u, atI xs a = some u ∧ Q u G) = _
  apply propext
  cases atI xs a <;> simp [getO]
theorem x_ixT : ixU0 (.tup xs) (.int a) G Q E = getO (atI xs a) fun u => Q u G := by
  show (∃ u, atI xs a = some u ∧ Q u G) = _
  apply propext
  cases atI xs a <;> simp [getO]
theorem x_ixL : ixU0 (.ref p) (.int a) G Q E = getLst (G p) fun xs => getO (atI xs a) fun u => Q u G := by
  rw [← lst_ex]
  apply propext
  constructor
  · rintro ⟨us, u, h1, h2, h3⟩
    exact ⟨us, h1, by rw [h2]; exact h3⟩
  · rintro ⟨us, h1, h⟩
    cases e : atI us a with
    | none => rw [e] at h; exact h.elim
    | some u => rw [e] at h; exact ⟨us, u, h1, e, h⟩
theorem x_ixS : ixU0 (.str x) (.int a) G Q E = (x.length ≤ 1000000 ∧ getN (atI x a) fun c => Q (.str [c]) G) := by
  show (x.length ≤ 1000000 ∧ ∃ c, atI x a = some c ∧ Q (.str [c]) G) = _
  apply propext
  cases atI x a <;> simp [getN]
theorem x_setL {Z : Gp → Prop} : setU0 (.ref p) (.int a) w G Z E = getLst (G p) fun xs => getN (ixN xs.length a) fun j => Z (gup G p (.lst (xs.set j w))) := by
  rw [← lst_ex]
  apply propext
  constructor
  · rintro ⟨us, j, h1, h2, h3⟩
    exact ⟨us, h1, by rw [h2]; exact h3⟩
  · rintro ⟨us, h1, h⟩
    cases e : ixN us.length a with
    | none => rw [e] at h; exact h.elim
    | some j => rw [e] at h; exact ⟨us, j, h1, e, h⟩
theorem x_abs : absV (.int a) G Q = Q (.int (if a < 0 then -a else a)) G := (rfl)
theorem x_max : maxV (.int a) (.int b) G Q = Q (.int (if b > a then b else a)) G := (rfl)
theorem x_min : minV (.int a) (.int b) G Q = Q (.int (if b < a then b else a)) G := (rfl)
theorem x_int : intV (.int a) G Q = Q (.int a) G := (rfl)
theorem x_intB {k : Bool} : intV (.bl k) G Q = Q (.int (if k then 1 else 0)) G := (rfl)
theorem x_lenR : lenV (.rol xs) G Q = Q (.int xs.length) G := (rfl)
theorem x_lenT : lenV (.tup xs) G Q = Q (.int xs.length) G := (rfl)
theorem x_lenS : lenV (.str x) G Q = (x.length ≤ 1000000 ∧ Q (.int x.length) G) := (rfl)
def lenOb (o : Ob) (Q : Nat → Prop) (_ : Tag Q := ()) : Prop := match o with
  | .lst us => Q us.length
  | .dct us => Q us.length
  | _ => False
theorem lenOb_l {us : List U} {Q : Nat → Prop} : lenOb (.lst us) Q = Q us.length := (rfl)
theorem x_lenL : lenV (.ref p) G Q = getOb (G p) fun o => lenOb o fun n => Q (.int n) G := by
  unfold lenV getOb lenOb
  all_goals (try dsimp only)
  all_goals (cases G p with
    | none => rfl
    | some o => cases o <;> rfl)
theorem x_listL : listV (.ref p) G Q = getLst (G p) fun us => ∀ q, G q = none → Q (.ref q) (gup G q (.lst us)) := by
  unfold listV seqOf getLst
  all_goals (try dsimp only)
  all_goals (cases G p with
    | none => rfl
    | some o => cases o <;> rfl)
theorem x_slR {l h : Option Int} : slU (.rol xs) l h G Q = ∀ p, G p = none → Q (.ref p) (gup G p (.lst (cutU xs l h))) := (rfl)
/-- a number that a range bears -/
def Rg (a : Int) : Prop := -4611686018427387904 ≤ a ∧ a < 4611686018427387904
theorem x_rngA : rngA (.int a) G R = (Rg a ∧ R (fun _ => True) (rngs 0 a.toNat) G) := (rfl)
theorem x_iterT : iterU (.tup xs) G R = R (fun _ => True) xs G := (rfl)
theorem x_iterS : iterU (.str x) G R = R (fun _ => True) (sgs x) G := (rfl)
theorem x_append : onLst appendL (.ref p) [w] G Q E = getLst (G p) fun us => us.length < 1000000 ∧ Q .non (gup G p (.lst (us ++ [w]))) := by
  unfold onLst appendL getLst
  all_goals (try dsimp only)
  all_goals (cases G p with
    | none => rfl
    | some o => cases o <;> rfl)
theorem x_tyL : tyU "list" (.ref p) G = getLst (G p) fun _ => True := by
  unfold getLst
  apply propext
  constructor
  · rintro (⟨_, us, h⟩ | ⟨h, _⟩)
    · rw [h]
      trivial
    · exact absurd h (by decide)
  · intro h
    split at h
    · rename_i us e
      exact .inl ⟨rfl, us, e⟩
    · exact h.elim
theorem x_tyS : tyU "str" (.str x) G = True := by
  unfold tyU
  simp
theorem x_join : joinU (.str x) [w] G Q E = getUs (seqOf G w) fun us => getLs (strsU us) fun ls => (ls.map List.length).sum + ls.length * x.length ≤ 1000000 ∧ Q (.str (joinN x ls)) G := by
  unfold joinU getUs getLs
  all_goals (try dsimp only)
  all_goals (cases seqOf G w with
    | none => rfl
    | some us => cases h : strsU us <;> simp only [h])
theorem seq_l : seqOf G (.ref p) = (match G p with | some (.lst us) => some us | _ => none) := (rfl)
def lstO (o : Option Ob) : Option (List U) := match o with | some (.lst us) => some us | _ => none
theorem lstO_s {us : List U} : lstO (some (.lst us)) = some us := (rfl)
theorem x_strS : strV (.str x) G Q = Q (.str x) G := (rfl)
theorem x_fmtS : fmtV (.str x) G Q = (x.length ≤ 1000000 ∧ Q (.str x) G) := (rfl)
theorem x_fmt : tUFmt te us G Q E = te us G (fun x G1 => fmtV x G1 Q) E := (rfl)
theorem x_js0 {acc : List Nat} : tUJs [] acc us G Q E = Q (.str acc) G := (rfl)
theorem x_js {acc : List Nat} {t : UTE} {ts : List UTE} : tUJs (t :: ts) acc us G Q E = t us G (fun x G1 => asStr x fun l => acc.length + l.length ≤ 1000000 ∧ tUJs ts (acc ++ l) us G1 Q E) E := (rfl)
theorem x_truB {T : Bool → Gp → Prop} {k : Bool} : truU (.bl k) G T = T k G := (rfl)
def isiH (ds : List String) (t c : Option TD) (Q : Bool → Prop) (_ : Tag Q := ()) : Prop := isiK ds t c Q
theorem x_isi {ds : List String} {x y : U} : isiV ds x y G Q = isiH ds (tdOf G x) (tdC y) fun b => Q (.bl b) G := (rfl)
theorem isiK_s {ds : List String} {t d : TD} {Q : Bool → Prop} : isiH ds (some t) (some d) Q = (isiOk ds d ∧ Q (isiF t d)) := (rfl)
theorem isi_bb {t d : String} : isiF (.b t) (.b d) = (decide (t = d) || (decide (t = "bool") && decide (d = "int"))) := (rfl)
theorem isiOk_b {ds : List String} {d : String} : isiOk ds (.b d) = (d ∈ tyNames) := (rfl)
theorem td_S : tdOf G (.str x) = some (.b "str") := (rfl)
theorem tdC_t : tdC (.ty f) = some (.b f) := (rfl)
theorem tdC_g : tdC (.glo f) = some (.o f) := (rfl)
theorem fget_nil : fget [] f = none := (rfl)
theorem fget_cons {g : String} {fs : List (String × U)} : fget ((g, w) :: fs) f = if g = f then some w else fget fs f := (rfl)
theorem fput_nil : fput [] f w = [(f, w)] := (rfl)
theorem fput_cons {g : String} {z : U} {fs : List (String × U)} : fput ((g, z) :: fs) f w = if g = f then (g, w) :: fs else (g, z) :: fput fs f w := (rfl)
theorem src_p {n : Nat} {z : U} {us ws dv kv : List U} : Src.get z us ws dv kv (.p n) = us.getD n z := (rfl)
theorem src_k {n : Nat} {z : U} {us ws dv kv : List U} : Src.get z us ws dv kv (.k n) = ws.getD n z := (rfl)
theorem getD_0 {α : Type} {a z : α} {l : List α} : (a :: l).getD 0 z = a := (rfl)
theorem getD_s {α : Type} {a z : α} {l : List α} {n : Nat} : (a :: l).getD (n + 1) z = l.getD n z := (rfl)
theorem setAll_nil {us : USt} {ws : List U} : setAll us [] ws = us := by cases ws <;> rfl
theorem setAll_cons {us : USt} {i : Nat} {is : List Nat} {w : U} {ws : List U} : setAll us (i :: is) (w :: ws) = setAll (us.set i (some w)) is ws := (rfl)
theorem uwipe_nil {us : USt} : uwipe us [] = us := (rfl)
theorem uwipe_cons {us : USt} {i : Nat} {is : List Nat} : uwipe us (i :: is) = (uwipe us is).set i none := (rfl)
theorem len_cons {α : Type} {a : α} {l : List α} : (a :: l).length = l.length + 1 := (rfl)
end
theorem gup_gup {G : Gp} {a : Addr} {o u : Ob} : gup (gup G a o) a u = gup G a u := by
  funext b
  unfold gup
  split <;> rfl
theorem gup_none {G : Gp} {a b : Addr} {o : Ob} (h : gup G a o b = none) : b ≠ a ∧ G b = none := by
  by_cases e : b = a
  · subst e
    rw [gup_same] at h
    cases h
  · exact ⟨e, (gup_ne e).symm.trans h⟩
theorem ne_of_known {G : Gp} {a b : Addr} {u : Ob} (g : G b = some u) (h : G a = none) : b ≠ a := fun e => by
  rw [e, h] at g
  cases g

theorem Sub.drop {G : Gp} {a : Addr} {o : Ob} (h : G a = none) : Sub G (gup G a o) := fun b u g => by
  rw [gup_ne fun e => by rw [e, h] at g; cases g]
  exact g
theorem Sub.gup {G1 G2 : Gp} (x : Sub G1 G2) {a : Addr} {o : Ob} : Sub (UL.gup G1 a o) (UL.gup G2 a o) := fun b u g => by
  by_cases e : b = a
  · subst e
    rw [gup_same] at g ⊢
    exact g
  · rw [gup_ne e] at g ⊢
    exact x b u g
theorem Sub.dropO {G1 G2 : Gp} (x : Sub G1 G2) {a : Addr} {o : Ob} (h : G2 a = none) : Sub G1 (UL.gup G2 a o) := x.trans (Sub.drop h)
theorem for_ind {tg : UTG} {body : UTS} {chk : Gp → Prop} {D : UEnds} (I : List U → USt → Gp → Prop)
    (h : ∀ x xs us G N, (∀ us' G', I xs us' G' → N us' G') → I (x :: xs) us G → chk G ∧ tg x us G (fun us1 G1 => body { D with nx := N, ct := N, bk := D.nx } us1 G1) (fun x G1 => D.ex x us G1))
    (h0 : ∀ us G, I [] us G → chk G ∧ D.nx us G) : ∀ items us G, I items us G → forU tg body chk items D us G
  | [], us, G, i => h0 us G i
  | x :: xs, us, G, i => h x xs us G (forU tg body chk xs D) (fun us' G' z => for_ind I h h0 xs us' G' z) i
theorem rngs_cons {lo : Int} {n : Nat} : rngs lo (n + 1) = .int lo :: rngs (lo + 1) n := by
  unfold rngs
  rw [List.range_succ_eq_map, List.map_cons, List.map_map]
  congr 1
  · simp
  · apply List.map_congr_left
    intro i _
    simp only [Function.comp]
    congr 1
    omega
theorem rngs_zero {lo : Int} : rngs lo 0 = [] := (rfl)
theorem for_rng {tg : UTG} {body : UTS} {D : UEnds} {lo : Int} {n : Nat} (I : Nat → USt → Gp → Prop)
    (h : ∀ k us G N, k < n → (∀ us' G', I (k + 1) us' G' → N us' G') → I k us G → tg (.int (lo + k)) us G (fun us1 G1 => body { D with nx := N, ct := N, bk := D.nx } us1 G1) (fun x G1 => D.ex x us G1))
    (h0 : ∀ us G, I n us G → D.nx us G) {us : USt} {G : Gp} (hi : I 0 us G) : forU tg body (fun _ => True) (rngs lo n) D us G := by
  refine for_ind (fun items us G => ∃ k, k ≤ n ∧ items = rngs (lo + k) (n - k) ∧ I k us G) (fun x xs us G N hN ⟨k, hk, e, i⟩ => ?_) (fun us G ⟨k, hk, e, i⟩ => ?_) _ us G ⟨0, Nat.zero_le _, by simp, hi⟩
  · have hlt : k < n := by
      by_cases z : k < n
      · exact z
      · have e0 : n - k = 0 := by omega
        rw [e0, rngs_zero] at e
        cases e
    obtain ⟨m, em⟩ : ∃ m, n - k = m + 1 := ⟨n - k - 1, by omega⟩
    rw [em, rngs_cons] at e
    cases e
    refine ⟨True.intro, h k us G N hlt (fun us' G' i' => hN us' G' ⟨k + 1, hlt, ?_, i'⟩) i⟩
    rw [show n - (k + 1) = m by omega]
    congr 1
    omega
  · have e0 : k = n := by
      by_cases z : k < n
      · obtain ⟨m, em⟩ : ∃ m, n - k = m + 1 := ⟨n - k - 1, by omega⟩
        rw [em, rngs_cons] at e
        cases e
      · omega
    subst e0
    exact ⟨True.intro, h0 us G i⟩
theorem ixN_nn {n : Nat} {i : Int} (h0 : 0 ≤ i) (h1 : i < n) : ixN n i = some i.toNat := by
  unfold ixN
  rw [if_pos h0, if_pos h1]
theorem atI_nn {α : Type} {xs : List α} {i : Int} (h0 : 0 ≤ i) (h1 : i < xs.length) : atI xs i = xs[i.toNat]? := by
  unfold atI
  rw [ixN_nn h0 h1]
  rfl
theorem atI_0 {α : Type} {x : α} {xs : List α} : atI (x :: xs) 0 = some x := by
  rw [atI_nn (by omega) (by simp)]
  rfl
theorem atI_1 {α : Type} {x y : α} {xs : List α} : atI (x :: y :: xs) 1 = some y := by
  rw [atI_nn (by omega) (by simp; omega)]
  rfl
theorem atI_2 {α : Type} {x y z : α} {xs : List α} : atI (x :: y :: z :: xs) 2 = some z := by
  rw [atI_nn (by omega) (by simp; omega)]
  rfl
theorem atI_3 {α : Type} {x y z w : α} {xs : List α} : atI (x :: y :: z :: w :: xs) 3 = some w := by
  rw [atI_nn (by omega) (by simp; omega)]
  rfl
theorem cmul_l {i j : Int} (h : -(2 ^ 64) < i ∧ i < 2 ^ 64) : CMul i j := .inl h
theorem cmul_r {i j : Int} (h : -(2 ^ 64) < j ∧ j < 2 ^ 64) : CMul i j := .inr h
theorem rg_of {a : Int} (h1 : -1000000000000 ≤ a) (h2 : a ≤ 1000000000000) : Rg a := ⟨by omega, by omega⟩
theorem intU_len (ns : List Int) : (IntU ns).length = ns.length := List.length_map _
theorem intU_at {ns : List Int} {i : Int} (h0 : 0 ≤ i) (h1 : i < ns.length) : ∃ z, z ∈ ns ∧ atI (IntU ns) i = some (.int z) := by
  rw [atI_nn h0 (by rw [intU_len]; exact h1)]
  have hl : i.toNat < ns.length := by omega
  refine ⟨ns[i.toNat], List.getElem_mem hl, ?_⟩
  unfold IntU
  rw [List.getElem?_map, List.getElem?_eq_getElem hl]
  rfl
theorem cutU_ints (ns : List Int) (l h : Option Int) : ∃ ms, cutU (IntU ns) l h = IntU ms := by
  unfold cutU IntU
  exact ⟨(ns.drop (HT.sIx (ns.map U.int).length 0 l)).take (HT.sIx (ns.map U.int).length (ns.map U.int).length h - HT.sIx (ns.map U.int).length 0 l), by rw [List.map_take, List.map_drop]⟩
theorem dats_ints {G : Gp} : ∀ ns : List Int, Dats G (IntU ns) (ns.map PyData.int)
  | [] => .nil
  | n :: ns => .cons (.int n) (dats_ints ns)
theorem canLay_ints : ∀ ns : List Int, PyData.canLayAll0 (ns.map PyData.int) = true
  | [] => by simp [PyData.canLayAll0]
  | n :: ns => by simp [PyData.canLayAll0, PyData.canLay0, canLay_ints ns]
theorem depth_ints : ∀ ns : List Int, PyData.depthAll (ns.map PyData.int) ≤ 0
  | [] => by simp [PyData.depthAll]
  | n :: ns => by simp [PyData.depthAll, PyData.depth]; exact Nat.le_zero.mp (depth_ints ns)
theorem shaped_lst (ns : List Int) : SeqAt.shaped (.list (ns.map PyData.int)) = true := by
  have := depth_ints ns
  simp [SeqAt.shaped, PyData.canLay0, canLay_ints, PyData.depth]
  omega
theorem eqv_ints : ∀ ns ms : List Int, PyData.eqvAll (ns.map PyData.int) (ms.map PyData.int) = decide (ns = ms)
  | [], [] => by simp [PyData.eqvAll]
  | [], _ :: _ => by simp [PyData.eqvAll]
  | _ :: _, [] => by simp [PyData.eqvAll]
  | n :: ns, m :: ms => by
    simp [PyData.eqvAll, PyData.eqv, eqv_ints ns ms]
    rw [Bool.eq_iff_iff]
    simp
theorem ne_lists {G : Gp} {p q : Addr} {ns ms : List Int} {Q : UK} {E : UX} (h1 : G p = some (.lst (IntU ns))) (h2 : G q = some (.lst (IntU ms))) (h : Q (.bl (!decide (ns = ms))) G) : neU (.ref p) (.ref q) G Q E := by
  refine ⟨_, _, .lst h1 (dats_ints ns), .lst h2 (dats_ints ms), shaped_lst ns, shaped_lst ms, ?_⟩
  simp only [PyData.eqv, eqv_ints]
  exact h
theorem lim_line' {n : Nat} (h : n ≤ 16000000) : n ≤ sizeLine := by rw [sizeLine_eq]; omega
theorem e_strsOnes : ∀ l : List Nat, strsU (sgs l) = some (l.map fun c => [c])
  | [] => rfl
  | c :: l => by
    show (strsU (sgs l)).map (_ :: ·) = _
    rw [e_strsOnes l]
    rfl
theorem e_joinOnes {l : List Nat} : joinN [] (l.map fun c => [c]) = l := by
  rw [joinN_nil]
  induction l with
  | nil => rfl
  | cons c l ih => rw [List.map_cons, List.flatten_cons, ih]; rfl
theorem e_sumOnes {l : List Nat} : ((l.map fun c => [c]).map List.length).sum = l.length := by
  induction l with
  | nil => rfl
  | cons c l ih =>
    rw [List.map_cons, List.map_cons, List.sum_cons, ih]
    simp; omega
def C26 : List Nat := (List.range 26).map (· + 97)
def B26 : List Nat := (List.range 26).map (· + 65)
def M52 : List Nat := B26 ++ C26
theorem gup_neS {G : Gp} {a b : Addr} {o : Ob} (h : a ≠ b) : gup G a o b = G b := gup_ne h.symm
theorem gup_nN {G : Gp} {a b : Addr} {o : Ob} (h : ¬b = a) : gup G a o b = G b := gup_ne h
theorem gup_nNS {G : Gp} {a b : Addr} {o : Ob} (h : ¬a = b) : gup G a o b = G b := gup_ne fun e => h e.symm
theorem KF.drop {Q : UK} {u : U} {G : Gp} {a : Addr} {o : Ob} (h : G a = none) (k : KF Q u G) : KF Q u (gup G a o) := by
  obtain ⟨G2, s, q⟩ := k
  exact ⟨G2, s.trans (Sub.drop h), q⟩
theorem KS.drop {Q : USt → Gp → Prop} {u : USt} {G : Gp} {a : Addr} {o : Ob} (h : G a = none) (k : KS Q u G) : KS Q u (gup G a o) := by
  obtain ⟨G2, s, q⟩ := k
  exact ⟨G2, s.trans (Sub.drop h), q⟩
theorem KX.drop {E : UX} {x : UExc} {G : Gp} {a : Addr} {o : Ob} (h : G a = none) (k : KX E x G) : KX E x (gup G a o) := by
  obtain ⟨G2, s, q⟩ := k
  exact ⟨G2, s.trans (Sub.drop h), q⟩
theorem KF.of {Q : UK} {u : U} {G G2 : Gp} (s : Sub G2 G) (q : Q u G2) : KF Q u G := ⟨G2, s, q⟩
theorem KS.of {Q : USt → Gp → Prop} {u : USt} {G G2 : Gp} (s : Sub G2 G) (q : Q u G2) : KS Q u G := ⟨G2, s, q⟩
/-- all that A knows beyond S is known to B -/
def SubE (S : Addr → Prop) (A B : Gp) : Prop := ∀ x o, ¬S x → A x = some o → B x = some o
theorem SubE.refl {S : Addr → Prop} {A : Gp} : SubE S A A := fun _ _ _ h => h
theorem Sub.ofE {A B : Gp} (h : SubE (fun _ => False) A B) : Sub A B := fun x o g => h x o id g
theorem SubE.left {S : Addr → Prop} {A B : Gp} {p : Addr} {o : Ob} (h : SubE (fun x => x = p ∨ S x) A B) (hb : S p ∨ B p = some o) : SubE S (UL.gup A p o) B := fun x u hs g => by
  by_cases e : x = p
  · subst e
    rw [gup_same] at g
    rcases hb with z | z
    · exact absurd z hs
    · rw [z]; exact g
  · rw [gup_ne e] at g
    exact h x u (fun z => z.elim e hs) g
theorem SubE.put {S : Addr → Prop} {A B : Gp} {a : Addr} {o : Ob} (h : SubE S A B) (ha : S a ∨ A a = none ∨ A a = some o) : SubE S A (UL.gup B a o) := fun x u hs g => by
  by_cases e : x = a
  · subst e
    rw [gup_same]
    rcases ha with z | z | z
    · exact absurd z hs
    · rw [z] at g; cases g
    · exact z.symm.trans g
  · rw [gup_ne e]
    exact h x u hs g
theorem SubE.drop {S : Addr → Prop} {A B : Gp} {a : Addr} {o : Ob} (h : SubE S A B) (ha : B a = none) (hA : SubE S A B → A a = none ∨ S a) : SubE S A (UL.gup B a o) := h.put ((hA h).elim (fun z => .inr (.inl z)) .inl)
end UL
set_option maxHeartbeats 400000
namespace UL
open PySem PySem.Spec PyProof.Rows L2

section
variable {X : Cx} {W : WX} {pos : Pos}
end
end UL
set_option maxHeartbeats 400000
namespace UL
open PySem PySem.Spec PyProof.Rows L2

section
variable {X : Cx} {W : WX} {es : List Expr} {kws : List Keyword} {e o : Expr} {to te : UTE} {tk ta : UTA} {pos p apos : Pos} {k n : Nat} {ks : List Str} {sp : USp} {pl : List Src} {d : DD} {c m : String}
end
end UL
set_option maxHeartbeats 400000
namespace UL
open PySem PySem.Spec PyProof.Rows L2
theorem CallU.imp {X : Cx} {W : WX} {f : Value} {r r' : URC} (h : CallU X W f r) (k : ∀ as G Q E, r' as G Q E → r as G Q E) : CallU X W f r' :=
  fun pins s σ H xs us as G Q E I rx ra rp hr hx => h pins s σ H xs us as G Q E I rx ra rp (k _ _ _ _ hr) hx
section
variable {X : Cx} {W : WX} {c : String} {e : MAp}
end
section
variable {us : USt} {G : Gp} {Q : UK} {E : UX} {r : UR2} {rc : URC} {c : String} {e : MAp} {f : UK → UK} {x : U} {p : Addr} {neg b : Bool} {l : List Nat} {xs : List U} {i : Int}
end
end UL
set_option maxHeartbeats 400000
namespace UL
open PySem PySem.Spec PyProof.Rows L2
section
variable {G : Gp} {Q : UK} {E : UX} {a b : Bool} {i : Int} {l : List Nat}
end
end UL
set_option maxHeartbeats 400000
namespace UL
open PySem PySem.Spec PyProof.Rows L2
/-- a list that stays as it is while chk holds -/
def ListAt (K : PySem.W.Frag) (H0 : Hp) (G0 : Gp) (a : Addr) (us : List U) (chk : Gp → Prop) : Prop := ∀ H G, Ext H0 G0 H G → Rep K H G → chk G → ∃ vs, SqL K H a vs ∧ RelUs K H us vs
section
variable {K : PySem.W.Frag} {H0 : Hp} {G0 : Gp} {a b : Addr} {us ws : List U}
theorem listAt_ref : ListAt K H0 G0 a us (fun G => G a = some (.lst us)) := fun H G _ r g => by
  obtain ⟨vs, e, rv⟩ := r.lst g
  exact ⟨vs, .of e, rv⟩
theorem listAt_rol {vs : List V} (h : RoL K H0 a vs) (rv : RelUs K H0 us vs) (r0 : Rep K H0 G0) : ListAt K H0 G0 a us (fun _ => True) := fun H G x r _ => ⟨vs, (x.roL r0 h).sq, rv.ext x r0⟩
theorem itu_enumA {c : Gp → Prop} (h : ListAt K H0 G0 a us c) : ItU K (Ite K a) c (enumU 0 us) H0 G0 := by
  refine ⟨fun i H G x r g hi => ?_, fun H G x r g => ?_⟩
  · rw [enumU_len] at hi
    obtain ⟨vs, e, rv⟩ := h H G x r g
    obtain ⟨v, ev, ru⟩ := rv.get (List.getElem?_eq_getElem hi)
    refine ⟨⟨vs, v, e, ev⟩, fun y H' ⟨T, z, ey, hT, eH, hz⟩ => ?_⟩
    subst eH ey
    have := hz vs e
    rw [ev] at this
    cases this
    obtain ⟨x1, r1⟩ := ext_tup r hT (xs := [.int (i : Nat), v])
    refine ⟨_, enumU_get 0 us i _ (List.getElem?_eq_getElem hi), x1, r1, T, _, rfl, .of upd_same, .int (i : Nat), [v], rfl, ?_, v, [], rfl, ru.ext x1 r, rfl⟩
    show V.int (i : Nat) = V.int ((0 + i : Nat))
    rw [Nat.zero_add]
  · obtain ⟨vs, e, rv⟩ := h H G x r g
    exact ⟨vs, e, by rw [rv.length, enumU_len]; exact Nat.le_refl _⟩
end
def lstU (u : U) (G : Gp) (k : List U → (Gp → Prop) → Prop) : Prop := match u with
  | .ref a => ∃ us, G a = some (.lst us) ∧ k us (fun G => G a = some (.lst us))
  | .rol us => k us (fun _ => True)
  | _ => False
theorem lstU_of {K : PySem.W.Frag} {H : Hp} {G : Gp} {u : U} {v : V} {k : List U → (Gp → Prop) → Prop} (rp : Rep K H G) (ru : RelU K H u v) (h : lstU u G k) : ∃ a us c vs, v = .ref a ∧ SqL K H a vs ∧ ListAt K H G a us c ∧ k us c := by
  cases u <;> try exact h.elim
  · rename_i a
    obtain ⟨us, g, q⟩ := h
    obtain ⟨vs, e, r⟩ := rp.lst g
    exact ⟨a, us, _, vs, ru, .of e, listAt_ref, q⟩
  · rename_i us
    obtain ⟨a, vs, rfl, t, r⟩ := (show ∃ a vs, v = .ref a ∧ RoL K H a vs ∧ RelUs K H us vs from ru)
    exact ⟨a, us, _, vs, rfl, t.sq, listAt_rol t r rp, h⟩
def enumI (u : U) (G : Gp) (Q : UKI) : Prop := lstU u G fun us c => Q c (enumU 0 us) G
section
variable {X : Cx} {W : WX} {te tb : UTE} {p pos tpos : Pos} {elts : List Expr} {kk : Nat}
end
section
variable {us : USt} {G : Gp} {E : UX} {R : UKI} {ta tb : UTE} {p q : Addr} {xs ys : List U}
theorem x_enumL : enumI (.ref p) G R = getLst (G p) fun us => R (fun G => G p = some (.lst us)) (enumU 0 us) G := lst_ex
end
end UL
set_option maxHeartbeats 400000
namespace UL
open PySem PySem.Spec PyProof.Rows L2
/-- what a caught exception's dict says -/
theorem relE_of {K : PySem.W.Frag} {H : Hp} {gs : List (Str × V)} : ∀ {fs : List (String × U)}, (fs.map (·.1)).Nodup → (∀ f u, fget fs f = some u → ∃ v, gs.lookup (S f) = some v ∧ RelU K H u v) → RelE K H gs (fs.map (·.1)) (fs.map (·.2))
  | [], _, _ => True.intro
  | (f, u) :: fs, hn, h => by
    rw [List.map_cons, List.nodup_cons] at hn
    refine ⟨h f u (by unfold fget; rw [if_pos rfl]), relE_of hn.2 fun g w e => h g w ?_⟩
    have ne : f ≠ g := fun z => hn.1 (by
      subst z
      have : ∀ {l : List (String × U)}, fget l f = some w → f ∈ l.map (·.1) := fun {l} => by
        induction l with
        | nil => intro h; cases h
        | cons p l ih =>
          obtain ⟨k, y⟩ := p
          intro h
          unfold fget at h
          split at h
          · rename_i q
            rw [q]
            exact List.mem_cons_self
          · exact List.mem_cons_of_mem _ (ih h)
      exact this e)
    unfold fget
    rw [if_neg ne]
    exact e
theorem relE_get {K : PySem.W.Frag} {H : Hp} {gs : List (Str × V)} {f : String} {u : U} : ∀ {fl : List String} {us : List U}, RelE K H gs fl us → fget (fl.zip us) f = some u → ∃ v, gs.lookup (S f) = some v ∧ RelU K H u v
  | [], [], _, h => by cases h
  | [], _ :: _, h, _ => h.elim
  | _ :: _, [], _, h => by cases h
  | g :: fl, w :: us, ⟨h1, h2⟩, h => by
    rw [List.zip_cons_cons] at h
    unfold fget at h
    split at h
    · rename_i e
      cases h
      rw [← e]
      exact h1
    · exact relE_get h2 h
section
variable {us : USt} {G : Gp} {Q : UK} {E : UX} {D : UEnds} {hits : List (String × Bool)} {i : Nat} {tb : UTS} {ts : Addr → Option Addr → String → UTS} {c k f : String} {fs : List (String × U)} {a : Addr} {d : Option Addr} {te : UTE} {cs fl : List String} {ws : List U} {P R : Prop} {b : Bool} {l : List (String × Bool)} {u : U}
end
end UL
set_option maxHeartbeats 400000
namespace UL
open PySem PySem.Spec PyProof.Rows L2
def IteS (x : Str) : It := ⟨fun i _ => i < x.cps.size, fun i H v H' => ∃ T c, v = .ref T ∧ H T = none ∧ H' = upd H T (.tup [.int (i : Nat), .str ⟨#[c]⟩]) ∧ x.cps[i]? = some c, fun i _ => i = x.cps.size⟩
theorem turn_enumS {P : Program} {w : World} {K : PySem.W.Frag} {elts : List Expr} {kk : Nat} {tpos : Pos} (x : Str) (t : Tok) (ty : String) (hty : ty = "str_ascii_iterator" ∨ ty = "str_iterator") (e it : Addr) :
    Turn P w K (.Tuple elts kk tpos) (IteS x) [e, it] e (fun i h => (∃ old, IsEnum h e it ((i : Nat) : Int) old) ∧ h.IsStrIter it ty x t i ∧ e ≠ it) where
  mem := by simp
  obj := fun i h st b hb => by
    obtain ⟨⟨old, he⟩, ⟨o, ho, hc, hd⟩, _⟩ := st
    have e' : b = e ∨ b = it := by simpa using hb
    rcases e' with z | z
    · rw [z]; exact ⟨_, he, fun v q => nomatch q⟩
    · rw [z]; exact ⟨o, ho, fun v q => by rw [hd] at q; cases q⟩
  keep := fun i h h' st k => let ⟨⟨old, he⟩, ⟨o, ho, r⟩, hne⟩ := st; ⟨⟨old, k e (by simp) _ he⟩, ⟨o, k it (by simp) o ho, r⟩, hne⟩
  item := by
    intro X hP hw hK hc i pins s σ H E I hf st hg
    subst hP hw hK
    obtain ⟨⟨old, he⟩, hit, hne⟩ := st
    have D : Draws X.prog X.w X.A.in1 it [it] x.cps.size (fun i v => ∃ c u, x.cps[i]? = some c ∧ v = .str ⟨#[c]⟩ u) (fun i h => h.IsStrIter it ty x t i) := by
      rcases hty with e | e
      · rw [e]; exact Draws.strAscii (A := X.A.in1) (show X.A.in1.handled = none from I.ok.hd hc) it x t
      · rw [e]; exact Draws.strWide (A := X.A.in1) (show X.A.in1.handled = none from I.ok.hd hc) it x t
    have hel : e < s.heap.objs.size := Heap.lt_size he
    have hil : it < s.heap.objs.size := by obtain ⟨_, q, _⟩ := hit; exact Heap.lt_size q
    refine wpAny_pyNext_enum_itemD D he hit hg hne (by simpa using hne) fun v h' tk hv ho hit' hT hsz hk => ?_
    obtain ⟨c, u, hcx, rfl⟩ := hv
    refine ⟨_, rfl, wpAny_letOwnedTupleGo_enum (s := { s with heap := h', toks := tk + 1 }) ho fun h'' he' sb => ?_⟩
    have hT2 : h''.get? s.heap.objs.size = some { cls := .type "tuple", data := .seq #[.int i tk, .str ⟨#[c]⟩ u] } := (sb.2 _ (Nat.ne_of_gt hel)).trans hT
    have new : ObjOk X.prog X.w (upd H s.heap.objs.size (.tup [.int (i : Nat), .str ⟨#[c]⟩])) h'' s.heap.objs.size (.tup [.int (i : Nat), .str ⟨#[c]⟩]) :=
      ⟨by show 2 ≤ sizeLine; decide, [.int i tk, .str ⟨#[c]⟩ u], .cons ⟨_, rfl⟩ (.cons ⟨_, rfl⟩ .nil), ⟨_, hT2, rfl, _, rfl⟩⟩
    have I1 : Inv X pins σ (upd H s.heap.objs.size (.tup [.int (i : Nat), .str ⟨#[c]⟩])) { s with heap := h'', toks := tk + 1 } :=
      I.turnedNew (ch := [e, it]) (fun b ob hb q => (sb.2 b (fun z => hb (by simp [z]))).trans (hk b ob (fun z => hb (by simp [z])) (fun z => hb (by simp [z])) q)) hf (Nat.le_refl _) new
    refine ⟨.ref s.heap.objs.size, _, I1, rfl, ⟨_, c, rfl, I.hok.fresh (Nat.le_refl _), rfl, hcx⟩, ⟨⟨.str ⟨#[c]⟩ u, ?_⟩, hit'.extBut sb.extBut (Ne.symm hne), hne⟩, fun b hb => ?_⟩
    · have e1 : ((i + 1 : Nat) : Int) = (i : Int) + 1 := by omega
      rw [e1]; exact he'
    · have hb' : b < s.heap.objs.size := by
        have e' : b = e ∨ b = it := by simpa using hb
        rcases e' with z | z
        · rw [z]; exact hel
        · rw [z]; exact hil
      rw [upd_ne (Nat.ne_of_lt hb')]
      exact (hf b hb).1
  done := by
    intro X hP hw hK hc i pins s σ H E I hf st hg
    subst hP hw hK
    obtain ⟨⟨old, he⟩, hit, hne⟩ := st
    have D : Draws X.prog X.w X.A.in1 it [it] x.cps.size (fun i v => ∃ c u, x.cps[i]? = some c ∧ v = .str ⟨#[c]⟩ u) (fun i h => h.IsStrIter it ty x t i) := by
      rcases hty with e | e
      · rw [e]; exact Draws.strAscii (A := X.A.in1) (show X.A.in1.handled = none from I.ok.hd hc) it x t
      · rw [e]; exact Draws.strWide (A := X.A.in1) (show X.A.in1.handled = none from I.ok.hd hc) it x t
    have hg' : i = x.cps.size := hg
    subst hg'
    obtain ⟨f0, f1, f2, f3, f4, f5⟩ := hf it (by simp)
    exact wpAny_pyNext_enum_endD D he hit fun h' eb => ⟨rfl, I.turned (t' := s.toks) (fun b o hb q => eb b o hb q) f0 f1 f3 f4 f5⟩
  self := fun A i s Q E st h => let ⟨⟨_, he⟩, _⟩ := st; wpAny_pyIter_enum he h
theorem itu_enumS {K : PySem.W.Frag} {H0 : Hp} {G0 : Gp} {l : List Nat} : ItU K (IteS ⟨l.toArray⟩) (fun _ => True) (enumU 0 (sgs l)) H0 G0 := by
  have sz : (sgs l).length = l.length := List.length_map _
  refine ⟨fun i H G x r _ hi => ?_, fun H G x r _ => ?_⟩
  · rw [enumU_len] at hi
    refine ⟨show i < l.toArray.size by rw [List.size_toArray]; omega, fun y H' ⟨T, c, ey, hT, eH, hc⟩ => ?_⟩
    subst eH ey
    have hc' : l[i]? = some c := by simpa using hc
    obtain ⟨x1, r1⟩ := ext_tup r hT (xs := [.int (i : Nat), .str ⟨#[c]⟩])
    refine ⟨_, enumU_get 0 (sgs l) i (.str [c]) (by unfold sgs; rw [List.getElem?_map, hc']; rfl), x1, r1, T, _, rfl, .of upd_same, .int (i : Nat), [.str ⟨#[c]⟩], rfl, ?_, .str ⟨#[c]⟩, [], rfl, rfl, rfl⟩
    show V.int (i : Nat) = V.int ((0 + i : Nat))
    rw [Nat.zero_add]
  · show (enumU 0 (sgs l)).length = l.toArray.size
    rw [enumU_len, sz, List.size_toArray]
def enumA (u : U) (G : Gp) (Q : UKI) : Prop := match u with
  | .str l => Q (fun _ => True) (enumU 0 (sgs l)) G
  | u => enumI u G Q
section
variable {us : USt} {G : Gp} {E : UX} {R : UKI} {ta : UTE} {p : Addr} {xs : List U} {l : List Nat}
end
end UL
set_option maxHeartbeats 400000
namespace UL
open PySem PySem.Spec PyProof.Rows L2
def reprA : U → Gp → UK → Prop := fun u G Q => ∃ d, Shows G u d ∧ Q (.str d.shown.cps.toList) G
theorem cu_reprA {X : Cx} {W : WX} (hu : X.A.units + 64 < cLine) (hg : X.A.guards = some []) : CallU X W (.builtin "repr") (u1 reprA) := by
  intro pins s σ H xs us as G Q E I rx ra rp hr hx
  obtain ⟨u, rfl, d, ⟨hd, hs, hdp, hz⟩, q⟩ := u1_of hr
  obtain ⟨x, rfl, rux⟩ := relUs1 ra
  obtain ⟨v, rfl, rv⟩ := vals1 rx
  have dp := hd.dp rp d u x rux
  obtain ⟨as', rd⟩ := Dp.reads I d x v dp rv
  have fin : ∀ {t : Tok} {h' : Heap} {tk : Tok}, (∀ b o, s.heap.get? b = some o → h'.get? b = some o) → EP X pins σ (LV X.K H G Q) (.str d.shown t) { s with heap := h', toks := tk } := fun {t h' tk} hk => ⟨.str d.shown, H, I.kept hk, ⟨t, rfl⟩, lv_str (l := d.shown.cps.toList) rp q⟩
  have big : ∀ a, v = .ref a → wpAny (model X.prog X.w) X.A (call (.builtin "repr") [v]) (EP X pins σ (LV X.K H G Q)) X.xe s := by
    rintro a rfl
    exact PySem.repr_of_reads' rd hs (PyData.noDict_hsm (Dp.noDict d x dp)) hg (by omega) (fun _ _ e => e) (fun h' t tk hk => fin hk) hz
  cases hd with
  | non =>
    have e : x = .non := rux
    subst e
    obtain rfl : v = Value.none := rv
    exact PySem.P.repr_of_none (fin fun _ _ z => z)
  | bl b =>
    have e : x = .bl b := rux
    subst e
    obtain rfl : v = Value.bool b := rv
    exact PySem.P.repr_of_bool (fin fun _ _ z => z)
  | int i =>
    have e : x = .int i := rux
    subst e
    obtain ⟨t, rfl⟩ := rv
    exact PySem.P.repr_of_int (by simpa [PyData.showable] using hs) (fin fun _ _ z => z)
  | str l =>
    have e : x = .str ⟨l.toArray⟩ := rux
    subst e
    obtain ⟨t, rfl⟩ := rv
    exact PySem.P.repr_of_str (fin fun _ _ z => z) hz
  | tup _ =>
    obtain ⟨a, vs, rfl, _⟩ := rux.tup_of
    exact big a rv
  | lst _ _ =>
    rename_i a us ds _ _
    have e : x = .ref a := rux
    subst e
    exact big a rv
end UL
set_option maxHeartbeats 400000
namespace UL
open PySem PySem.Spec PyProof.Rows L2
def getTD (o : Option TD) (Q : TD → Prop) (_ : Tag Q := ()) : Prop := match o with
  | some t => Q t
  | none => False
section
variable {G : Gp} {Q : UK} {u w : U} {a : Addr} {d : Option Addr} {c c' : String} {t t' : TD} {v : Bool} {tab : List (String × TD × Bool)} {fl : List String} {vs : List U}
theorem getTD_s {Q} : getTD (some t) Q = Q t := (rfl)
end
end UL
set_option maxHeartbeats 400000
namespace UL
open PySem PySem.Spec PyProof.Rows L2
section
variable {X : Cx} {W : WX} {a b c : Expr} {ta tb tc : UTE} {op op' : CmpOp} {r r' : UR2} {pos : Pos}
end
section
variable {us : USt} {G : Gp} {Q : UK} {E : UX} {ta tb tc : UTE} {r r' : UR2} {t f : Prop}
end
end UL
set_option maxHeartbeats 400000
namespace UL
open PySem PySem.Spec PyProof.Rows L2
abbrev kS (l : List Nat) : Key := .inr ⟨l.toArray⟩
section
variable {K : PySem.W.Frag} {H : Hp} {l : List Nat}
end
section
variable {X : Cx} {W : WX}
end
section
variable {X : Cx} {W : WX}
end
section
variable {us : USt} {G : Gp} {Q : UK} {E : UX} {D : UEnds} {p : Addr} {l m : List Nat} {a : Int} {xs : List U} {w : U} {Z : Gp → Prop} {to ti : UTE} {kvs : List (U × U)} {k u : U} {K : List (U × U) → Prop} {R : Prop}
end
end UL
set_option maxHeartbeats 400000
namespace UL
open PySem PySem.Spec PyProof.Rows L2
section
variable {G : Gp} {Q : UK} {p : Addr} {xs : List U} {l : List Nat}
end
end UL
set_option maxHeartbeats 400000
namespace UL
open PySem PySem.Spec PyProof.Rows L2
structure FnStU (P : Program) (w : World) (K : PySem.W.Frag) (mg : Str → Option Value) (base : Heap) (k : Nat) (f : Addr) (sp : USp) : Prop where
  run : ∀ (A : Around) (outer : List Env) (s : Shared) (H : Hp) (us : List Value) (vs : List V) (ws : List U) (G : Gp) (Q : UK) (E : UX), RoomU k A → Env0 P w K mg base A outer s H →
    Vals vs us → RelUs K H ws vs → Rep K H G → ws.length ≤ 1000000 → sp [.tup ws] G Q E → codeAny (model P w) A (.call (.ref f) ⟨us, []⟩) (CR (L2.CX P w) outer P w H s (LV K H G Q) (LX K H G E)) s
theorem FnStU.mono {P : Program} {w : World} {K : PySem.W.Frag} {mg : Str → Option Value} {base : Heap} {j k : Nat} {f : Addr} {sp : USp} (F : FnStU P w K mg base j f sp) (h : j ≤ k) : FnStU P w K mg base k f sp :=
  ⟨fun A outer s H us vs ws G Q E hr => F.run A outer s H us vs ws G Q E (hr.mono h)⟩
section
variable {X : Cx} {W : WX} {es : List Expr} {o : Expr} {to : UTE} {ta : UTA} {pos apos : Pos} {k : Nat} {sp : USp} {d : DD} {c m : String}
end
end UL
set_option maxHeartbeats 400000
namespace UL
open PySem PySem.Spec PyProof.Rows L2 PySem.W
abbrev US3 := U → U → U → Gp → (Gp → Prop) → UX → Prop
section
variable {X : Cx} {W : WX} {c : String} {e : MAp} {r : UR2} {a b : Expr} {ta tb : UTE} {pos : Pos}
end
section
variable {G : Gp} {Q : UK} {E : UX} {r : UR2} {r3 : US3} {c : String} {e : MAp} {x y z : U} {p : Addr} {l : List Nat} {xs : List U} {Z : Gp → Prop}
end
end UL
set_option maxHeartbeats 400000
namespace UL
open PySem PySem.Spec PyProof.Rows L2
section
variable {G : Gp} {Q : UK} {p : Addr} {us : List U} {ls : List (List Nat)}
end
section
variable {X : Cx} {W : WX}
end
section
variable {G : Gp} {Q : UK} {E : UX} {p : Addr} {l : List Nat} {w : U} {i : Int}
end
end UL
set_option maxHeartbeats 400000
namespace UL
open PySem PySem.Spec PyProof.Rows L2
section
variable {G : Gp} {Q : UK} {E : UX} {p q : Addr} {xs : List U} {l m : List Nat}
end
end UL
set_option maxHeartbeats 400000
namespace UL
open PySem PySem.Spec PyProof.Rows L2
section
abbrev Clause := Value × Option (Str × Nat) × (Addr → Value → Option Addr → TS)
variable {X : Cx} {body : List Stmt} {h₀ : ExceptHandler} {hds : List ExceptHandler} {l : List Clause} {pos : Pos} {tb : WX → TS} {Wout : WX}
end
abbrev UClause := List (String × Bool) × Option Nat × (Addr → Option Addr → String → UTS)
section
variable {D : UEnds} {us : USt} {G : Gp} {tb : UTS} {cs : List UClause} {hits : List (String × Bool)} {o : Option Nat} {ts : Addr → Option Addr → String → UTS} {c : String} {fs : List (String × U)} {i : Nat} {u : U}
end
end UL
set_option maxHeartbeats 400000
namespace UL
open PySem PySem.Spec PyProof.Rows L2
theorem ext_tup_meets (l : Addr) (items : Array Value) (n : Nat) (b : Addr) (items2 : Array Value) (n2 : Nat) (hs0 : ¬(!items.isEmpty && Builtin.List.listTooLong (items.size + items2.size)) = true) (hs1 : items.size ≤ sizeLine) (hs2 : items.size + items2.size ≤ sizeLine + 1) :
    Meets (Builtin.«list.extend» ⟨[.ref l, .ref b], []⟩) (fun _ R s => s.heap.get? l = some { cls := .type "list", dict := none, data := .seq items n, slots := #[] } ∧ (∃ o, s.heap.get? b = some o ∧ o.cls = .type "tuple" ∧ o.data = .seq items2 n2) ∧ R (.ok (.ret Value.none)) { s with heap := s.heap.update l (Obj.mapSeq fun x => x ++ items2), toks := s.toks }) :=
  .of_wp fun prog w A R s h => by
    obtain ⟨hp, g, d, tk, os⟩ := s; obtain ⟨hl, ⟨⟨oc, od, odd, os⟩, hb, hc, hd⟩, h⟩ := h
    obtain rfl : oc = _ := hc
    obtain rfl : odd = _ := hd
    have f1 := AutoSeq1.idx_int; have f2 := AutoSeq1.sub_tuple_tuple; have f3 := AutoSeq1.sub_list_list; have f4 := AutoSeq1.sub_tuple_list; have f5 := AutoSeq1.sub_list_tuple
    have hz' : (items ++ items2).size ≤ sizeLine + 1 := by rw [Array.size_append]; exact hs2
    wp_walk using (wpAny_updateSeq hl rfl (hz := hs1) (_hz' := hz')), AutoSeq1.wpAny_loadPart' hl, AutoSeq1.wpAny_loadPart' hb; exact ⟨_, rfl, h⟩
def rExtendT (K : PySem.W.Frag) : V → List V → Hp → VK → Prop := fun x vs H Q => ∃ l b xs zs, x = .ref l ∧ vs = [.ref b] ∧ H l = some (.lst xs) ∧ SqT K H b zs ∧ xs.length + zs.length ≤ sizeLine ∧ Q .non (upd H l (.lst (xs ++ zs)))
theorem mt_extendT {X : Cx} : MtM X "list.extend" (rExtendT X.K) := by
  intro pins s σ H x vs v us Q I rx rv h
  obtain ⟨l, b, xs, zs, rfl, rfl, hH, hB, hz, q⟩ := h
  cases rx
  obtain ⟨u, rfl, ru⟩ := rv.one
  cases ru
  obtain ⟨z, its, n, r, hl, e⟩ := I.lstM hH
  obtain ⟨its2, r2, ⟨o2, e2, c2, n2, d2⟩, hl2⟩ := I.tuple hB
  have l2 := r2.length
  have hsz : its.toArray.size + its2.toArray.size ≤ sizeLine := by rw [List.size_toArray, List.size_toArray]; omega
  have hlong : ¬ (!its.toArray.isEmpty && Builtin.List.listTooLong (its.toArray.size + its2.toArray.size)) = true := by
    rw [notLongL hsz, Bool.and_false]
    exact Bool.false_ne_true
  refine call_meets F.slot_list_extend ⟨_, e, rfl⟩ F.entry_list_extend (F.args_list_extend_2 _ _)
    (ext_tup_meets l its.toArray n b its2.toArray n2 hlong (by rw [List.size_toArray]; omega) (by omega)) ⟨e, ⟨o2, e2, c2, d2⟩, ?_⟩
  refine ⟨.non, _, I.lset (its' := its ++ its2) hH e (by simp) (r.append r2) ?_, rfl, q⟩
  rw [List.length_append]
  omega
def extendL : Addr → List U → List U → Gp → UK → Prop := fun a us as G Q => match as with
  | [.tup ws] => us.length + ws.length ≤ 1000000 ∧ Q .non (gup G a (.lst (us ++ ws)))
  | [.ref b] => getLst (G b) fun ws => us.length + ws.length ≤ 1000000 ∧ Q .non (gup G a (.lst (us ++ ws)))
  | _ => False
theorem mu_extend {X : Cx} {W : WX} : MtU X W "list.extend" (onLst extendL) := by
  intro pins s σ H x xs v us u as G Q E I rx rv' ra ras rp h hx
  obtain ⟨a, ls, rfl, g, h⟩ := onLst_of h
  obtain ⟨vs, e, rvs⟩ := rp.lst g
  obtain rfl : x = .ref a := ra
  rcases as with _ | ⟨y, _ | ⟨z, r⟩⟩
  · exact h.elim
  · obtain ⟨yv, rfl, ry⟩ := relUs1 ras
    cases y <;> try exact h.elim
    case tup ws =>
      obtain ⟨b, zs, rfl, hb, rz⟩ := ry
      exact mt_extendT pins s σ H _ _ v us _ I rx rv' ⟨a, b, vs, zs, rfl, rfl, e, hb, by rw [rvs.length, rz.length]; exact lim_line h.1, lv_setl (u := .non) rp g (rvs.append rz) rfl h.2⟩
    case ref =>
      rename_i b _
      obtain rfl : yv = .ref b := ry
      have h' : getLst (G b) fun ws => ls.length + ws.length ≤ 1000000 ∧ Q .non (gup G a (.lst (ls ++ ws))) := h
      rw [← lst_ex] at h'
      obtain ⟨ws, gb, h1, h2⟩ := h'
      obtain ⟨zs, e2, rz⟩ := rp.lst gb
      exact mt_extend pins s σ H _ _ v us _ I rx rv' ⟨a, b, vs, zs, rfl, rfl, e, e2, by rw [rvs.length, rz.length]; exact lim_line h1, lv_setl (u := .non) rp g (rvs.append rz) rfl h2⟩
  · cases y <;> exact h.elim
section
variable {us : USt} {G : Gp} {Q : UK} {E : UX} {ta : UTE} {p b : Addr} {a c n : Int} {ws : List U}
theorem x_extendR : onLst extendL (.ref p) [.ref b] G Q E = getLst (G p) fun us => getLst (G b) fun ws => us.length + ws.length ≤ 1000000 ∧ Q .non (gup G p (.lst (us ++ ws))) := by
  unfold onLst getLst
  cases h : G p with
  | none => simp only [h]
  | some o => cases o <;> simp only [h, extendL, getLst]
end
end UL
set_option maxHeartbeats 400000
namespace UL
open PySem PySem.Spec PyProof.Rows L2
section
variable {K : PySem.W.Frag} {H0 : Hp} {G0 : Gp} {d : Addr} {od : Obj} {gs : List (Key × V)} {kvs : List (U × U)}
end
section
variable {X : Cx} {W : WX} {tg e : Expr} {te : UTE}
end
section
variable {us : USt} {G : Gp} {Q : UK} {R : UKI} {E : UX} {D : UEnds} {p : Addr} {kvs : List (U × U)} {te : UTE} {t : UTE} {ts : UTS} {od : Obj} {gs : List (Key × V)} {Z : Obj → List (Key × V) → List (U × U) → Prop}
end
end UL
set_option maxHeartbeats 400000
namespace UL
open PySem PySem.Spec PyProof.Rows L2 PySem.W

end UL
set_option maxHeartbeats 400000
namespace UL
open PySem PySem.Spec PyProof.Rows L2 PySem.W

section
variable {X : Cx} {W : WX}
end
end UL
set_option maxHeartbeats 1000000
namespace PySem
open Sem (wp)
set_option maxHeartbeats 1000000 in
theorem meets_enumerate_newB1 {v : Value} {o : Obj} {H : Heap → Prop} (B : Begins v o H) :
    Meets (Builtin.«enumerate.__new__» ⟨[.type "enumerate", v], []⟩) (fun _ R s => H s.heap ∧
      R (.ok (.ret (.ref (s.heap.push o).objs.size))) { s with heap := (s.heap.push o).push { cls := .type "enumerate", data := .fields #[.none, .bool false, .ref s.heap.objs.size, rawInt 0, .none, .none] } }) :=
  .of_wp fun prog w A R s h => by
    obtain ⟨hp, g, d, tk, os⟩ := s; obtain ⟨h1, h⟩ := h
    have hsub := sub_enumerate
    have q1 : ∀ {A' : Around} {E : Value → Shared → Prop} {Q : Value → Shared → Prop}, Q (.ref hp.objs.size) ⟨hp.push o, g, d, tk, os⟩ → wpAny (model prog w) A' (pyIter v) Q E ⟨hp, g, d, tk, os⟩ :=
      fun q => B.iter prog w _ _ ⟨hp, g, d, tk, os⟩ _ h1 q
    wp_walk using q1
    refine wpAny_stack_any fun st => wpAny_pure ?_
    split
    · rename_i c _ _ _ _ _
      cases (c == Value.type "enumerate")
      · wp_walk using q1
        exact ⟨_, rfl, h⟩
      · wp_walk using q1
        exact ⟨_, rfl, h⟩
    · wp_walk using q1
      exact ⟨_, rfl, h⟩
section
variable {prog : Program} {w : World} {A : Around} {E : Value → Shared → Prop} {s : Shared}
theorem enum_begins1 {v : Value} {o : Obj} {H : Heap → Prop} {Q : Value → Shared → Prop} (B : Begins v o H) (h1 : H s.heap)
    (h : ∀ h', IsEnum h' (s.heap.objs.size + 1) s.heap.objs.size 0 .none → h'.get? s.heap.objs.size = some o → h'.objs.size = s.heap.objs.size + 2 →
      (∀ b o, s.heap.get? b = some o → h'.get? b = some o) → Q (.ref (s.heap.objs.size + 1)) { s with heap := h' }) :
    wpAny (model prog w) A (call (.type "enumerate") [v]) Q E s := by
  refine callType_new F.called_enumerate (by decide) (F.typeCall_enumerate_1 _) (F.newCall_enumerate_1 _) (fun obj => F.args_object_init_2 obj _) F.entry_enumerate_new
    (meets_enumerate_newB1 B) ⟨h1, ?_⟩
  have hz : (s.heap.push o).objs.size = s.heap.objs.size + 1 := Heap.size_push ..
  show _ ∧ _
  rw [hz]
  have he : IsEnum ((s.heap.push o).push { cls := .type "enumerate", data := .fields #[.none, .bool false, .ref s.heap.objs.size, rawInt 0, .none, .none] }) (s.heap.objs.size + 1) s.heap.objs.size 0 .none := by
    have := Heap.get?_push_size (s.heap.push o) (o := { cls := .type "enumerate", data := .fields #[.none, .bool false, .ref s.heap.objs.size, rawInt 0, .none, .none] }) rfl
    rw [hz] at this; exact this
  refine ⟨⟨_, he, rfl⟩, h _ he (Heap.get?_push_of_some _ (Heap.get?_push_size _ B.free)) (by rw [Heap.size_push, hz]) fun b o x => Heap.get?_push_of_some _ (Heap.get?_push_of_some _ x)⟩
end
end PySem
namespace UL
open PySem PySem.Spec PyProof.Rows L2
def IteT (K : PySem.W.Frag) (a : Addr) (vs : List V) : It :=
  ⟨fun i H => SqT K H a vs ∧ i < vs.length, fun i H v H' => ∃ T x, v = .ref T ∧ H T = none ∧ H' = upd H T (.tup [.int (i : Nat), x]) ∧ vs[i]? = some x, fun i H => SqT K H a vs ∧ i = vs.length⟩
theorem enum_apart {h : Heap} {e it a : Addr} {items : Array Value} {i : Int} {old : Value} {n : Nat} (he : IsEnum h e it i old) (hit : h.IsTupleIter it a n) (ht : h.IsTuple a items) : e ≠ a ∧ it ≠ a := by
  obtain ⟨o, ho, hc, _⟩ := ht
  obtain ⟨o2, ho2, hc2, _⟩ := hit
  refine ⟨fun z => ?_, fun z => ?_⟩
  · subst z
    have h1 : h.get? e = some _ := he
    rw [ho] at h1
    have e := Option.some.inj h1
    subst e
    injection hc with e2
    exact absurd e2 (by decide)
  · subst z
    rw [ho] at ho2
    have e := Option.some.inj ho2
    subst e
    rw [hc] at hc2
    injection hc2 with e2
    exact absurd e2 (by decide)
theorem turn_enumT {P : Program} {w : World} {K : PySem.W.Frag} {elts : List Expr} {kk : Nat} {tpos : Pos} (a : Addr) (vs : List V) (e it : Addr) :
    Turn P w K (.Tuple elts kk tpos) (IteT K a vs) [e, it] e (fun i h => (∃ old, IsEnum h e it ((i : Nat) : Int) old) ∧ h.IsTupleIter it a i ∧ e ≠ it) where
  mem := by simp
  obj := fun i h st b hb => by
    obtain ⟨⟨old, he⟩, ⟨o, ho, hc, hd⟩, _⟩ := st
    have e' : b = e ∨ b = it := by simpa using hb
    rcases e' with z | z
    · rw [z]; exact ⟨_, he, fun v q => nomatch q⟩
    · rw [z]; exact ⟨o, ho, fun v q => by rw [hd] at q; cases q⟩
  keep := fun i h h' st k => let ⟨⟨old, he⟩, hi, hne⟩ := st; ⟨⟨old, k e (by simp) _ he⟩, hi.at fun o q => k it (by simp) o q, hne⟩
  item := by
    intro X hP hw hK hc i pins s σ H E I hf st hg
    subst hP hw hK
    obtain ⟨⟨old, he⟩, hit, hne⟩ := st
    obtain ⟨hq, hi⟩ := hg
    obtain ⟨its, rv, p, hz⟩ := I.tuple hq
    obtain ⟨n1, n2⟩ := enum_apart he hit p
    have hsz : its.toArray.size = vs.length := by rw [List.size_toArray]; exact rv.length.symm
    have D : Draws X.prog X.w X.A.in1 it [it, a] its.toArray.size (fun i v => its.toArray[i]? = some v) (fun i h => h.IsTupleIter it a i ∧ h.IsTuple a its.toArray) := Draws.tuple (A := X.A.in1) (show X.A.in1.handled = none from I.ok.hd hc) it a (Ne.symm n2) its.toArray
    have hel : e < s.heap.objs.size := Heap.lt_size he
    have hil : it < s.heap.objs.size := by obtain ⟨_, q, _⟩ := hit; exact Heap.lt_size q
    refine wpAny_pyNext_enum_itemD D he ⟨hit, p⟩ (by rw [hsz]; exact hi) hne (by simp [hne, n1]) fun v h' tk hv ho hit' hT hsz2 hk => ?_
    obtain ⟨x, hx, rx⟩ : ∃ x, vs[i]? = some x ∧ RelV x v := by
      obtain ⟨u, hu, ru⟩ := rv.get (List.getElem?_eq_getElem hi)
      have hv' : its[i]? = some v := by simpa using hv
      have e : u = v := Option.some.inj (hu.symm.trans hv')
      exact ⟨_, List.getElem?_eq_getElem hi, e ▸ ru⟩
    refine ⟨_, rfl, wpAny_letOwnedTupleGo_enum (s := { s with heap := h', toks := tk + 1 }) ho fun h'' he' sb => ?_⟩
    have hT2 : h''.get? s.heap.objs.size = some { cls := .type "tuple", data := .seq #[.int i tk, v] } := (sb.2 _ (Nat.ne_of_gt hel)).trans hT
    have new : ObjOk X.prog X.w (upd H s.heap.objs.size (.tup [.int (i : Nat), x])) h'' s.heap.objs.size (.tup [.int (i : Nat), x]) :=
      ⟨by show 2 ≤ sizeLine; decide, [.int i tk, v], .cons ⟨_, rfl⟩ (.cons rx .nil), ⟨_, hT2, rfl, _, rfl⟩⟩
    have I1 : Inv X pins σ (upd H s.heap.objs.size (.tup [.int (i : Nat), x])) { s with heap := h'', toks := tk + 1 } :=
      I.turnedNew (ch := [e, it]) (fun b ob hb q => (sb.2 b (fun z => hb (by simp [z]))).trans (hk b ob (fun z => hb (by simp [z])) (fun z => hb (by simp [z])) q)) hf (Nat.le_refl _) new
    refine ⟨.ref s.heap.objs.size, _, I1, rfl, ⟨_, x, rfl, I.hok.fresh (Nat.le_refl _), rfl, hx⟩, ⟨⟨v, ?_⟩, hit'.1.extBut sb.extBut (Ne.symm hne), hne⟩, fun b hb => ?_⟩
    · have e1 : ((i + 1 : Nat) : Int) = (i : Int) + 1 := by omega
      rw [e1]; exact he'
    · have hb' : b < s.heap.objs.size := by
        have e' : b = e ∨ b = it := by simpa using hb
        rcases e' with z | z
        · rw [z]; exact hel
        · rw [z]; exact hil
      rw [upd_ne (Nat.ne_of_lt hb')]
      exact (hf b hb).1
  done := by
    intro X hP hw hK hc i pins s σ H E I hf st hg
    subst hP hw hK
    obtain ⟨⟨old, he⟩, hit, hne⟩ := st
    obtain ⟨hq, hi⟩ := hg
    obtain ⟨its, rv, p, hz⟩ := I.tuple hq
    obtain ⟨n1, n2⟩ := enum_apart he hit p
    have hsz : its.toArray.size = vs.length := by rw [List.size_toArray]; exact rv.length.symm
    have D : Draws X.prog X.w X.A.in1 it [it, a] its.toArray.size (fun i v => its.toArray[i]? = some v) (fun i h => h.IsTupleIter it a i ∧ h.IsTuple a its.toArray) := Draws.tuple (A := X.A.in1) (show X.A.in1.handled = none from I.ok.hd hc) it a (Ne.symm n2) its.toArray
    obtain ⟨f0, f1, f2, f3, f4, f5⟩ := hf it (by simp)
    rw [hi, ← hsz] at hit
    exact wpAny_pyNext_enum_endD D he ⟨hit, p⟩ fun h' eb => ⟨rfl, I.turned (t' := s.toks) (fun b o hb q => eb b o hb q) f0 f1 f3 f4 f5⟩
  self := fun A i s Q E st h => let ⟨⟨_, he⟩, _⟩ := st; wpAny_pyIter_enum he h
theorem itu_enumT {K : PySem.W.Frag} {H0 : Hp} {G0 : Gp} {a : Addr} {us : List U} {vs : List V} (hq : SqT K H0 a vs) (rv : RelUs K H0 us vs) (r0 : Rep K H0 G0) : ItU K (IteT K a vs) (fun _ => True) (enumU 0 us) H0 G0 := by
  refine ⟨fun i H G x r g hi => ?_, fun H G x r g => ?_⟩
  · rw [enumU_len] at hi
    have rv' := rv.ext x r0
    refine ⟨⟨x.sqT r0 hq, by rw [rv.length]; exact hi⟩, fun y H' ⟨T, z, ey, hT, eH, hz⟩ => ?_⟩
    subst eH ey
    obtain ⟨v, ev, ru⟩ := rv'.get (List.getElem?_eq_getElem hi)
    have e : v = z := Option.some.inj (ev.symm.trans hz)
    subst e
    obtain ⟨x1, r1⟩ := ext_tup r hT (xs := [.int (i : Nat), v])
    refine ⟨_, enumU_get 0 us i _ (List.getElem?_eq_getElem hi), x1, r1, T, _, rfl, .of upd_same, .int (i : Nat), [v], rfl, ?_, v, [], rfl, ru.ext x1 r, rfl⟩
    show V.int (i : Nat) = V.int ((0 + i : Nat))
    rw [Nat.zero_add]
  · exact ⟨x.sqT r0 hq, by rw [rv.length, enumU_len]⟩
def enumT (u : U) (G : Gp) (Q : UKI) : Prop := match u with
  | .tup us => Q (fun _ => True) (enumU 0 us) G
  | u => enumA u G Q
def enumTQ (Q : UKI) (ws : List U) (G : Gp) : Prop := match ws with
  | [u] => enumT u G Q
  | _ => False
def tIEnumT (ta : UTE) : UTI := fun us G Q E => ta us G (fun u G1 => enumT u G1 Q) E
theorem iu_enumT {X : Cx} {W : WX} {te : UTE} {p pos tpos : Pos} {elts : List Expr} {kk : Nat} {a : Expr} (hg : Gl X "enumerate") (hm : X.mg "enumerate" = none) (ha : EU X W a te) (hs : starEach [a] X.env = (false, eval a X.env) :: starEach [] X.env) : IU X W (.Tuple elts kk tpos) (.Call (.Name "enumerate" p) [a] [] pos) (tIEnumT te) := by
  refine ⟨fun pins s σ H us G Q E I rs rp h hx => ?_⟩
  refine Call_ (ld_blt I hg hm boot_enumerate (PyProof.Rows.callWith_type1 (thn ((au_cons ha au_nil hs).run pos pins s σ H us G (enumTQ Q) E I rs rp h hx) fun vals s1 ⟨vs, H1, I1, r1, w, G1, x1, rp1, ru, q1⟩ => ?_) hs rfl))
  cases w with
  | nil => exact q1.elim
  | cons u r =>
    cases r with
    | cons _ _ => exact q1.elim
    | nil =>
      obtain ⟨v, vr, e1, ev, e2⟩ := ru
      have e2' : vr = [] := e2
      subst e1 e2'
      have fin : ∀ {h' : Heap} {b : Addr}, s1.heap.objs.size ≤ b → FpOk X pins H1 b := fun hle => I1.fpOk hle (I1.hok.fresh hle)
      have q1 : enumT u G1 Q := q1
      cases u with
      | tup ws =>
        obtain ⟨a, zs, rfl, hq, rv⟩ := ev
        cases r1 with
        | cons r rr =>
          cases rr
          cases r
          obtain ⟨its, rvv, p', hz⟩ := I1.tuple hq
          refine enum_begins1 (begins_tuple a its.toArray) p' fun h' he hit hsz hk => wpAny_pyIter_enum he ?_
          have I2 : Inv X pins σ H1 { s1 with heap := h' } := I1.kept (t' := s1.toks) hk
          refine ⟨s1.heap.objs.size + 1, [s1.heap.objs.size + 1, s1.heap.objs.size], _, _, H1, rfl, I2, turn_enumT a zs (s1.heap.objs.size + 1) s1.heap.objs.size, ⟨⟨.none, he⟩, ⟨_, hit, rfl, rfl⟩, Nat.succ_ne_self _⟩, fun b hb => ?_, ⟨_, _, G1, x1, rp1, itu_enumT hq rv rp1, q1⟩⟩
          have e' : b = s1.heap.objs.size + 1 ∨ b = s1.heap.objs.size := by simpa using hb
          exact fin (h' := h') (by rcases e' with z | z <;> rw [z] <;> omega)
      | str l =>
        rw [show v = .str ⟨l.toArray⟩ from ev] at r1
        cases r1 with
        | cons r rr =>
          cases rr
          obtain ⟨t, rfl⟩ := r
          refine call_enumerate_str fun h' he hit hsz hk => wpAny_pyIter_enum he ?_
          have I2 : Inv X pins σ H1 { s1 with heap := h' } := I1.kept (t' := s1.toks) hk
          refine ⟨s1.heap.objs.size + 1, [s1.heap.objs.size + 1, s1.heap.objs.size], _, _, H1, rfl, I2, turn_enumS ⟨l.toArray⟩ t (strIterType ⟨l.toArray⟩) (by unfold strIterType; split <;> simp) (s1.heap.objs.size + 1) s1.heap.objs.size, ⟨⟨.none, he⟩, hit, Nat.succ_ne_self _⟩, fun b hb => ?_, ⟨_, _, G1, x1, rp1, itu_enumS, q1⟩⟩
          have e' : b = s1.heap.objs.size + 1 ∨ b = s1.heap.objs.size := by simpa using hb
          exact fin (h' := h') (by rcases e' with z | z <;> rw [z] <;> omega)
      | _ =>
        obtain ⟨a, us', c, vs', rfl, hq, hl, q⟩ := lstU_of rp1 ev (show lstU _ G1 fun us c => Q c (enumU 0 us) G1 from q1)
        cases r1 with
        | cons r rr =>
          cases rr
          cases r
          obtain ⟨its, rv, p', hz⟩ := I1.list hq
          refine call_enumerate_list p'.isList fun h' he hit hsz hk => wpAny_pyIter_enum he ?_
          have I2 : Inv X pins σ H1 { s1 with heap := h' } := I1.kept (t' := s1.toks) hk
          refine ⟨s1.heap.objs.size + 1, [s1.heap.objs.size + 1, s1.heap.objs.size], _, _, H1, rfl, I2, turn_enum a (s1.heap.objs.size + 1) s1.heap.objs.size, ⟨⟨.none, he⟩, hit, Nat.succ_ne_self _⟩, fun b hb => ?_, ⟨_, _, G1, x1, rp1, itu_enumA hl, q⟩⟩
          have e' : b = s1.heap.objs.size + 1 ∨ b = s1.heap.objs.size := by simpa using hb
          exact fin (h' := h') (by rcases e' with z | z <;> rw [z] <;> omega)
section
variable {us : USt} {G : Gp} {E : UX} {R : UKI} {ta : UTE} {p : Addr} {xs : List U} {l : List Nat}
theorem x_iEnumT : tIEnumT ta us G R E = ta us G (fun u G1 => enumT u G1 R) E := (rfl)
theorem x_enumTL : enumT (.ref p) G R = getLst (G p) fun us => R (fun G => G p = some (.lst us)) (enumU 0 us) G := x_enumL
end
end UL
set_option maxHeartbeats 1000000
namespace UL
open PySem PySem.Spec PyProof.Rows L2 HT

section
variable {prog : Program} {w : World} {A : Around} {E : Value → Shared → Prop} {s : Shared}
end
end UL
set_option maxHeartbeats 400000
namespace UL
open PySem PySem.Spec PyProof.Rows L2 PySem.W

def mulS : UR2 := fun x y G Q _ => match x, y with
  | .str l, .int k => l.length ≤ 1000 ∧ 0 ≤ k ∧ k ≤ 1000 ∧ Q (.str (List.replicate k.toNat l).flatten) G
  | _, _ => False
theorem foldl_reps (c : List Nat) : ∀ (n : Nat) (acc : Array Nat), ((List.replicate n c.toArray).foldl (· ++ ·) acc).toList = acc.toList ++ (List.replicate n c).flatten
  | 0, acc => by simp
  | n + 1, acc => by
    rw [List.replicate_succ, List.foldl_cons, foldl_reps c n, List.replicate_succ, List.flatten_cons]
    simp
theorem txt_mul {l : List Nat} {k : Int} (h0 : 0 ≤ k) : Txt.mul ⟨l.toArray⟩ k = ⟨((List.replicate k.toNat l).flatten).toArray⟩ := by
  unfold Txt.mul
  by_cases h : k < 1
  · have e : k = 0 := by omega
    subst e
    rfl
  · rw [if_neg h]
    split
    · rename_i hc
      rw [Bool.or_eq_true] at hc
      rcases hc with hc | hc
      · have e : k = 1 := by simpa using hc
        subst e
        simp
      · have e : l = [] := by
          cases l with
          | nil => rfl
          | cons a r => simp [Str.length] at hc
        subst e
        simp
    · refine congrArg Str.mk ?_
      refine Array.toList_inj.mp ?_
      rw [foldl_reps]
      simp
theorem ou_mulS {X : Cx} {W : WX} : OpU X W (binaryOp .Mult) mulS := by
  intro pins s σ H x y v u a b G Q E I rx ry ra rb rp h hx
  unfold mulS at h
  split at h
  · rename_i l k
    obtain ⟨hl, h0, h1, q⟩ := h
    have ex : x = .str ⟨l.toArray⟩ := ra
    have ey : y = .int k := rb
    subst ex ey
    obtain ⟨t, rfl⟩ := rx
    obtain ⟨z, rfl⟩ := ry
    refine SB.mul (mulOk_of 1000 1000 (by simp [Str.length]; exact hl) (by omega) (by omega) (by decide) (by decide)) fun t' j => ?_
    rw [txt_mul h0]
    exact ⟨.str ⟨((List.replicate k.toNat l).flatten).toArray⟩, H, I.tok j, ⟨t', rfl⟩, lv_str rp q⟩
  · exact h.elim
theorem x_mulS {l : List Nat} {k : Int} {G : Gp} {Q : UK} {E : UX} : mulS (.str l) (.int k) G Q E = (l.length ≤ 1000 ∧ 0 ≤ k ∧ k ≤ 1000 ∧ Q (.str (List.replicate k.toNat l).flatten) G) := (rfl)
end UL
set_option maxHeartbeats 400000
namespace UL
open PySem PySem.Spec PyProof.Rows L2

section
variable {X : Cx} {W : WX}
end
section
variable {G : Gp} {Q : UK} {E : UX} {p : Addr} {l m : List Nat} {bs : List Bool}
end
end UL
set_option maxHeartbeats 400000
namespace UL
open PySem PySem.Spec PyProof.Rows L2

section
variable {G : Gp} {Q : UK} {E : UX} {x : List Nat} {ls : List (List Nat)}
end
end UL
set_option maxHeartbeats 400000
namespace UL
open PySem PySem.Spec PyProof.Rows L2

section
variable {G : Gp} {Q : UK} {E : UX} {x : List Nat} {l : List Nat} {ls : List (List Nat)} {p q : Addr} {K : Bool → Prop}
end
mutual
theorem plain_dat {G : Gp} : ∀ {d : PyData} {u : U}, Dat G u d → d.plain = true
  | _, _, .non => rfl
  | _, _, .bl _ => rfl
  | _, _, .int _ => rfl
  | _, _, .str _ => rfl
  | .tuple _, _, .tup h => plain_dats h
  | .list _, _, .lst _ h => plain_dats h
theorem plain_dats {G : Gp} : ∀ {ds : List PyData} {us : List U}, Dats G us ds → PyData.plainAll ds = true
  | [], _, .nil => rfl
  | d :: ds, _, .cons h1 h2 => by
    show (PyData.plain d && PyData.plainAll ds) = true
    rw [plain_dat h1, plain_dats h2]
    rfl
end
def eqL (us vs : List U) (G : Gp) (K : Bool → Prop) (_ : Tag K := ()) : Prop := ∃ ds es, Dats G us ds ∧ Dats G vs es ∧ PyData.depthAll ds ≤ 60 ∧ K (PyData.eqvAll ds es)
theorem eqv_list (ds es : List PyData) : PyData.eqv (.list ds) (.list es) = PyData.eqvAll ds es := by
  simp [PyData.eqv]
theorem eqv_tuple (ds es : List PyData) : PyData.eqv (.tuple ds) (.tuple es) = PyData.eqvAll ds es := by
  simp [PyData.eqv]
def eqP : UR2 := fun x y G Q E => match x, y with
  | .ref p, .ref q => getLst (G p) fun us => getLst (G q) fun vs => eqL us vs G fun b => Q (.bl b) G
  | .tup us, .tup vs => eqL us vs G fun b => Q (.bl b) G
  | x, y => eqU x y G Q E
def neP : UR2 := fun x y G Q E => match x, y with
  | .ref p, .ref q => getLst (G p) fun us => getLst (G q) fun vs => eqL us vs G fun b => Q (.bl (!b)) G
  | .tup us, .tup vs => eqL us vs G fun b => Q (.bl (!b)) G
  | x, y => neU x y G Q E
section
variable {X : Cx} {W : WX}
theorem ou_eqP (hu : X.A.units + 64 < cLine) : OpU X W (compareOp .Eq) eqP := by
  intro pins s σ H x y v u a b G Q E I rx ry ra rb rp h hx
  unfold eqP at h
  split at h
  · rw [← lst_ex] at h
    obtain ⟨us, g1, h⟩ := h
    have h : getLst _ fun vs => eqL us vs G fun b => Q (.bl b) G := h
    rw [← lst_ex] at h
    obtain ⟨vs, g2, ds, es, a1, a2, hd, q⟩ := h
    obtain ⟨as, r1⟩ := Dp.reads I _ x v ((Dat.lst g1 a1).dp rp _ _ _ ra) rx
    obtain ⟨bs, r2⟩ := Dp.reads I _ y u ((Dat.lst g2 a2).dp rp _ _ _ rb) ry
    refine SeqAt.eq_plain r1 r2 (plain_dats a1) (plain_dats a2) ?_ ⟨.bl _, H, I, rfl, by rw [eqv_list]; exact lv_bl rp q⟩
    have := Nat.min_le_left (PyData.list ds).depth (PyData.list es).depth
    have : (PyData.list ds).depth = PyData.depthAll ds + 1 := by simp [PyData.depth, Nat.add_comm]
    omega
  · obtain ⟨ds, es, a1, a2, hd, q⟩ := h
    obtain ⟨as, r1⟩ := Dp.reads I _ x v ((Dat.tup a1).dp rp _ _ _ ra) rx
    obtain ⟨bs, r2⟩ := Dp.reads I _ y u ((Dat.tup a2).dp rp _ _ _ rb) ry
    refine SeqAt.eq_plain r1 r2 (plain_dats a1) (plain_dats a2) ?_ ⟨.bl _, H, I, rfl, by rw [eqv_tuple]; exact lv_bl rp q⟩
    have := Nat.min_le_left (PyData.tuple ds).depth (PyData.tuple es).depth
    have : (PyData.tuple ds).depth = PyData.depthAll ds + 1 := by simp [PyData.depth, Nat.add_comm]
    omega
  · exact ou_eq hu pins s σ H x y v u _ _ G Q E I rx ry ra rb rp h hx
theorem ou_neP (hu : X.A.units + 64 < cLine) : OpU X W (compareOp .NotEq) neP := by
  intro pins s σ H x y v u a b G Q E I rx ry ra rb rp h hx
  unfold neP at h
  split at h
  · rw [← lst_ex] at h
    obtain ⟨us, g1, h⟩ := h
    have h : getLst _ fun vs => eqL us vs G fun b => Q (.bl (!b)) G := h
    rw [← lst_ex] at h
    obtain ⟨vs, g2, ds, es, a1, a2, hd, q⟩ := h
    obtain ⟨as, r1⟩ := Dp.reads I _ x v ((Dat.lst g1 a1).dp rp _ _ _ ra) rx
    obtain ⟨bs, r2⟩ := Dp.reads I _ y u ((Dat.lst g2 a2).dp rp _ _ _ rb) ry
    refine SeqAt.ne_plain r1 r2 (plain_dats a1) (plain_dats a2) ?_ ⟨.bl _, H, I, rfl, by rw [eqv_list]; exact lv_bl rp q⟩
    have := Nat.min_le_left (PyData.list ds).depth (PyData.list es).depth
    have : (PyData.list ds).depth = PyData.depthAll ds + 1 := by simp [PyData.depth, Nat.add_comm]
    omega
  · obtain ⟨ds, es, a1, a2, hd, q⟩ := h
    obtain ⟨as, r1⟩ := Dp.reads I _ x v ((Dat.tup a1).dp rp _ _ _ ra) rx
    obtain ⟨bs, r2⟩ := Dp.reads I _ y u ((Dat.tup a2).dp rp _ _ _ rb) ry
    refine SeqAt.ne_plain r1 r2 (plain_dats a1) (plain_dats a2) ?_ ⟨.bl _, H, I, rfl, by rw [eqv_tuple]; exact lv_bl rp q⟩
    have := Nat.min_le_left (PyData.tuple ds).depth (PyData.tuple es).depth
    have : (PyData.tuple ds).depth = PyData.depthAll ds + 1 := by simp [PyData.depth, Nat.add_comm]
    omega
  · exact ou_ne hu pins s σ H x y v u _ _ G Q E I rx ry ra rb rp h hx
end
section
variable {G : Gp} {Q : UK} {E : UX} {p q : Addr} {x y : List Nat} {xs ys : List U} {a b : Int} {z w : U} {k : Bool}
theorem x_eqPT : eqP (.tup xs) (.tup ys) G Q E = eqL xs ys G fun b => Q (.bl b) G := (rfl)
theorem x_nePT : neP (.tup xs) (.tup ys) G Q E = eqL xs ys G fun b => Q (.bl (!b)) G := (rfl)
theorem x_nePs : neP (.str x) z G Q E = neU (.str x) z G Q E := (rfl)
end
section
variable {G : Gp} {K : Bool → Prop} {as bs : List (List Nat)} {l : List Nat} {ks : List Bool}
end
section
variable {X : Cx} {W : WX}
end
section
variable {X : Cx} {W : WX}
end
section
variable {G : Gp} {Q : UK} {E : UX} {p : Addr} {i : Int}
end
end UL
set_option maxHeartbeats 400000
namespace UL
open PySem PySem.Spec PyProof.Rows L2

section
variable {prog : Program} {w : World} {A : Around} {E : Value → Shared → Prop} {s : Shared}
end
section
variable {X : Cx} {W : WX} {pos : Pos}
end
section
variable {us : USt} {G : Gp} {E : UX} {S0 : USt → Gp → Prop} {n : Nat} {ts : UTGs} {ws : List U} {p : Addr}
end
end UL
set_option maxHeartbeats 400000
namespace UL
open PySem PySem.Spec PyProof.Rows L2

def u3 (f : U → U → U → Gp → UK → Prop) : URC := fun as G Q _ => match as with
  | [a, b, c] => f a b c G Q
  | _ => False
section
variable {X : Cx} {W : WX}
end
section
variable {G : Gp} {Q : UK} {E : UX} {i j k : Int} {f : U → U → U → Gp → UK → Prop} {a b c : U}
end
end UL
set_option maxHeartbeats 400000
namespace UL
open PySem PySem.Spec PyProof.Rows L2

section
variable {X : Cx} {W : WX}
theorem mt_index : MtR X "list.index" (fun x xs H Q => ∃ p k, ∃ ys : List Str, x = .ref p ∧ xs = [.str k] ∧ SqL X.K H p (ys.map V.str) ∧ k ∈ ys ∧ ys.length ≤ sizeLine ∧ Q (.int (ys.idxOf k : Nat)) H) := by
  intro pins s σ H x xs v us Q I rx rs h
  obtain ⟨p, k, ys, rfl, rfl, hp, hk, hz, h⟩ := h
  cases rx
  cases rs with
  | cons r1 rs =>
    cases rs
    obtain ⟨t, rfl⟩ := r1
    obtain ⟨its, r, ⟨o, n, ho, hc, _, hd⟩, _⟩ := I.list hp
    exact PySem.SeqAt.list_index_strs (vs := its) ⟨o, ho, hc, n, hd⟩ (strs_of_vals r) hz hk ⟨.int _, H, I.tok _, ⟨_, rfl⟩, h⟩
end
section
variable {G : Gp} {Q : UK} {E : UX} {p : Addr} {k : List Nat}
end
section
variable {X : Cx} {W : WX} {e : Expr} {es : List Expr} {te : UTE} {tr : UTA} {p : Pos}
end
section
variable {G : Gp} {us : USt} {L : List U → Gp → Prop} {E : UX} {te : UTE} {tr : UTA}
end
end UL
set_option maxHeartbeats 4000000
namespace UL
open PySem PySem.Spec PyProof.Rows L2
def keyS (e : Int × Value) : Str := match e.2 with | .str k _ => k | _ => ⟨#[]⟩
def GoodS (w : World) (e : Int × Value) : Prop := ∃ k tk, e.2 = Value.str k tk ∧ e.1 = hashStr w k
def SetS (w : World) (h : Heap) (a : Addr) (S : Str → Bool) (n : Nat) : Prop :=
  ∃ o es ep t, h.get? a = some o ∧ o.ExactSet ∧ o.data = .set es ep t ∧ (∀ e ∈ es.toList, GoodS w e) ∧ (es.toList.map keyS).Nodup ∧ (∀ k, S k = true ↔ k ∈ es.toList.map keyS) ∧
    es.size < scanBound ∧ t.fits es.size = true ∧ es.size = n ∧ Ris t.place.toList ∧ (w.params.followText "set-order" = true ∨ t.led = true)
section
variable {P : Program} {w : World} {h h' : Heap} {a : Addr} {S : Str → Bool} {n : Nat}
theorem SetS.at (R : SetS w h a S n) (k : ∀ o, h.get? a = some o → h'.get? a = some o) : SetS w h' a S n := by
  obtain ⟨o, es, ep, t, ho, r⟩ := R
  exact ⟨o, es, ep, t, k o ho, r⟩
theorem SetS.congr {S' : Str → Bool} (R : SetS w h a S n) (e : ∀ k, S' k = S k) : SetS w h a S' n := by
  have q : S' = S := funext e
  rw [q]; exact R
end
section
variable {P : Program} {w : World} {A : Around} {E : Value → Shared → Prop} {s : Shared} {a : Addr} {S : Str → Bool} {n : Nat}
end
section
variable {P : Program} {w : World} {A : Around} {E : Value → Shared → Prop} {s : Shared}
end
end UL
namespace UL
open PySem PySem.Spec PyProof.Rows L2
section
variable {us : USt} {G : Gp} {Q : UK} {E : UX} {t : UTE} {l : List Nat}
end
end UL
set_option maxHeartbeats 1000000
namespace UL
open PySem PySem.Spec PyProof.Rows L2 HT
end UL
set_option maxHeartbeats 1000000
namespace UL
open PySem PySem.Spec PyProof.Rows L2
section
variable {G : Gp} {Q : UK} {u w : U} {a : Addr} {d : Option Addr} {c c' : String} {t t' : TD} {v : Bool} {tab : List (String × TD × Bool)} {fl : List String} {ws vs : List U} {P P' : Prop}
end
end UL
set_option maxHeartbeats 400000
namespace UL
open PySem PySem.Spec PyProof.Rows L2
section
variable {K : PySem.W.Frag} {H : Hp} {l : Int}
end
section
variable {X : Cx} {W : WX}
end
def tUPairs : List (List Nat × UTE) → USt → Gp → (List (U × U) → Gp → Prop) → UX → Prop
  | [], _, G, Q, _ => Q [] G
  | (l, t) :: r, us, G, Q, E => t us G (fun u G1 => tUPairs r us G1 (fun kvs G2 => Q ((.str l, u) :: kvs) G2) E) E
inductive PPu (X : Cx) (W : WX) : List (Option Expr) → List Expr → List (List Nat × UTE) → Prop where
  | nil : PPu X W [] [] []
  | cons {k v : Expr} {ks : List (Option Expr)} {vs : List Expr} {l : List Nat} {t : UTE} {r : List (List Nat × UTE)} : EU X W k (tUC (.str l)) → EU X W v t → PPu X W ks vs r → PPu X W (some k :: ks) (v :: vs) ((l, t) :: r)
section
variable {X : Cx} {W : WX} {pos : Pos}
/-- what the pairs give: keys by texts, values as known -/
def KVs (K : PySem.W.Frag) (H : Hp) : List (U × U) → List (V × V) → Prop
  | [], ps => ps = []
  | (k, u) :: r, ps => ∃ l v ws, k = .str l ∧ ps = (.str ⟨l.toArray⟩, v) :: ws ∧ RelU K H u v ∧ KVs K H r ws
theorem KVs.ext {K : PySem.W.Frag} {H H' : Hp} {G G' : Gp} (x : Ext H G H' G') (rp : Rep K H G) : ∀ {r : List (U × U)} {ps : List (V × V)}, KVs K H r ps → KVs K H' r ps
  | [], _, h => h
  | (k, u) :: r, _, ⟨l, v, ws, e1, e2, h1, h2⟩ => ⟨l, v, ws, e1, e2, h1.ext x rp, h2.ext x rp⟩
theorem KVs.to {K : PySem.W.Frag} {H : Hp} : ∀ {r : List (U × U)} {ps : List (V × V)}, KVs K H r ps → ∃ gs : List (Key × V), ps = gs.map (fun kv => (kV kv.1, kv.2)) ∧ RelKV K H r gs ∧ gs.length = r.length ∧ ∀ ls : List (List Nat), r.map (·.1) = ls.map U.str → gs.map (·.1) = ls.map kS
  | [], _, h => ⟨[], h, rfl, rfl, fun ls e => by cases ls with | nil => rfl | cons _ _ => cases e⟩
  | (k, u) :: r, _, ⟨l, v, ws, e1, e2, h1, h2⟩ => by
    obtain ⟨gs, e, rk, ln, kk⟩ := KVs.to h2
    refine ⟨(kS l, v) :: gs, by rw [e2, e]; rfl, ⟨kS l, v, gs, rfl, by rw [e1]; rfl, h1, rk⟩, by simp [ln], fun ls eq => ?_⟩
    cases ls with
    | nil => cases eq
    | cons m ls =>
      rw [List.map_cons, List.map_cons] at eq
      injection eq with a b
      have a : k = .str m := a
      rw [e1] at a
      injection a with a
      rw [List.map_cons, List.map_cons, kk ls b, a]
theorem PPu.run {keys : List (Option Expr)} {values : List Expr} {ts : List (List Nat × UTE)} (h : PPu X W keys values ts) : ∃ trs : List (TE × TE), PPs X pos keys values trs ∧ keys.all (·.isSome) = true ∧ keys.length = values.length ∧ keys.length = ts.length ∧
    ∀ (σ : L2.St) (H : Hp) (us : USt) (G : Gp) (Q : List (U × U) → Gp → Prop) (E : UX) (R : List (V × V) → Hp → Prop), RelS X.K H us σ → Rep X.K H G → tUPairs ts us G Q E → (∀ c d H', LX X.K H G E c d H' → W c d σ H') →
      (∀ ps H', (∃ kvs G', Ext H G H' G' ∧ Rep X.K H' G' ∧ KVs X.K H' kvs ps ∧ kvs.map (·.1) = ts.map (fun p => U.str p.1) ∧ Q kvs G') → R ps H') → tPairs trs σ H R := by
  induction h with
  | nil => exact ⟨[], pps_nil, rfl, rfl, rfl, fun σ H us G Q E R rs rp q hx k => k [] H ⟨[], G, .refl _ _, rp, rfl, rfl, q⟩⟩
  | @cons k v ks vs l t r hk hv _ ih =>
    obtain ⟨trs, hp, ha, hl, hl2, go⟩ := ih
    refine ⟨(lE X.K W (tUC (.str l)), lE X.K W t) :: trs, pps_cons hk.pe hv.pe hp, by simpa using ha, by simp [hl], by simp [hl2], fun σ H us G Q E R rs rp q hx kk => ?_⟩
    refine ⟨us, G, _, E, rs, rp, (show tUC (.str l) us G (fun u G1 => u = .str l ∧ G1 = G) E from ⟨rfl, rfl⟩), fun x H1 ⟨u, G1, x1, rp1, ru, eu, eG⟩ => ?_, hx⟩
    subst eu eG
    have ex : x = .str ⟨l.toArray⟩ := ru
    subst ex
    refine ⟨us, G1, _, E, rs.ext x1 rp, rp1, q, fun y H2 ⟨w, G2, x2, rp2, rw_, q2⟩ => ?_, fun c d H' z => hx c d H' (z.trans x1)⟩
    refine go σ H2 us G2 _ E _ ((rs.ext x1 rp).ext x2 rp1) rp2 q2 (fun c d H' z => hx c d H' ((z.trans x2).trans x1)) fun ps H3 ⟨kvs, G3, x3, rp3, rk, ek, q3⟩ => ?_
    exact kk _ H3 ⟨(.str l, w) :: kvs, G3, (x1.trans x2).trans x3, rp3, ⟨l, y, ps, rfl, rfl, rw_.ext x3 rp2, rk⟩, by rw [List.map_cons, List.map_cons, ek], q3⟩
end
section
variable {us : USt} {G : Gp} {Q : UK} {E : UX} {p a : Addr} {l : Int} {m : List Nat} {xs : List U} {w u : U} {Z : Gp → Prop} {kvs : List (U × U)} {K : List (U × U) → Prop} {R : Prop} {t : UTE} {ps : List (List Nat × UTE)} {KQ : List (U × U) → Gp → Prop}
end
end UL
set_option maxHeartbeats 400000
namespace UL
open PySem PySem.Spec PyProof.Rows L2 PySem.W
section
variable {X : Cx} {W : WX} {es : List Expr} {e o fe : Expr} {tf : UTE} {ta : UTA} {pos p apos : Pos} {k n : Nat} {sp : USp} {pl : List Src} {d : DD} {c : String} {ap : MAp}
end
end UL
set_option maxHeartbeats 4000000
namespace UL
open PySem PySem.Spec PyProof.Rows L2
/-- the places where a search begins a run -/
def Runs0 (m : Nat) : Nat → Nat → Nat → Nat
  | 0, i, _ => i
  | n + 1, i, b => Runs0 m n (SetTable.leap m i b).1 (SetTable.leap m i b).2
abbrev ownAt (o : Array (Option Nat)) (j : Nat) : Option Nat := o.getD j (some 0)
theorem free_ok (m : Nat) (o : Array (Option Nat)) (hs : o.size = m + 1) : ∀ (fuel i b n : Nat), n < fuel → ownAt o (Runs0 m n i b) = none → ∃ j, SetTable.layClean.free m o fuel i b = some j ∧ ownAt o j = none
  | 0, _, _, _, h, _ => absurd h (Nat.not_lt_zero _)
  | fuel + 1, i, b, n, h, e => by
    unfold SetTable.layClean.free
    cases f : (List.range (SetTable.runEnd m i + 1 - i)).find? fun k => (o.getD (i + k) (some 0)).isNone with
    | some k =>
      have := List.find?_some f
      exact ⟨i + k, rfl, Option.isNone_iff_eq_none.mp this⟩
    | none =>
      cases n with
      | zero =>
        exfalso
        have h0 := List.find?_eq_none.mp f 0 (List.mem_range.mpr (by unfold SetTable.runEnd; split <;> omega))
        have e0 : ownAt o i = none := e
        rw [Nat.add_zero] at h0
        rw [show o.getD i (some 0) = none from e0] at h0
        exact h0 rfl
      | succ n => exact free_ok m o hs fuel _ _ n (by omega) e
end UL
set_option maxHeartbeats 4000000
namespace UL
open PySem PySem.Spec PyProof.Rows L2
/-- a set's own object -/
def SetD (w : World) (h : Heap) (a : Addr) (S : Str → Bool) (n : Nat) (o : Obj) (es : Array (Int × Value)) (ep : Nat) (t : SetTable) : Prop :=
  h.get? a = some o ∧ o.ExactSet ∧ o.data = .set es ep t ∧ (∀ e ∈ es.toList, GoodS w e) ∧ (es.toList.map keyS).Nodup ∧ (∀ k, S k = true ↔ k ∈ es.toList.map keyS) ∧
    es.size < scanBound ∧ t.fits es.size = true ∧ es.size = n ∧ Ris t.place.toList ∧ (w.params.followText "set-order" = true ∨ t.led = true)
theorem SetD.s {w : World} {h : Heap} {a : Addr} {S : Str → Bool} {n : Nat} {o : Obj} {es : Array (Int × Value)} {ep : Nat} {t : SetTable} (D : SetD w h a S n o es ep t) : SetS w h a S n := ⟨o, es, ep, t, D⟩
section
variable {P : Program} {w : World} {A : Around} {E : Value → Shared → Prop} {s : Shared} {a b : Addr} {S S2 : Str → Bool} {n m : Nat} {o : Obj} {es : Array (Int × Value)} {ep : Nat} {t : SetTable}
theorem SetD.at (D : SetD w s.heap a S n o es ep t) {h' : Heap} (k : h'.get? a = some o) : SetD w h' a S n o es ep t := ⟨k, D.2⟩
theorem SetS.other {h h' : Heap} (R : SetS w h b S n) (hne : b ≠ a) (x : Heap.SameBut a h h') : SetS w h' b S n := R.at fun o ho => by rw [x.2 b hne]; exact ho
end
end UL
set_option maxHeartbeats 4000000
namespace UL
open PySem PySem.Spec PyProof.Rows L2
end UL
set_option maxHeartbeats 4000000
namespace UL
open PySem PySem.Spec PyProof.Rows L2
section
variable {P : Program} {w : World} {A : Around} {E : Value → Shared → Prop} {s : Shared} {a b : Addr} {S S2 : Str → Bool} {n m : Nat}
theorem SetS.ty (R : SetS w s.heap a S n) : s.TypeIs (.ref a) "set" := by
  obtain ⟨o, es, ep, t, ho, hex, _⟩ := R
  exact ⟨o, ho, hex.1⟩
end
end UL
set_option maxHeartbeats 4000000
namespace UL
open PySem PySem.Spec PyProof.Rows L2
end UL
set_option maxHeartbeats 4000000
namespace UL
open PySem PySem.Spec PyProof.Rows L2
section
variable {P : Program} {w : World} {A : Around} {E : Value → Shared → Prop} {s : Shared}
end
theorem vals_ints : ∀ {ns : List Int} {its : List Value}, IntsAre its ns → Vals (ns.map V.int) its
  | _, _, .nil => .nil
  | _, _, .cons n t h => .cons ⟨t, rfl⟩ (vals_ints h)
theorem asRef_ex {u : U} {K : Addr → Prop} (h : asRef u K) : ∃ l, u = .ref l ∧ K l := by
  cases u <;> first | exact ⟨_, rfl, h⟩ | exact False.elim h
section
variable {us : USt} {G : Gp} {Q : UK} {E : UX} {t : UTE}
end
end UL
set_option maxHeartbeats 4000000
namespace UL
open PySem PySem.Spec PyProof.Rows L2
section
variable {G : Gp} {Q : UK} {p : Addr}
end
end UL
set_option maxHeartbeats 1000000
namespace UL
open PySem PySem.Spec PyProof.Rows L2
section
variable {G : Gp} {Q : UK} {p : Addr}
end
end UL
set_option maxHeartbeats 1000000
namespace UL
open PySem PySem.Spec PyProof.Rows L2 HT
end UL
set_option maxHeartbeats 1000000
namespace UL
open PySem PySem.Spec PyProof.Rows L2
section
variable {P : Program} {w : World} {A : Around} {E : Value → Shared → Prop} {s : Shared} {d : Addr}
end
/-- the names of a call's keywords, as a dict's keys -/
def kwU (ks : List Str) (zs : List U) : List (U × U) := (ks.map fun k => U.str k.cps.toList).zip zs
structure FnKwU (P : Program) (w : World) (K : PySem.W.Frag) (mg : Str → Option Value) (base : Heap) (k : Nat) (f : Addr) (sp : USp) : Prop where
  run : ∀ (A : Around) (outer : List Env) (s : Shared) (H : Hp) (ks : List Str) (zl : List Value) (zv : List V) (zs : List U) (G : Gp) (Q : UK) (E : UX), RoomU k A → Env0 P w K mg base A outer s H →
    Vals zv zl → RelUs K H zs zv → Rep K H G → zs.length = ks.length → ks.length ≤ 3 → ks.Nodup → (∀ d, G d = none → sp [.ref d] (gup G d (.dct (kwU ks zs))) Q E) → codeAny (model P w) A (.call (.ref f) ⟨[], ks.zip zl⟩) (CR (L2.CX P w) outer P w H s (LV K H G Q) (LX K H G E)) s
theorem FnKwU.mono {P : Program} {w : World} {K : PySem.W.Frag} {mg : Str → Option Value} {base : Heap} {j k : Nat} {f : Addr} {sp : USp} (F : FnKwU P w K mg base j f sp) (h : j ≤ k) : FnKwU P w K mg base k f sp :=
  ⟨fun A outer s H ks zl zv zs G Q E hr => F.run A outer s H ks zl zv zs G Q E (hr.mono h)⟩
section
variable {X : Cx} {W : WX} {o : Expr} {kws : List Keyword} {to : UTE} {tk : UTA} {pos apos : Pos} {k : Nat} {ks : List Str} {sp : USp} {d : DD} {c m : String}
end
end UL
set_option maxHeartbeats 4000000
namespace PySem
namespace HandSPX
open PySem PySem.W PySem.Calls PyProof.Rows
open Builtin Builtin.ObjectAttr
section
variable {M : Model} {A : Around} {E : Value → Shared → Prop} {h : Heap} {g : Array GenState} {d : Drawn} {t : Nat} {os : OsState}
variable {nm q : Str} {C N : Addr} {bs bm bmB : List Value} {hdct : Bool} {sn : List Str} {sub : List Value} {ab : Bool} {col : Option Bool} {dd : Option Addr} {k0 k1 k2 k3 k5 : Option Value} {B newId initId : String}
theorem checkK_new_own (F : ExcBaseFacts B newId initId bmB) (hT : ∀ X : String, bm.contains (.type X) = bmB.contains (.type X)) {rest : List Value} {kw : List (Str × Value)} {Q : Unit → Shared → Prop}
    (hC : h.get? C = some (excClassObj nm q C N bs bm hdct sn sub ab col dd k0 k1 k2 k3 k5 newId)) (hq : Q () ⟨h, g, d, t, os⟩) : wpAny M A (checkBuiltinCall newId ⟨.ref C :: rest, kw⟩) Q E ⟨h, g, d, t, os⟩ := by
  have hcont : (Value.ref C :: bm).contains (.type B) = true := by rw [List.contains_cons, hT, F.hasB, Bool.or_true]
  have hstar := F.noStar
  simp only [checkBuiltinCall, F.newKind, F.newSplit, F.newRow]
  repeat (first | refine wpAny_loadPart_at hC ?_ | (refine wpAny_isSubtype_exc hC ?_; rw [hcont]) | refine wpAny_staticBase_exc hC ?_ | refine wpAny_madeBy_exc hC ?_ | simp only [bne_self_eq_false, Bool.false_eq_true, if_false] | wp_step)
  exact hq
end
section
variable {prog : Program} {w : World} {A : Around} {E : Value → Shared → Prop} {R : Result → Shared → Prop} {h : Heap} {g : Array GenState} {d : Drawn} {t : Nat} {os : OsState}
variable {nm q : Str} {C N : Addr} {bs bm bmB : List Value} {hdct : Bool} {sn : List Str} {sub : List Value} {ab : Bool} {col : Option Bool} {dd : Option Addr} {k0 k1 k2 k3 k5 : Option Value} {B newId initId : String}
theorem newK_own (F : ExcBaseFacts B newId initId bmB) (hT : ∀ X : String, bm.contains (.type X) = bmB.contains (.type X)) {rest : List Value} {kw : List (Str × Value)}
    (hC : h.get? C = some (excClassObj nm q C N bs bm hdct sn sub ab col dd k0 k1 k2 k3 k5 newId))
    (hq : R (.ok (.ret (.ref (h.objs.size + 1)))) ⟨(h.push { cls := .type "tuple", data := .seq rest.toArray }).push
      { cls := .ref C, data := .fields #[.ref h.objs.size, .none, .none, .none, .bool false, .none] }, g, d, t, os⟩) (hrest : rest.length ≤ sizeLine) :
    codeAny (model prog w) A (.builtin newId ⟨.ref C :: rest, kw⟩) R ⟨h, g, d, t, os⟩ := by
  have hends := F.ends
  have hcB : (Value.ref C :: bm).contains (.type B) = true := by rw [List.contains_cons, hT, F.hasB, Bool.or_true]
  have hcA : (Value.ref C :: bm).contains (.type "AttributeError") = false := by rw [List.contains_cons, hT, F.noAttr]; rfl
  have hcN : (Value.ref C :: bm).contains (.type "NameError") = false := by rw [List.contains_cons, hT, F.noName]; rfl
  refine codeAny_builtinAt F.entry ?_
  unfold Builtin.«BaseException.__new__»
  refine wpAt_bind ?_
  show wpAt _ _ _ (stack >>= _) _ _ _
  refine wpAt_bind (wpAt_stack fun p below => wpAt_of_wpAny ?_)
  wp_walk
  refine wpAt_of_wpAny ?_
  rw [F.owner]
  repeat (first | with_reducible refine wpAny_madeHere_exc F.canon hC ?_ | with_reducible refine wpAny_loadPart_at hC ?_ | (with_reducible refine wpAny_isSubtype_exc hC ?_; first | rw [hcB] | rw [hcA] | rw [hcN]) | wp_step)
  show R _ _
  rw [Heap.size_push]
  exact hq
theorem typeK_call_own (F : ExcBaseFacts B newId initId bmB) (hT : ∀ X : String, bm.contains (.type X) = bmB.contains (.type X)) {rest : List Value} {kw : List (Str × Value)} {fI : Addr} {Q : Fin → Shared → Prop}
    (hC : h.get? C = some (excClassObj nm q C N bs bm hdct sn sub ab col dd k0 k1 k2 k3 k5 newId))
    (hi : W.Looks (model prog w) h (typeLookup (.ref C) "__init__") (some (.ref fI))) (hb : ∀ self, W.Looks (model prog w) h (bindSpecial (.ref fI) self) (.ref fI, [self])) (hrest : rest.length ≤ sizeLine)
    (hq : codeAny (model prog w) A (.call (.ref fI) ⟨.ref (h.objs.size + 1) :: rest, kw⟩)
      (fun r s' => match r with | .ok (.ret v) => v = .none ∧ Q (.done (.ret (.ref (h.objs.size + 1)))) s' | .ok _ => False | .error e => E e s')
      ⟨(h.push (W.kdv_tup rest)).push (excO C h.objs.size), g, d, t, os⟩) :
    wpAny (model prog w) A (Builtin.«type.__call__» ⟨.ref C :: rest, kw⟩) Q E ⟨h, g, d, t, os⟩ := by
  repeat (first | with_reducible refine wpAny_loadPart_at hC ?_ | with_reducible refine wpAny_madeBy_exc hC ?_ | wp_step)
  refine codeAny_call_builtin_code (Code.quiet_builtin _ F.quiet) (checkK_new_own F hT hC ?_)
  refine newK_own F hT hC ?_ hrest
  show wpAny _ _ _ _ _ _
  have k : ∀ b o, h.get? b = some o → ((h.push (W.kdv_tup rest)).push (excO C h.objs.size)).get? b = some o := fun b o e => Heap.get?_push_of_some _ (Heap.get?_push_of_some _ e)
  have hC₁ := k _ _ hC
  have hget : ((h.push (W.kdv_tup rest)).push (excO C h.objs.size)).get? (h.objs.size + 1) = some (excO C h.objs.size) := by heap_get
  have hcC : (Value.ref C :: bm).contains (.ref C) = true := by simp
  have i1 := hi.keeps k
  have b1 := (hb (.ref (h.objs.size + 1))).keeps k
  unfold isInstance
  repeat (first | with_reducible refine wpAny_loadPart_at hget ?_ | (with_reducible refine wpAny_isSubtype_exc hC₁ ?_; rw [hcC]) | wp_step)
  show wpAny _ _ (typeLookup (.ref C) _) _ _ _
  refine i1.at ?_
  refine wpAny_holding (wpAny_bind (b1.at ?_))
  refine wpAny_bind (wpAny_call (codeAny_mono hq fun r s' z => ?_))
  rcases r with e | (v | _ | _ | _) <;> first | exact z | exact z.elim | skip
  obtain ⟨rfl, z⟩ := z
  first
    | exact wpAny_pure (wpAny_pure z)
    | (wp_walk; exact z)
theorem callK_own (F : ExcBaseFacts B newId initId bmB) (hT : ∀ X : String, bm.contains (.type X) = bmB.contains (.type X)) {rest : List Value} {kw : List (Str × Value)} {fI : Addr}
    (hC : h.get? C = some (excClassObj nm q C N bs bm hdct sn sub ab col dd k0 k1 k2 k3 k5 newId))
    (hi : W.Looks (model prog w) h (typeLookup (.ref C) "__init__") (some (.ref fI))) (hb : ∀ self, W.Looks (model prog w) h (bindSpecial (.ref fI) self) (.ref fI, [self])) (hrest : rest.length ≤ sizeLine)
    (hq : codeAny (model prog w) (A.under (.builtin "type.__call__" ⟨.ref C :: rest, kw⟩)) (.call (.ref fI) ⟨.ref (h.objs.size + 1) :: rest, kw⟩) (W.InitBack (h.objs.size + 1) R)
      ⟨(h.push (W.kdv_tup rest)).push (excO C h.objs.size), g, d, t, os⟩) :
    codeAny (model prog w) A (.call (.ref C) ⟨rest, kw⟩) R ⟨h, g, d, t, os⟩ := by
  have f1 := tc_lookup
  have f2 := tc_bind (.ref C)
  have hTy : (⟨h, g, d, t, os⟩ : Shared).TypeIs (.ref C) "type" := ⟨_, hC, rfl⟩
  refine codeAny_of_tree ?_
  show wpAny _ _ (callAny (.ref C) _) _ _ _
  repeat (any_goals (first | assumption | with_reducible refine wpAny_loadPart_at hC ?_ | wp_step))
  refine ⟨rfl, ?_⟩
  refine codeAny_call_builtin_at (Code.quiet_builtin _ (by decide +kernel)) entry_typeCall (wpAny_check_type_call_sub hC (typeK_call_own F hT hC hi hb hrest ?_))
  refine codeAny_mono hq fun r s' z => ?_
  rcases r with e | (v | _ | _ | _) <;> exact z
end
end HandSPX
end PySem
namespace UL
open PySem PySem.Spec PyProof.Rows L2 PySem.W
theorem exd_frz {e : Addr} {fs : List (Str × V)} {o : Obj} {u : HO} : exd e fs ≠ .frz o u := fun z => by
  have z' : HO.ext _ = HO.frz o u := z
  cases z'
theorem exd_tbl {e : Addr} {fs : List (Str × V)} {ps : Array Value} : exd e fs ≠ .tbl ps := fun z => by
  have z' : HO.ext _ = HO.tbl ps := z
  cases z'
theorem inv_xd {X : Cx} {pins : List (Addr × Obj)} {σ : L2.St} {H : Hp} {s : Shared} {dx : Addr} {fs : List (Str × V)} (I : Inv X pins σ H s) (ed : H dx = some (exd dx fs)) : Inv X pins σ (upd H dx (.xd fs)) s := by
  refine I.un (H' := upd H dx (.xd fs)) (h' := s.heap) (t' := s.toks) ⟨fun b o q _ _ _ => q, fun b o q _ _ _ => ⟨o.slots, q⟩, fun b o q n _ => ?_, fun b o q _ => ⟨o, q⟩, fun b xs q => ?_, fun b o v q => ?_, fun b ps q => ?_⟩ fun b o q => ?_
  · rw [upd_ne (fun z => by rw [z, ed] at n; cases n)]
    exact n
  · rw [upd_ne (at_ne ed q exd_tup)]
    exact q
  · rw [upd_ne (at_ne ed q exd_frz)]
    exact q
  · exact ⟨#[], by rw [upd_ne (at_ne ed q exd_tbl), q]; simp⟩
  · by_cases hb : b = dx
    · subst hb
      rw [upd_same] at q
      cases q
      exact exd_at I.hok ed
    · rw [upd_ne hb] at q
      exact (I.hok b o q).stay (fun _ _ _ z => z) (fun c hc => by rw [upd_ne (at_ne ed hc exd_own)]; exact hc) (fun c xs hc => by rw [upd_ne (at_ne ed hc exd_tup)]; exact hc)
def tUXmk (c : String) (fl : List String) (n nk : Nat) (pl : List Src) (ta tk : UTA) : UTE := fun us G Q E => ta us G (fun vs G1 => tk us G1 (fun zs G2 => vs.length + 1 = n ∧ zs.length = nk ∧
  ∀ a, G2 a = none → Q (.ref a) (gup G2 a (.xcp c (fl.zip (pl.map (Src.get .non (.ref a :: vs) zs [] []))))) ) E) E
theorem rep_xcp {K : PySem.W.Frag} {H : Hp} {G : Gp} {a dx : Addr} {c : String} {fl : List String} {ws : List U} {xs : List V} (r : Rep K H G) (ha : H a = none) (hd : H dx = none) (ne : dx ≠ a) (ru : RelUs K H ws xs) (l : ws.length = fl.length) (nd : fl.Nodup) :
    Rep K (upd (upd H a (exo a (He.ga K (S c)) (some dx))) dx (.xd (pairsF fl xs).reverse)) (gup G a (.xcp c (fl.zip ws))) ∧ Ext H G (upd (upd H a (exo a (He.ga K (S c)) (some dx))) dx (.xd (pairsF fl xs).reverse)) (gup G a (.xcp c (fl.zip ws))) := by
  have at_ : ∀ b, b ≠ dx → b ≠ a → upd (upd H a (exo a (He.ga K (S c)) (some dx))) dx (.xd (pairsF fl xs).reverse) b = H b := fun b h1 h2 => by rw [upd_ne h1, upd_ne h2]
  have x : Ext H G (upd (upd H a (exo a (He.ga K (S c)) (some dx))) dx (.xd (pairsF fl xs).reverse)) (gup G a (.xcp c (fl.zip ws))) := fun b o hb gb => by
    have h1 : b ≠ dx := ne_of_none hb hd
    have h2 : b ≠ a := ne_of_none hb ha
    exact ⟨by rw [at_ b h1 h2]; exact hb, by rw [gup_ne h2]; exact gb⟩
  refine ⟨fun b o gb => ?_, x⟩
  by_cases hb : b = a
  · subst hb
    rw [gup_same] at gb
    cases gb
    refine .inr ⟨dx, _, by rw [upd_ne ne.symm, upd_same], upd_same, ?_⟩
    have ef : (fl.zip ws).map (·.1) = fl := by rw [List.map_fst_zip]; omega
    refine relE_of (by rw [ef]; exact nd) fun f u hf => ?_
    have lx : xs.length = fl.length := by rw [ru.length, l]
    obtain ⟨v, e1, e2⟩ := pairs_look (ru.ext x r) l hf
    exact ⟨v, lookup_rev (by rw [pairs_keys lx]; exact nodup_S nd) e1, e2⟩
  · rw [gup_ne hb] at gb
    obtain ⟨u, hu⟩ := r.there gb
    exact (r b o gb).move x r (at_ b (ne_of_none hu hd) hb)
section
variable {X : Cx} {W : WX} {es : List Expr} {kws : List Keyword} {ta tk : UTA} {p pos : Pos} {k n : Nat} {ks : List Str} {pl : List Src} {ps : List Str} {c : String} {fl : List String} {d : DD}
theorem eu_xmk (T : OexG X.K (He.ga X.K (S c))) (iC : findIn X.K (.ref (He.ga X.K (S c))) "__init__" = some (some (.ref (d.at_ X.K)))) (tI : typeIn X.K (.ref (d.at_ X.K)) = some (.type "function")) (D : FunD X.K d.name d.qual d.params d.body d.scope (d.dvs X.K) (d.kws X.K) (d.at_ X.K) (fdOf X.K (d.at_ X.K)))
    (F1 : FnOk X.prog X.w X.K X.mg X.base L2.CX0 k (d.at_ X.K) (fdOf X.K (d.at_ X.K)) ps (spIni (He.ga X.K (S c)) fl)) (hr : RoomU (k + 1) X.A) (hg : Gl X (S c)) (hm : X.mg (S c) = some (.ref (He.ga X.K (S c)))) (hP : Plain d.params) (hps : ps = parN d.params ++ parK d.params)
    (e : planOf (parN d.params) (parK d.params) n ks d.dfl.length (d.kwd.map (·.1)) = some (.p 0 :: pl)) (l3 : pl.length = fl.length) (l4 : ps.length = fl.length + 1) (nd : fl.Nodup)
    (ha : AU X W es ta) (hkw : KU X W kws tk) (hst : Unst X.env es ta) (hall : (backToKw pos (keywordEach kws X.env)).all (·.1.isSome) = true) (hks : (backToKw pos (keywordEach kws X.env)).filterMap (·.1) = ks)
    (hpl : ((backTo pos (starEach es X.env)).any (·.1) || (backToKw pos (keywordEach kws X.env)).any (·.1.isNone)) = false) (hdb : (S c == ("__debug__" : Str)) = false) (hd0 : d.dfl = []) (hk0 : d.kwd = []) (hn : n ≤ 1000) :
    EU X W (.Call (.Name (S c) p) es kws pos) (tUXmk c fl n ks.length pl ta tk) := by
  have b := bind_u (n := n) (ks := ks) (pl := .p 0 :: pl) D hP (by
    unfold DD.dvs DD.kws
    rw [List.length_map, List.map_map]
    exact e)
  obtain ⟨dv, kv, rd, rk, bt⟩ := b.ex
  refine ⟨fun pins s σ H us G Q E I rs rp h hx => ?_⟩
  refine wpAny_Call_Name_kw (ld_glob I hg hm ?_ hdb)
  refine call_with (first := []) T.kC ha hkw hst hall hks hpl I rs rp h hx fun s2 H2 G2 vs zs vv zv vl zl I2 x2 rp2 rv rz ru ruz ⟨l1, l2, q⟩ => ?_
  obtain ⟨B, newId, initId, bmB, nm, q', N, bs, bm, sn, sub, ab, col, dd, k0, k1, k2, k3, k5, hC, hbm, FB, SF⟩ := T.cls
  obtain ⟨hp, g, dr, tk', os⟩ := s2
  have hsz : hp.objs.size ≤ hp.objs.size + 1 := Nat.le_succ _
  have f1 : H2 (hp.objs.size + 1) = none := I2.hok.fresh hsz
  have q1 := q (hp.objs.size + 1) (rp2.fresh f1)
  have kk : ∀ b o, hp.get? b = some o → ((hp.push (PySem.W.kdv_tup vl)).push (PySem.HandSPX.excO (He.ga X.K (S c)) hp.objs.size)).get? b = some o := fun b o e => Heap.get?_push_of_some _ (Heap.get?_push_of_some _ e)
  have hget : ((hp.push (PySem.W.kdv_tup vl)).push (PySem.HandSPX.excO (He.ga X.K (S c)) hp.objs.size)).get? (hp.objs.size + 1) = some (PySem.HandSPX.excO (He.ga X.K (S c)) hp.objs.size) := by heap_get
  have I3 : Inv X pins σ (upd H2 (hp.objs.size + 1) (exo (hp.objs.size + 1) (He.ga X.K (S c)) none)) ⟨(hp.push (PySem.W.kdv_tup vl)).push (PySem.HandSPX.excO (He.ga X.K (S c)) hp.objs.size), g, dr, tk', os⟩ :=
    I2.laid (t' := tk') (a := hp.objs.size + 1) (o := exo (hp.objs.size + 1) (He.ga X.K (S c)) none) (h' := (hp.push (PySem.W.kdv_tup vl)).push (PySem.HandSPX.excO (He.ga X.K (S c)) hp.objs.size)) kk hsz (exo_ok hget)
  have rv3 : Vals (V.ref (hp.objs.size + 1) :: vv) (Value.ref (hp.objs.size + 1) :: vl) := .cons rfl rv
  have ru3 : RelUs X.K H2 (U.ref (hp.objs.size + 1) :: vs) (V.ref (hp.objs.size + 1) :: vv) := ⟨_, _, rfl, rfl, ru⟩
  have bt3 := bt ⟨(hp.push (PySem.W.kdv_tup vl)).push (PySem.HandSPX.excO (He.ga X.K (S c)) hp.objs.size), g, dr, tk', os⟩ (Value.ref (hp.objs.size + 1) :: vl) zl I3.kIn (by rw [List.length_cons, ← rv.length, ru.length, l1]) (by rw [← rz.length, ruz.length, l2])
  have e1 : d.dvs X.K = [] := by unfold DD.dvs; rw [hd0]; rfl
  have e2 : (d.kws X.K).map (·.2) = [] := by unfold DD.kws; rw [hk0]; rfl
  rw [e1] at rd
  rw [e2] at rk
  have lv := plan_vals rv3 rz rd rk (.p 0 :: pl)
  have lu := plan_rel ru3 ruz (show RelUs X.K H2 [] [] from rfl) (show RelUs X.K H2 [] [] from rfl) pl
  have lx : (pl.map (Src.get V.non (V.ref (hp.objs.size + 1) :: vv) zv [] [])).length = fl.length := by rw [List.length_map, l3]
  rw [← hps] at bt3
  refine wpAny_call (PySem.HandSPX.callK_own FB (fun Y => excTail_contains Y bm hbm) (I2.kIn _ _ hC) (PySem.W.looks_findIn I2.kIn iC) (fun self => PySem.W.bind_fn I2.kIn self tI) (by show vl.length ≤ sizeLine; rw [← rv.length, ru.length, sizeLine_eq]; omega)
    (codeAny_mono (F1.run _ X.stack _ _ ⟨Value.ref (hp.objs.size + 1) :: vl, ks.zip zl⟩ _ _ (fun v H3 => v = .non ∧ ∃ dx, H2 dx = none ∧ dx ≠ hp.objs.size + 1 ∧ H3 = upd (upd (upd H2 (hp.objs.size + 1) (exo (hp.objs.size + 1) (He.ga X.K (S c)) none)) dx (exd dx (pairsF fl (pl.map (Src.get V.non (V.ref (hp.objs.size + 1) :: vv) zv [] []))).reverse)) (hp.objs.size + 1) (exo (hp.objs.size + 1) (He.ga X.K (S c)) (some dx))) (fun _ _ _ => False)
      (hr.rm.make (He.ga X.K (S c)) vl (ks.zip zl)) (I3.env0.make (He.ga X.K (S c)) vl (ks.zip zl)) bt3 lv ⟨hp.objs.size + 1, _, rfl, lx, upd_same, fun dx hdx ne => ⟨rfl, dx, by rw [upd_ne ne] at hdx; exact hdx, ne, rfl⟩⟩) fun r s' hq => ?_))
  cases r with
  | error er => exact False.elim hq
  | ok fl' =>
    cases fl' with
    | ret u =>
      obtain ⟨v, H', I4, rv', ev, dx, hdx, ne, eH⟩ := I3.after hq
      subst ev
      have ed : H' dx = some (exd dx (pairsF fl (pl.map (Src.get V.non (V.ref (hp.objs.size + 1) :: vv) zv [] []))).reverse) := by rw [eH, upd_ne ne, upd_same]
      have I5 := inv_xd I4 ed
      have eH2 : upd H' dx (.xd (pairsF fl (pl.map (Src.get V.non (V.ref (hp.objs.size + 1) :: vv) zv [] []))).reverse) = upd (upd H2 (hp.objs.size + 1) (exo (hp.objs.size + 1) (He.ga X.K (S c)) (some dx))) dx (.xd (pairsF fl (pl.map (Src.get V.non (V.ref (hp.objs.size + 1) :: vv) zv [] []))).reverse) := by
        rw [eH]
        funext b
        by_cases h1 : b = dx
        · rw [h1, upd_same, upd_same]
        · rw [upd_ne h1, upd_ne h1]
          by_cases h2 : b = hp.objs.size + 1
          · rw [h2, upd_same, upd_same]
          · rw [upd_ne h2, upd_ne h1, upd_ne h2, upd_ne h2]
      rw [eH2] at I5
      obtain ⟨rp5, x5⟩ := rep_xcp (c := c) rp2 f1 hdx ne lu (by rw [List.length_map, l3]) nd
      exact ⟨rv', ⟨V.ref (hp.objs.size + 1), _, I5, rfl, .ref (hp.objs.size + 1), _, x2.trans x5, rp5, rfl, q1⟩⟩
    | next => exact False.elim hq
    | brk => exact False.elim hq
    | cont => exact False.elim hq
end
theorem newB_of0 {n : String} {bm : List Value} (h : newB n bm = true) : ∃ B bmB, excTail bmB bm = true ∧ ExcBaseFacts B n (excI n) bmB := by
  unfold newB at h
  rw [Bool.or_eq_true, Bool.or_eq_true, Bool.and_eq_true, Bool.and_eq_true, Bool.and_eq_true] at h
  rcases h with ⟨e, q⟩ | ⟨e, q⟩ | ⟨e, q⟩
  · rw [beq_iff_eq.mp e]
    exact ⟨_, _, q, F.excBase_ValueError⟩
  · rw [beq_iff_eq.mp e]
    exact ⟨_, _, q, F.excBase_LookupError⟩
  · rw [beq_iff_eq.mp e]
    exact ⟨_, _, q, F.excBase_RuntimeError⟩
theorem oex0_of {c : String} {K : PySem.W.Frag} (h : oex0B c K = true) : keepIn K (.ref (He.ga K (S c))) = true ∧ ∃ B newId bmB nm q N bs bm sn sub ab col dd k0 k1 k2 k3 k5, K.lookup (He.ga K (S c)) = some (excClassObj nm q (He.ga K (S c)) N bs bm true sn sub ab col dd k0 k1 k2 k3 k5 newId) ∧ excTail bmB bm = true ∧ ExcBaseFacts B newId (excI newId) bmB ∧
    findIn K (.ref (He.ga K (S c))) "__init__" = some (some (.builtin (excI newId))) := by
  unfold oex0B at h
  rw [Bool.and_eq_true] at h
  obtain ⟨h1, h2⟩ := h
  refine ⟨h2, ?_⟩
  split at h1
  · rename_i t dd cd sl lk
    obtain ⟨nm, bs, mro, N, q, hd, sn, sub, ab, col, dl⟩ := cd
    simp only [Bool.and_eq_true, Bool.not_eq_true'] at h1
    obtain ⟨e1, e2, e3, e4⟩ := h1
    split at e4
    · rename_i a bm k0 k1 k2 k3 n k5 es
      simp only [Bool.and_eq_true, decide_eq_true_eq] at e4
      obtain ⟨e4, e6, e7⟩ := e4
      have e8 : t = "type" := beq_iff_eq.mp e1
      have e9 : sl = #[k0, k1, k2, k3, some (.builtin n), k5] := Array.toList_inj.mp es
      subst e8 e9 e4
      have e2' : hd = true := e2
      have e3' : dl = false := e3
      subst e2' e3'
      obtain ⟨B, bmB, q1, q2⟩ := newB_of0 e6
      exact ⟨B, n, bmB, nm, q, N, bs, bm, sn, sub, ab, col, dd, k0, k1, k2, k3, k5, lk, q1, q2, e7⟩
    · cases e4
  · cases h1
def tUXmk0 (c : String) : UTE := fun _ G Q _ => ∀ a, G a = none → Q (.ref a) (gup G a (.xcp c []))
theorem eu_xmk0 {X : Cx} {W : WX} {p pos : Pos} {c : String} (T : oex0B c X.K = true) (hg : Gl X (S c)) (hm : X.mg (S c) = some (.ref (He.ga X.K (S c)))) (hdb : (S c == ("__debug__" : Str)) = false) : EU X W (.Call (.Name (S c) p) [] [] pos) (tUXmk0 c) := by
  obtain ⟨kC, B, newId, bmB, nm, q', N, bs, bm, sn, sub, ab, col, dd, k0, k1, k2, k3, k5, hC, hbm, FB, iC⟩ := oex0_of T
  refine ⟨fun pins s σ H us G Q E I rs rp h hx => ?_⟩
  refine wpAny_Call_Name_kw (ld_glob I hg hm ?_ hdb)
  refine PySem.W.callWith_KW0 (h₀ := X.base) I.ok.mod.kin kC (by rfl) ?_ (by rfl)
  obtain ⟨hp, g, dr, tk', os⟩ := s
  refine wpAny_pure ⟨I.kIn, ?_⟩
  refine PySem.W.call_B FB (fun Y => excTail_contains Y bm hbm) (I.kIn _ _ hC) (PySem.W.looks_findIn I.kIn iC) (by rw [sizeLine_eq]; decide) fun h' k he ht => ?_
  have f1 : H (hp.objs.size + 1) = none := I.hok.fresh (Nat.le_succ _)
  have I2 : Inv X pins σ (upd H (hp.objs.size + 1) (exo (hp.objs.size + 1) (He.ga X.K (S c)) none)) ⟨h', g, dr, tk', os⟩ := I.laid (t' := tk') (a := hp.objs.size + 1) (o := exo (hp.objs.size + 1) (He.ga X.K (S c)) none) (h' := h') k (Nat.le_succ _) (exo_ok he)
  obtain ⟨rp5, x5⟩ := rp.laid (u := exo (hp.objs.size + 1) (He.ga X.K (S c)) none) (o := .xcp c []) f1 (.inl ⟨rfl, upd_same⟩)
  exact ⟨V.ref (hp.objs.size + 1), _, I2, rfl, .ref (hp.objs.size + 1), _, x5, rp5, rfl, h _ (rp.fresh f1)⟩
theorem xcp_at {K : PySem.W.Frag} {P : Program} {w : World} {H : Hp} {h : Heap} {G : Gp} {a : Addr} {c : String} {fs : List (String × U)} (rp : Rep K H G) (hok : HOk P w H h) (g : G a = some (.xcp c fs)) : ∃ ox od, PySem.W.InstAt h a ox (He.ga K (S c)) od := by
  rcases rp _ _ g with ⟨_, e⟩ | ⟨dx, gs, e, ed, _⟩
  · obtain ⟨t1, ho⟩ := exo_at hok e
    exact ⟨_, none, ho, rfl, rfl, True.intro⟩
  · obtain ⟨t1, ho⟩ := exo_at hok e
    have hx : ObjOk P w H h dx (.xd gs) := hok dx _ ed
    obtain ⟨mA, hns, hr'⟩ := hx
    obtain ⟨od, ho', hl⟩ := lookIn_ns hns
    exact ⟨_, some od, ho, rfl, rfl, ho'⟩
def getXcp (o : Option Ob) (Q : String → List (String × U) → Prop) (_ : Tag Q := ()) : Prop := match o with
  | some (.xcp c fs) => Q c fs
  | _ => False
theorem getXcp_ex {o : Option Ob} {Q : String → List (String × U) → Prop} (h : getXcp o Q) : ∃ c fs, o = some (.xcp c fs) ∧ Q c fs := by
  unfold getXcp at h
  split at h
  · exact ⟨_, _, rfl, h⟩
  · exact h.elim
theorem zip_mm {α β : Type} : ∀ {fs : List (α × β)}, (fs.map (·.1)).zip (fs.map (·.2)) = fs
  | [] => rfl
  | (a, b) :: r => by rw [List.map_cons, List.map_cons, List.zip_cons_cons, zip_mm]
def tUXv (cs : List String) (f : String) (te : UTE) : UTE := fun us G Q E => te us G (fun u G1 => asRef u fun a => getXcp (G1 a) fun c fs => c ∈ cs ∧ getO (fget fs f) fun v => Q v G1) E
theorem eu_xv {X : Cx} {W : WX} {f : String} {cs : List String} {e : Expr} {te : UTE} {pos : Pos} (T : ∀ c ∈ cs, xfK c f X.K = true) (he : EU X W e te) (hb : attributeBase e (S f) X.env (eval e X.env) = eval e X.env) :
    EU X W (.Attribute e (S f) pos) (tUXv cs f te) := by
  refine ⟨fun pins s σ H us G Q E I rs rp h hx => ?_⟩
  refine attr_of hb (thn (he.run pins s σ H us G _ E I rs rp h hx) fun u s1 ⟨x, H1, I1, rx, w, G1, x1, rp1, ru, q⟩ => ?_)
  obtain ⟨a, rfl, q⟩ := asRef_ex q
  obtain ⟨c, fs, g, hc, q⟩ := getXcp_ex q
  cases hw : fget fs f with
  | none => rw [hw] at q; exact q.elim
  | some w =>
    rw [hw] at q
    have ex : x = .ref a := ru
    subst ex
    obtain rfl : u = Value.ref a := rx
    rcases rp1 _ _ g with ⟨e0, _⟩ | ⟨dd, gs, ea0, ea, hr⟩
    · rw [e0] at hw; cases hw
    have hw' : fget ((fs.map (·.1)).zip (fs.map (·.2))) f = some w := by
      rw [zip_mm]
      exact hw
    obtain ⟨v, hl0, rv⟩ := relE_get hr hw'
    have T1 := T _ hc
    unfold xfK at T1
    rw [Bool.and_eq_true, decide_eq_true_eq] at T1
    obtain ⟨T1, hno⟩ := T1
    have T := xfB_ok T1
    obtain ⟨t1, ho1⟩ := exo_at I1.hok ea0
    have hx : ObjOk X.prog X.w H1 s1.heap dd (.xd gs) := I1.hok dd _ ea
    obtain ⟨mA, hns, hr'⟩ := hx
    obtain ⟨od, ho, hl⟩ := lookIn_ns hns
    obtain ⟨u, hu, ru⟩ := RelO.some_of (v := v) (o := mA (S f)) (by rw [← hl0]; exact hr' (S f))
    have J : PySem.W.InstAt s1.heap a { cls := .ref (He.ga X.K (S c)), dict := some dd, data := .fields #[.ref t1, .none, .none, .none, .bool false, .none] } (He.ga X.K (S c)) (some od) := ⟨ho1, rfl, rfl, ho⟩
    exact HandSPX.exc_get I1.kIn J T.ga T.gg T.exC (PySem.W.findObj_own T.hdC hno rfl (by rw [hl, hu])) (handed_of ru) ⟨v, H1, I1.tok _, ru, _, G1, x1, rp1, rv, q⟩
def isXV (tds : List TD) (tab : List (String × List TD)) : U → U → Gp → UK → Prop := fun u w G Q =>
  asRef u fun a => getXcp (G a) fun c _ => getTD (tdC w) fun t => t ∈ tds ∧ ∃ anc, tab.lookup c = some anc ∧ Q (.bl (decide (t ∈ anc))) G
theorem cu_isX {X : Cx} {W : WX} {tds : List TD} {tab : List (String × List TD)} (T : ∀ p ∈ tab, isXB p.1 tds p.2 X.K = true) : CallU X W (.builtin "isinstance") (u2 (isXV tds tab)) := by
  intro pins s σ H xs us as G Q E I rx ra rp h hx
  obtain ⟨u, w, rfl, q⟩ := u2_of h
  obtain ⟨x, y, rfl, e, e'⟩ := relUs2 ra
  obtain ⟨a, rfl, q⟩ := asRef_ex q
  obtain ⟨c, fs, g, q⟩ := getXcp_ex q
  unfold getTD at q
  split at q
  case h_2 => exact q.elim
  rename_i t ht
  obtain ⟨hm, anc, hl, q⟩ := q
  have mem : ∀ {l : List (String × List TD)}, l.lookup c = some anc → (c, anc) ∈ l := fun {l} => by
    induction l with
    | nil => intro h; cases h
    | cons p r ih =>
      obtain ⟨k, z⟩ := p
      intro h
      rw [List.lookup_cons] at h
      cases e : c == k with
      | true =>
        rw [e] at h
        cases h
        rw [beq_iff_eq.mp e]
        exact List.mem_cons_self
      | false =>
        rw [e] at h
        exact List.mem_cons_of_mem _ (ih h)
  have k := T _ (mem hl)
  unfold isXB at k
  simp only [Bool.and_eq_true, decide_eq_true_eq, List.all_eq_true] at k
  obtain ⟨k0, k1, k2, k3, k4, k5, k6, k7, k8⟩ := k
  have k0 := k0 t hm
  have ex : x = .ref a := e
  subst ex
  cases rx with
  | cons r1 rr =>
    cases rr with
    | cons r2 rr =>
      cases rr
      cases r1
      have ec := (tdC_of ht e').eq r2
      subst ec
      obtain ⟨ox, od, J⟩ := xcp_at rp I.hok g
      exact PySem.W.kia_one (PySem.W.kitx_exc k1 k2 k3 k4 k5 k6 k7 k8) I.kIn J k0 (fun z => nomatch z) fun tk => ⟨.bl _, H, I.kept (t' := tk) fun _ _ z => z, rfl, lv_bl rp q⟩
end UL
set_option maxHeartbeats 1000000
namespace UL
open PySem PySem.Spec PyProof.Rows L2
def fdivW : UR2 := fun x y G Q _ => match x, y with
  | .int i, .int j => (0 < j ∧ j < 10 ^ 40) ∧ Q (.int (i / j)) G
  | _, _ => False
theorem ou_fdivW {X : Cx} {W : WX} : OpU X W (binaryOp .FloorDiv) fdivW := by
  intro pins s σ H x y v u a b G Q E I rx ry ra rb rp hr hx
  cases a <;> cases b <;> try exact hr.elim
  case int.int i j =>
    obtain ⟨⟨h0, h1⟩, q⟩ := hr
    exact op_fdivW pins s σ H x y v u _ I rx ry ⟨i, j, ra, rb, wide_div (b := 200) h0 (by
      have : j.natAbs < 10 ^ 40 := by omega
      exact Nat.lt_of_lt_of_le this (by decide +kernel)) (by decide) (by decide), lv_int rp q⟩
theorem bls_of {K : PySem.W.Frag} {H : Hp} : ∀ {bs : List Bool} {vs : List V}, RelUs K H (bs.map U.bl) vs → vs = bs.map V.bl
  | [], _, h => h
  | b :: bs, _, ⟨v, ws, rfl, h, t⟩ => by
    rw [bls_of t, show v = .bl b from h]
    rfl
theorem flat_bls : ∀ bs : List Bool, (bs.map V.bl).all flatV = true
  | [] => rfl
  | _ :: bs => by rw [List.map_cons, List.all_cons, flat_bls bs]; rfl
def indexB : Addr → List U → List U → Gp → UK → Prop := fun a us as G Q => match as with
  | [.bl k] => ∃ bs : List Bool, us = bs.map U.bl ∧ bs.length ≤ 1000 ∧ k ∈ bs ∧ Q (.int (bs.idxOf k : Nat)) G
  | _ => False
def countB : Addr → List U → List U → Gp → UK → Prop := fun a us as G Q => match as with
  | [.bl k] => ∃ bs : List Bool, us = bs.map U.bl ∧ bs.length ≤ 1000 ∧ Q (.int (bs.count k : Nat)) G
  | _ => False
section
variable {X : Cx} {W : WX}
theorem mu_indexB : MtU X W "list.index" (onLst indexB) := fun pins s σ H x xs v us a as G Q E I rx rv ra ras rp h _ => by
  obtain ⟨p, ws, rfl, g, h⟩ := onLst_of h
  unfold indexB at h
  split at h
  · rename_i k _h0
    obtain ⟨bs, rfl, h1, h2, h3⟩ := h
    obtain ⟨y, rfl, ry⟩ := relUs1 ras
    obtain ⟨vs, e, ru⟩ := rp.lst g
    have ev := bls_of ru
    subst ev
    have hj : bs.idxOf k < bs.length := List.idxOf_lt_length_of_mem h2
    refine L2.mt_index pins s σ H x _ v us _ I rx rv ⟨p, bs.map V.bl, .bl k, bs.idxOf k, .bl k, ra, by rw [show y = .bl k from ry], .inl (.inl e), rfl, flat_bls bs, ?_, ?_, fun m z hm hz => ?_, lv_int rp h3⟩
    · rw [List.getElem?_map, List.getElem?_eq_getElem hj, List.getElem_idxOf hj]
      rfl
    · show (k == k) = true
      simp
    · rw [List.getElem?_map] at hz
      cases hb : bs[m]? with
      | none => rw [hb] at hz; cases hz
      | some b =>
        rw [hb] at hz
        cases hz
        obtain ⟨hml, hme⟩ := List.getElem?_eq_some_iff.mp hb
        have := List.not_of_lt_findIdx (p := (· == k)) (xs := bs) hm
        simpa [eqV, hme] using this
  · exact h.elim
theorem count_eq {k : Bool} : ∀ {bs : List Bool} {us : List Value}, Vals (bs.map V.bl) us → us.countP (L2.eqU (.bl k)) = bs.count k
  | [], _, h => by cases h; rfl
  | b :: bs, _, h => by
    cases h with
    | cons r t =>
      rw [List.countP_cons, List.count_cons, count_eq t, eqU_of r rfl]
      rfl
theorem mu_countB : MtU X W "list.count" (onLst countB) := fun pins s σ H x xs v us a as G Q E I rx rxs ra ras rp h _ => by
  obtain ⟨p, ws, rfl, g, h⟩ := onLst_of h
  unfold countB at h
  split at h
  · rename_i k _h0
    obtain ⟨bs, rfl, h1, h3⟩ := h
    obtain ⟨y, rfl, ry⟩ := relUs1 ras
    obtain ⟨vs, e, ru⟩ := rp.lst g
    have ev := bls_of ru
    subst ev
    obtain rfl : y = .bl k := ry
    obtain rfl : x = .ref p := ra
    cases rx
    cases rxs with
    | cons ry rt =>
      rename_i uy ut
      cases rt
      obtain ⟨its, rv, ⟨⟨cls, dd, data, sl⟩, n, ho, hc, hdn, hd⟩, hlen⟩ := I.list (show SqL X.K H p (bs.map V.bl) from .inl (.inl e))
      simp only at hc hd
      subst hc hd
      refine call_meets PySem.F.slot_list_count ⟨_, ho, rfl⟩ PySem.F.entry_list_count (PySem.F.args_list_count_2 _ _)
        (SeqAt.list_countAt p its.toArray n dd sl uy (L2.eqU (.bl k))) ⟨ho, fun u' hu' => mem_eqAt ry rfl rv (flat_bls bs) u' (by simpa using hu'), ?_⟩
      refine ⟨.int (bs.count k : Nat), H, I.tok _, ⟨s.toks, ?_⟩, lv_int rp h3⟩
      show Value.int ((its.toArray.toList.countP (L2.eqU (.bl k)) : Nat) : Int) s.toks = Value.int ((bs.count k : Nat) : Int) s.toks
      rw [show its.toArray.toList = its by simp, count_eq rv]
  · exact h.elim
end
section
variable {G : Gp} {Q : UK} {E : UX} {p : Addr} {k : Bool} {us us' : List U} {c : String} {fl : List String} {n nk : Nat} {pl : List Src} {ta tk : UTA} {Qt : String → List (String × U) → Prop} {fs : List (String × U)} {ut : USt}
theorem x_indexB (h : G p = some (.lst us)) : onLst indexB (.ref p) [.bl k] G Q E = ∃ bs : List Bool, us = bs.map U.bl ∧ bs.length ≤ 1000 ∧ k ∈ bs ∧ Q (.int (bs.idxOf k : Nat)) G := by
  unfold onLst
  simp only [h, indexB]
theorem x_countB (h : G p = some (.lst us)) : onLst countB (.ref p) [.bl k] G Q E = ∃ bs : List Bool, us = bs.map U.bl ∧ bs.length ≤ 1000 ∧ Q (.int (bs.count k : Nat)) G := by
  unfold onLst
  simp only [h, countB]
theorem x_fdivW {i j : Int} : fdivW (.int i) (.int j) G Q E = ((0 < j ∧ j < 10 ^ 40) ∧ Q (.int (i / j)) G) := (rfl)
theorem x_xmk : tUXmk c fl n nk pl ta tk ut G Q E = ta ut G (fun vs G1 => tk ut G1 (fun zs G2 => vs.length + 1 = n ∧ zs.length = nk ∧ ∀ a, G2 a = none → Q (.ref a) (gup G2 a (.xcp c (fl.zip (pl.map (Src.get .non (.ref a :: vs) zs [] []))))) ) E) E := (rfl)
theorem x_xmk0 : tUXmk0 c ut G Q E = ∀ a, G a = none → Q (.ref a) (gup G a (.xcp c [])) := (rfl)
theorem x_xv {cs : List String} {f : String} {te : UTE} : tUXv cs f te ut G Q E = te ut G (fun u G1 => asRef u fun a => getXcp (G1 a) fun c fs => c ∈ cs ∧ getO (fget fs f) fun v => Q v G1) E := (rfl)
theorem getXcp_s : getXcp (some (.xcp c fs)) Qt = Qt c fs := (rfl)
end
end UL
set_option maxHeartbeats 1000000
namespace WW
open PySem PySem.Spec PyProof.Rows L2 UL
local macro_rules | `(tactic| simp_arith! [$ls,*]) => `(tactic| (try (simp (discharger := assumption) only [↓x_var, ↓x_c, ↓x_op, ↓x_and, ↓x_nil, ↓x_cons, ↓x_test, ↓x_not, ↓x_bOr, ↓x_tru, ↓x_call, ↓x_def, ↓x_bm, ↓x_u1, ↓x_u2, ↓x_seq, ↓x_next, ↓x_ret, ↓x_ifSC, ↓x_asg, ↓x_gname, ↓x_for, ↓x_any, ↓x_lc, ↓x_fld, ↓x_fldU, ↓x_gfld, ↓x_setF, ↓x_make, ↓x_raise, ↓x_eqI, ↓x_eqS, ↓x_leS, ↓x_inS1, ↓x_notInS1, ↓x_lenS, ↓x_iterT, ↓x_iterS, ↓x_tyS, ↓x_join, ↓x_strS, ↓x_fmtS, ↓x_fmt, ↓x_js0, ↓x_js, ↓x_truB, ↓x_isi, e_condT, e_condF, slotK_s, asBl_s, asStr_s, getIns_s, getO_s, getUs_s, getLs_s, seq_l, isiK_s, isi_bb, isiOk_b, td_S, tdC_t, fget_nil, fget_cons, fput_nil, fput_cons, src_p, getD_0, getD_s, uwipe_nil, uwipe_cons, len_cons, e_strsOnes, e_joinOnes, e_sumOnes, List.getElem?_cons_zero, List.getElem?_cons_succ, List.set_cons_zero, List.set_cons_succ, List.map_cons, List.map_nil, List.length_nil, List.length_cons, true_and, and_true, endsU, ustart, List.replicate, List.cons_append, List.nil_append, List.append_nil, List.unzip_cons, List.unzip_nil, Bool.not_true, Bool.not_false, decide_true, decide_false, tyNames, fldsOf, List.mem_cons, gup_gup, gup_same, if_true, List.zip_cons_cons, List.zip_nil_left, Bool.and_true, Bool.true_and, Bool.and_false, Bool.false_and, Bool.or_false, Bool.or_true, Bool.true_or, Bool.false_or, Nat.reduceAdd, Nat.reduceSub, String.reduceEq, Nat.reduceLeDiff, or_true, true_or, false_or, or_false, not_false_eq_true, Nat.mul_zero, Nat.add_zero, Nat.zero_add, Option.isSome_some, Nat.reduceLT, List.not_mem_nil, Int.reduceEq, and_self, Int.cast_ofNat_Int, Int.reduceLT, Int.reduceAdd, Int.reduceSub, $ls,*])))
local macro_rules | `(tactic| simp_arith [$ls,*]) => `(tactic| (simp_arith! [$ls,*]; (repeat ((first | with_reducible refine scondT ?_ | with_reducible refine scondF ?_ | with_reducible refine condT ?_ | with_reducible refine condF ?_); simp_arith! [$ls,*]))))
local macro_rules | `(tactic| walk_at "usub") => `(tactic| (refine Sub.ofE ?_; (repeat (refine SubE.left ?_ (Or.inr (by first | assumption | simp (discharger := assumption) only [gup_same, gup_ne, gup_neS, gup_nN, gup_nNS, *])))); (repeat (refine SubE.put ?_ (by first | exact Or.inr (Or.inl (by assumption)) | exact Or.inr (Or.inr (by assumption)) | exact Or.inl (by simp) | exact Or.inr (Or.inr (by simp (discharger := assumption) only [gup_same, gup_ne, gup_neS, gup_nN, gup_nNS, *]))))); exact SubE.refl))
/-- strictly ascending behind o, of letters -/
def ascB : List Nat → List Nat → Bool
  | _, [] => true
  | o, c :: l => decide (c ∈ M52) && (decide (o < [c]) && ascB [c] l)
def conB (l : List Nat) : Bool := ascB [] l
def conU : U → Bool
  | .str l => conB l
  | _ => false
def unionL (a b : List Nat) : List Nat := M52.filter fun k => decide (k ∈ a) || decide (k ∈ b)
def sharedL (a b : List Nat) : List Nat := a.filter fun k => decide (k ∈ b)
def diffL (a b : List Nat) : List Nat := a.filter fun k => !decide (k ∈ b)
def oddL (a b : List Nat) : List Nat := unionL (diffL a b) (diffL b a)
def sp_is_contents : USp := fun us G Q _ => match us with
  | [u] => (tdOf G u).isSome = true ∧ Q (.bl (conU u)) G
  | _ => False
def sp_contents_cross : USp := fun us G Q _ => match us with
  | [.str l] => Q (.bl (l.all fun k => decide (k ∈ C26))) G
  | _ => False
def sp2 (f : List Nat → List Nat → List Nat) : USp := fun us G Q _ => match us with
  | [.str a, .str b] => a.length ≤ 1000 ∧ b.length ≤ 1000 ∧ Q (.str (f a b)) G
  | _ => False
def sp_union : USp := sp2 unionL
def sp_shared_marks : USp := sp2 sharedL
def sp_difference : USp := sp2 diffL
def sp_odd_marks : USp := sp2 oddL
section
variable {G : Gp} {Q : UK} {E : UX} {u : U} {l a b : List Nat}
theorem x_is_contents : Call sp_is_contents [u] G Q E = ((tdOf G u).isSome = true ∧ Q (.bl (conU u)) G) := rfl
theorem x_contents_cross : Call sp_contents_cross [.str l] G Q E = Q (.bl (l.all fun k => decide (k ∈ C26))) G := rfl
theorem x_union : Call sp_union [.str a, .str b] G Q E = (a.length ≤ 1000 ∧ b.length ≤ 1000 ∧ Q (.str (unionL a b)) G) := rfl
theorem x_shared : Call sp_shared_marks [.str a, .str b] G Q E = (a.length ≤ 1000 ∧ b.length ≤ 1000 ∧ Q (.str (sharedL a b)) G) := rfl
theorem x_diff : Call sp_difference [.str a, .str b] G Q E = (a.length ≤ 1000 ∧ b.length ≤ 1000 ∧ Q (.str (diffL a b)) G) := rfl
theorem x_odd : Call sp_odd_marks [.str a, .str b] G Q E = (a.length ≤ 1000 ∧ b.length ≤ 1000 ∧ Q (.str (oddL a b)) G) := rfl
end
def boxO (l : List Nat) : Ob := .ins "Box" [("contents", .str l)]
theorem e_box {l : List Nat} : Ob.ins "Box" [("contents", .str l)] = boxO l := (rfl)
theorem e_getIns_box {l : List Nat} {Q} : getIns (some (boxO l)) Q = Q "Box" [("contents", .str l)] := (rfl)
theorem e_conS {l : List Nat} : conU (.str l) = conB l := (rfl)
def badBox (u : U) : UExc := ⟨"BadBox", [("contents", u)]⟩
theorem e_badBox {u : U} : (⟨"BadBox", [("contents", u)]⟩ : UExc) = badBox u := (rfl)
def sp_Box___init__ : USp := fun us G Q E => match us with
  | [.ref p, u] => getIns (G p) fun c fs => c = "Box" ∧ fs = [] ∧ (tdOf G u).isSome = true ∧ condP (conU u) (Q .non (gup G p (.ins "Box" [("contents", u)]))) (E (badBox u) G)
  | _ => False
section
variable {G : Gp} {Q : UK} {E : UX} {u : U} {p q : Addr} {f : List Nat → List Nat → List Nat}
theorem x_Box_init : Call sp_Box___init__ [.ref p, u] G Q E = getIns (G p) fun c fs => c = "Box" ∧ fs = [] ∧ (tdOf G u).isSome = true ∧ condP (conU u) (Q .non (gup G p (.ins "Box" [("contents", u)]))) (E (badBox u) G) := (rfl)
end
local macro_rules | `(tactic| simp_arith! [$ls,*]) => `(tactic| (try (simp (discharger := assumption) only [↓x_var, ↓x_c, ↓x_op, ↓x_and, ↓x_nil, ↓x_cons, ↓x_test, ↓x_not, ↓x_bOr, ↓x_tru, ↓x_call, ↓x_def, ↓x_bm, ↓x_u1, ↓x_u2, ↓x_seq, ↓x_next, ↓x_ret, ↓x_ifSC, ↓x_asg, ↓x_gname, ↓x_for, ↓x_any, ↓x_lc, ↓x_fld, ↓x_fldU, ↓x_gfld, ↓x_setF, ↓x_make, ↓x_raise, ↓x_eqI, ↓x_eqS, ↓x_leS, ↓x_inS1, ↓x_notInS1, ↓x_lenS, ↓x_iterT, ↓x_iterS, ↓x_tyS, ↓x_join, ↓x_strS, ↓x_fmtS, ↓x_fmt, ↓x_js0, ↓x_js, ↓x_truB, ↓x_isi, e_condT, e_condF, slotK_s, asBl_s, asStr_s, getIns_s, getO_s, getUs_s, getLs_s, seq_l, isiK_s, isi_bb, isiOk_b, td_S, tdC_t, fget_nil, fget_cons, fput_nil, fput_cons, src_p, getD_0, getD_s, uwipe_nil, uwipe_cons, len_cons, e_strsOnes, e_joinOnes, e_sumOnes, x_is_contents, x_contents_cross, x_union, x_shared, x_diff, x_odd, e_box, e_getIns_box, e_conS, e_badBox, x_Box_init, List.getElem?_cons_zero, List.getElem?_cons_succ, List.set_cons_zero, List.set_cons_succ, List.map_cons, List.map_nil, List.length_nil, List.length_cons, true_and, and_true, endsU, ustart, List.replicate, List.cons_append, List.nil_append, List.append_nil, List.unzip_cons, List.unzip_nil, Bool.not_true, Bool.not_false, decide_true, decide_false, tyNames, fldsOf, List.mem_cons, gup_gup, gup_same, if_true, List.zip_cons_cons, List.zip_nil_left, Bool.and_true, Bool.true_and, Bool.and_false, Bool.false_and, Bool.or_false, Bool.or_true, Bool.true_or, Bool.false_or, Nat.reduceAdd, Nat.reduceSub, String.reduceEq, Nat.reduceLeDiff, or_true, true_or, false_or, or_false, not_false_eq_true, Nat.mul_zero, Nat.add_zero, Nat.zero_add, Option.isSome_some, Nat.reduceLT, List.not_mem_nil, Int.reduceEq, and_self, Int.cast_ofNat_Int, Int.reduceLT, Int.reduceAdd, Int.reduceSub, $ls,*])))
local macro_rules | `(tactic| simp_arith [$ls,*]) => `(tactic| (simp_arith! [$ls,*]; (repeat ((first | with_reducible refine scondT ?_ | with_reducible refine scondF ?_ | with_reducible refine condT ?_ | with_reducible refine condF ?_); simp_arith! [$ls,*]))))
local macro_rules | `(tactic| walk_at "usub") => `(tactic| (refine Sub.ofE ?_; (repeat (refine SubE.left ?_ (Or.inr (by first | assumption | simp (discharger := assumption) only [gup_same, gup_ne, gup_neS, gup_nN, gup_nNS, *])))); (repeat (refine SubE.put ?_ (by first | exact Or.inr (Or.inl (by assumption)) | exact Or.inr (Or.inr (by assumption)) | exact Or.inl (by simp) | exact Or.inr (Or.inr (by simp (discharger := assumption) only [gup_same, gup_ne, gup_neS, gup_nN, gup_nNS, *]))))); exact SubE.refl))
/- slots ['self', 'contents'] -/
end WW
set_option maxHeartbeats 1000000
namespace LL
open PySem PySem.Spec PyProof.Rows L2 UL WW
def bagO (c a n : Int) (q : Addr) : Ob := .lst [.int c, .int a, .int n, .ref q]
def getBag (o : Option Ob) (Q : Addr → Prop) (_ : Tag Q := ()) : Prop := ∃ c a n q, o = some (bagO c a n q) ∧ Q q
def IntsU (us : List U) : Prop := ∃ ns, us = IntU ns
theorem e_bag {c a n : Int} {q : Addr} : Ob.lst [.int c, .int a, .int n, .ref q] = bagO c a n q := (rfl)
theorem e_getLst_bag {c a n : Int} {q : Addr} {Q} : getLst (some (bagO c a n q)) Q = Q [.int c, .int a, .int n, .ref q] := (rfl)
theorem e_getBag {c a n : Int} {q : Addr} {Q} : getBag (some (bagO c a n q)) Q = Q q := by
  unfold getBag
  apply propext
  constructor
  · rintro ⟨c', a', n', q', e, h⟩
    cases e
    exact h
  · exact fun h => ⟨c, a, n, q, rfl, h⟩
theorem e_IntsU {ns : List Int} : IntsU (IntU ns) = True := eq_true ⟨ns, rfl⟩
def seqS (G : Gp) : U → Option (List U)
  | .str l => some (sgs l)
  | x => seqOf G x
theorem e_seqS_r {G : Gp} {p : Addr} : seqS G (.ref p) = lstO (G p) := (rfl)
def sp_bag : USp := fun us G Q _ => match us with
  | [.rol ns, .int k] => IntsU ns ∧ 0 ≤ k ∧ ∀ c a n p q ms, G p = none → G q = none → q ≠ p → Q (.ref p) (gup (gup G q (.lst (IntU ms))) p (bagO c a n q))
  | _ => False
def sp_take : USp := fun us G Q _ => match us with
  | [.ref p, .int m] => (0 < m ∧ m < 1073741824) ∧ getBag (G p) fun q => getLst (G q) fun ms => IntsU ms ∧ q ≠ p ∧ ∀ r c a n, 0 ≤ r → r < m → Q (.int r) (gup G p (bagO c a n q))
  | _ => False
def sp_of : USp := fun us G Q _ => match us with
  | [.ref p, x] => x ≠ .ref p ∧ getUs (seqS G x) fun xs => 0 < xs.length ∧ xs.length ≤ 1000000 ∧ getBag (G p) fun q => getLst (G q) fun ms => IntsU ms ∧ q ≠ p ∧ ∀ u c a n, u ∈ xs → Q u (gup G p (bagO c a n q))
  | _ => False
section
variable {G : Gp} {Q : UK} {E : UX} {x : U} {p q : Addr} {k m : Int} {ns : List U}
theorem x_bag : Call sp_bag [.rol ns, .int k] G Q E = (IntsU ns ∧ 0 ≤ k ∧ ∀ c a n p q ms, G p = none → G q = none → q ≠ p → Q (.ref p) (gup (gup G q (.lst (IntU ms))) p (bagO c a n q))) := (rfl)
theorem x_take : Call sp_take [.ref p, .int m] G Q E = ((0 < m ∧ m < 1073741824) ∧ getBag (G p) fun q => getLst (G q) fun ms => IntsU ms ∧ q ≠ p ∧ ∀ r c a n, 0 ≤ r → r < m → Q (.int r) (gup G p (bagO c a n q))) := (rfl)
theorem x_of : Call sp_of [.ref p, x] G Q E = (x ≠ .ref p ∧ getUs (seqS G x) fun xs => 0 < xs.length ∧ xs.length ≤ 1000000 ∧ getBag (G p) fun q => getLst (G q) fun ms => IntsU ms ∧ q ≠ p ∧ ∀ u c a n, u ∈ xs → Q u (gup G p (bagO c a n q))) := (rfl)
end
local macro_rules | `(tactic| simp_arith! [$ls,*]) => `(tactic| (try (simp (discharger := assumption) only [↓x_var, ↓x_c, ↓x_op, ↓x_ifC, ↓x_nil, ↓x_cons, ↓x_lst, ↓x_test, ↓x_bAnd, ↓x_bOr, ↓x_call, ↓x_def, ↓x_u1, ↓x_seq, ↓x_next, ↓x_ret, ↓x_ifSC, ↓x_asg, ↓x_par, ↓x_gname, ↓x_gsub, ↓x_sl, ↓x_noPart, ↓x_part, ↓x_for, ↓x_any, ↓x_addI, ↓x_addS, ↓x_mulI, ↓x_modI, ↓x_fdivI, ↓x_powI, ↓x_eqI, ↓x_eqS, ↓x_ltI, ↓x_gtI, ↓x_geI, ↓x_inS1, ↓x_notInS1, ↓x_ixR, ↓x_ixT, ↓x_ixL, ↓x_ixS, ↓x_setL, ↓x_abs, ↓x_int, ↓x_intB, ↓x_lenR, ↓x_lenT, ↓x_lenS, ↓x_lenL, ↓x_listL, ↓x_slR, ↓x_iterS, e_condT, e_condF, slotK_s, asBl_s, asInt_s, getLst_s, getOb_s, getO_s, getUs_s, getN_s, lenOb_l, lstO_s, src_p, getD_0, getD_s, setAll_nil, setAll_cons, len_cons, e_bag, e_getLst_bag, e_getBag, e_IntsU, e_seqS_r, x_take, x_of, List.getElem?_cons_zero, List.getElem?_cons_succ, List.set_cons_zero, List.set_cons_succ, List.map_cons, List.map_nil, List.length_nil, List.length_cons, true_and, and_true, endsU, ustart, List.replicate, List.cons_append, List.nil_append, List.append_nil, Bool.not_true, Bool.not_false, decide_true, decide_false, List.mem_cons, List.reverse_cons, List.reverse_nil, gup_gup, gup_same, if_true, if_false, reduceIte, Bool.and_true, Bool.true_and, Bool.and_false, Bool.false_and, Bool.or_false, Bool.or_true, Bool.true_or, Bool.false_or, Nat.reduceAdd, Nat.reduceSub, String.reduceEq, Nat.reduceLeDiff, Nat.reduceEqDiff, atI_0, atI_1, atI_2, atI_3, gup_ne, gup_neS, or_true, true_or, false_or, or_false, ne_eq, not_false_eq_true, not_true_eq_false, reduceCtorEq, Nat.zero_add, U.ref.injEq, U.int.injEq, U.str.injEq, U.bl.injEq, Nat.reduceLT, List.not_mem_nil, Int.reduceEq, List.cons.injEq, and_self, Int.cast_ofNat_Int, Int.reduceToNat, Int.reduceLT, Int.reduceLE, Int.reduceNeg, Int.reduceAdd, Int.reduceSub, $ls,*])))
local macro_rules | `(tactic| simp_arith [$ls,*]) => `(tactic| (simp_arith! [$ls,*]; (repeat ((first | with_reducible refine scondT ?_ | with_reducible refine scondF ?_ | with_reducible refine condT ?_ | with_reducible refine condF ?_); simp_arith! [$ls,*]))))
local macro_rules | `(tactic| walk_at "usub") => `(tactic| (refine Sub.ofE ?_; (repeat (refine SubE.left ?_ (Or.inr (by first | assumption | simp (discharger := assumption) only [gup_same, gup_ne, gup_neS, gup_nN, gup_nNS, *])))); (repeat (refine SubE.put ?_ (by first | exact Or.inr (Or.inl (by assumption)) | exact Or.inr (Or.inr (by assumption)) | exact Or.inl (by simp) | exact Or.inr (Or.inr (by simp (discharger := assumption) only [gup_same, gup_ne, gup_neS, gup_nN, gup_nNS, *]))))); exact SubE.refl))
/- k02 _law_bag: slots ['_law_script', '_law_at', '_law_cell'] -/
def t_bag (c0 c1 : Int) : UTS := (tUSeq (tUAsg (tUIfC (tUTest (tUOp ltU (tUVar 1) (tUCall (u1 lenV) (tUCons (tUVar 0) tUNil)))) (tUCall (u1 absV) (tUCons (tUOp ixU0 (tUVar 0) (tUVar 1)) tUNil)) (tUC (.int 0))) (gUName 2))
    (tUSeq (tURet (tULst (tUCons (tUIfC (tUTest (tUOp geU (tUVar 2) (tUOp powU (tUC (.int 10)) (tUC (.int 18))))) (tUVar 2) (tUC (.int 0))) (tUCons (tUOp addU (tUC (.int c0)) (tUOp mulU (tUC (.int c1)) (tUVar 1))) (tUCons (tUVar 1) (tUCons (tUCall (u1 listV) (tUCons (tUSl (tUVar 0) tUNoPart (tUPart (tUC (.int 63)))) tUNil)) tUNil))))))
    tUNext))
/- k02 _law_take: slots ['_law_bag_here', '_law_many', '_law_cell', '_law_added', '_law_digit'] -/
theorem law_bag (c0 c1 : Int) (h01 : -(2 ^ 64) < c1 ∧ c1 < 2 ^ 64) (us : List U) (G : Gp) (Q : UK) (E : UX) (h : sp_bag us G Q E) : t_bag c0 c1 (endsU Q E) (ustart 3 us) G := by
  unfold sp_bag at h
  split at h
  · rename_i us' k
    obtain ⟨⟨ns, rfl⟩, hk, q⟩ := h
    have cp : CPow 10 18 := ⟨by decide, by decide, by decide⟩
    obtain ⟨ms, hms⟩ := cutU_ints ns none (some 63)
    simp_arith [t_bag]
    refine condM (fun u G' => G' = G ∧ ∃ z, u = .int z) (fun h => ?_) (fun h => ?_) ?_
    · have hlt := of_decide_eq_true h
      rw [intU_len] at hlt
      obtain ⟨z, _, hz⟩ := intU_at hk hlt
      simp_arith [hz]
      exact .now ⟨rfl, _, rfl⟩
    · simp_arith []
      exact .now ⟨rfl, _, rfl⟩
    · rintro u G' ⟨rfl, z, rfl⟩
      simp_arith [cp]
      refine condM (fun u G2 => G2 = G' ∧ ∃ z, u = .int z) (fun h => ?_) (fun h => ?_) ?_
      · simp_arith []
        exact .now ⟨rfl, _, rfl⟩
      · simp_arith []
        exact .now ⟨rfl, _, rfl⟩
      · rintro u G2 ⟨rfl, c, rfl⟩
        simp_arith [hms, cmul_l h01]
        intro p hp r hr z hz
        obtain ⟨r1, r2⟩ := gup_none hr
        obtain ⟨z1, z2⟩ := gup_none hz
        obtain ⟨z3, z4⟩ := gup_none z2
        exact KF.of (Sub.drop hp).gup.gup (q c (c0 + c1 * k) k z r ms z4 r2 (Ne.symm z1))
  · exact h.elim
theorem bag_of {G : Gp} {p : Addr} {P : Addr → Prop} (h : getBag (G p) fun q => getLst (G q) fun ms => IntsU ms ∧ q ≠ p ∧ P q) : ∃ c a n q ms, G p = some (bagO c a n q) ∧ G q = some (.lst (IntU ms)) ∧ q ≠ p ∧ P q := by
  obtain ⟨c, a, n, q, hp, h⟩ := h
  rw [← lst_ex] at h
  obtain ⟨_, hq, ⟨ms, rfl⟩, hne, q'⟩ := h
  exact ⟨c, a, n, q, ms, hp, hq, hne, q'⟩
def Keep (p : Addr) (G G2 : Gp) : Prop := ∀ a o, a ≠ p → G a = some o → G2 a = some o
theorem Keep.refl {p : Addr} {G : Gp} : Keep p G G := fun _ _ _ h => h
theorem Keep.self {p : Addr} {G G2 : Gp} {o : Ob} (h : Keep p G G2) : Keep p G (gup G2 p o) := fun a u hn g => (gup_ne hn).trans (h a u hn g)
theorem Keep.new {p z : Addr} {G G2 : Gp} {o : Ob} (h : Keep p G G2) (hz : G2 z = none) : Keep p G (gup G2 z o) := fun a u hn g => by
  have e := h a u hn g
  rw [gup_ne fun x => by rw [x, hz] at e; cases e]
  exact e
theorem Keep.trans {p : Addr} {G G2 G3 : Gp} (h : Keep p G G2) (k : Keep p G2 G3) : Keep p G G3 := fun a u hn g => k a u hn (h a u hn g)
theorem shows_small {G : Gp} {u : U} {d : PyData} (h : Dat G u d) (h1 : d.showable = true) (h2 : d.depth ≤ 40) (h3 : d.leavesShort 60 = true) (h4 : d.weight ≤ 100000) : Shows G u d := by
  refine ⟨h, h1, h2, ?_⟩
  have h5 := PyData.shown_le 60 (by decide) d h3
  exact Nat.le_trans h5 (lim_line' (by omega))
theorem low8 {l : List Nat} (h : ∀ c ∈ l, c < 1114112) : (l.all fun c => decide (c < 16 ^ 8)) = true := by
  rw [List.all_eq_true]
  intro c hc
  have := h c hc
  exact decide_eq_true (by omega)
mutual
theorem dat_new {G G2 : Gp} (x : ∀ a o, G a = some o → G2 a = some o) : ∀ {u : U} {d : PyData}, Dat G u d → Dat G2 u d
  | _, _, .non => .non
  | _, _, .bl b => .bl b
  | _, _, .int i => .int i
  | _, _, .str l => .str l
  | _, _, .tup h => .tup (dats_new x h)
  | _, _, .lst g h => .lst (x _ _ g) (dats_new x h)
theorem dats_new {G G2 : Gp} (x : ∀ a o, G a = some o → G2 a = some o) : ∀ {us : List U} {ds : List PyData}, Dats G us ds → Dats G2 us ds
  | _, _, .nil => .nil
  | _, _, .cons h t => .cons (dat_new x h) (dats_new x t)
end
theorem bls_any (x : Bool) : ∀ bs : List Bool, (bs.map U.bl).any (fun y => ueq y (.bl x)) = decide (x ∈ bs)
  | [] => by simp
  | b :: bs => by
    rw [List.map_cons, List.any_cons, bls_any x bs]
    cases b <;> cases x <;> simp [ueq]
theorem bls_flat : ∀ bs : List Bool, (bs.map U.bl).all uflat = true
  | [] => rfl
  | b :: bs => by
    rw [List.map_cons, List.all_cons, bls_flat bs]
    rfl
theorem in_bls {G : Gp} {p : Addr} {x : Bool} {bs : List Bool} {Q : UK} {E : UX} (h : G p = some (.lst (bs.map U.bl))) (q : Q (.bl (decide (x ∈ bs))) G) : inU (.bl x) (.ref p) G Q E := by
  refine ⟨_, h, rfl, bls_flat bs, ?_⟩
  rw [bls_any]
  exact q
end LL
set_option maxHeartbeats 2000000
namespace K08
open PySem PySem.Spec PyProof.Rows L2 UL WW LL
def xTds : List TD := [.o "WorkerworldsError", .o "BadBox", .o "BadName", .o "BadWorld", .o "BadRow", .o "BadProgram", .o "BadText", .o "TooMany", .o "BadSetting", .o "BadItem", .o "BadCut", .o "BadDealing", .o "NoName", .o "NoWorker", .o "TaskFailed", .o "CannotCross", .o "Closed", .b "ValueError", .b "LookupError", .b "RuntimeError"]
def xTab : List (String × List TD) := [("WorkerworldsError", [.o "WorkerworldsError", .b "ValueError"]), ("BadBox", [.o "WorkerworldsError", .o "BadBox", .b "ValueError"]), ("BadName", [.o "WorkerworldsError", .o "BadName", .b "ValueError"]), ("BadWorld", [.o "WorkerworldsError", .o "BadWorld", .b "ValueError"]), ("BadRow", [.o "WorkerworldsError", .o "BadRow", .b "ValueError"]), ("BadProgram", [.o "WorkerworldsError", .o "BadProgram", .b "ValueError"]), ("BadText", [.o "WorkerworldsError", .o "BadText", .b "ValueError"]), ("TooMany", [.o "WorkerworldsError", .o "TooMany", .b "ValueError"]), ("BadSetting", [.o "WorkerworldsError", .o "BadSetting", .b "ValueError"]), ("BadItem", [.o "WorkerworldsError", .o "BadItem", .b "ValueError"]), ("BadCut", [.o "WorkerworldsError", .o "BadCut", .b "ValueError"]), ("BadDealing", [.o "WorkerworldsError", .o "BadDealing", .b "ValueError"]), ("NoName", [.o "NoName", .b "LookupError"]), ("NoWorker", [.o "NoWorker", .b "LookupError"]), ("TaskFailed", [.o "TaskFailed", .b "RuntimeError"]), ("CannotCross", [.o "CannotCross", .b "RuntimeError"]), ("Closed", [.o "Closed", .b "RuntimeError"])]
def ancX (c : String) : List TD := (xTab.lookup c).getD []
def kb (c : String) (t : TD) : Bool := decide (t ∈ ancX c)
def own16 : List TD := [.o "BadBox", .o "BadName", .o "BadWorld", .o "BadRow", .o "BadProgram", .o "BadText", .o "TooMany", .o "BadSetting", .o "BadItem", .o "BadCut", .o "BadDealing", .o "NoName", .o "NoWorker", .o "TaskFailed", .o "CannotCross", .o "Closed"]
def rowsX (c : String) : List Bool := own16.map (kb c)
def firstX (c : String) : Int := if true ∈ rowsX c then ((rowsX c).idxOf true : Nat) else -1
def aboveX (c : String) : List Bool := [kb c (.o "WorkerworldsError"), kb c (.b "ValueError"), kb c (.b "LookupError")]
def isK (c : String) : Prop := xTab.lookup c = some (ancX c)
def sp__law_kinds : USp := fun us G Q _ => match us with
  | [.ref a] => ∃ c fs, G a = some (.xcp c fs) ∧ isK c ∧ ∀ r G2, Sub G G2 → G r = none → G2 r = some (.lst ((aboveX c).map U.bl)) → Q (.tup [.int (firstX c), .int ((rowsX c).count true : Nat), .ref r, .bl (kb c (.b "RuntimeError"))]) G2
  | _ => False
def sp__law_take : USp := fun us G Q _ => match us with
  | [.ref p, .int m] => (0 < m ∧ m < 10 ^ 40) ∧ getBag (G p) fun q => getLst (G q) fun ms => IntsU ms ∧ q ≠ p ∧ ∀ r c a n, 0 ≤ r → r < m → Q (.int r) (gup G p (bagO c a n q))
  | _ => False
/-- a value to be kept: data, small -/
def Val (G : Gp) (u : U) : Prop := ∃ d, Dat G u d ∧ d.showable = true ∧ d.depth ≤ 3 ∧ d.leavesShort 60 = true ∧ d.weight ≤ 1000
def hide (p : Addr) (G : Gp) : Gp := fun a => if a = p then none else G a
def sp__law_value : USp := fun us G Q _ => match us with
  | [.ref p] => getBag (G p) fun q => getLst (G q) fun is => IntsU is ∧ q ≠ p ∧ ∀ u G2 c a n, Val (hide p G2) u → G2 p = some (bagO c a n q) → Keep p G G2 → Q u G2
  | _ => False
def sp__law_are_right : USp := fun us G Q _ => match us with
  | [a, b, c] => Val G a ∧ Val G b ∧ Val G c ∧ ∀ G2, Sub G G2 → Q (.bl true) G2
  | _ => False
def sp_law : USp := fun us G Q _ => ∃ ns : List Int, us = [.rol (IntU ns)] ∧ ns.length ≤ 63 ∧ ∀ G', Q (.bl true) G'
section
variable {G : Gp} {Q : UK} {E : UX} {p a : Addr} {u v w : U} {m : Int}
theorem x_kinds8 : Call sp__law_kinds [.ref a] G Q E = ∃ c fs, G a = some (.xcp c fs) ∧ isK c ∧ ∀ r G2, Sub G G2 → G r = none → G2 r = some (.lst ((aboveX c).map U.bl)) → Q (.tup [.int (firstX c), .int ((rowsX c).count true : Nat), .ref r, .bl (kb c (.b "RuntimeError"))]) G2 := (rfl)
theorem x_take8 : Call sp__law_take [.ref p, .int m] G Q E = ((0 < m ∧ m < 10 ^ 40) ∧ getBag (G p) fun q => getLst (G q) fun ms => IntsU ms ∧ q ≠ p ∧ ∀ r c a n, 0 ≤ r → r < m → Q (.int r) (gup G p (bagO c a n q))) := (rfl)
theorem x_value8 : Call sp__law_value [.ref p] G Q E = getBag (G p) fun q => getLst (G q) fun is => IntsU is ∧ q ≠ p ∧ ∀ u G2 c a n, Val (hide p G2) u → G2 p = some (bagO c a n q) → Keep p G G2 → Q u G2 := (rfl)
theorem x_right8 : Call sp__law_are_right [u, v, w] G Q E = (Val G u ∧ Val G v ∧ Val G w ∧ ∀ G2, Sub G G2 → Q (.bl true) G2) := (rfl)
end
def isTK (c : String) (t : TD) (K : Bool → Prop) (_ : Tag K := ()) : Prop := t ∈ xTds ∧ ∃ anc, xTab.lookup c = some anc ∧ K (decide (t ∈ anc))
theorem x_isXK {G : Gp} {Q : UK} {p : Addr} {w : U} : isXV xTds xTab (.ref p) w G Q = getXcp (G p) fun c _ => getTD (tdC w) fun t => isTK c t fun b => Q (.bl b) G := (rfl)
theorem e_isTK {c : String} {t : TD} {K : Bool → Prop} (hc : isK c) (hm : t ∈ xTds) : isTK c t K = K (kb c t) :=
  propext ⟨fun ⟨_, anc, h1, h2⟩ => by
    rw [show xTab.lookup c = some (ancX c) from hc] at h1
    cases h1
    exact h2, fun h => ⟨hm, _, hc, h⟩⟩
local macro_rules | `(tactic| simp_arith! [$ls,*]) => `(tactic| (try (simp (discharger := assumption) only [↓x_var, ↓x_c, ↓x_op, ↓x_un, ↓x_ifC, ↓x_nil, ↓x_cons, ↓x_tup, ↓x_lst, ↓x_test, ↓x_not, ↓x_tru, ↓x_call, ↓x_def, ↓x_bm, ↓x_u1, ↓x_u2, ↓x_seq, ↓x_next, ↓x_drop, ↓x_ret, ↓x_ifSC, ↓x_asg, ↓x_par, ↓x_gname, ↓x_gsub, ↓x_gtup, ↓x_gcons, ↓x_gnil, ↓x_for, ↓x_rng1, ↓x_addI, ↓x_addS, ↓x_subI, ↓x_mulI, ↓x_mulL, ↓x_modI, ↓x_powI, ↓x_negI, ↓x_eqI, ↓x_neS, ↓x_ltI, ↓x_gtI, ↓x_ixL, ↓x_setL, ↓x_max, ↓x_min, ↓x_int, ↓x_lenR, ↓x_lenL, ↓x_rngA, ↓x_append, ↓x_tyL, ↓x_truB, ↓x_indexB, ↓x_countB, ↓x_fdivW, ↓x_xmk, ↓x_xmk0, ↓x_xv, ↓x_isXK, ↓x_extendR, ↓x_iEnumT, ↓x_enumTL, ↓x_mulS, ↓x_eqPT, ↓x_nePT, ↓x_nePs, slotK_s, asBl_s, asRef_s, getLst_s, getOb_s, getO_s, getN_s, lenOb_l, tdC_t, tdC_g, fget_nil, fget_cons, src_p, src_k, getD_0, getD_s, setAll_nil, setAll_cons, len_cons, e_bag, e_getLst_bag, e_getBag, e_IntsU, x_bag, getXcp_s, x_kinds8, x_take8, x_value8, x_right8, e_isTK, getTD_s, List.getElem?_cons_zero, List.getElem?_cons_succ, List.set_cons_zero, List.set_cons_succ, List.map_cons, List.map_nil, List.length_nil, List.length_cons, true_and, endsU, ustart, List.replicate, List.cons_append, List.nil_append, Bool.not_true, decide_true, List.mem_cons, List.reverse_cons, List.reverse_nil, gup_gup, gup_same, if_true, if_false, List.zip_cons_cons, List.zip_nil_right, Bool.true_and, Bool.or_false, Nat.reduceAdd, Nat.reduceSub, String.reduceEq, Nat.reduceLeDiff, atI_0, atI_1, atI_2, atI_3, gup_ne, or_false, ne_eq, not_false_eq_true, Nat.mul_zero, Nat.zero_add, Nat.reduceLT, List.not_mem_nil, Int.reduceEq, and_self, Int.cast_ofNat_Int, Int.reduceToNat, Int.reduceLT, Int.reduceLE, Int.reduceNeg, Int.reduceAdd, Int.reduceSub, $ls,*])))
local macro_rules | `(tactic| simp_arith [$ls,*]) => `(tactic| (simp_arith! [$ls,*]; (repeat ((first | with_reducible refine scondT ?_ | with_reducible refine scondF ?_ | with_reducible refine condT ?_ | with_reducible refine condF ?_); simp_arith! [$ls,*]))))
local macro_rules | `(tactic| walk_at "usub") => `(tactic| (refine Sub.ofE ?_; (repeat (refine SubE.left ?_ (Or.inr (by first | assumption | simp (discharger := assumption) only [gup_same, gup_ne, gup_neS, gup_nN, gup_nNS, *])))); (repeat (refine SubE.put ?_ (by first | exact Or.inr (Or.inl (by assumption)) | exact Or.inr (Or.inr (by assumption)) | exact Or.inl (by simp) | exact Or.inr (Or.inr (by simp (discharger := assumption) only [gup_same, gup_ne, gup_neS, gup_nN, gup_nNS, *]))))); exact SubE.refl))
/- _law_bag: bag -/
abbrev sp__law_bag : USp := sp_bag
abbrev t__law_bag : UTS := t_bag 1801 83
theorem law__law_bag (us : List U) (G : Gp) (Q : UK) (E : UX) (h : sp__law_bag us G Q E) : t__law_bag (endsU Q E) (ustart 3 us) G := law_bag (1801) (83) (by decide) us G Q E h
/- _law_kinds: slots ['_law_e', '_law_rows', '_law_above', '_law_first'] -/
def t__law_kinds : UTS := (tUSeq (tUAsg (tULst (tUCons (tUCall (u2 (isXV xTds xTab)) (tUCons (tUVar 0) (tUCons (tUC (.glo "BadBox")) tUNil))) (tUCons (tUCall (u2 (isXV xTds xTab)) (tUCons (tUVar 0) (tUCons (tUC (.glo "BadName")) tUNil))) tUNil))) (gUName 1))
    (tUSeq (tUDrop (tUBM "list" (onLst extendL) (tUVar 1) (tUCons (tULst (tUCons (tUCall (u2 (isXV xTds xTab)) (tUCons (tUVar 0) (tUCons (tUC (.glo "BadWorld")) tUNil))) (tUCons (tUCall (u2 (isXV xTds xTab)) (tUCons (tUVar 0) (tUCons (tUC (.glo "BadRow")) tUNil))) tUNil))) tUNil)))
    (tUSeq (tUDrop (tUBM "list" (onLst extendL) (tUVar 1) (tUCons (tULst (tUCons (tUCall (u2 (isXV xTds xTab)) (tUCons (tUVar 0) (tUCons (tUC (.glo "BadProgram")) tUNil))) (tUCons (tUCall (u2 (isXV xTds xTab)) (tUCons (tUVar 0) (tUCons (tUC (.glo "BadText")) tUNil))) (tUCons (tUCall (u2 (isXV xTds xTab)) (tUCons (tUVar 0) (tUCons (tUC (.glo "TooMany")) tUNil))) tUNil)))) tUNil)))
    (tUSeq (tUDrop (tUBM "list" (onLst extendL) (tUVar 1) (tUCons (tULst (tUCons (tUCall (u2 (isXV xTds xTab)) (tUCons (tUVar 0) (tUCons (tUC (.glo "BadSetting")) tUNil))) (tUCons (tUCall (u2 (isXV xTds xTab)) (tUCons (tUVar 0) (tUCons (tUC (.glo "BadItem")) tUNil))) (tUCons (tUCall (u2 (isXV xTds xTab)) (tUCons (tUVar 0) (tUCons (tUC (.glo "BadCut")) tUNil))) tUNil)))) tUNil)))
    (tUSeq (tUDrop (tUBM "list" (onLst extendL) (tUVar 1) (tUCons (tULst (tUCons (tUCall (u2 (isXV xTds xTab)) (tUCons (tUVar 0) (tUCons (tUC (.glo "BadDealing")) tUNil))) (tUCons (tUCall (u2 (isXV xTds xTab)) (tUCons (tUVar 0) (tUCons (tUC (.glo "NoName")) tUNil))) (tUCons (tUCall (u2 (isXV xTds xTab)) (tUCons (tUVar 0) (tUCons (tUC (.glo "NoWorker")) tUNil))) tUNil)))) tUNil)))
    (tUSeq (tUDrop (tUBM "list" (onLst extendL) (tUVar 1) (tUCons (tULst (tUCons (tUCall (u2 (isXV xTds xTab)) (tUCons (tUVar 0) (tUCons (tUC (.glo "TaskFailed")) tUNil))) (tUCons (tUCall (u2 (isXV xTds xTab)) (tUCons (tUVar 0) (tUCons (tUC (.glo "CannotCross")) tUNil))) (tUCons (tUCall (u2 (isXV xTds xTab)) (tUCons (tUVar 0) (tUCons (tUC (.glo "Closed")) tUNil))) tUNil)))) tUNil)))
    (tUSeq (tUAsg (tULst (tUCons (tUCall (u2 (isXV xTds xTab)) (tUCons (tUVar 0) (tUCons (tUC (.glo "WorkerworldsError")) tUNil))) (tUCons (tUCall (u2 (isXV xTds xTab)) (tUCons (tUVar 0) (tUCons (tUC (.ty "ValueError")) tUNil))) tUNil))) (gUName 2))
    (tUSeq (tUDrop (tUBM "list" (onLst appendL) (tUVar 2) (tUCons (tUCall (u2 (isXV xTds xTab)) (tUCons (tUVar 0) (tUCons (tUC (.ty "LookupError")) tUNil))) tUNil)))
    (tUSeq (tUAsg (tUIfC (tUTest (tUOp inU (tUC (.bl true)) (tUVar 1))) (tUBM "list" (onLst indexB) (tUVar 1) (tUCons (tUC (.bl true)) tUNil)) (tUUn negU (tUC (.int 1)))) (gUName 3))
    (tUSeq (tURet (tUTup (tUCons (tUVar 3) (tUCons (tUBM "list" (onLst countB) (tUVar 1) (tUCons (tUC (.bl true)) tUNil)) (tUCons (tUVar 2) (tUCons (tUCall (u2 (isXV xTds xTab)) (tUCons (tUVar 0) (tUCons (tUC (.ty "RuntimeError")) tUNil))) tUNil))))))
    tUNext))))))))))
/- _law_take: slots ['_law_bag_here', '_law_many', '_law_cell', '_law_added', '_law_digit'] -/
def t__law_take : UTS := (tUSeq (tUIfSC (tUTest (tUOp gtU (tUOp ixU0 (tUVar 0) (tUC (.int 0))) (tUC (.int 0)))) (tUSeq (tUAsg (tUOp modU (tUCall (u1 intV) (tUCons (tUOp ixU0 (tUVar 0) (tUC (.int 0))) tUNil)) (tUVar 1)) (gUName 4))
    (tUSeq (tUAsg (tUOp fdivW (tUOp ixU0 (tUVar 0) (tUC (.int 0))) (tUVar 1)) (gUSub (tUVar 0) (tUC (.int 0)) setU0))
    (tUSeq (tURet (tUVar 4))
    tUNext))) tUNext)
    (tUSeq (tUAsg (tUOp addU (tUOp ixU0 (tUVar 0) (tUC (.int 2))) (tUC (.int 1))) (gUSub (tUVar 0) (tUC (.int 2)) setU0))
    (tUSeq (tUAsg (tUIfC (tUTest (tUOp neU (tUOp ixU0 (tUVar 0) (tUC (.int 3))) (tULst tUNil))) (tUOp ixU0 (tUOp ixU0 (tUVar 0) (tUC (.int 3))) (tUOp modU (tUOp ixU0 (tUVar 0) (tUC (.int 2))) (tUCall (u1 lenV) (tUCons (tUOp ixU0 (tUVar 0) (tUC (.int 3))) tUNil)))) (tUC (.int 0))) (gUName 2))
    (tUSeq (tUAsg (tUOp modU (tUCall (u1 intV) (tUCons (tUVar 2) tUNil)) (tUC (.int 2147483179))) (gUName 3))
    (tUSeq (tUAsg (tUOp modU (tUCall (u1 intV) (tUCons (tUOp addU (tUOp addU (tUOp addU (tUOp mulU (tUOp ixU0 (tUVar 0) (tUC (.int 1))) (tUC (.int 40577))) (tUVar 3)) (tUOp mulU (tUC (.int 67)) (tUOp ixU0 (tUVar 0) (tUC (.int 2))))) (tUC (.int 37))) tUNil)) (tUC (.int 2147483179))) (gUSub (tUVar 0) (tUC (.int 1)) setU0))
    (tUSeq (tURet (tUOp modU (tUOp fdivW (tUOp modU (tUCall (u1 intV) (tUCons (tUOp mulU (tUOp fdivW (tUOp ixU0 (tUVar 0) (tUC (.int 1))) (tUC (.int 7))) (tUC (.int 48761))) tUNil)) (tUC (.int 2147483587))) (tUC (.int 32))) (tUVar 1)))
    tUNext))))))
/- _law_value: slots ['_law_bag_here', '_law_way', '_law_number'] -/
def t__law_value : UTS := (tUSeq (tUPar [1, 2] (tUCons (tUDef sp__law_take 2 0 [.p 0, .p 1] [] [] (tUCons (tUVar 0) (tUCons (tUC (.int 8)) tUNil)) tUNil) (tUCons (tUOp subU (tUDef sp__law_take 2 0 [.p 0, .p 1] [] [] (tUCons (tUVar 0) (tUCons (tUOp powU (tUC (.int 10)) (tUC (.int 29))) tUNil)) tUNil) (tUDef sp__law_take 2 0 [.p 0, .p 1] [] [] (tUCons (tUVar 0) (tUCons (tUOp powU (tUC (.int 10)) (tUC (.int 29))) tUNil)) tUNil)) tUNil)))
    (tUSeq (tUIfSC (tUTest (tUOp ltU (tUVar 1) (tUC (.int 4)))) (tUSeq (tURet (tUOp ixU0 (tULst (tUCons (tUC .non) (tUCons (tUC (.bl true)) (tUCons (tUC (.bl false)) (tUCons (tUC (.str [])) tUNil))))) (tUVar 1)))
    tUNext) tUNext)
    (tUSeq (tUIfSC (tUTest (tUOp eqU (tUVar 1) (tUC (.int 4)))) (tUSeq (tURet (tUVar 2))
    tUNext) tUNext)
    (tUSeq (tUIfSC (tUTest (tUOp eqU (tUVar 1) (tUC (.int 5)))) (tUSeq (tURet (tULst (tUCons (tUVar 2) (tUCons (tUC (.str [97, 98])) (tUCons (tULst (tUCons (tUC (.bl true)) (tUCons (tUC (.int 1)) tUNil))) tUNil)))))
    tUNext) tUNext)
    (tUSeq (tUIfSC (tUTest (tUOp eqU (tUVar 1) (tUC (.int 6)))) (tUSeq (tURet (tUTup (tUCons (tUVar 2) (tUCons (tUTup tUNil) (tUCons (tUTup (tUCons (tUC (.str [97])) (tUCons (tUC .non) tUNil))) tUNil)))))
    tUNext) tUNext)
    (tUSeq (tURet (tUOp addU (tUOp mulS (tUC (.str [97])) (tUDef sp__law_take 2 0 [.p 0, .p 1] [] [] (tUCons (tUVar 0) (tUCons (tUC (.int 30)) tUNil)) tUNil)) (tUC (.str [32, 123, 125]))))
    tUNext))))))
/- _law_are_right: slots ['_law_one', '_law_other', '_law_third', '_law_some', '_law_a', '_law_b', '_law_c', '_law_d', '_law_f', '_law_g', '_law_h', '_law_p', '_law_q', '_law_r', '_law_s', '_law_k', '_law_e', '_law_t', '_law_u', '_law_v', '_law_w', '_law_x', '_law_base'] -/
def t__law_are_right : UTS := (tUSeq (tUAsg (tUTup (tUCons (tUXmk "BadBox" ["contents"] 2 0 [.p 1] (tUCons (tUVar 0) tUNil) tUNil) (tUCons (tUXmk "BadName" ["name"] 2 0 [.p 1] (tUCons (tUVar 0) tUNil) tUNil) (tUCons (tUXmk "BadWorld" ["at"] 2 0 [.p 1] (tUCons (tUVar 0) tUNil) tUNil) (tUCons (tUXmk "BadRow" ["row"] 2 0 [.p 1] (tUCons (tUVar 0) tUNil) tUNil) tUNil))))) (gUTup 4 (gUCons (gUName 4) (gUCons (gUName 5) (gUCons (gUName 6) (gUCons (gUName 7) gUNil))))))
    (tUSeq (tUAsg (tUTup (tUCons (tUXmk "BadText" ["at"] 2 0 [.p 1] (tUCons (tUVar 0) tUNil) tUNil) (tUCons (tUXmk "TooMany" ["what"] 2 0 [.p 1] (tUCons (tUVar 0) tUNil) tUNil) (tUCons (tUXmk "BadSetting" ["what"] 1 1 [.k 0] tUNil (tUCons (tUVar 0) tUNil)) (tUCons (tUXmk "BadItem" ["at"] 2 0 [.p 1] (tUCons (tUVar 0) tUNil) tUNil) tUNil))))) (gUTup 4 (gUCons (gUName 8) (gUCons (gUName 9) (gUCons (gUName 10) (gUCons (gUName 11) gUNil))))))
    (tUSeq (tUPar [12, 13, 14] (tUCons (tUXmk "BadCut" ["at"] 2 0 [.p 1] (tUCons (tUVar 0) tUNil) tUNil) (tUCons (tUXmk "BadDealing" ["at"] 2 0 [.p 1] (tUCons (tUVar 0) tUNil) tUNil) (tUCons (tUXmk "BadProgram" ["part", "at"] 3 0 [.p 1, .p 2] (tUCons (tUVar 0) (tUCons (tUVar 1) tUNil)) tUNil) tUNil))))
    (tUSeq (tUIfSC (tUTest (tUOp neP (tUCall (u1 reprA) (tUCons (tULst (tUCons (tUXv ["BadBox"] "contents" (tUVar 4)) (tUCons (tUXv ["BadName", "NoName"] "name" (tUVar 5)) (tUCons (tUXv ["BadWorld", "BadProgram", "BadText", "BadItem", "BadCut", "BadDealing", "TaskFailed", "CannotCross"] "at" (tUVar 6)) (tUCons (tUXv ["BadRow"] "row" (tUVar 7)) (tUCons (tUXv ["BadWorld", "BadProgram", "BadText", "BadItem", "BadCut", "BadDealing", "TaskFailed", "CannotCross"] "at" (tUVar 8)) tUNil)))))) tUNil)) (tUCall (u1 reprA) (tUCons (tUOp mulU (tULst (tUCons (tUVar 0) tUNil)) (tUC (.int 5))) tUNil)))) (tUSeq (tURet (tUC (.bl false)))
    tUNext) tUNext)
    (tUSeq (tUIfSC (tUTest (tUOp neP (tUCall (u1 reprA) (tUCons (tULst (tUCons (tUXv ["TooMany", "BadSetting", "CannotCross"] "what" (tUVar 9)) (tUCons (tUXv ["TooMany", "BadSetting", "CannotCross"] "what" (tUVar 10)) (tUCons (tUXv ["BadWorld", "BadProgram", "BadText", "BadItem", "BadCut", "BadDealing", "TaskFailed", "CannotCross"] "at" (tUVar 11)) (tUCons (tUXv ["BadWorld", "BadProgram", "BadText", "BadItem", "BadCut", "BadDealing", "TaskFailed", "CannotCross"] "at" (tUVar 12)) (tUCons (tUXv ["BadWorld", "BadProgram", "BadText", "BadItem", "BadCut", "BadDealing", "TaskFailed", "CannotCross"] "at" (tUVar 13)) tUNil)))))) tUNil)) (tUCall (u1 reprA) (tUCons (tUOp mulU (tULst (tUCons (tUVar 0) tUNil)) (tUC (.int 5))) tUNil)))) (tUSeq (tURet (tUC (.bl false)))
    tUNext) tUNext)
    (tUSeq (tUIfSC (tUTest (tUOp neP (tUCall (u1 reprA) (tUCons (tULst (tUCons (tUXv ["BadProgram"] "part" (tUVar 14)) (tUCons (tUXv ["BadWorld", "BadProgram", "BadText", "BadItem", "BadCut", "BadDealing", "TaskFailed", "CannotCross"] "at" (tUVar 14)) tUNil))) tUNil)) (tUCall (u1 reprA) (tUCons (tULst (tUCons (tUVar 0) (tUCons (tUVar 1) tUNil))) tUNil)))) (tUSeq (tURet (tUC (.bl false)))
    tUNext) tUNext)
    (tUSeq (tUAsg (tULst (tUCons (tUVar 4) (tUCons (tUVar 5) (tUCons (tUVar 6) (tUCons (tUVar 7) (tUCons (tUVar 14) tUNil)))))) (gUName 3))
    (tUSeq (tUDrop (tUBM "list" (onLst extendL) (tUVar 3) (tUCons (tULst (tUCons (tUVar 8) (tUCons (tUVar 9) (tUCons (tUVar 10) (tUCons (tUVar 11) (tUCons (tUVar 12) (tUCons (tUVar 13) tUNil))))))) tUNil)))
    (tUSeq (tUFor (tIEnumT (tUVar 3)) (gUTup 2 (gUCons (gUName 15) (gUCons (gUName 16) gUNil))) (tUSeq (tUIfSC (tUTest (tUOp neP (tUDef sp__law_kinds 1 0 [.p 0] [] [] (tUCons (tUVar 16) tUNil) tUNil) (tUTup (tUCons (tUVar 15) (tUCons (tUC (.int 1)) (tUCons (tULst (tUCons (tUC (.bl true)) (tUCons (tUC (.bl true)) (tUCons (tUC (.bl false)) tUNil)))) (tUCons (tUC (.bl false)) tUNil))))))) (tUSeq (tURet (tUC (.bl false)))
    tUNext) tUNext)
    tUNext))
    (tUSeq (tUPar [17, 18, 19] (tUCons (tUXmk "NoName" ["name"] 1 1 [.k 0] tUNil (tUCons (tUVar 0) tUNil)) (tUCons (tUXmk "NoWorker" ["number"] 2 0 [.p 1] (tUCons (tUVar 0) tUNil) tUNil) (tUCons (tUXmk "TaskFailed" ["at", "told", "cause"] 4 0 [.p 1, .p 2, .p 3] (tUCons (tUVar 0) (tUCons (tUVar 1) (tUCons (tUVar 2) tUNil))) tUNil) tUNil))))
    (tUSeq (tUPar [20, 21, 22] (tUCons (tUXmk "CannotCross" ["at", "what"] 3 0 [.p 1, .p 2] (tUCons (tUVar 0) (tUCons (tUVar 1) tUNil)) tUNil) (tUCons (tUXmk0 "Closed") (tUCons (tUXmk0 "WorkerworldsError") tUNil))))
    (tUSeq (tUIfSC (tUTest (tUOp neP (tUCall (u1 reprA) (tUCons (tULst (tUCons (tUXv ["BadName", "NoName"] "name" (tUVar 17)) (tUCons (tUXv ["NoWorker"] "number" (tUVar 18)) (tUCons (tUXv ["BadWorld", "BadProgram", "BadText", "BadItem", "BadCut", "BadDealing", "TaskFailed", "CannotCross"] "at" (tUVar 19)) (tUCons (tUXv ["TaskFailed"] "told" (tUVar 19)) (tUCons (tUXv ["TaskFailed"] "cause" (tUVar 19)) tUNil)))))) tUNil)) (tUCall (u1 reprA) (tUCons (tULst (tUCons (tUVar 0) (tUCons (tUVar 0) (tUCons (tUVar 0) (tUCons (tUVar 1) (tUCons (tUVar 2) tUNil)))))) tUNil)))) (tUSeq (tURet (tUC (.bl false)))
    tUNext) tUNext)
    (tUSeq (tUIfSC (tUTest (tUOp neP (tUCall (u1 reprA) (tUCons (tULst (tUCons (tUXv ["BadWorld", "BadProgram", "BadText", "BadItem", "BadCut", "BadDealing", "TaskFailed", "CannotCross"] "at" (tUVar 20)) (tUCons (tUXv ["TooMany", "BadSetting", "CannotCross"] "what" (tUVar 20)) tUNil))) tUNil)) (tUCall (u1 reprA) (tUCons (tULst (tUCons (tUVar 0) (tUCons (tUVar 1) tUNil))) tUNil)))) (tUSeq (tURet (tUC (.bl false)))
    tUNext) tUNext)
    (tUSeq (tUIfSC (tUTest (tUOp neP (tUDef sp__law_kinds 1 0 [.p 0] [] [] (tUCons (tUVar 22) tUNil) tUNil) (tUTup (tUCons (tUUn negU (tUC (.int 1))) (tUCons (tUC (.int 0)) (tUCons (tULst (tUCons (tUC (.bl true)) (tUCons (tUC (.bl true)) (tUCons (tUC (.bl false)) tUNil)))) (tUCons (tUC (.bl false)) tUNil))))))) (tUSeq (tURet (tUC (.bl false)))
    tUNext) tUNext)
    (tUSeq (tUIfSC (tUTest (tUOp neP (tUDef sp__law_kinds 1 0 [.p 0] [] [] (tUCons (tUVar 17) tUNil) tUNil) (tUTup (tUCons (tUC (.int 11)) (tUCons (tUC (.int 1)) (tUCons (tULst (tUCons (tUC (.bl false)) (tUCons (tUC (.bl false)) (tUCons (tUC (.bl true)) tUNil)))) (tUCons (tUC (.bl false)) tUNil))))))) (tUSeq (tURet (tUC (.bl false)))
    tUNext) tUNext)
    (tUSeq (tUIfSC (tUTest (tUOp neP (tUDef sp__law_kinds 1 0 [.p 0] [] [] (tUCons (tUVar 18) tUNil) tUNil) (tUTup (tUCons (tUC (.int 12)) (tUCons (tUC (.int 1)) (tUCons (tULst (tUCons (tUC (.bl false)) (tUCons (tUC (.bl false)) (tUCons (tUC (.bl true)) tUNil)))) (tUCons (tUC (.bl false)) tUNil))))))) (tUSeq (tURet (tUC (.bl false)))
    tUNext) tUNext)
    (tUSeq (tUIfSC (tUTest (tUOp neP (tUDef sp__law_kinds 1 0 [.p 0] [] [] (tUCons (tUVar 19) tUNil) tUNil) (tUTup (tUCons (tUC (.int 13)) (tUCons (tUC (.int 1)) (tUCons (tUOp mulU (tULst (tUCons (tUC (.bl false)) tUNil)) (tUC (.int 3))) (tUCons (tUC (.bl true)) tUNil))))))) (tUSeq (tURet (tUC (.bl false)))
    tUNext) tUNext)
    (tUSeq (tUIfSC (tUTest (tUOp neP (tUDef sp__law_kinds 1 0 [.p 0] [] [] (tUCons (tUVar 20) tUNil) tUNil) (tUTup (tUCons (tUC (.int 14)) (tUCons (tUC (.int 1)) (tUCons (tUOp mulU (tULst (tUCons (tUC (.bl false)) tUNil)) (tUC (.int 3))) (tUCons (tUC (.bl true)) tUNil))))))) (tUSeq (tURet (tUC (.bl false)))
    tUNext) tUNext)
    (tUSeq (tURet (tUOp eqP (tUDef sp__law_kinds 1 0 [.p 0] [] [] (tUCons (tUVar 21) tUNil) tUNil) (tUTup (tUCons (tUC (.int 15)) (tUCons (tUC (.int 1)) (tUCons (tUOp mulU (tULst (tUCons (tUC (.bl false)) tUNil)) (tUC (.int 3))) (tUCons (tUC (.bl true)) tUNil)))))))
    tUNext)))))))))))))))))))
/- law: slots ['_law_script', '_law_at', '_law_bag_here', '_law_one', '_law_other'] -/
def t_law : UTS := (tUSeq (tUFor (tIRng1 (tUCall (u2 maxV) (tUCons (tUC (.int 1)) (tUCons (tUCall (u2 minV) (tUCons (tUC (.int 20)) (tUCons (tUCall (u1 lenV) (tUCons (tUVar 0) tUNil)) tUNil))) tUNil)))) (gUName 1) (tUSeq (tUAsg (tUDef sp__law_bag 2 0 [.p 0, .p 1] [] [] (tUCons (tUVar 0) (tUCons (tUVar 1) tUNil)) tUNil) (gUName 2))
    (tUSeq (tUPar [3, 4] (tUCons (tUDef sp__law_value 1 0 [.p 0] [] [] (tUCons (tUVar 2) tUNil) tUNil) (tUCons (tUDef sp__law_value 1 0 [.p 0] [] [] (tUCons (tUVar 2) tUNil) tUNil) tUNil)))
    (tUSeq (tUIfSC (tUNot (tUTru (fun u G Q _ => truU u G Q) (tUDef sp__law_are_right 3 0 [.p 0, .p 1, .p 2] [] [] (tUCons (tUVar 3) (tUCons (tUVar 4) (tUCons (tUDef sp__law_value 1 0 [.p 0] [] [] (tUCons (tUVar 2) tUNil) tUNil) tUNil))) tUNil))) (tUSeq (tURet (tUC (.bl false)))
    tUNext) tUNext)
    tUNext))))
    (tUSeq (tURet (tUC (.bl true)))
    tUNext))
theorem sub0 {G G2 : Gp} (s : Sub G G2) {a : Addr} (h : G2 a = none) : G a = none := by
  cases g : G a with
  | none => rfl
  | some o => rw [s a o g] at h; cases h
theorem one_new {G G1 : Gp} {a : Addr} (s : Sub G G1) (ha : G1 a = none) (o : Ob) : ∃ G2, G2 = gup G1 a o ∧ Sub G G2 ∧ Sub G1 G2 ∧ G2 a = some o := ⟨_, rfl, s.dropO ha, Sub.drop ha, gup_same⟩
theorem one_set {G G1 : Gp} {a : Addr} (s : Sub G G1) (ha : G a = none) (o : Ob) : ∃ G2, G2 = gup G1 a o ∧ Sub G G2 ∧ (∀ b, b ≠ a → G2 b = G1 b) ∧ G2 a = some o :=
  ⟨_, rfl, fun b u g => (gup_ne fun e => by rw [e, ha] at g; cases g).trans (s b u g), fun b h => gup_ne h, gup_same⟩
theorem law__law_kinds (us : List U) (G : Gp) (Q : UK) (E : UX) (h : sp__law_kinds us G Q E) : t__law_kinds (endsU Q E) (ustart 4 us) G := by
  unfold sp__law_kinds at h
  split at h
  · rename_i a
    obtain ⟨c, fs, g, hc, q⟩ := h
    have m0 : TD.o "BadBox" ∈ xTds := by decide
    have m1 : TD.o "BadName" ∈ xTds := by decide
    have m2 : TD.o "BadWorld" ∈ xTds := by decide
    have m3 : TD.o "BadRow" ∈ xTds := by decide
    have m4 : TD.o "BadProgram" ∈ xTds := by decide
    have m5 : TD.o "BadText" ∈ xTds := by decide
    have m6 : TD.o "TooMany" ∈ xTds := by decide
    have m7 : TD.o "BadSetting" ∈ xTds := by decide
    have m8 : TD.o "BadItem" ∈ xTds := by decide
    have m9 : TD.o "BadCut" ∈ xTds := by decide
    have m10 : TD.o "BadDealing" ∈ xTds := by decide
    have m11 : TD.o "NoName" ∈ xTds := by decide
    have m12 : TD.o "NoWorker" ∈ xTds := by decide
    have m13 : TD.o "TaskFailed" ∈ xTds := by decide
    have m14 : TD.o "CannotCross" ∈ xTds := by decide
    have m15 : TD.o "Closed" ∈ xTds := by decide
    have m16 : TD.o "WorkerworldsError" ∈ xTds := by decide
    have m17 : TD.b "ValueError" ∈ xTds := by decide
    have m18 : TD.b "LookupError" ∈ xTds := by decide
    have m19 : TD.b "RuntimeError" ∈ xTds := by decide
    simp_arith [t__law_kinds, g]
    intro r1 h1
    have r0 := h1
    obtain ⟨G1, e, S1, u, gr⟩ := one_new (Sub.refl G) h1 (.lst [.bl (kb c (.o "BadBox")), .bl (kb c (.o "BadName"))])
    rw [← e]
    clear e u
    have ga := S1 _ _ g
    simp_arith [ga]
    intro r2 h2
    obtain ⟨G2, e, S2, u, gk⟩ := one_new S1 h2 (.lst [.bl (kb c (.o "BadWorld")), .bl (kb c (.o "BadRow"))])
    rw [← e]
    have gr := u _ _ gr
    have ga := u _ _ ga
    clear e u
    simp_arith [gr, gk]
    obtain ⟨H2, e, S2, u, gr⟩ := one_set S2 r0 (.lst [.bl (kb c (.o "BadBox")), .bl (kb c (.o "BadName")), .bl (kb c (.o "BadWorld")), .bl (kb c (.o "BadRow"))])
    rw [← e]
    clear e
    have ga : H2 a = _ := S2 _ _ g
    clear u gk
    simp_arith [ga]
    intro r3 h3
    obtain ⟨G3, e, S3, u, gk⟩ := one_new S2 h3 (.lst [.bl (kb c (.o "BadProgram")), .bl (kb c (.o "BadText")), .bl (kb c (.o "TooMany"))])
    rw [← e]
    have gr := u _ _ gr
    have ga := u _ _ ga
    clear e u
    simp_arith [gr, gk]
    obtain ⟨H3, e, S3, u, gr⟩ := one_set S3 r0 (.lst [.bl (kb c (.o "BadBox")), .bl (kb c (.o "BadName")), .bl (kb c (.o "BadWorld")), .bl (kb c (.o "BadRow")), .bl (kb c (.o "BadProgram")), .bl (kb c (.o "BadText")), .bl (kb c (.o "TooMany"))])
    rw [← e]
    clear e
    have ga : H3 a = _ := S3 _ _ g
    clear u gk
    simp_arith [ga]
    intro r4 h4
    obtain ⟨G4, e, S4, u, gk⟩ := one_new S3 h4 (.lst [.bl (kb c (.o "BadSetting")), .bl (kb c (.o "BadItem")), .bl (kb c (.o "BadCut"))])
    rw [← e]
    have gr := u _ _ gr
    have ga := u _ _ ga
    clear e u
    simp_arith [gr, gk]
    obtain ⟨H4, e, S4, u, gr⟩ := one_set S4 r0 (.lst [.bl (kb c (.o "BadBox")), .bl (kb c (.o "BadName")), .bl (kb c (.o "BadWorld")), .bl (kb c (.o "BadRow")), .bl (kb c (.o "BadProgram")), .bl (kb c (.o "BadText")), .bl (kb c (.o "TooMany")), .bl (kb c (.o "BadSetting")), .bl (kb c (.o "BadItem")), .bl (kb c (.o "BadCut"))])
    rw [← e]
    clear e
    have ga : H4 a = _ := S4 _ _ g
    clear u gk
    simp_arith [ga]
    intro r5 h5
    obtain ⟨G5, e, S5, u, gk⟩ := one_new S4 h5 (.lst [.bl (kb c (.o "BadDealing")), .bl (kb c (.o "NoName")), .bl (kb c (.o "NoWorker"))])
    rw [← e]
    have gr := u _ _ gr
    have ga := u _ _ ga
    clear e u
    simp_arith [gr, gk]
    obtain ⟨H5, e, S5, u, gr⟩ := one_set S5 r0 (.lst [.bl (kb c (.o "BadBox")), .bl (kb c (.o "BadName")), .bl (kb c (.o "BadWorld")), .bl (kb c (.o "BadRow")), .bl (kb c (.o "BadProgram")), .bl (kb c (.o "BadText")), .bl (kb c (.o "TooMany")), .bl (kb c (.o "BadSetting")), .bl (kb c (.o "BadItem")), .bl (kb c (.o "BadCut")), .bl (kb c (.o "BadDealing")), .bl (kb c (.o "NoName")), .bl (kb c (.o "NoWorker"))])
    rw [← e]
    clear e
    have ga : H5 a = _ := S5 _ _ g
    clear u gk
    simp_arith [ga]
    intro r6 h6
    obtain ⟨G6, e, S6, u, gk⟩ := one_new S5 h6 (.lst [.bl (kb c (.o "TaskFailed")), .bl (kb c (.o "CannotCross")), .bl (kb c (.o "Closed"))])
    rw [← e]
    have gr := u _ _ gr
    have ga := u _ _ ga
    clear e u
    simp_arith [gr, gk]
    obtain ⟨H6, e, S6, u, gr⟩ := one_set S6 r0 (.lst [.bl (kb c (.o "BadBox")), .bl (kb c (.o "BadName")), .bl (kb c (.o "BadWorld")), .bl (kb c (.o "BadRow")), .bl (kb c (.o "BadProgram")), .bl (kb c (.o "BadText")), .bl (kb c (.o "TooMany")), .bl (kb c (.o "BadSetting")), .bl (kb c (.o "BadItem")), .bl (kb c (.o "BadCut")), .bl (kb c (.o "BadDealing")), .bl (kb c (.o "NoName")), .bl (kb c (.o "NoWorker")), .bl (kb c (.o "TaskFailed")), .bl (kb c (.o "CannotCross")), .bl (kb c (.o "Closed"))])
    rw [← e]
    clear e
    have ga : H6 a = _ := S6 _ _ g
    clear u gk
    simp_arith [ga]
    intro r7 h7
    obtain ⟨G7, e, S7, u, gk⟩ := one_new S6 h7 (.lst [.bl (kb c (.o "WorkerworldsError")), .bl (kb c (.b "ValueError"))])
    have r70 := sub0 S6 h7
    have n17 : r1 ≠ r7 := ne_of_known gr h7
    rw [← e]
    have gr := u _ _ gr
    clear e u
    have ga := S7 _ _ g
    simp_arith [ga, gk]
    obtain ⟨G8, e, S8, u, gk⟩ := one_set S7 r70 (.lst [.bl (kb c (.o "WorkerworldsError")), .bl (kb c (.b "ValueError")), .bl (kb c (.b "LookupError"))])
    have gr := (u _ n17).trans gr
    rw [← e]
    clear e u
    have ga := S8 _ _ g
    have gr : G8 r1 = some (.lst ((rowsX c).map U.bl)) := gr
    have l16 : (rowsX c).length ≤ 1000 := by simp [rowsX, own16]
    refine in_bls gr ?_
    simp_arith []
    refine dcond2 (fun hm => ?_) fun hm => ?_
    · have hf : firstX c = ((rowsX c).idxOf true : Nat) := if_pos hm
      simp_arith [gr, ga]
      refine ⟨rowsX c, rfl, l16, hm, rowsX c, rfl, l16, ?_⟩
      rw [← hf]
      exact .now (q r7 _ S8 r70 gk)
    · have hf : firstX c = -1 := if_neg hm
      simp_arith [gr, ga]
      refine ⟨rowsX c, rfl, l16, ?_⟩
      rw [← hf]
      exact .now (q r7 _ S8 r70 gk)
  · exact h.elim
theorem law__law_take (us : List U) (G : Gp) (Q : UK) (E : UX) (h : sp__law_take us G Q E) : t__law_take (endsU Q E) (ustart 5 us) G := by
  unfold sp__law_take at h
  split at h
  · rename_i p m
    obtain ⟨⟨m0, m1⟩, c, a, n, q, hp, h⟩ := h
    rw [← lst_ex] at h
    obtain ⟨_, hq, ⟨ms, rfl⟩, hne, q'⟩ := h
    have em : ∀ i : Int, 0 ≤ i % m := fun i => Int.emod_nonneg i (by omega)
    have lm : ∀ i : Int, i % m < m := fun i => Int.emod_lt_of_pos i m0
    have h0 : (0 : Int) < 2147483179 := by decide
    have h2 : (0 : Int) < 2147483587 := by decide
    have h3 : (7 : Int) < 10 ^ 40 := by decide
    have h4 : (32 : Int) < 10 ^ 40 := by decide
    have h5 : -(2 ^ 64) < (40577 : Int) ∧ (40577 : Int) < 2 ^ 64 := by decide
    have h6 : -(2 ^ 64) < (67 : Int) ∧ (67 : Int) < 2 ^ 64 := by decide
    have h7 : -(2 ^ 64) < (48761 : Int) ∧ (48761 : Int) < 2 ^ 64 := by decide
    simp_arith [t__law_take, hp, m0, m1]
    refine scond2 (fun h => ?_) fun h => ?_
    · simp_arith [hp, m0, m1, ixN]
      exact .now (q' _ _ _ _ (em _) (lm _))
    · simp_arith [hp, hq, ixN]
      intro r hr
      obtain ⟨r1, r2⟩ := gup_none hr
      have hqr : q ≠ r := ne_of_known hq r2
      have hpr : p ≠ r := Ne.symm r1
      refine ne_lists (ns := ms) (ms := []) (by simp_arith [hq]) (by simp_arith []; rfl) ?_
      simp_arith []
      refine condM (fun u G' => G' = gup G p (bagO c a (n + 1) q) ∧ ∃ z, u = .int z) (fun h => ?_) (fun h => ?_) ?_
      · have hl : (0 : Int) < (IntU ms).length := by
          rw [intU_len]
          have : ms ≠ [] := by simpa using h
          have := List.length_pos_iff.mpr this
          omega
        obtain ⟨z, _, hz⟩ := intU_at (ns := ms) (i := (n + 1) % ((IntU ms).length : Int)) (Int.emod_nonneg _ (by omega)) (by rw [← intU_len]; exact Int.emod_lt_of_pos _ hl)
        simp_arith [hq, hl, hz]
        exact ⟨_, Sub.drop hr, rfl, _, rfl⟩
      · simp_arith []
        exact ⟨_, Sub.drop hr, rfl, _, rfl⟩
      · rintro u G' ⟨rfl, z, rfl⟩
        simp_arith [ixN, h0, h2, h3, h4, cmul_l h5, cmul_r h6, cmul_r h7, m0]
        exact ⟨cmul_r h5, cmul_l h6, .now (q' _ _ _ _ (em _) (lm _))⟩
  · exact h.elim
theorem int_val {i : Int} (h : i.natAbs < 10 ^ 30) : (PyData.int i).showable = true ∧ (PyData.int i).leavesShort 60 = true ∧ (PyData.int i).weight ≤ 101 := by
  have hl : i.natAbs.log2 < 100 := PySem.Flt.log2_lt_of (by decide) (Nat.lt_of_lt_of_le h (by decide +kernel))
  refine ⟨?_, ?_, ?_⟩
  · simp only [PyData.showable, decide_eq_true_eq]
    omega
  · have := PySem.int_text_length_le10 (k := 30) (by decide) h
    simp only [PyData.leavesShort, decide_eq_true_eq, PyData.shown_int]
    rw [PySem.ofString_length]
    omega
  · simp only [PyData.weight]
    split <;> omega
theorem val_lit {G : Gp} {u : U} {d : PyData} (D : Dat G u d) (h : (d.showable && (decide (d.depth ≤ 3) && (d.leavesShort 60 && decide (d.weight ≤ 1000)))) = true) : Val G u := by
  simp only [Bool.and_eq_true, decide_eq_true_eq] at h
  exact ⟨d, D, h.1, h.2.1, h.2.2.1, h.2.2.2⟩
theorem hide_ne {p a : Addr} {G : Gp} (h : a ≠ p) : hide p G a = G a := if_neg h
theorem hide_le {p : Addr} {G : Gp} : Sub (hide p G) G := fun a o h => by
  unfold hide at h
  split at h
  · cases h
  · exact h
theorem hide_keep {p : Addr} {G G2 : Gp} (k : Keep p G G2) : Sub (hide p G) (hide p G2) := fun a o h => by
  unfold hide at h ⊢
  split at h
  · cases h
  · rename_i n
    rw [if_neg n]
    exact k a o n h
theorem Val.sub {G G2 : Gp} {u : U} (h : Val G u) (k : Sub G G2) : Val G2 u := by
  obtain ⟨d, h1, h2⟩ := h
  exact ⟨d, dat_new k h1, h2⟩
theorem law__law_value (us : List U) (G : Gp) (Q : UK) (E : UX) (h : sp__law_value us G Q E) : t__law_value (endsU Q E) (ustart 3 us) G := by
  unfold sp__law_value at h
  split at h
  · rename_i p
    obtain ⟨c, a, n, q, ms, hp, hq, hne, k⟩ := bag_of h
    clear h
    have cp : CPow 10 29 := ⟨by decide, by decide, by decide⟩
    have p8 : (8 : Int) < 10 ^ 40 := by decide
    have pA : (0 : Int) < 10 ^ 29 := by decide
    have pB : (10 : Int) ^ 29 < 10 ^ 40 := by decide
    have pC : (30 : Int) < 10 ^ 40 := by decide
    simp_arith [t__law_value, hp, hq, hne, cp, p8, pA, pB]
    intro w c a n w0 w1 x c a n x0 x1 y c a n y0 y1
    have hxy : (x - y).natAbs < 10 ^ 30 := by omega
    obtain ⟨i1, i2, i3⟩ := int_val hxy
    refine dscond2 (fun h => ?_) fun h => ?_
    · intro r hr
      rw [gup_gup]
      have rp := (gup_none hr).1
      have kp : Keep p G (gup (gup G p (bagO c a n q)) r (.lst [.non, .bl true, .bl false, .str []])) := Keep.new (Keep.self Keep.refl) hr
      have gp : gup (gup G p (bagO c a n q)) r (.lst [.non, .bl true, .bl false, .str []]) p = some (bagO c a n q) := (gup_ne (Ne.symm rp)).trans gup_same
      obtain rfl | rfl | rfl | rfl : w = 0 ∨ w = 1 ∨ w = 2 ∨ w = 3 := by omega
      · exact .now (k _ _ _ _ _ (val_lit .non (by decide +kernel)) gp kp)
      · exact .now (k _ _ _ _ _ (val_lit (.bl _) (by decide +kernel)) gp kp)
      · exact .now (k _ _ _ _ _ (val_lit (.bl _) (by decide +kernel)) gp kp)
      · exact .now (k _ _ _ _ _ (val_lit (.str _) (by decide +kernel)) gp kp)
    simp_arith []
    refine dscond2 (fun h4 => ?_) fun h4 => ?_
    · simp_arith []
      exact .now (k _ _ _ _ _ ⟨_, .int _, i1, by simp [PyData.depth], i2, by omega⟩ gup_same (Keep.self Keep.refl))
    simp_arith []
    refine dscond2 (fun h5 => ?_) fun h5 => ?_
    · simp_arith []
      intro r1 h1 r2 h2
      have m1 := h1
      have m2 := h2
      obtain ⟨r1p, h1⟩ := gup_none h1
      obtain ⟨r21, h2⟩ := gup_none h2
      obtain ⟨r2p, h2⟩ := gup_none h2
      refine .now (k _ _ _ _ _ ⟨_, .lst (us := [.int (x - y), .str [97, 98], .ref r1]) (by rw [hide_ne r2p]; exact gup_same) (.cons (.int _) (.cons (.str _) (.cons (.lst (us := [.bl true, .int 1]) (by rw [hide_ne r1p, gup_ne (Ne.symm r21)]; exact gup_same) (.cons (.bl _) (.cons (.int _) .nil))) .nil))), ?_, ?_, ?_, ?_⟩ ((gup_ne (Ne.symm r2p)).trans ((gup_ne (Ne.symm r1p)).trans gup_same)) (Keep.new (Keep.new (Keep.self Keep.refl) m1) m2))
      · rw [PyData.showable, PyData.showableAll, i1]; decide +kernel
      · simp [PyData.depth, PyData.depthAll]
      · rw [PyData.leavesShort, PyData.leavesShortAll, i2]; decide +kernel
      · rw [PyData.weight, PyData.weightAll]
        refine Nat.le_trans (Nat.add_le_add_right (Nat.add_le_add_right i3 1) _) ?_
        decide +kernel
    simp_arith []
    refine dscond2 (fun h6 => ?_) fun h6 => ?_
    · simp_arith []
      refine .now (k _ _ _ _ _ ⟨_, .tup (.cons (.int _) (.cons (.tup .nil) (.cons (.tup (.cons (.str _) (.cons .non .nil))) .nil))), ?_, ?_, ?_, ?_⟩ gup_same (Keep.self Keep.refl))
      · rw [PyData.showable, PyData.showableAll, i1]; decide +kernel
      · simp [PyData.depth, PyData.depthAll]
      · rw [PyData.leavesShort, PyData.leavesShortAll, i2]; decide +kernel
      · rw [PyData.weight, PyData.weightAll]
        refine Nat.le_trans (Nat.add_le_add_right (Nat.add_le_add_right i3 1) _) ?_
        decide +kernel
    simp_arith [pC, hq, hne]
    intro r c a n r0 r1
    have hl : (List.replicate r.toNat [97]).flatten = List.replicate r.toNat 97 := by
      induction r.toNat with
      | zero => rfl
      | succ k ih => rw [List.replicate_succ, List.flatten_cons, ih, List.replicate_succ]; rfl
    rw [hl]
    refine ⟨r0, by omega, by rw [List.length_replicate]; omega, .now (k _ _ _ _ _ ⟨_, .str _, by simp [PyData.showable], by simp [PyData.depth], ?_, ?_⟩ gup_same (Keep.self Keep.refl))⟩
    · have : ∀ x ∈ List.replicate r.toNat 97 ++ [32, 123, 125], x < 1114112 := fun x hx => by
        rcases List.mem_append.mp hx with hx | hx
        · rw [(List.mem_replicate.mp hx).2]; decide
        · exact (show ∀ x ∈ [32, 123, 125], x < 1114112 by decide) x hx
      have h3 := low8 this
      simpa [PyData.leavesShort] using h3
    · simp [PyData.weight]
      omega
  · exact h.elim
structure Vdl (G : Gp) (us : List U) (ds : List PyData) : Prop where
  dat : Dats G us ds
  sh : PyData.showableAll ds = true
  dp : PyData.depthAll ds ≤ 3
  lv : PyData.leavesShortAll 60 ds = true
  wt : PyData.weightAll ds ≤ 1001 * us.length
theorem vdl_nil {G : Gp} : Vdl G [] [] := ⟨.nil, by simp [PyData.showableAll], by simp [PyData.depthAll], by simp [PyData.leavesShortAll], by simp [PyData.weightAll]⟩
def Vd (G : Gp) (u : U) (d : PyData) : Prop := Dat G u d ∧ d.showable = true ∧ d.depth ≤ 3 ∧ d.leavesShort 60 = true ∧ d.weight ≤ 1000
theorem vdl_cons {G : Gp} {u : U} {us : List U} {d : PyData} {ds : List PyData} (h : Vd G u d) (t : Vdl G us ds) : Vdl G (u :: us) (d :: ds) := by
  obtain ⟨h1, h2, h3, h4, h5⟩ := h
  obtain ⟨t1, t2, t3, t4, t5⟩ := t
  refine ⟨.cons h1 t1, by rw [PyData.showableAll, h2, t2]; rfl, by rw [PyData.depthAll]; omega, by rw [PyData.leavesShortAll, h4, t4]; rfl, ?_⟩
  rw [PyData.weightAll, List.length_cons]
  omega
theorem Vdl.sub {G G2 : Gp} {us : List U} {ds : List PyData} (h : Vdl G us ds) (s : Sub G G2) : Vdl G2 us ds := ⟨dats_new s h.dat, h.sh, h.dp, h.lv, h.wt⟩
theorem shows_vals {G : Gp} {r : Addr} {us : List U} {ds : List PyData} (g : G r = some (.lst us)) (h : Vdl G us ds) (hl : us.length ≤ 20) : Shows G (.ref r) (.list ds) := by
  obtain ⟨h1, h2, h3, h4, h5⟩ := h
  refine shows_small (.lst g h1) ?_ ?_ ?_ ?_
  · rw [PyData.showable]; exact h2
  · rw [PyData.depth]; omega
  · rw [PyData.leavesShort]; exact h4
  · rw [PyData.weight]; omega
structure Kd (c : String) (i : Int) (n : Nat) (a1 a2 a3 b : Bool) : Prop where
  k : isK c
  f : firstX c = i
  n : (rowsX c).count true = n
  ab : (aboveX c).map U.bl = [.bl a1, .bl a2, .bl a3]
  rt : kb c (.b "RuntimeError") = b
theorem kd_BadBox : Kd "BadBox" 0 1 true true false false := ⟨by unfold isK; decide +kernel, by decide +kernel, by decide +kernel, by rw [show aboveX "BadBox" = [true, true, false] by decide +kernel]; rfl, by decide +kernel⟩
theorem kd_BadName : Kd "BadName" 1 1 true true false false := ⟨by unfold isK; decide +kernel, by decide +kernel, by decide +kernel, by rw [show aboveX "BadName" = [true, true, false] by decide +kernel]; rfl, by decide +kernel⟩
theorem kd_BadWorld : Kd "BadWorld" 2 1 true true false false := ⟨by unfold isK; decide +kernel, by decide +kernel, by decide +kernel, by rw [show aboveX "BadWorld" = [true, true, false] by decide +kernel]; rfl, by decide +kernel⟩
theorem kd_BadRow : Kd "BadRow" 3 1 true true false false := ⟨by unfold isK; decide +kernel, by decide +kernel, by decide +kernel, by rw [show aboveX "BadRow" = [true, true, false] by decide +kernel]; rfl, by decide +kernel⟩
theorem kd_BadProgram : Kd "BadProgram" 4 1 true true false false := ⟨by unfold isK; decide +kernel, by decide +kernel, by decide +kernel, by rw [show aboveX "BadProgram" = [true, true, false] by decide +kernel]; rfl, by decide +kernel⟩
theorem kd_BadText : Kd "BadText" 5 1 true true false false := ⟨by unfold isK; decide +kernel, by decide +kernel, by decide +kernel, by rw [show aboveX "BadText" = [true, true, false] by decide +kernel]; rfl, by decide +kernel⟩
theorem kd_TooMany : Kd "TooMany" 6 1 true true false false := ⟨by unfold isK; decide +kernel, by decide +kernel, by decide +kernel, by rw [show aboveX "TooMany" = [true, true, false] by decide +kernel]; rfl, by decide +kernel⟩
theorem kd_BadSetting : Kd "BadSetting" 7 1 true true false false := ⟨by unfold isK; decide +kernel, by decide +kernel, by decide +kernel, by rw [show aboveX "BadSetting" = [true, true, false] by decide +kernel]; rfl, by decide +kernel⟩
theorem kd_BadItem : Kd "BadItem" 8 1 true true false false := ⟨by unfold isK; decide +kernel, by decide +kernel, by decide +kernel, by rw [show aboveX "BadItem" = [true, true, false] by decide +kernel]; rfl, by decide +kernel⟩
theorem kd_BadCut : Kd "BadCut" 9 1 true true false false := ⟨by unfold isK; decide +kernel, by decide +kernel, by decide +kernel, by rw [show aboveX "BadCut" = [true, true, false] by decide +kernel]; rfl, by decide +kernel⟩
theorem kd_BadDealing : Kd "BadDealing" 10 1 true true false false := ⟨by unfold isK; decide +kernel, by decide +kernel, by decide +kernel, by rw [show aboveX "BadDealing" = [true, true, false] by decide +kernel]; rfl, by decide +kernel⟩
theorem kd_WorkerworldsError : Kd "WorkerworldsError" (-1) 0 true true false false := ⟨by unfold isK; decide +kernel, by decide +kernel, by decide +kernel, by rw [show aboveX "WorkerworldsError" = [true, true, false] by decide +kernel]; rfl, by decide +kernel⟩
theorem kd_NoName : Kd "NoName" 11 1 false false true false := ⟨by unfold isK; decide +kernel, by decide +kernel, by decide +kernel, by rw [show aboveX "NoName" = [false, false, true] by decide +kernel]; rfl, by decide +kernel⟩
theorem kd_NoWorker : Kd "NoWorker" 12 1 false false true false := ⟨by unfold isK; decide +kernel, by decide +kernel, by decide +kernel, by rw [show aboveX "NoWorker" = [false, false, true] by decide +kernel]; rfl, by decide +kernel⟩
theorem kd_TaskFailed : Kd "TaskFailed" 13 1 false false false true := ⟨by unfold isK; decide +kernel, by decide +kernel, by decide +kernel, by rw [show aboveX "TaskFailed" = [false, false, false] by decide +kernel]; rfl, by decide +kernel⟩
theorem kd_CannotCross : Kd "CannotCross" 14 1 false false false true := ⟨by unfold isK; decide +kernel, by decide +kernel, by decide +kernel, by rw [show aboveX "CannotCross" = [false, false, false] by decide +kernel]; rfl, by decide +kernel⟩
theorem kd_Closed : Kd "Closed" 15 1 false false false true := ⟨by unfold isK; decide +kernel, by decide +kernel, by decide +kernel, by rw [show aboveX "Closed" = [false, false, false] by decide +kernel]; rfl, by decide +kernel⟩
theorem eql_kinds {G : Gp} {K : Bool → Prop} {i j : Int} {a1 a2 a3 b : Bool} {r1 r2 : Addr} (g1 : G r1 = some (.lst [.bl a1, .bl a2, .bl a3])) (g2 : G r2 = some (.lst [.bl a1, .bl a2, .bl a3])) (q : K true) : eqL [.int i, .int j, .ref r1, .bl b] [.int i, .int j, .ref r2, .bl b] G K := by
  refine ⟨[.int i, .int j, .list [.bool a1, .bool a2, .bool a3], .bool b], [.int i, .int j, .list [.bool a1, .bool a2, .bool a3], .bool b], .cons (.int _) (.cons (.int _) (.cons (.lst g1 (.cons (.bl _) (.cons (.bl _) (.cons (.bl _) .nil)))) (.cons (.bl _) .nil))), .cons (.int _) (.cons (.int _) (.cons (.lst g2 (.cons (.bl _) (.cons (.bl _) (.cons (.bl _) .nil)))) (.cons (.bl _) .nil))), by simp [PyData.depthAll, PyData.depth], ?_⟩
  rw [show PyData.eqvAll [.int i, .int j, .list [.bool a1, .bool a2, .bool a3], .bool b] [.int i, .int j, .list [.bool a1, .bool a2, .bool a3], .bool b] = true by simp [PyData.eqvAll, PyData.eqv]]
  exact q
theorem nx_ {α : Type} [DecidableEq α] {a : α} : (!decide (a = a)) = false := by simp
theorem law__law_are_right (us : List U) (G : Gp) (Q : UK) (E : UX) (h : sp__law_are_right us G Q E) : t__law_are_right (endsU Q E) (ustart 23 us) G := by
  unfold sp__law_are_right at h
  split at h
  · rename_i x y z
    obtain ⟨⟨dx, vx⟩, ⟨dy, vy⟩, ⟨dz, vz⟩, q⟩ := h
    have vx : Vd G x dx := vx
    have vy : Vd G y dy := vy
    have vz : Vd G z dz := vz
    have q0 : "BadBox" ∈ ["BadBox"] := by decide
    have q1 : "BadName" ∈ ["BadName", "NoName"] := by decide
    have q2 : "BadWorld" ∈ ["BadWorld", "BadProgram", "BadText", "BadItem", "BadCut", "BadDealing", "TaskFailed", "CannotCross"] := by decide
    have q3 : "BadRow" ∈ ["BadRow"] := by decide
    have q4 : "BadText" ∈ ["BadWorld", "BadProgram", "BadText", "BadItem", "BadCut", "BadDealing", "TaskFailed", "CannotCross"] := by decide
    have q5 : "TooMany" ∈ ["TooMany", "BadSetting", "CannotCross"] := by decide
    have q6 : "BadSetting" ∈ ["TooMany", "BadSetting", "CannotCross"] := by decide
    have q7 : "BadItem" ∈ ["BadWorld", "BadProgram", "BadText", "BadItem", "BadCut", "BadDealing", "TaskFailed", "CannotCross"] := by decide
    have q8 : "BadCut" ∈ ["BadWorld", "BadProgram", "BadText", "BadItem", "BadCut", "BadDealing", "TaskFailed", "CannotCross"] := by decide
    have q9 : "BadDealing" ∈ ["BadWorld", "BadProgram", "BadText", "BadItem", "BadCut", "BadDealing", "TaskFailed", "CannotCross"] := by decide
    have q10 : "BadProgram" ∈ ["BadProgram"] := by decide
    have q11 : "BadProgram" ∈ ["BadWorld", "BadProgram", "BadText", "BadItem", "BadCut", "BadDealing", "TaskFailed", "CannotCross"] := by decide
    have q12 : "NoName" ∈ ["BadName", "NoName"] := by decide
    have q13 : "NoWorker" ∈ ["NoWorker"] := by decide
    have q14 : "TaskFailed" ∈ ["BadWorld", "BadProgram", "BadText", "BadItem", "BadCut", "BadDealing", "TaskFailed", "CannotCross"] := by decide
    have q15 : "TaskFailed" ∈ ["TaskFailed"] := by decide
    have q16 : "CannotCross" ∈ ["BadWorld", "BadProgram", "BadText", "BadItem", "BadCut", "BadDealing", "TaskFailed", "CannotCross"] := by decide
    have q17 : "CannotCross" ∈ ["TooMany", "BadSetting", "CannotCross"] := by decide
    have S0 := Sub.refl G
    simp_arith [t__law_are_right]
    intro a1 h
    obtain ⟨G1, e1, S1, u, ga1⟩ := one_new S0 h (.xcp "BadBox" [("contents", x)])
    try rw [← e1]
    clear h
    have z1 : gup G a1 (Ob.xcp "BadBox" (["contents"].zip (List.map (Src.get U.non [U.ref a1, x] [] [] []) [Src.p 1]))) = G1 := e1.symm
    clear u
    intro a2 h
    obtain ⟨G2, e2, S2, u, ga2⟩ := one_new S1 h (.xcp "BadName" [("name", x)])
    try rw [← e2]
    clear h
    have z2 : gup G1 a2 (Ob.xcp "BadName" (["name"].zip (List.map (Src.get U.non [U.ref a2, x] [] [] []) [Src.p 1]))) = G2 := e2.symm
    have ga1 := u _ _ ga1
    clear u
    intro a3 h
    obtain ⟨G3, e3, S3, u, ga3⟩ := one_new S2 h (.xcp "BadWorld" [("at", x)])
    try rw [← e3]
    clear h
    have z3 : gup G2 a3 (Ob.xcp "BadWorld" (["at"].zip (List.map (Src.get U.non [U.ref a3, x] [] [] []) [Src.p 1]))) = G3 := e3.symm
    have ga1 := u _ _ ga1
    have ga2 := u _ _ ga2
    clear u
    intro a4 h
    obtain ⟨G4, e4, S4, u, ga4⟩ := one_new S3 h (.xcp "BadRow" [("row", x)])
    try rw [← e4]
    clear h
    have z4 : gup G3 a4 (Ob.xcp "BadRow" (["row"].zip (List.map (Src.get U.non [U.ref a4, x] [] [] []) [Src.p 1]))) = G4 := e4.symm
    have ga1 := u _ _ ga1
    have ga2 := u _ _ ga2
    have ga3 := u _ _ ga3
    clear u
    intro a5 h
    obtain ⟨G5, e5, S5, u, ga5⟩ := one_new S4 h (.xcp "BadText" [("at", x)])
    try rw [← e5]
    clear h
    have z5 : gup G4 a5 (Ob.xcp "BadText" (["at"].zip (List.map (Src.get U.non [U.ref a5, x] [] [] []) [Src.p 1]))) = G5 := e5.symm
    have ga1 := u _ _ ga1
    have ga2 := u _ _ ga2
    have ga3 := u _ _ ga3
    have ga4 := u _ _ ga4
    clear u
    intro a6 h
    obtain ⟨G6, e6, S6, u, ga6⟩ := one_new S5 h (.xcp "TooMany" [("what", x)])
    try rw [← e6]
    clear h
    have z6 : gup G5 a6 (Ob.xcp "TooMany" (["what"].zip (List.map (Src.get U.non [U.ref a6, x] [] [] []) [Src.p 1]))) = G6 := e6.symm
    have ga1 := u _ _ ga1
    have ga2 := u _ _ ga2
    have ga3 := u _ _ ga3
    have ga4 := u _ _ ga4
    have ga5 := u _ _ ga5
    clear u
    intro a7 h
    obtain ⟨G7, e7, S7, u, ga7⟩ := one_new S6 h (.xcp "BadSetting" [("what", x)])
    try rw [← e7]
    clear h
    have z7 : gup G6 a7 (Ob.xcp "BadSetting" (["what"].zip (List.map (Src.get U.non [U.ref a7] [x] [] []) [Src.k 0]))) = G7 := e7.symm
    have ga1 := u _ _ ga1
    have ga2 := u _ _ ga2
    have ga3 := u _ _ ga3
    have ga4 := u _ _ ga4
    have ga5 := u _ _ ga5
    have ga6 := u _ _ ga6
    clear u
    intro a8 h
    obtain ⟨G8, e8, S8, u, ga8⟩ := one_new S7 h (.xcp "BadItem" [("at", x)])
    try rw [← e8]
    clear h
    have z8 : gup G7 a8 (Ob.xcp "BadItem" (["at"].zip (List.map (Src.get U.non [U.ref a8, x] [] [] []) [Src.p 1]))) = G8 := e8.symm
    have ga1 := u _ _ ga1
    have ga2 := u _ _ ga2
    have ga3 := u _ _ ga3
    have ga4 := u _ _ ga4
    have ga5 := u _ _ ga5
    have ga6 := u _ _ ga6
    have ga7 := u _ _ ga7
    clear u
    intro a9 h
    obtain ⟨G9, e9, S9, u, ga9⟩ := one_new S8 h (.xcp "BadCut" [("at", x)])
    try rw [← e9]
    clear h
    have z9 : gup G8 a9 (Ob.xcp "BadCut" (["at"].zip (List.map (Src.get U.non [U.ref a9, x] [] [] []) [Src.p 1]))) = G9 := e9.symm
    have ga1 := u _ _ ga1
    have ga2 := u _ _ ga2
    have ga3 := u _ _ ga3
    have ga4 := u _ _ ga4
    have ga5 := u _ _ ga5
    have ga6 := u _ _ ga6
    have ga7 := u _ _ ga7
    have ga8 := u _ _ ga8
    clear u
    intro a10 h
    obtain ⟨G10, e10, S10, u, ga10⟩ := one_new S9 h (.xcp "BadDealing" [("at", x)])
    try rw [← e10]
    clear h
    have z10 : gup G9 a10 (Ob.xcp "BadDealing" (["at"].zip (List.map (Src.get U.non [U.ref a10, x] [] [] []) [Src.p 1]))) = G10 := e10.symm
    have ga1 := u _ _ ga1
    have ga2 := u _ _ ga2
    have ga3 := u _ _ ga3
    have ga4 := u _ _ ga4
    have ga5 := u _ _ ga5
    have ga6 := u _ _ ga6
    have ga7 := u _ _ ga7
    have ga8 := u _ _ ga8
    have ga9 := u _ _ ga9
    clear u
    intro a11 h
    obtain ⟨G11, e11, S11, u, ga11⟩ := one_new S10 h (.xcp "BadProgram" [("part", x), ("at", y)])
    try rw [← e11]
    clear h
    have z11 : gup G10 a11 (Ob.xcp "BadProgram" (["part", "at"].zip (List.map (Src.get U.non [U.ref a11, x, y] [] [] []) [Src.p 1, Src.p 2]))) = G11 := e11.symm
    have ga1 := u _ _ ga1
    have ga2 := u _ _ ga2
    have ga3 := u _ _ ga3
    have ga4 := u _ _ ga4
    have ga5 := u _ _ ga5
    have ga6 := u _ _ ga6
    have ga7 := u _ _ ga7
    have ga8 := u _ _ ga8
    have ga9 := u _ _ ga9
    have ga10 := u _ _ ga10
    clear u
    simp_arith []
    try rw [← e1]
    try rw [z1]
    try rw [← e2]
    try rw [z2]
    try rw [← e3]
    try rw [z3]
    try rw [← e4]
    try rw [z4]
    try rw [← e5]
    try rw [z5]
    try rw [← e6]
    try rw [z6]
    try rw [← e7]
    try rw [z7]
    try rw [← e8]
    try rw [z8]
    try rw [← e9]
    try rw [z9]
    try rw [← e10]
    try rw [z10]
    try rw [← e11]
    try rw [z11]
    clear e1 z1 e2 z2 e3 z3 e4 z4 e5 z5 e6 z6 e7 z7 e8 z8 e9 z9 e10 z10 e11 z11
    simp_arith [ga1, ga2, ga3, ga4, ga5, ga6, ga7, ga8, ga9, ga10, ga11, q0, q1, q2, q3, q4, q5, q6, q7, q8, q9, q10, q11, q12, q13, q14, q15, q16, q17]
    intro r1 h
    obtain ⟨G12, e12, S12, u, gr1⟩ := one_new S11 h (.lst [x, x, x, x, x])
    try rw [← e12]
    clear h
    have ga1 := u _ _ ga1
    have ga2 := u _ _ ga2
    have ga3 := u _ _ ga3
    have ga4 := u _ _ ga4
    have ga5 := u _ _ ga5
    have ga6 := u _ _ ga6
    have ga7 := u _ _ ga7
    have ga8 := u _ _ ga8
    have ga9 := u _ _ ga9
    have ga10 := u _ _ ga10
    have ga11 := u _ _ ga11
    clear u
    try rw [← e12]
    clear e12
    refine ⟨_, shows_vals gr1 (((vdl_cons vx (vdl_cons vx (vdl_cons vx (vdl_cons vx (vdl_cons vx vdl_nil)))))).sub S12) (by simp), ?_⟩
    simp_arith []
    intro r2 h
    obtain ⟨G13, e13, S13, u, gr2⟩ := one_new S12 h (.lst [x])
    try rw [← e13]
    clear h
    have ga1 := u _ _ ga1
    have ga2 := u _ _ ga2
    have ga3 := u _ _ ga3
    have ga4 := u _ _ ga4
    have ga5 := u _ _ ga5
    have ga6 := u _ _ ga6
    have ga7 := u _ _ ga7
    have ga8 := u _ _ ga8
    have ga9 := u _ _ ga9
    have ga10 := u _ _ ga10
    have ga11 := u _ _ ga11
    clear u
    try rw [← e13]
    clear e13
    simp_arith [ga1, ga2, ga3, ga4, ga5, ga6, ga7, ga8, ga9, ga10, ga11, gr2]
    refine ⟨by decide, by decide, by decide, ?_⟩
    intro r3 h
    obtain ⟨G14, e14, S14, u, gr3⟩ := one_new S13 h (.lst [x, x, x, x, x])
    try rw [← e14]
    clear h
    have z14 : gup G13 r3 (Ob.lst [[x], [x], [x], [x], [x]].flatten) = G14 := e14.symm
    have ga1 := u _ _ ga1
    have ga2 := u _ _ ga2
    have ga3 := u _ _ ga3
    have ga4 := u _ _ ga4
    have ga5 := u _ _ ga5
    have ga6 := u _ _ ga6
    have ga7 := u _ _ ga7
    have ga8 := u _ _ ga8
    have ga9 := u _ _ ga9
    have ga10 := u _ _ ga10
    have ga11 := u _ _ ga11
    clear u
    try rw [← e14]
    try rw [z14]
    clear z14
    clear e14
    refine ⟨_, shows_vals gr3 (((vdl_cons vx (vdl_cons vx (vdl_cons vx (vdl_cons vx (vdl_cons vx vdl_nil)))))).sub S14) (by simp), ?_⟩
    simp_arith [nx_]
    simp_arith [ga1, ga2, ga3, ga4, ga5, ga6, ga7, ga8, ga9, ga10, ga11, q0, q1, q2, q3, q4, q5, q6, q7, q8, q9, q10, q11, q12, q13, q14, q15, q16, q17]
    intro r4 h
    obtain ⟨G15, e15, S15, u, gr4⟩ := one_new S14 h (.lst [x, x, x, x, x])
    try rw [← e15]
    clear h
    have ga1 := u _ _ ga1
    have ga2 := u _ _ ga2
    have ga3 := u _ _ ga3
    have ga4 := u _ _ ga4
    have ga5 := u _ _ ga5
    have ga6 := u _ _ ga6
    have ga7 := u _ _ ga7
    have ga8 := u _ _ ga8
    have ga9 := u _ _ ga9
    have ga10 := u _ _ ga10
    have ga11 := u _ _ ga11
    clear u
    try rw [← e15]
    clear e15
    refine ⟨_, shows_vals gr4 (((vdl_cons vx (vdl_cons vx (vdl_cons vx (vdl_cons vx (vdl_cons vx vdl_nil)))))).sub S15) (by simp), ?_⟩
    simp_arith []
    intro r5 h
    obtain ⟨G16, e16, S16, u, gr5⟩ := one_new S15 h (.lst [x])
    try rw [← e16]
    clear h
    have ga1 := u _ _ ga1
    have ga2 := u _ _ ga2
    have ga3 := u _ _ ga3
    have ga4 := u _ _ ga4
    have ga5 := u _ _ ga5
    have ga6 := u _ _ ga6
    have ga7 := u _ _ ga7
    have ga8 := u _ _ ga8
    have ga9 := u _ _ ga9
    have ga10 := u _ _ ga10
    have ga11 := u _ _ ga11
    clear u
    try rw [← e16]
    clear e16
    simp_arith [ga1, ga2, ga3, ga4, ga5, ga6, ga7, ga8, ga9, ga10, ga11, gr5]
    refine ⟨by decide, by decide, by decide, ?_⟩
    intro r6 h
    obtain ⟨G17, e17, S17, u, gr6⟩ := one_new S16 h (.lst [x, x, x, x, x])
    try rw [← e17]
    clear h
    have z17 : gup G16 r6 (Ob.lst [[x], [x], [x], [x], [x]].flatten) = G17 := e17.symm
    have ga1 := u _ _ ga1
    have ga2 := u _ _ ga2
    have ga3 := u _ _ ga3
    have ga4 := u _ _ ga4
    have ga5 := u _ _ ga5
    have ga6 := u _ _ ga6
    have ga7 := u _ _ ga7
    have ga8 := u _ _ ga8
    have ga9 := u _ _ ga9
    have ga10 := u _ _ ga10
    have ga11 := u _ _ ga11
    clear u
    try rw [← e17]
    try rw [z17]
    clear z17
    clear e17
    refine ⟨_, shows_vals gr6 (((vdl_cons vx (vdl_cons vx (vdl_cons vx (vdl_cons vx (vdl_cons vx vdl_nil)))))).sub S17) (by simp), ?_⟩
    simp_arith [nx_]
    simp_arith [ga1, ga2, ga3, ga4, ga5, ga6, ga7, ga8, ga9, ga10, ga11, q0, q1, q2, q3, q4, q5, q6, q7, q8, q9, q10, q11, q12, q13, q14, q15, q16, q17]
    intro r7 h
    obtain ⟨G18, e18, S18, u, gr7⟩ := one_new S17 h (.lst [x, y])
    try rw [← e18]
    clear h
    have ga1 := u _ _ ga1
    have ga2 := u _ _ ga2
    have ga3 := u _ _ ga3
    have ga4 := u _ _ ga4
    have ga5 := u _ _ ga5
    have ga6 := u _ _ ga6
    have ga7 := u _ _ ga7
    have ga8 := u _ _ ga8
    have ga9 := u _ _ ga9
    have ga10 := u _ _ ga10
    have ga11 := u _ _ ga11
    clear u
    try rw [← e18]
    clear e18
    refine ⟨_, shows_vals gr7 (((vdl_cons vx (vdl_cons vy vdl_nil))).sub S18) (by simp), ?_⟩
    simp_arith []
    intro r8 h
    obtain ⟨G19, e19, S19, u, gr8⟩ := one_new S18 h (.lst [x, y])
    try rw [← e19]
    clear h
    have ga1 := u _ _ ga1
    have ga2 := u _ _ ga2
    have ga3 := u _ _ ga3
    have ga4 := u _ _ ga4
    have ga5 := u _ _ ga5
    have ga6 := u _ _ ga6
    have ga7 := u _ _ ga7
    have ga8 := u _ _ ga8
    have ga9 := u _ _ ga9
    have ga10 := u _ _ ga10
    have ga11 := u _ _ ga11
    clear u
    try rw [← e19]
    clear e19
    refine ⟨_, shows_vals gr8 (((vdl_cons vx (vdl_cons vy vdl_nil))).sub S19) (by simp), ?_⟩
    simp_arith [nx_]
    have gb1 := ga1
    have gb2 := ga2
    have gb3 := ga3
    have gb4 := ga4
    have gb5 := ga5
    have gb6 := ga6
    have gb7 := ga7
    have gb8 := ga8
    have gb9 := ga9
    have gb10 := ga10
    have gb11 := ga11
    intro p1 h
    have p10 := h
    obtain ⟨G20, e20, S20, u, gp1⟩ := one_new (Sub.refl G19) h (.lst [.ref a1, .ref a2, .ref a3, .ref a4, .ref a11])
    try rw [← e20]
    clear e20 h u
    intro p2 h
    obtain ⟨G21, e21, S21, u, gp2⟩ := one_new S20 h (.lst [.ref a5, .ref a6, .ref a7, .ref a8, .ref a9, .ref a10])
    try rw [← e21]
    clear e21 h
    have gp1 := u _ _ gp1
    clear u
    simp_arith [gp1, gp2]
    obtain ⟨G22, e22, S22, u, gp1⟩ := one_set S21 p10 (.lst [.ref a1, .ref a2, .ref a3, .ref a4, .ref a11, .ref a5, .ref a6, .ref a7, .ref a8, .ref a9, .ref a10])
    try rw [← e22]
    clear e22 u
    have ga1 := S22 _ _ gb1
    clear gb1
    have ga2 := S22 _ _ gb2
    clear gb2
    have ga3 := S22 _ _ gb3
    clear gb3
    have ga4 := S22 _ _ gb4
    clear gb4
    have ga5 := S22 _ _ gb5
    clear gb5
    have ga6 := S22 _ _ gb6
    clear gb6
    have ga7 := S22 _ _ gb7
    clear gb7
    have ga8 := S22 _ _ gb8
    clear gb8
    have ga9 := S22 _ _ gb9
    clear gb9
    have ga10 := S22 _ _ gb10
    clear gb10
    have ga11 := S22 _ _ gb11
    clear gb11
    have SG := S19.trans S22
    simp_arith [gp1]
    refine for_ind (fun items us' H => ∃ (rest : List (Addr × String × Nat)) (v15 v16 : Option U), items = rest.map (fun t => U.tup [.int t.2.2, .ref t.1]) ∧ (∀ t ∈ rest, (∃ fs, G22 t.1 = some (.xcp t.2.1 fs)) ∧ Kd t.2.1 t.2.2 1 true true false false) ∧ us' = [some x, some y, some z, some (.ref p1), some (.ref a1), some (.ref a2), some (.ref a3), some (.ref a4), some (.ref a5), some (.ref a6), some (.ref a7), some (.ref a8), some (.ref a9), some (.ref a10), some (.ref a11), v15, v16, none, none, none, none, none, none] ∧ Sub G22 H) ?_ ?_ _ _ _ ⟨[(a1, "BadBox", 0), (a2, "BadName", 1), (a3, "BadWorld", 2), (a4, "BadRow", 3), (a11, "BadProgram", 4), (a5, "BadText", 5), (a6, "TooMany", 6), (a7, "BadSetting", 7), (a8, "BadItem", 8), (a9, "BadCut", 9), (a10, "BadDealing", 10)], none, none, rfl, ?_, rfl, Sub.refl _⟩
    · rintro x1 xs us' H M hM ⟨rest, v15, v16, e1, hr, rfl, SH⟩
      cases rest with
      | nil => cases e1
      | cons t rest =>
        obtain ⟨b, c, i⟩ := t
        cases e1
        obtain ⟨⟨fs, gb⟩, kd⟩ := hr _ List.mem_cons_self
        refine ⟨SH _ _ gp1, ?_⟩
        simp_arith []
        refine ⟨c, fs, SH _ _ gb, kd.1, fun r H2 s2 hr2 gr2 => ?_⟩
        rw [kd.2, kd.3, kd.5]
        rw [kd.4] at gr2
        simp_arith []
        intro r3 hr3
        obtain ⟨H3, e3, s3, u3, g3⟩ := one_new s2 hr3 (.lst [.bl true, .bl true, .bl false])
        rw [← e3]
        clear e3
        refine eql_kinds (u3 _ _ gr2) g3 ?_
        simp_arith [Bool.not_true]
        exact hM _ _ ⟨rest, _, _, rfl, fun t ht => hr t (List.mem_cons_of_mem _ ht), rfl, SH.trans s3⟩
    · rintro us' G23 ⟨rest, v15, v16, e1, hr, rfl, SH⟩
      cases rest with
      | cons t rest => cases e1
      | nil =>
        refine ⟨SH _ _ gp1, ?_⟩
        simp_arith []
        have S23 := SG.trans SH
        intro a12 h
        obtain ⟨G24, e24, S24, u, ga12⟩ := one_new S23 h (.xcp "NoName" [("name", x)])
        try rw [← e24]
        clear h
        have z24 : gup G23 a12 (Ob.xcp "NoName" (["name"].zip (List.map (Src.get U.non [U.ref a12] [x] [] []) [Src.k 0]))) = G24 := e24.symm
        clear u
        intro a13 h
        obtain ⟨G25, e25, S25, u, ga13⟩ := one_new S24 h (.xcp "NoWorker" [("number", x)])
        try rw [← e25]
        clear h
        have z25 : gup G24 a13 (Ob.xcp "NoWorker" (["number"].zip (List.map (Src.get U.non [U.ref a13, x] [] [] []) [Src.p 1]))) = G25 := e25.symm
        have ga12 := u _ _ ga12
        clear u
        intro a14 h
        obtain ⟨G26, e26, S26, u, ga14⟩ := one_new S25 h (.xcp "TaskFailed" [("at", x), ("told", y), ("cause", z)])
        try rw [← e26]
        clear h
        have z26 : gup G25 a14 (Ob.xcp "TaskFailed" (["at", "told", "cause"].zip (List.map (Src.get U.non [U.ref a14, x, y, z] [] [] []) [Src.p 1, Src.p 2, Src.p 3]))) = G26 := e26.symm
        have ga12 := u _ _ ga12
        have ga13 := u _ _ ga13
        clear u
        intro a15 h
        obtain ⟨G27, e27, S27, u, ga15⟩ := one_new S26 h (.xcp "CannotCross" [("at", x), ("what", y)])
        try rw [← e27]
        clear h
        have z27 : gup G26 a15 (Ob.xcp "CannotCross" (["at", "what"].zip (List.map (Src.get U.non [U.ref a15, x, y] [] [] []) [Src.p 1, Src.p 2]))) = G27 := e27.symm
        have ga12 := u _ _ ga12
        have ga13 := u _ _ ga13
        have ga14 := u _ _ ga14
        clear u
        intro a16 h
        obtain ⟨G28, e28, S28, u, ga16⟩ := one_new S27 h (.xcp "Closed" [])
        try rw [← e28]
        clear h
        have z28 : gup G27 a16 (.xcp "Closed" []) = G28 := e28.symm
        have ga12 := u _ _ ga12
        have ga13 := u _ _ ga13
        have ga14 := u _ _ ga14
        have ga15 := u _ _ ga15
        clear u
        intro a17 h
        obtain ⟨G29, e29, S29, u, ga17⟩ := one_new S28 h (.xcp "WorkerworldsError" [])
        try rw [← e29]
        clear h
        have z29 : gup G28 a17 (.xcp "WorkerworldsError" []) = G29 := e29.symm
        have ga12 := u _ _ ga12
        have ga13 := u _ _ ga13
        have ga14 := u _ _ ga14
        have ga15 := u _ _ ga15
        have ga16 := u _ _ ga16
        clear u
        simp_arith []
        try rw [← e24]
        try rw [z24]
        try rw [← e25]
        try rw [z25]
        try rw [← e26]
        try rw [z26]
        try rw [← e27]
        try rw [z27]
        try rw [← e28]
        try rw [z28]
        try rw [← e29]
        try rw [z29]
        clear e24 z24 e25 z25 e26 z26 e27 z27 e28 z28 e29 z29
        simp_arith [ga12, ga13, ga14, ga15, ga16, ga17, q0, q1, q2, q3, q4, q5, q6, q7, q8, q9, q10, q11, q12, q13, q14, q15, q16, q17]
        intro r21 h
        obtain ⟨G30, e30, S30, u, gr21⟩ := one_new S29 h (.lst [x, x, x, y, z])
        try rw [← e30]
        clear h
        have ga12 := u _ _ ga12
        have ga13 := u _ _ ga13
        have ga14 := u _ _ ga14
        have ga15 := u _ _ ga15
        have ga16 := u _ _ ga16
        have ga17 := u _ _ ga17
        clear u
        try rw [← e30]
        clear e30
        refine ⟨_, shows_vals gr21 (((vdl_cons vx (vdl_cons vx (vdl_cons vx (vdl_cons vy (vdl_cons vz vdl_nil)))))).sub S30) (by simp), ?_⟩
        simp_arith []
        intro r22 h
        obtain ⟨G31, e31, S31, u, gr22⟩ := one_new S30 h (.lst [x, x, x, y, z])
        try rw [← e31]
        clear h
        have ga12 := u _ _ ga12
        have ga13 := u _ _ ga13
        have ga14 := u _ _ ga14
        have ga15 := u _ _ ga15
        have ga16 := u _ _ ga16
        have ga17 := u _ _ ga17
        clear u
        try rw [← e31]
        clear e31
        refine ⟨_, shows_vals gr22 (((vdl_cons vx (vdl_cons vx (vdl_cons vx (vdl_cons vy (vdl_cons vz vdl_nil)))))).sub S31) (by simp), ?_⟩
        simp_arith [nx_]
        simp_arith [ga12, ga13, ga14, ga15, ga16, ga17, q0, q1, q2, q3, q4, q5, q6, q7, q8, q9, q10, q11, q12, q13, q14, q15, q16, q17]
        intro r23 h
        obtain ⟨G32, e32, S32, u, gr23⟩ := one_new S31 h (.lst [x, y])
        try rw [← e32]
        clear h
        have ga12 := u _ _ ga12
        have ga13 := u _ _ ga13
        have ga14 := u _ _ ga14
        have ga15 := u _ _ ga15
        have ga16 := u _ _ ga16
        have ga17 := u _ _ ga17
        clear u
        try rw [← e32]
        clear e32
        refine ⟨_, shows_vals gr23 (((vdl_cons vx (vdl_cons vy vdl_nil))).sub S32) (by simp), ?_⟩
        simp_arith []
        intro r24 h
        obtain ⟨G33, e33, S33, u, gr24⟩ := one_new S32 h (.lst [x, y])
        try rw [← e33]
        clear h
        have ga12 := u _ _ ga12
        have ga13 := u _ _ ga13
        have ga14 := u _ _ ga14
        have ga15 := u _ _ ga15
        have ga16 := u _ _ ga16
        have ga17 := u _ _ ga17
        clear u
        try rw [← e33]
        clear e33
        refine ⟨_, shows_vals gr24 (((vdl_cons vx (vdl_cons vy vdl_nil))).sub S33) (by simp), ?_⟩
        simp_arith [nx_]
        refine ⟨_, _, ga17, kd_WorkerworldsError.1, fun r G34 s h0 gk => ?_⟩
        rw [kd_WorkerworldsError.2, kd_WorkerworldsError.3, kd_WorkerworldsError.5]
        rw [kd_WorkerworldsError.4] at gk
        have S34 := S33.trans s
        have ga12 := s _ _ ga12
        have ga13 := s _ _ ga13
        have ga14 := s _ _ ga14
        have ga15 := s _ _ ga15
        have ga16 := s _ _ ga16
        have ga17 := s _ _ ga17
        clear s h0
        simp_arith []
        intro m2 h
        obtain ⟨G35, e, S35, u, gm⟩ := one_new S34 h (.lst [.bl true, .bl true, .bl false])
        try rw [← e]
        clear e h
        have gk := u _ _ gk
        have ga12 := u _ _ ga12
        have ga13 := u _ _ ga13
        have ga14 := u _ _ ga14
        have ga15 := u _ _ ga15
        have ga16 := u _ _ ga16
        have ga17 := u _ _ ga17
        clear u
        try simp_arith []
        refine eql_kinds gk gm ?_
        clear gk gm
        simp_arith [Bool.not_true]
        refine ⟨_, _, ga12, kd_NoName.1, fun r G36 s h0 gk => ?_⟩
        rw [kd_NoName.2, kd_NoName.3, kd_NoName.5]
        rw [kd_NoName.4] at gk
        have S36 := S35.trans s
        have ga12 := s _ _ ga12
        have ga13 := s _ _ ga13
        have ga14 := s _ _ ga14
        have ga15 := s _ _ ga15
        have ga16 := s _ _ ga16
        have ga17 := s _ _ ga17
        clear s h0
        simp_arith []
        intro m2 h
        obtain ⟨G37, e, S37, u, gm⟩ := one_new S36 h (.lst [.bl false, .bl false, .bl true])
        try rw [← e]
        clear e h
        have gk := u _ _ gk
        have ga12 := u _ _ ga12
        have ga13 := u _ _ ga13
        have ga14 := u _ _ ga14
        have ga15 := u _ _ ga15
        have ga16 := u _ _ ga16
        have ga17 := u _ _ ga17
        clear u
        try simp_arith []
        refine eql_kinds gk gm ?_
        clear gk gm
        simp_arith [Bool.not_true]
        refine ⟨_, _, ga13, kd_NoWorker.1, fun r G38 s h0 gk => ?_⟩
        rw [kd_NoWorker.2, kd_NoWorker.3, kd_NoWorker.5]
        rw [kd_NoWorker.4] at gk
        have S38 := S37.trans s
        have ga12 := s _ _ ga12
        have ga13 := s _ _ ga13
        have ga14 := s _ _ ga14
        have ga15 := s _ _ ga15
        have ga16 := s _ _ ga16
        have ga17 := s _ _ ga17
        clear s h0
        simp_arith []
        intro m2 h
        obtain ⟨G39, e, S39, u, gm⟩ := one_new S38 h (.lst [.bl false, .bl false, .bl true])
        try rw [← e]
        clear e h
        have gk := u _ _ gk
        have ga12 := u _ _ ga12
        have ga13 := u _ _ ga13
        have ga14 := u _ _ ga14
        have ga15 := u _ _ ga15
        have ga16 := u _ _ ga16
        have ga17 := u _ _ ga17
        clear u
        try simp_arith []
        refine eql_kinds gk gm ?_
        clear gk gm
        simp_arith [Bool.not_true]
        refine ⟨_, _, ga14, kd_TaskFailed.1, fun r G40 s h0 gk => ?_⟩
        rw [kd_TaskFailed.2, kd_TaskFailed.3, kd_TaskFailed.5]
        rw [kd_TaskFailed.4] at gk
        have S40 := S39.trans s
        have ga12 := s _ _ ga12
        have ga13 := s _ _ ga13
        have ga14 := s _ _ ga14
        have ga15 := s _ _ ga15
        have ga16 := s _ _ ga16
        have ga17 := s _ _ ga17
        clear s h0
        simp_arith []
        intro m1 h
        obtain ⟨G41, e, S41, u, gm⟩ := one_new S40 h (.lst [.bl false])
        try rw [← e]
        clear e h
        have gk := u _ _ gk
        have ga12 := u _ _ ga12
        have ga13 := u _ _ ga13
        have ga14 := u _ _ ga14
        have ga15 := u _ _ ga15
        have ga16 := u _ _ ga16
        have ga17 := u _ _ ga17
        clear u
        simp_arith [gm]
        refine ⟨by decide, by decide, by decide, ?_⟩
        intro m2 h
        obtain ⟨G42, e, S42, u, gm⟩ := one_new S41 h (.lst [.bl false, .bl false, .bl false])
        try rw [← e]
        have z : gup G41 m2 (Ob.lst [[U.bl false], [U.bl false], [U.bl false]].flatten) = G42 := e.symm
        try rw [z]
        clear z
        clear e h
        have gk := u _ _ gk
        have ga12 := u _ _ ga12
        have ga13 := u _ _ ga13
        have ga14 := u _ _ ga14
        have ga15 := u _ _ ga15
        have ga16 := u _ _ ga16
        have ga17 := u _ _ ga17
        clear u
        try simp_arith []
        refine eql_kinds gk gm ?_
        clear gk gm
        simp_arith [Bool.not_true]
        refine ⟨_, _, ga15, kd_CannotCross.1, fun r G43 s h0 gk => ?_⟩
        rw [kd_CannotCross.2, kd_CannotCross.3, kd_CannotCross.5]
        rw [kd_CannotCross.4] at gk
        have S43 := S42.trans s
        have ga12 := s _ _ ga12
        have ga13 := s _ _ ga13
        have ga14 := s _ _ ga14
        have ga15 := s _ _ ga15
        have ga16 := s _ _ ga16
        have ga17 := s _ _ ga17
        clear s h0
        simp_arith []
        intro m1 h
        obtain ⟨G44, e, S44, u, gm⟩ := one_new S43 h (.lst [.bl false])
        try rw [← e]
        clear e h
        have gk := u _ _ gk
        have ga12 := u _ _ ga12
        have ga13 := u _ _ ga13
        have ga14 := u _ _ ga14
        have ga15 := u _ _ ga15
        have ga16 := u _ _ ga16
        have ga17 := u _ _ ga17
        clear u
        simp_arith [gm]
        refine ⟨by decide, by decide, by decide, ?_⟩
        intro m2 h
        obtain ⟨G45, e, S45, u, gm⟩ := one_new S44 h (.lst [.bl false, .bl false, .bl false])
        try rw [← e]
        have z : gup G44 m2 (Ob.lst [[U.bl false], [U.bl false], [U.bl false]].flatten) = G45 := e.symm
        try rw [z]
        clear z
        clear e h
        have gk := u _ _ gk
        have ga12 := u _ _ ga12
        have ga13 := u _ _ ga13
        have ga14 := u _ _ ga14
        have ga15 := u _ _ ga15
        have ga16 := u _ _ ga16
        have ga17 := u _ _ ga17
        clear u
        try simp_arith []
        refine eql_kinds gk gm ?_
        clear gk gm
        simp_arith [Bool.not_true]
        refine ⟨_, _, ga16, kd_Closed.1, fun r G46 s h0 gk => ?_⟩
        rw [kd_Closed.2, kd_Closed.3, kd_Closed.5]
        rw [kd_Closed.4] at gk
        have S46 := S45.trans s
        have ga12 := s _ _ ga12
        have ga13 := s _ _ ga13
        have ga14 := s _ _ ga14
        have ga15 := s _ _ ga15
        have ga16 := s _ _ ga16
        have ga17 := s _ _ ga17
        clear s h0
        simp_arith []
        intro m1 h
        obtain ⟨G47, e, S47, u, gm⟩ := one_new S46 h (.lst [.bl false])
        try rw [← e]
        clear e h
        have gk := u _ _ gk
        have ga12 := u _ _ ga12
        have ga13 := u _ _ ga13
        have ga14 := u _ _ ga14
        have ga15 := u _ _ ga15
        have ga16 := u _ _ ga16
        have ga17 := u _ _ ga17
        clear u
        simp_arith [gm]
        refine ⟨by decide, by decide, by decide, ?_⟩
        intro m2 h
        obtain ⟨G48, e, S48, u, gm⟩ := one_new S47 h (.lst [.bl false, .bl false, .bl false])
        try rw [← e]
        have z : gup G47 m2 (Ob.lst [[U.bl false], [U.bl false], [U.bl false]].flatten) = G48 := e.symm
        try rw [z]
        clear z
        clear e h
        have gk := u _ _ gk
        have ga12 := u _ _ ga12
        have ga13 := u _ _ ga13
        have ga14 := u _ _ ga14
        have ga15 := u _ _ ga15
        have ga16 := u _ _ ga16
        have ga17 := u _ _ ga17
        clear u
        try simp_arith []
        refine eql_kinds gk gm ?_
        clear gk gm
        exact .now (q _ S48)
    · intro t ht
      simp only [List.mem_cons, List.not_mem_nil, or_false] at ht
      rcases ht with rfl | rfl | rfl | rfl | rfl | rfl | rfl | rfl | rfl | rfl | rfl
      · exact ⟨⟨_, ga1⟩, kd_BadBox⟩
      · exact ⟨⟨_, ga2⟩, kd_BadName⟩
      · exact ⟨⟨_, ga3⟩, kd_BadWorld⟩
      · exact ⟨⟨_, ga4⟩, kd_BadRow⟩
      · exact ⟨⟨_, ga11⟩, kd_BadProgram⟩
      · exact ⟨⟨_, ga5⟩, kd_BadText⟩
      · exact ⟨⟨_, ga6⟩, kd_TooMany⟩
      · exact ⟨⟨_, ga7⟩, kd_BadSetting⟩
      · exact ⟨⟨_, ga8⟩, kd_BadItem⟩
      · exact ⟨⟨_, ga9⟩, kd_BadCut⟩
      · exact ⟨⟨_, ga10⟩, kd_BadDealing⟩
  · exact h.elim
theorem law_law (us : List U) (G : Gp) (Q : UK) (E : UX) (h : sp_law us G Q E) : t_law (endsU Q E) (ustart 5 us) G := by
  obtain ⟨ns, rfl, hn, q⟩ := h
  have hlen : (IntU ns).length = ns.length := intU_len ns
  simp_arith [t_law]
  refine ⟨rg_of (by repeat' split <;> omega) (by repeat' split <;> omega), ?_⟩
  refine for_rng (fun k us' G' => ∃ a b c d, us' = [some (.rol (IntU ns)), a, b, c, d]) ?_ ?_ ⟨_, _, _, _, rfl⟩
  · rintro k' us' G' N hk hN ⟨a1, a2, a3, a4, rfl⟩
    have hk0 : (0 : Int) ≤ 0 + (k' : Int) := by omega
    simp_arith [hk0]
    intro c a n p q iq hp hq hne
    have gp0 : gup (gup G' q (.lst (IntU iq))) p (bagO c a n q) p = some (bagO c a n q) := gup_same
    have gq0 : gup (gup G' q (.lst (IntU iq))) p (bagO c a n q) q = some (.lst (IntU iq)) := (gup_ne hne).trans gup_same
    generalize gup (gup G' q (.lst (IntU iq))) p (bagO c a n q) = G1 at gp0 gq0 ⊢
    clear hp hq
    simp_arith [gp0, gq0, hne]
    intro u1 G2 c a n f1 gp2 k2
    have gq2 := k2 _ _ hne gq0
    simp_arith [gp2, gq2, hne]
    intro u2 G3 c a n f2 gp3 k3
    have gq3 := k3 _ _ hne gq2
    have f1 := f1.sub (hide_keep k3)
    simp_arith [gp3, gq3, hne]
    intro u3 G4 c a n f3 gp4 k4
    have f1 := (f1.sub (hide_keep k4)).sub hide_le
    have f2 := (f2.sub (hide_keep k4)).sub hide_le
    have f3 := f3.sub hide_le
    simp_arith []
    refine ⟨f1, f2, f3, fun G5 s5 => ?_⟩
    simp_arith []
    exact hN _ _ ⟨_, _, _, _, rfl⟩
  · rintro us' G' ⟨a1, a2, a3, a4, rfl⟩
    simp_arith []
    exact .now (q _)
structure Base (K : PySem.W.Frag) (mg : Str → Option Value) (base : Heap) : Prop where
  says : SaysX fx fa fn K
  inK : K.In base
  ns : base.Ns mainGlobals mg
section
variable {P : Program} {w : World} {K : PySem.W.Frag} {mg : Str → Option Value} {base : Heap}
theorem g__law_bag (b : Base K mg base) : mg "_law_bag" = some (.ref (d__law_bag.at_ K)) := He.glo_ok b.inK b.ns (b.says.he 0 (f := .glo "_law_bag") rfl)
theorem g__law_take (b : Base K mg base) : mg "_law_take" = some (.ref (d__law_take.at_ K)) := He.glo_ok b.inK b.ns (b.says.he 1 (f := .glo "_law_take") rfl)
theorem g__law_value (b : Base K mg base) : mg "_law_value" = some (.ref (d__law_value.at_ K)) := He.glo_ok b.inK b.ns (b.says.he 2 (f := .glo "_law_value") rfl)
theorem g__law_kinds (b : Base K mg base) : mg "_law_kinds" = some (.ref (d__law_kinds.at_ K)) := He.glo_ok b.inK b.ns (b.says.he 3 (f := .glo "_law_kinds") rfl)
theorem g__law_are_right (b : Base K mg base) : mg "_law_are_right" = some (.ref (d__law_are_right.at_ K)) := He.glo_ok b.inK b.ns (b.says.he 4 (f := .glo "_law_are_right") rfl)
theorem g_law (b : Base K mg base) : mg "law" = some (.ref (d_law.at_ K)) := He.glo_ok b.inK b.ns (b.says.he 5 (f := .glo "law") rfl)
theorem n_len (b : Base K mg base) : mg "len" = none := He.free_ok b.inK b.ns (b.says.he 6 (f := .free "len") rfl)
theorem n_min (b : Base K mg base) : mg "min" = none := He.free_ok b.inK b.ns (b.says.he 7 (f := .free "min") rfl)
theorem n_max (b : Base K mg base) : mg "max" = none := He.free_ok b.inK b.ns (b.says.he 8 (f := .free "max") rfl)
theorem n_range (b : Base K mg base) : mg "range" = none := He.free_ok b.inK b.ns (b.says.he 9 (f := .free "range") rfl)
theorem n_repr (b : Base K mg base) : mg "repr" = none := He.free_ok b.inK b.ns (b.says.he 10 (f := .free "repr") rfl)
theorem n_enumerate (b : Base K mg base) : mg "enumerate" = none := He.free_ok b.inK b.ns (b.says.he 11 (f := .free "enumerate") rfl)
theorem n_RuntimeError (b : Base K mg base) : mg "RuntimeError" = none := He.free_ok b.inK b.ns (b.says.he 12 (f := .free "RuntimeError") rfl)
theorem n_isinstance (b : Base K mg base) : mg "isinstance" = none := He.free_ok b.inK b.ns (b.says.he 13 (f := .free "isinstance") rfl)
theorem n_LookupError (b : Base K mg base) : mg "LookupError" = none := He.free_ok b.inK b.ns (b.says.he 14 (f := .free "LookupError") rfl)
theorem n_ValueError (b : Base K mg base) : mg "ValueError" = none := He.free_ok b.inK b.ns (b.says.he 15 (f := .free "ValueError") rfl)
theorem n_list (b : Base K mg base) : mg "list" = none := He.free_ok b.inK b.ns (b.says.he 16 (f := .free "list") rfl)
theorem n_abs (b : Base K mg base) : mg "abs" = none := He.free_ok b.inK b.ns (b.says.he 17 (f := .free "abs") rfl)
theorem n_int (b : Base K mg base) : mg "int" = none := He.free_ok b.inK b.ns (b.says.he 18 (f := .free "int") rfl)
theorem gl_CannotCross (b : Base K mg base) : mg (S "CannotCross") = some (.ref (He.ga K (S "CannotCross"))) := He.glo_ok b.inK b.ns (b.says.he 19 (f := .glo "CannotCross") rfl)
theorem gl_NoName (b : Base K mg base) : mg (S "NoName") = some (.ref (He.ga K (S "NoName"))) := He.glo_ok b.inK b.ns (b.says.he 20 (f := .glo "NoName") rfl)
theorem gl_NoWorker (b : Base K mg base) : mg (S "NoWorker") = some (.ref (He.ga K (S "NoWorker"))) := He.glo_ok b.inK b.ns (b.says.he 21 (f := .glo "NoWorker") rfl)
theorem gl_TaskFailed (b : Base K mg base) : mg (S "TaskFailed") = some (.ref (He.ga K (S "TaskFailed"))) := He.glo_ok b.inK b.ns (b.says.he 22 (f := .glo "TaskFailed") rfl)
theorem gl_BadCut (b : Base K mg base) : mg (S "BadCut") = some (.ref (He.ga K (S "BadCut"))) := He.glo_ok b.inK b.ns (b.says.he 23 (f := .glo "BadCut") rfl)
theorem gl_BadDealing (b : Base K mg base) : mg (S "BadDealing") = some (.ref (He.ga K (S "BadDealing"))) := He.glo_ok b.inK b.ns (b.says.he 24 (f := .glo "BadDealing") rfl)
theorem gl_BadProgram (b : Base K mg base) : mg (S "BadProgram") = some (.ref (He.ga K (S "BadProgram"))) := He.glo_ok b.inK b.ns (b.says.he 25 (f := .glo "BadProgram") rfl)
theorem gl_BadText (b : Base K mg base) : mg (S "BadText") = some (.ref (He.ga K (S "BadText"))) := He.glo_ok b.inK b.ns (b.says.he 26 (f := .glo "BadText") rfl)
theorem gl_TooMany (b : Base K mg base) : mg (S "TooMany") = some (.ref (He.ga K (S "TooMany"))) := He.glo_ok b.inK b.ns (b.says.he 27 (f := .glo "TooMany") rfl)
theorem gl_BadSetting (b : Base K mg base) : mg (S "BadSetting") = some (.ref (He.ga K (S "BadSetting"))) := He.glo_ok b.inK b.ns (b.says.he 28 (f := .glo "BadSetting") rfl)
theorem gl_BadItem (b : Base K mg base) : mg (S "BadItem") = some (.ref (He.ga K (S "BadItem"))) := He.glo_ok b.inK b.ns (b.says.he 29 (f := .glo "BadItem") rfl)
theorem gl_BadBox (b : Base K mg base) : mg (S "BadBox") = some (.ref (He.ga K (S "BadBox"))) := He.glo_ok b.inK b.ns (b.says.he 30 (f := .glo "BadBox") rfl)
theorem gl_BadName (b : Base K mg base) : mg (S "BadName") = some (.ref (He.ga K (S "BadName"))) := He.glo_ok b.inK b.ns (b.says.he 31 (f := .glo "BadName") rfl)
theorem gl_BadWorld (b : Base K mg base) : mg (S "BadWorld") = some (.ref (He.ga K (S "BadWorld"))) := He.glo_ok b.inK b.ns (b.says.he 32 (f := .glo "BadWorld") rfl)
theorem gl_BadRow (b : Base K mg base) : mg (S "BadRow") = some (.ref (He.ga K (S "BadRow"))) := He.glo_ok b.inK b.ns (b.says.he 33 (f := .glo "BadRow") rfl)
theorem meth_CannotCross___init__ (b : Base K mg base) : Meth K (He.ga K (S "CannotCross")) (S "__init__") (d_CannotCross___init__.at_ K) := He.meth_ok (b.says.he 34 (f := .meth "CannotCross" "__init__") rfl)
theorem meth_NoName___init__ (b : Base K mg base) : Meth K (He.ga K (S "NoName")) (S "__init__") (d_NoName___init__.at_ K) := He.meth_ok (b.says.he 35 (f := .meth "NoName" "__init__") rfl)
theorem meth_NoWorker___init__ (b : Base K mg base) : Meth K (He.ga K (S "NoWorker")) (S "__init__") (d_NoWorker___init__.at_ K) := He.meth_ok (b.says.he 36 (f := .meth "NoWorker" "__init__") rfl)
theorem meth_TaskFailed___init__ (b : Base K mg base) : Meth K (He.ga K (S "TaskFailed")) (S "__init__") (d_TaskFailed___init__.at_ K) := He.meth_ok (b.says.he 37 (f := .meth "TaskFailed" "__init__") rfl)
theorem meth_BadCut___init__ (b : Base K mg base) : Meth K (He.ga K (S "BadCut")) (S "__init__") (d_BadCut___init__.at_ K) := He.meth_ok (b.says.he 38 (f := .meth "BadCut" "__init__") rfl)
theorem meth_BadDealing___init__ (b : Base K mg base) : Meth K (He.ga K (S "BadDealing")) (S "__init__") (d_BadDealing___init__.at_ K) := He.meth_ok (b.says.he 39 (f := .meth "BadDealing" "__init__") rfl)
theorem meth_BadProgram___init__ (b : Base K mg base) : Meth K (He.ga K (S "BadProgram")) (S "__init__") (d_BadProgram___init__.at_ K) := He.meth_ok (b.says.he 40 (f := .meth "BadProgram" "__init__") rfl)
theorem meth_BadText___init__ (b : Base K mg base) : Meth K (He.ga K (S "BadText")) (S "__init__") (d_BadText___init__.at_ K) := He.meth_ok (b.says.he 41 (f := .meth "BadText" "__init__") rfl)
theorem meth_TooMany___init__ (b : Base K mg base) : Meth K (He.ga K (S "TooMany")) (S "__init__") (d_TooMany___init__.at_ K) := He.meth_ok (b.says.he 42 (f := .meth "TooMany" "__init__") rfl)
theorem meth_BadSetting___init__ (b : Base K mg base) : Meth K (He.ga K (S "BadSetting")) (S "__init__") (d_BadSetting___init__.at_ K) := He.meth_ok (b.says.he 43 (f := .meth "BadSetting" "__init__") rfl)
theorem meth_BadItem___init__ (b : Base K mg base) : Meth K (He.ga K (S "BadItem")) (S "__init__") (d_BadItem___init__.at_ K) := He.meth_ok (b.says.he 44 (f := .meth "BadItem" "__init__") rfl)
theorem meth_BadBox___init__ (b : Base K mg base) : Meth K (He.ga K (S "BadBox")) (S "__init__") (d_BadBox___init__.at_ K) := He.meth_ok (b.says.he 45 (f := .meth "BadBox" "__init__") rfl)
theorem meth_BadName___init__ (b : Base K mg base) : Meth K (He.ga K (S "BadName")) (S "__init__") (d_BadName___init__.at_ K) := He.meth_ok (b.says.he 46 (f := .meth "BadName" "__init__") rfl)
theorem meth_BadWorld___init__ (b : Base K mg base) : Meth K (He.ga K (S "BadWorld")) (S "__init__") (d_BadWorld___init__.at_ K) := He.meth_ok (b.says.he 47 (f := .meth "BadWorld" "__init__") rfl)
theorem meth_BadRow___init__ (b : Base K mg base) : Meth K (He.ga K (S "BadRow")) (S "__init__") (d_BadRow___init__.at_ K) := He.meth_ok (b.says.he 48 (f := .meth "BadRow" "__init__") rfl)
theorem gl_Closed (b : Base K mg base) : mg (S "Closed") = some (.ref (He.ga K (S "Closed"))) := He.glo_ok b.inK b.ns (b.says.he 49 (f := .glo "Closed") rfl)
theorem gl_WorkerworldsError (b : Base K mg base) : mg (S "WorkerworldsError") = some (.ref (He.ga K (S "WorkerworldsError"))) := He.glo_ok b.inK b.ns (b.says.he 50 (f := .glo "WorkerworldsError") rfl)
theorem xf_BadWorld_at (b : Base K mg base) : xfK "BadWorld" "at" K = true := (b.says.fact 0 (f := xfK "BadWorld" "at") rfl)
theorem xf_BadProgram_at (b : Base K mg base) : xfK "BadProgram" "at" K = true := (b.says.fact 1 (f := xfK "BadProgram" "at") rfl)
theorem xf_BadText_at (b : Base K mg base) : xfK "BadText" "at" K = true := (b.says.fact 2 (f := xfK "BadText" "at") rfl)
theorem xf_BadItem_at (b : Base K mg base) : xfK "BadItem" "at" K = true := (b.says.fact 3 (f := xfK "BadItem" "at") rfl)
theorem xf_BadCut_at (b : Base K mg base) : xfK "BadCut" "at" K = true := (b.says.fact 4 (f := xfK "BadCut" "at") rfl)
theorem xf_BadDealing_at (b : Base K mg base) : xfK "BadDealing" "at" K = true := (b.says.fact 5 (f := xfK "BadDealing" "at") rfl)
theorem xf_TaskFailed_at (b : Base K mg base) : xfK "TaskFailed" "at" K = true := (b.says.fact 6 (f := xfK "TaskFailed" "at") rfl)
theorem xf_CannotCross_at (b : Base K mg base) : xfK "CannotCross" "at" K = true := (b.says.fact 7 (f := xfK "CannotCross" "at") rfl)
theorem xf_TooMany_what (b : Base K mg base) : xfK "TooMany" "what" K = true := (b.says.fact 8 (f := xfK "TooMany" "what") rfl)
theorem xf_BadSetting_what (b : Base K mg base) : xfK "BadSetting" "what" K = true := (b.says.fact 9 (f := xfK "BadSetting" "what") rfl)
theorem xf_CannotCross_what (b : Base K mg base) : xfK "CannotCross" "what" K = true := (b.says.fact 10 (f := xfK "CannotCross" "what") rfl)
theorem xf_BadName_name (b : Base K mg base) : xfK "BadName" "name" K = true := (b.says.fact 11 (f := xfK "BadName" "name") rfl)
theorem xf_NoName_name (b : Base K mg base) : xfK "NoName" "name" K = true := (b.says.fact 12 (f := xfK "NoName" "name") rfl)
theorem xf_NoWorker_number (b : Base K mg base) : xfK "NoWorker" "number" K = true := (b.says.fact 13 (f := xfK "NoWorker" "number") rfl)
theorem xf_TaskFailed_told (b : Base K mg base) : xfK "TaskFailed" "told" K = true := (b.says.fact 14 (f := xfK "TaskFailed" "told") rfl)
theorem xf_TaskFailed_cause (b : Base K mg base) : xfK "TaskFailed" "cause" K = true := (b.says.fact 15 (f := xfK "TaskFailed" "cause") rfl)
theorem xf_BadProgram_part (b : Base K mg base) : xfK "BadProgram" "part" K = true := (b.says.fact 16 (f := xfK "BadProgram" "part") rfl)
theorem xf_BadBox_contents (b : Base K mg base) : xfK "BadBox" "contents" K = true := (b.says.fact 17 (f := xfK "BadBox" "contents") rfl)
theorem xf_BadRow_row (b : Base K mg base) : xfK "BadRow" "row" K = true := (b.says.fact 18 (f := xfK "BadRow" "row") rfl)
theorem x0_Closed (b : Base K mg base) : oex0B "Closed" K = true := (b.says.fact 19 (f := oex0B "Closed") rfl)
theorem x0_WorkerworldsError (b : Base K mg base) : oex0B "WorkerworldsError" K = true := (b.says.fact 20 (f := oex0B "WorkerworldsError") rfl)
theorem isx_WorkerworldsError (b : Base K mg base) : isXB "WorkerworldsError" xTds [.o "WorkerworldsError", .b "ValueError"] K = true := (b.says.fact 21 (f := isXB "WorkerworldsError" [.o "WorkerworldsError", .o "BadBox", .o "BadName", .o "BadWorld", .o "BadRow", .o "BadProgram", .o "BadText", .o "TooMany", .o "BadSetting", .o "BadItem", .o "BadCut", .o "BadDealing", .o "NoName", .o "NoWorker", .o "TaskFailed", .o "CannotCross", .o "Closed", .b "ValueError", .b "LookupError", .b "RuntimeError"] [.o "WorkerworldsError", .b "ValueError"]) rfl)
theorem isx_BadBox (b : Base K mg base) : isXB "BadBox" xTds [.o "WorkerworldsError", .o "BadBox", .b "ValueError"] K = true := (b.says.fact 22 (f := isXB "BadBox" [.o "WorkerworldsError", .o "BadBox", .o "BadName", .o "BadWorld", .o "BadRow", .o "BadProgram", .o "BadText", .o "TooMany", .o "BadSetting", .o "BadItem", .o "BadCut", .o "BadDealing", .o "NoName", .o "NoWorker", .o "TaskFailed", .o "CannotCross", .o "Closed", .b "ValueError", .b "LookupError", .b "RuntimeError"] [.o "WorkerworldsError", .o "BadBox", .b "ValueError"]) rfl)
theorem isx_BadName (b : Base K mg base) : isXB "BadName" xTds [.o "WorkerworldsError", .o "BadName", .b "ValueError"] K = true := (b.says.fact 23 (f := isXB "BadName" [.o "WorkerworldsError", .o "BadBox", .o "BadName", .o "BadWorld", .o "BadRow", .o "BadProgram", .o "BadText", .o "TooMany", .o "BadSetting", .o "BadItem", .o "BadCut", .o "BadDealing", .o "NoName", .o "NoWorker", .o "TaskFailed", .o "CannotCross", .o "Closed", .b "ValueError", .b "LookupError", .b "RuntimeError"] [.o "WorkerworldsError", .o "BadName", .b "ValueError"]) rfl)
theorem isx_BadWorld (b : Base K mg base) : isXB "BadWorld" xTds [.o "WorkerworldsError", .o "BadWorld", .b "ValueError"] K = true := (b.says.fact 24 (f := isXB "BadWorld" [.o "WorkerworldsError", .o "BadBox", .o "BadName", .o "BadWorld", .o "BadRow", .o "BadProgram", .o "BadText", .o "TooMany", .o "BadSetting", .o "BadItem", .o "BadCut", .o "BadDealing", .o "NoName", .o "NoWorker", .o "TaskFailed", .o "CannotCross", .o "Closed", .b "ValueError", .b "LookupError", .b "RuntimeError"] [.o "WorkerworldsError", .o "BadWorld", .b "ValueError"]) rfl)
theorem isx_BadRow (b : Base K mg base) : isXB "BadRow" xTds [.o "WorkerworldsError", .o "BadRow", .b "ValueError"] K = true := (b.says.fact 25 (f := isXB "BadRow" [.o "WorkerworldsError", .o "BadBox", .o "BadName", .o "BadWorld", .o "BadRow", .o "BadProgram", .o "BadText", .o "TooMany", .o "BadSetting", .o "BadItem", .o "BadCut", .o "BadDealing", .o "NoName", .o "NoWorker", .o "TaskFailed", .o "CannotCross", .o "Closed", .b "ValueError", .b "LookupError", .b "RuntimeError"] [.o "WorkerworldsError", .o "BadRow", .b "ValueError"]) rfl)
theorem isx_BadProgram (b : Base K mg base) : isXB "BadProgram" xTds [.o "WorkerworldsError", .o "BadProgram", .b "ValueError"] K = true := (b.says.fact 26 (f := isXB "BadProgram" [.o "WorkerworldsError", .o "BadBox", .o "BadName", .o "BadWorld", .o "BadRow", .o "BadProgram", .o "BadText", .o "TooMany", .o "BadSetting", .o "BadItem", .o "BadCut", .o "BadDealing", .o "NoName", .o "NoWorker", .o "TaskFailed", .o "CannotCross", .o "Closed", .b "ValueError", .b "LookupError", .b "RuntimeError"] [.o "WorkerworldsError", .o "BadProgram", .b "ValueError"]) rfl)
theorem isx_BadText (b : Base K mg base) : isXB "BadText" xTds [.o "WorkerworldsError", .o "BadText", .b "ValueError"] K = true := (b.says.fact 27 (f := isXB "BadText" [.o "WorkerworldsError", .o "BadBox", .o "BadName", .o "BadWorld", .o "BadRow", .o "BadProgram", .o "BadText", .o "TooMany", .o "BadSetting", .o "BadItem", .o "BadCut", .o "BadDealing", .o "NoName", .o "NoWorker", .o "TaskFailed", .o "CannotCross", .o "Closed", .b "ValueError", .b "LookupError", .b "RuntimeError"] [.o "WorkerworldsError", .o "BadText", .b "ValueError"]) rfl)
theorem isx_TooMany (b : Base K mg base) : isXB "TooMany" xTds [.o "WorkerworldsError", .o "TooMany", .b "ValueError"] K = true := (b.says.fact 28 (f := isXB "TooMany" [.o "WorkerworldsError", .o "BadBox", .o "BadName", .o "BadWorld", .o "BadRow", .o "BadProgram", .o "BadText", .o "TooMany", .o "BadSetting", .o "BadItem", .o "BadCut", .o "BadDealing", .o "NoName", .o "NoWorker", .o "TaskFailed", .o "CannotCross", .o "Closed", .b "ValueError", .b "LookupError", .b "RuntimeError"] [.o "WorkerworldsError", .o "TooMany", .b "ValueError"]) rfl)
theorem isx_BadSetting (b : Base K mg base) : isXB "BadSetting" xTds [.o "WorkerworldsError", .o "BadSetting", .b "ValueError"] K = true := (b.says.fact 29 (f := isXB "BadSetting" [.o "WorkerworldsError", .o "BadBox", .o "BadName", .o "BadWorld", .o "BadRow", .o "BadProgram", .o "BadText", .o "TooMany", .o "BadSetting", .o "BadItem", .o "BadCut", .o "BadDealing", .o "NoName", .o "NoWorker", .o "TaskFailed", .o "CannotCross", .o "Closed", .b "ValueError", .b "LookupError", .b "RuntimeError"] [.o "WorkerworldsError", .o "BadSetting", .b "ValueError"]) rfl)
theorem isx_BadItem (b : Base K mg base) : isXB "BadItem" xTds [.o "WorkerworldsError", .o "BadItem", .b "ValueError"] K = true := (b.says.fact 30 (f := isXB "BadItem" [.o "WorkerworldsError", .o "BadBox", .o "BadName", .o "BadWorld", .o "BadRow", .o "BadProgram", .o "BadText", .o "TooMany", .o "BadSetting", .o "BadItem", .o "BadCut", .o "BadDealing", .o "NoName", .o "NoWorker", .o "TaskFailed", .o "CannotCross", .o "Closed", .b "ValueError", .b "LookupError", .b "RuntimeError"] [.o "WorkerworldsError", .o "BadItem", .b "ValueError"]) rfl)
theorem isx_BadCut (b : Base K mg base) : isXB "BadCut" xTds [.o "WorkerworldsError", .o "BadCut", .b "ValueError"] K = true := (b.says.fact 31 (f := isXB "BadCut" [.o "WorkerworldsError", .o "BadBox", .o "BadName", .o "BadWorld", .o "BadRow", .o "BadProgram", .o "BadText", .o "TooMany", .o "BadSetting", .o "BadItem", .o "BadCut", .o "BadDealing", .o "NoName", .o "NoWorker", .o "TaskFailed", .o "CannotCross", .o "Closed", .b "ValueError", .b "LookupError", .b "RuntimeError"] [.o "WorkerworldsError", .o "BadCut", .b "ValueError"]) rfl)
theorem isx_BadDealing (b : Base K mg base) : isXB "BadDealing" xTds [.o "WorkerworldsError", .o "BadDealing", .b "ValueError"] K = true := (b.says.fact 32 (f := isXB "BadDealing" [.o "WorkerworldsError", .o "BadBox", .o "BadName", .o "BadWorld", .o "BadRow", .o "BadProgram", .o "BadText", .o "TooMany", .o "BadSetting", .o "BadItem", .o "BadCut", .o "BadDealing", .o "NoName", .o "NoWorker", .o "TaskFailed", .o "CannotCross", .o "Closed", .b "ValueError", .b "LookupError", .b "RuntimeError"] [.o "WorkerworldsError", .o "BadDealing", .b "ValueError"]) rfl)
theorem isx_NoName (b : Base K mg base) : isXB "NoName" xTds [.o "NoName", .b "LookupError"] K = true := (b.says.fact 33 (f := isXB "NoName" [.o "WorkerworldsError", .o "BadBox", .o "BadName", .o "BadWorld", .o "BadRow", .o "BadProgram", .o "BadText", .o "TooMany", .o "BadSetting", .o "BadItem", .o "BadCut", .o "BadDealing", .o "NoName", .o "NoWorker", .o "TaskFailed", .o "CannotCross", .o "Closed", .b "ValueError", .b "LookupError", .b "RuntimeError"] [.o "NoName", .b "LookupError"]) rfl)
theorem isx_NoWorker (b : Base K mg base) : isXB "NoWorker" xTds [.o "NoWorker", .b "LookupError"] K = true := (b.says.fact 34 (f := isXB "NoWorker" [.o "WorkerworldsError", .o "BadBox", .o "BadName", .o "BadWorld", .o "BadRow", .o "BadProgram", .o "BadText", .o "TooMany", .o "BadSetting", .o "BadItem", .o "BadCut", .o "BadDealing", .o "NoName", .o "NoWorker", .o "TaskFailed", .o "CannotCross", .o "Closed", .b "ValueError", .b "LookupError", .b "RuntimeError"] [.o "NoWorker", .b "LookupError"]) rfl)
theorem isx_TaskFailed (b : Base K mg base) : isXB "TaskFailed" xTds [.o "TaskFailed", .b "RuntimeError"] K = true := (b.says.fact 35 (f := isXB "TaskFailed" [.o "WorkerworldsError", .o "BadBox", .o "BadName", .o "BadWorld", .o "BadRow", .o "BadProgram", .o "BadText", .o "TooMany", .o "BadSetting", .o "BadItem", .o "BadCut", .o "BadDealing", .o "NoName", .o "NoWorker", .o "TaskFailed", .o "CannotCross", .o "Closed", .b "ValueError", .b "LookupError", .b "RuntimeError"] [.o "TaskFailed", .b "RuntimeError"]) rfl)
theorem isx_CannotCross (b : Base K mg base) : isXB "CannotCross" xTds [.o "CannotCross", .b "RuntimeError"] K = true := (b.says.fact 36 (f := isXB "CannotCross" [.o "WorkerworldsError", .o "BadBox", .o "BadName", .o "BadWorld", .o "BadRow", .o "BadProgram", .o "BadText", .o "TooMany", .o "BadSetting", .o "BadItem", .o "BadCut", .o "BadDealing", .o "NoName", .o "NoWorker", .o "TaskFailed", .o "CannotCross", .o "Closed", .b "ValueError", .b "LookupError", .b "RuntimeError"] [.o "CannotCross", .b "RuntimeError"]) rfl)
theorem isx_Closed (b : Base K mg base) : isXB "Closed" xTds [.o "Closed", .b "RuntimeError"] K = true := (b.says.fact 37 (f := isXB "Closed" [.o "WorkerworldsError", .o "BadBox", .o "BadName", .o "BadWorld", .o "BadRow", .o "BadProgram", .o "BadText", .o "TooMany", .o "BadSetting", .o "BadItem", .o "BadCut", .o "BadDealing", .o "NoName", .o "NoWorker", .o "TaskFailed", .o "CannotCross", .o "Closed", .b "ValueError", .b "LookupError", .b "RuntimeError"] [.o "Closed", .b "RuntimeError"]) rfl)
theorem oex_CannotCross (b : Base K mg base) : OexG K (He.ga K (S "CannotCross")) := oex_of (b.says.fact 38 (f := oexB "CannotCross") rfl)
theorem oex_NoName (b : Base K mg base) : OexG K (He.ga K (S "NoName")) := oex_of (b.says.fact 39 (f := oexB "NoName") rfl)
theorem oex_NoWorker (b : Base K mg base) : OexG K (He.ga K (S "NoWorker")) := oex_of (b.says.fact 40 (f := oexB "NoWorker") rfl)
theorem oex_TaskFailed (b : Base K mg base) : OexG K (He.ga K (S "TaskFailed")) := oex_of (b.says.fact 41 (f := oexB "TaskFailed") rfl)
theorem oex_BadCut (b : Base K mg base) : OexG K (He.ga K (S "BadCut")) := oex_of (b.says.fact 42 (f := oexB "BadCut") rfl)
theorem oex_BadDealing (b : Base K mg base) : OexG K (He.ga K (S "BadDealing")) := oex_of (b.says.fact 43 (f := oexB "BadDealing") rfl)
theorem oex_BadProgram (b : Base K mg base) : OexG K (He.ga K (S "BadProgram")) := oex_of (b.says.fact 44 (f := oexB "BadProgram") rfl)
theorem oex_BadText (b : Base K mg base) : OexG K (He.ga K (S "BadText")) := oex_of (b.says.fact 45 (f := oexB "BadText") rfl)
theorem oex_TooMany (b : Base K mg base) : OexG K (He.ga K (S "TooMany")) := oex_of (b.says.fact 46 (f := oexB "TooMany") rfl)
theorem oex_BadSetting (b : Base K mg base) : OexG K (He.ga K (S "BadSetting")) := oex_of (b.says.fact 47 (f := oexB "BadSetting") rfl)
theorem oex_BadItem (b : Base K mg base) : OexG K (He.ga K (S "BadItem")) := oex_of (b.says.fact 48 (f := oexB "BadItem") rfl)
theorem oex_BadBox (b : Base K mg base) : OexG K (He.ga K (S "BadBox")) := oex_of (b.says.fact 49 (f := oexB "BadBox") rfl)
theorem oex_BadName (b : Base K mg base) : OexG K (He.ga K (S "BadName")) := oex_of (b.says.fact 50 (f := oexB "BadName") rfl)
theorem oex_BadWorld (b : Base K mg base) : OexG K (He.ga K (S "BadWorld")) := oex_of (b.says.fact 51 (f := oexB "BadWorld") rfl)
theorem oex_BadRow (b : Base K mg base) : OexG K (He.ga K (S "BadRow")) := oex_of (b.says.fact 52 (f := oexB "BadRow") rfl)
theorem fd_BadBox___init__ (b : Base K mg base) : FunK K d_BadBox___init__ := funK (b.says.def_ 0 (d := d_BadBox___init__) rfl)
theorem fd_BadName___init__ (b : Base K mg base) : FunK K d_BadName___init__ := funK (b.says.def_ 1 (d := d_BadName___init__) rfl)
theorem fd_BadWorld___init__ (b : Base K mg base) : FunK K d_BadWorld___init__ := funK (b.says.def_ 2 (d := d_BadWorld___init__) rfl)
theorem fd_BadRow___init__ (b : Base K mg base) : FunK K d_BadRow___init__ := funK (b.says.def_ 3 (d := d_BadRow___init__) rfl)
theorem fd_BadProgram___init__ (b : Base K mg base) : FunK K d_BadProgram___init__ := funK (b.says.def_ 4 (d := d_BadProgram___init__) rfl)
theorem fd_BadText___init__ (b : Base K mg base) : FunK K d_BadText___init__ := funK (b.says.def_ 5 (d := d_BadText___init__) rfl)
theorem fd_TooMany___init__ (b : Base K mg base) : FunK K d_TooMany___init__ := funK (b.says.def_ 6 (d := d_TooMany___init__) rfl)
theorem fd_BadSetting___init__ (b : Base K mg base) : FunK K d_BadSetting___init__ := funK (b.says.def_ 7 (d := d_BadSetting___init__) rfl)
theorem fd_BadItem___init__ (b : Base K mg base) : FunK K d_BadItem___init__ := funK (b.says.def_ 8 (d := d_BadItem___init__) rfl)
theorem fd_BadCut___init__ (b : Base K mg base) : FunK K d_BadCut___init__ := funK (b.says.def_ 9 (d := d_BadCut___init__) rfl)
theorem fd_BadDealing___init__ (b : Base K mg base) : FunK K d_BadDealing___init__ := funK (b.says.def_ 10 (d := d_BadDealing___init__) rfl)
theorem fd_NoName___init__ (b : Base K mg base) : FunK K d_NoName___init__ := funK (b.says.def_ 11 (d := d_NoName___init__) rfl)
theorem fd_NoWorker___init__ (b : Base K mg base) : FunK K d_NoWorker___init__ := funK (b.says.def_ 12 (d := d_NoWorker___init__) rfl)
theorem fd_TaskFailed___init__ (b : Base K mg base) : FunK K d_TaskFailed___init__ := funK (b.says.def_ 13 (d := d_TaskFailed___init__) rfl)
theorem fd_CannotCross___init__ (b : Base K mg base) : FunK K d_CannotCross___init__ := funK (b.says.def_ 14 (d := d_CannotCross___init__) rfl)
theorem fd__law_bag (b : Base K mg base) : FunK K d__law_bag := funK (b.says.def_ 15 (d := d__law_bag) rfl)
theorem fd__law_take (b : Base K mg base) : FunK K d__law_take := funK (b.says.def_ 16 (d := d__law_take) rfl)
theorem fd__law_value (b : Base K mg base) : FunK K d__law_value := funK (b.says.def_ 17 (d := d__law_value) rfl)
theorem fd__law_kinds (b : Base K mg base) : FunK K d__law_kinds := funK (b.says.def_ 18 (d := d__law_kinds) rfl)
theorem fd__law_are_right (b : Base K mg base) : FunK K d__law_are_right := funK (b.says.def_ 19 (d := d__law_are_right) rfl)
theorem fd_law (b : Base K mg base) : FunK K d_law := funK (b.says.def_ 20 (d := d_law) rfl)
theorem ini_CannotCross (b : Base K mg base) : FnOk P w K mg base L2.CX0 1 (d_CannotCross___init__.at_ K) (fdOf K (d_CannotCross___init__.at_ K)) ["self", "at", "what"] (spIni (He.ga K (S "CannotCross")) ["at", "what"]) := ini2 (fd_CannotCross___init__ b).D ⟨rfl, rfl, rfl, by decide +kernel, rfl, by decide +kernel, by decide +kernel⟩ (oex_CannotCross b) (He.noat_ok (b.says.he 51 (f := .noat "CannotCross" "at") rfl)) (He.noat_ok (b.says.he 52 (f := .noat "CannotCross" "what") rfl)) ⟨by decide, by decide⟩ ⟨by decide, by decide⟩ ⟨by decide, by decide⟩
theorem ini_NoName (b : Base K mg base) : FnOk P w K mg base L2.CX0 1 (d_NoName___init__.at_ K) (fdOf K (d_NoName___init__.at_ K)) ["self", "name"] (spIni (He.ga K (S "NoName")) ["name"]) := ini1 (fd_NoName___init__ b).D ⟨rfl, rfl, rfl, by decide +kernel, rfl, by decide +kernel, by decide +kernel⟩ (oex_NoName b) (He.noat_ok (b.says.he 53 (f := .noat "NoName" "name") rfl)) ⟨by decide, by decide⟩ ⟨by decide, by decide⟩
theorem ini_NoWorker (b : Base K mg base) : FnOk P w K mg base L2.CX0 1 (d_NoWorker___init__.at_ K) (fdOf K (d_NoWorker___init__.at_ K)) ["self", "number"] (spIni (He.ga K (S "NoWorker")) ["number"]) := ini1 (fd_NoWorker___init__ b).D ⟨rfl, rfl, rfl, by decide +kernel, rfl, by decide +kernel, by decide +kernel⟩ (oex_NoWorker b) (He.noat_ok (b.says.he 54 (f := .noat "NoWorker" "number") rfl)) ⟨by decide, by decide⟩ ⟨by decide, by decide⟩
theorem ini_TaskFailed (b : Base K mg base) : FnOk P w K mg base L2.CX0 1 (d_TaskFailed___init__.at_ K) (fdOf K (d_TaskFailed___init__.at_ K)) ["self", "at", "told", "cause"] (spIni (He.ga K (S "TaskFailed")) ["at", "told", "cause"]) := ini3 (fd_TaskFailed___init__ b).D ⟨rfl, rfl, rfl, by decide +kernel, rfl, by decide +kernel, by decide +kernel⟩ (oex_TaskFailed b) (He.noat_ok (b.says.he 55 (f := .noat "TaskFailed" "at") rfl)) (He.noat_ok (b.says.he 56 (f := .noat "TaskFailed" "told") rfl)) (He.noat_ok (b.says.he 57 (f := .noat "TaskFailed" "cause") rfl)) ⟨by decide, by decide⟩ ⟨by decide, by decide⟩ ⟨by decide, by decide⟩ ⟨by decide, by decide⟩
theorem ini_BadCut (b : Base K mg base) : FnOk P w K mg base L2.CX0 1 (d_BadCut___init__.at_ K) (fdOf K (d_BadCut___init__.at_ K)) ["self", "at"] (spIni (He.ga K (S "BadCut")) ["at"]) := ini1 (fd_BadCut___init__ b).D ⟨rfl, rfl, rfl, by decide +kernel, rfl, by decide +kernel, by decide +kernel⟩ (oex_BadCut b) (He.noat_ok (b.says.he 58 (f := .noat "BadCut" "at") rfl)) ⟨by decide, by decide⟩ ⟨by decide, by decide⟩
theorem ini_BadDealing (b : Base K mg base) : FnOk P w K mg base L2.CX0 1 (d_BadDealing___init__.at_ K) (fdOf K (d_BadDealing___init__.at_ K)) ["self", "at"] (spIni (He.ga K (S "BadDealing")) ["at"]) := ini1 (fd_BadDealing___init__ b).D ⟨rfl, rfl, rfl, by decide +kernel, rfl, by decide +kernel, by decide +kernel⟩ (oex_BadDealing b) (He.noat_ok (b.says.he 59 (f := .noat "BadDealing" "at") rfl)) ⟨by decide, by decide⟩ ⟨by decide, by decide⟩
theorem ini_BadProgram (b : Base K mg base) : FnOk P w K mg base L2.CX0 1 (d_BadProgram___init__.at_ K) (fdOf K (d_BadProgram___init__.at_ K)) ["self", "part", "at"] (spIni (He.ga K (S "BadProgram")) ["part", "at"]) := ini2 (fd_BadProgram___init__ b).D ⟨rfl, rfl, rfl, by decide +kernel, rfl, by decide +kernel, by decide +kernel⟩ (oex_BadProgram b) (He.noat_ok (b.says.he 60 (f := .noat "BadProgram" "part") rfl)) (He.noat_ok (b.says.he 61 (f := .noat "BadProgram" "at") rfl)) ⟨by decide, by decide⟩ ⟨by decide, by decide⟩ ⟨by decide, by decide⟩
theorem ini_BadText (b : Base K mg base) : FnOk P w K mg base L2.CX0 1 (d_BadText___init__.at_ K) (fdOf K (d_BadText___init__.at_ K)) ["self", "at"] (spIni (He.ga K (S "BadText")) ["at"]) := ini1 (fd_BadText___init__ b).D ⟨rfl, rfl, rfl, by decide +kernel, rfl, by decide +kernel, by decide +kernel⟩ (oex_BadText b) (He.noat_ok (b.says.he 62 (f := .noat "BadText" "at") rfl)) ⟨by decide, by decide⟩ ⟨by decide, by decide⟩
theorem ini_TooMany (b : Base K mg base) : FnOk P w K mg base L2.CX0 1 (d_TooMany___init__.at_ K) (fdOf K (d_TooMany___init__.at_ K)) ["self", "what"] (spIni (He.ga K (S "TooMany")) ["what"]) := ini1 (fd_TooMany___init__ b).D ⟨rfl, rfl, rfl, by decide +kernel, rfl, by decide +kernel, by decide +kernel⟩ (oex_TooMany b) (He.noat_ok (b.says.he 63 (f := .noat "TooMany" "what") rfl)) ⟨by decide, by decide⟩ ⟨by decide, by decide⟩
theorem ini_BadSetting (b : Base K mg base) : FnOk P w K mg base L2.CX0 1 (d_BadSetting___init__.at_ K) (fdOf K (d_BadSetting___init__.at_ K)) ["self", "what"] (spIni (He.ga K (S "BadSetting")) ["what"]) := ini1 (fd_BadSetting___init__ b).D ⟨rfl, rfl, rfl, by decide +kernel, rfl, by decide +kernel, by decide +kernel⟩ (oex_BadSetting b) (He.noat_ok (b.says.he 64 (f := .noat "BadSetting" "what") rfl)) ⟨by decide, by decide⟩ ⟨by decide, by decide⟩
theorem ini_BadItem (b : Base K mg base) : FnOk P w K mg base L2.CX0 1 (d_BadItem___init__.at_ K) (fdOf K (d_BadItem___init__.at_ K)) ["self", "at"] (spIni (He.ga K (S "BadItem")) ["at"]) := ini1 (fd_BadItem___init__ b).D ⟨rfl, rfl, rfl, by decide +kernel, rfl, by decide +kernel, by decide +kernel⟩ (oex_BadItem b) (He.noat_ok (b.says.he 65 (f := .noat "BadItem" "at") rfl)) ⟨by decide, by decide⟩ ⟨by decide, by decide⟩
theorem ini_BadBox (b : Base K mg base) : FnOk P w K mg base L2.CX0 1 (d_BadBox___init__.at_ K) (fdOf K (d_BadBox___init__.at_ K)) ["self", "contents"] (spIni (He.ga K (S "BadBox")) ["contents"]) := ini1 (fd_BadBox___init__ b).D ⟨rfl, rfl, rfl, by decide +kernel, rfl, by decide +kernel, by decide +kernel⟩ (oex_BadBox b) (He.noat_ok (b.says.he 66 (f := .noat "BadBox" "contents") rfl)) ⟨by decide, by decide⟩ ⟨by decide, by decide⟩
theorem ini_BadName (b : Base K mg base) : FnOk P w K mg base L2.CX0 1 (d_BadName___init__.at_ K) (fdOf K (d_BadName___init__.at_ K)) ["self", "name"] (spIni (He.ga K (S "BadName")) ["name"]) := ini1 (fd_BadName___init__ b).D ⟨rfl, rfl, rfl, by decide +kernel, rfl, by decide +kernel, by decide +kernel⟩ (oex_BadName b) (He.noat_ok (b.says.he 67 (f := .noat "BadName" "name") rfl)) ⟨by decide, by decide⟩ ⟨by decide, by decide⟩
theorem ini_BadWorld (b : Base K mg base) : FnOk P w K mg base L2.CX0 1 (d_BadWorld___init__.at_ K) (fdOf K (d_BadWorld___init__.at_ K)) ["self", "at"] (spIni (He.ga K (S "BadWorld")) ["at"]) := ini1 (fd_BadWorld___init__ b).D ⟨rfl, rfl, rfl, by decide +kernel, rfl, by decide +kernel, by decide +kernel⟩ (oex_BadWorld b) (He.noat_ok (b.says.he 68 (f := .noat "BadWorld" "at") rfl)) ⟨by decide, by decide⟩ ⟨by decide, by decide⟩
theorem ini_BadRow (b : Base K mg base) : FnOk P w K mg base L2.CX0 1 (d_BadRow___init__.at_ K) (fdOf K (d_BadRow___init__.at_ K)) ["self", "row"] (spIni (He.ga K (S "BadRow")) ["row"]) := ini1 (fd_BadRow___init__ b).D ⟨rfl, rfl, rfl, by decide +kernel, rfl, by decide +kernel, by decide +kernel⟩ (oex_BadRow b) (He.noat_ok (b.says.he 69 (f := .noat "BadRow" "row") rfl)) ⟨by decide, by decide⟩ ⟨by decide, by decide⟩
end
theorem ev {X : Cx} {W : WX} {pos : Pos} {i : Nat} {x : Str} (h1 : X.N[i]? = some x := by exact rfl) (h2 : Vis X.env.scope x := by first | exact Or.inl rfl | exact Or.inr (Or.inl rfl) | exact Or.inr (Or.inr rfl)) (h3 : (x == ("__debug__" : Str)) = false := by decide) (h4 : (x == ("__classdict__" : Str)) = false := by decide) : EU X W (.Name x pos) (tUVar i) := eu_var h1 h2 h3 h4
abbrev cxV (N : List Str) (d : DD) (P : Program) (w : World) (K : PySem.W.Frag) (mg : Str → Option Value) (base : Heap) (f : Addr) (cdv : Value) (A : Around) (outer : List Env) (s : Shared) (H : Hp) (E : XK) : Cx := cxU P w K mg base N d.qual d.scope f cdv A outer s H E
abbrev ScD (N : List Str) (d : DD) : Prop := FnScope N (parN d.params ++ parK d.params) d.scope
section
variable {P : Program} {w : World} {K : PySem.W.Frag} {mg : Str → Option Value} {base : Heap} {f : Addr} {cdv : Value} {A : Around} {outer : List Env} {s : Shared} {H : Hp} {G : Gp} {E : UX} {W : WX} {pos : Pos}
namespace F__law_bag
def N : List Str := ["_law_script", "_law_at", "_law_cell"]
theorem sc : ScD N d__law_bag := ⟨rfl, rfl, rfl, by decide +kernel, rfl, by decide +kernel, by decide +kernel⟩
abbrev X := cxV N d__law_bag
theorem v0 {E : XK} : EU (X P w K mg base f cdv A outer s H E) W (.Name "_law_script" pos) (tUVar 0) := ev
theorem v1 {E : XK} : EU (X P w K mg base f cdv A outer s H E) W (.Name "_law_at" pos) (tUVar 1) := ev
theorem v2 {E : XK} : EU (X P w K mg base f cdv A outer s H E) W (.Name "_law_cell" pos) (tUVar 2) := ev
theorem body (b : Base K mg base)  (hr : RoomU 0 (A.deeper (envOfC d__law_bag.qual d__law_bag.scope s.heap.objs.size f cdv))) : SsU (X P w K mg base f cdv A outer s H (LX K H G E)) (wOf K H G E) (defBody (top 19)) t__law_bag :=
  (ssu_cons (su_set (i := 2) sc.nd rfl (by first | exact Or.inl rfl | exact Or.inr rfl) (eu_ifC (tu_cmp ou_lt v1 (eu_callB cu_len rfl (n_len b) boot_len (au_cons v0 au_nil rfl) (by decide) (by decide) rfl rfl) (nomark _)) (eu_callB cu_abs rfl (n_abs b) boot_abs (au_cons (eu_ix iu0 v0 v1 fun _ _ => rfl) au_nil rfl) (by decide) (by decide) rfl rfl) eu_int) rfl (Or.inl rfl))
    (ssu_cons (su_ret (eu_lst (au_cons (eu_ifC (tu_cmp ou_ge v2 (eu_bin ou_pow eu_int eu_int) (nomark _)) v2 eu_int) (au_cons (eu_bin ou_add eu_int (eu_bin ou_mul eu_int v1)) (au_cons v1 (au_cons (eu_callTy cu_list rfl (n_list b) boot_list (au_cons (eu_slice v0 pou_none (pou_some eu_int)) au_nil rfl) (by decide) (by decide) rfl rfl) au_nil rfl) rfl) rfl) rfl)))
    ssu_nil))
end F__law_bag
theorem ok__law_bag (b : Base K mg base) : Known P w K mg base d__law_bag 1 sp__law_bag :=
  ⟨fn_u (fd__law_bag b).D F__law_bag.sc rfl (fun cdv A outer s H G E hr => F__law_bag.body b  hr) (fun ws G Q E h _ => law__law_bag ws G Q E h), (fd__law_bag b).D⟩
namespace F__law_kinds
def N : List Str := ["_law_e", "_law_rows", "_law_above", "_law_first"]
theorem sc : ScD N d__law_kinds := ⟨rfl, rfl, rfl, by decide +kernel, rfl, by decide +kernel, by decide +kernel⟩
abbrev X := cxV N d__law_kinds
theorem v0 {E : XK} : EU (X P w K mg base f cdv A outer s H E) W (.Name "_law_e" pos) (tUVar 0) := ev
theorem v1 {E : XK} : EU (X P w K mg base f cdv A outer s H E) W (.Name "_law_rows" pos) (tUVar 1) := ev
theorem v2 {E : XK} : EU (X P w K mg base f cdv A outer s H E) W (.Name "_law_above" pos) (tUVar 2) := ev
theorem v3 {E : XK} : EU (X P w K mg base f cdv A outer s H E) W (.Name "_law_first" pos) (tUVar 3) := ev
theorem body (b : Base K mg base)  (hr : RoomU 0 (A.deeper (envOfC d__law_kinds.qual d__law_kinds.scope s.heap.objs.size f cdv))) : SsU (X P w K mg base f cdv A outer s H (LX K H G E)) (wOf K H G E) (defBody (top 22)) t__law_kinds :=
  (ssu_cons (su_set (i := 1) sc.nd rfl (by first | exact Or.inl rfl | exact Or.inr rfl) (eu_lst (au_cons (eu_callB (cu_isX (tds := xTds) (tab := xTab) (allp (isx_WorkerworldsError b) (allp (isx_BadBox b) (allp (isx_BadName b) (allp (isx_BadWorld b) (allp (isx_BadRow b) (allp (isx_BadProgram b) (allp (isx_BadText b) (allp (isx_TooMany b) (allp (isx_BadSetting b) (allp (isx_BadItem b) (allp (isx_BadCut b) (allp (isx_BadDealing b) (allp (isx_NoName b) (allp (isx_NoWorker b) (allp (isx_TaskFailed b) (allp (isx_CannotCross b) (allp (isx_Closed b) all0)))))))))))))))))) rfl (n_isinstance b) boot_isinstance (au_cons v0 (au_cons (eu_glo (y := "BadBox") rfl (gl_BadBox b) (by decide)) au_nil rfl) rfl) (by decide) (by decide) rfl rfl) (au_cons (eu_callB (cu_isX (tds := xTds) (tab := xTab) (allp (isx_WorkerworldsError b) (allp (isx_BadBox b) (allp (isx_BadName b) (allp (isx_BadWorld b) (allp (isx_BadRow b) (allp (isx_BadProgram b) (allp (isx_BadText b) (allp (isx_TooMany b) (allp (isx_BadSetting b) (allp (isx_BadItem b) (allp (isx_BadCut b) (allp (isx_BadDealing b) (allp (isx_NoName b) (allp (isx_NoWorker b) (allp (isx_TaskFailed b) (allp (isx_CannotCross b) (allp (isx_Closed b) all0)))))))))))))))))) rfl (n_isinstance b) boot_isinstance (au_cons v0 (au_cons (eu_glo (y := "BadName") rfl (gl_BadName b) (by decide)) au_nil rfl) rfl) (by decide) (by decide) rfl rfl) au_nil rfl) rfl)) rfl (Or.inl rfl))
    (ssu_cons (su_expr (eu_bm PySem.F.plainAttrs_list PySem.F.slot_list_extend PySem.F.type_list_extend mu_extend v1 (au_cons (eu_lst (au_cons (eu_callB (cu_isX (tds := xTds) (tab := xTab) (allp (isx_WorkerworldsError b) (allp (isx_BadBox b) (allp (isx_BadName b) (allp (isx_BadWorld b) (allp (isx_BadRow b) (allp (isx_BadProgram b) (allp (isx_BadText b) (allp (isx_TooMany b) (allp (isx_BadSetting b) (allp (isx_BadItem b) (allp (isx_BadCut b) (allp (isx_BadDealing b) (allp (isx_NoName b) (allp (isx_NoWorker b) (allp (isx_TaskFailed b) (allp (isx_CannotCross b) (allp (isx_Closed b) all0)))))))))))))))))) rfl (n_isinstance b) boot_isinstance (au_cons v0 (au_cons (eu_glo (y := "BadWorld") rfl (gl_BadWorld b) (by decide)) au_nil rfl) rfl) (by decide) (by decide) rfl rfl) (au_cons (eu_callB (cu_isX (tds := xTds) (tab := xTab) (allp (isx_WorkerworldsError b) (allp (isx_BadBox b) (allp (isx_BadName b) (allp (isx_BadWorld b) (allp (isx_BadRow b) (allp (isx_BadProgram b) (allp (isx_BadText b) (allp (isx_TooMany b) (allp (isx_BadSetting b) (allp (isx_BadItem b) (allp (isx_BadCut b) (allp (isx_BadDealing b) (allp (isx_NoName b) (allp (isx_NoWorker b) (allp (isx_TaskFailed b) (allp (isx_CannotCross b) (allp (isx_Closed b) all0)))))))))))))))))) rfl (n_isinstance b) boot_isinstance (au_cons v0 (au_cons (eu_glo (y := "BadRow") rfl (gl_BadRow b) (by decide)) au_nil rfl) rfl) (by decide) (by decide) rfl rfl) au_nil rfl) rfl)) au_nil rfl) rfl rfl rfl rfl rfl) rfl)
    (ssu_cons (su_expr (eu_bm PySem.F.plainAttrs_list PySem.F.slot_list_extend PySem.F.type_list_extend mu_extend v1 (au_cons (eu_lst (au_cons (eu_callB (cu_isX (tds := xTds) (tab := xTab) (allp (isx_WorkerworldsError b) (allp (isx_BadBox b) (allp (isx_BadName b) (allp (isx_BadWorld b) (allp (isx_BadRow b) (allp (isx_BadProgram b) (allp (isx_BadText b) (allp (isx_TooMany b) (allp (isx_BadSetting b) (allp (isx_BadItem b) (allp (isx_BadCut b) (allp (isx_BadDealing b) (allp (isx_NoName b) (allp (isx_NoWorker b) (allp (isx_TaskFailed b) (allp (isx_CannotCross b) (allp (isx_Closed b) all0)))))))))))))))))) rfl (n_isinstance b) boot_isinstance (au_cons v0 (au_cons (eu_glo (y := "BadProgram") rfl (gl_BadProgram b) (by decide)) au_nil rfl) rfl) (by decide) (by decide) rfl rfl) (au_cons (eu_callB (cu_isX (tds := xTds) (tab := xTab) (allp (isx_WorkerworldsError b) (allp (isx_BadBox b) (allp (isx_BadName b) (allp (isx_BadWorld b) (allp (isx_BadRow b) (allp (isx_BadProgram b) (allp (isx_BadText b) (allp (isx_TooMany b) (allp (isx_BadSetting b) (allp (isx_BadItem b) (allp (isx_BadCut b) (allp (isx_BadDealing b) (allp (isx_NoName b) (allp (isx_NoWorker b) (allp (isx_TaskFailed b) (allp (isx_CannotCross b) (allp (isx_Closed b) all0)))))))))))))))))) rfl (n_isinstance b) boot_isinstance (au_cons v0 (au_cons (eu_glo (y := "BadText") rfl (gl_BadText b) (by decide)) au_nil rfl) rfl) (by decide) (by decide) rfl rfl) (au_cons (eu_callB (cu_isX (tds := xTds) (tab := xTab) (allp (isx_WorkerworldsError b) (allp (isx_BadBox b) (allp (isx_BadName b) (allp (isx_BadWorld b) (allp (isx_BadRow b) (allp (isx_BadProgram b) (allp (isx_BadText b) (allp (isx_TooMany b) (allp (isx_BadSetting b) (allp (isx_BadItem b) (allp (isx_BadCut b) (allp (isx_BadDealing b) (allp (isx_NoName b) (allp (isx_NoWorker b) (allp (isx_TaskFailed b) (allp (isx_CannotCross b) (allp (isx_Closed b) all0)))))))))))))))))) rfl (n_isinstance b) boot_isinstance (au_cons v0 (au_cons (eu_glo (y := "TooMany") rfl (gl_TooMany b) (by decide)) au_nil rfl) rfl) (by decide) (by decide) rfl rfl) au_nil rfl) rfl) rfl)) au_nil rfl) rfl rfl rfl rfl rfl) rfl)
    (ssu_cons (su_expr (eu_bm PySem.F.plainAttrs_list PySem.F.slot_list_extend PySem.F.type_list_extend mu_extend v1 (au_cons (eu_lst (au_cons (eu_callB (cu_isX (tds := xTds) (tab := xTab) (allp (isx_WorkerworldsError b) (allp (isx_BadBox b) (allp (isx_BadName b) (allp (isx_BadWorld b) (allp (isx_BadRow b) (allp (isx_BadProgram b) (allp (isx_BadText b) (allp (isx_TooMany b) (allp (isx_BadSetting b) (allp (isx_BadItem b) (allp (isx_BadCut b) (allp (isx_BadDealing b) (allp (isx_NoName b) (allp (isx_NoWorker b) (allp (isx_TaskFailed b) (allp (isx_CannotCross b) (allp (isx_Closed b) all0)))))))))))))))))) rfl (n_isinstance b) boot_isinstance (au_cons v0 (au_cons (eu_glo (y := "BadSetting") rfl (gl_BadSetting b) (by decide)) au_nil rfl) rfl) (by decide) (by decide) rfl rfl) (au_cons (eu_callB (cu_isX (tds := xTds) (tab := xTab) (allp (isx_WorkerworldsError b) (allp (isx_BadBox b) (allp (isx_BadName b) (allp (isx_BadWorld b) (allp (isx_BadRow b) (allp (isx_BadProgram b) (allp (isx_BadText b) (allp (isx_TooMany b) (allp (isx_BadSetting b) (allp (isx_BadItem b) (allp (isx_BadCut b) (allp (isx_BadDealing b) (allp (isx_NoName b) (allp (isx_NoWorker b) (allp (isx_TaskFailed b) (allp (isx_CannotCross b) (allp (isx_Closed b) all0)))))))))))))))))) rfl (n_isinstance b) boot_isinstance (au_cons v0 (au_cons (eu_glo (y := "BadItem") rfl (gl_BadItem b) (by decide)) au_nil rfl) rfl) (by decide) (by decide) rfl rfl) (au_cons (eu_callB (cu_isX (tds := xTds) (tab := xTab) (allp (isx_WorkerworldsError b) (allp (isx_BadBox b) (allp (isx_BadName b) (allp (isx_BadWorld b) (allp (isx_BadRow b) (allp (isx_BadProgram b) (allp (isx_BadText b) (allp (isx_TooMany b) (allp (isx_BadSetting b) (allp (isx_BadItem b) (allp (isx_BadCut b) (allp (isx_BadDealing b) (allp (isx_NoName b) (allp (isx_NoWorker b) (allp (isx_TaskFailed b) (allp (isx_CannotCross b) (allp (isx_Closed b) all0)))))))))))))))))) rfl (n_isinstance b) boot_isinstance (au_cons v0 (au_cons (eu_glo (y := "BadCut") rfl (gl_BadCut b) (by decide)) au_nil rfl) rfl) (by decide) (by decide) rfl rfl) au_nil rfl) rfl) rfl)) au_nil rfl) rfl rfl rfl rfl rfl) rfl)
    (ssu_cons (su_expr (eu_bm PySem.F.plainAttrs_list PySem.F.slot_list_extend PySem.F.type_list_extend mu_extend v1 (au_cons (eu_lst (au_cons (eu_callB (cu_isX (tds := xTds) (tab := xTab) (allp (isx_WorkerworldsError b) (allp (isx_BadBox b) (allp (isx_BadName b) (allp (isx_BadWorld b) (allp (isx_BadRow b) (allp (isx_BadProgram b) (allp (isx_BadText b) (allp (isx_TooMany b) (allp (isx_BadSetting b) (allp (isx_BadItem b) (allp (isx_BadCut b) (allp (isx_BadDealing b) (allp (isx_NoName b) (allp (isx_NoWorker b) (allp (isx_TaskFailed b) (allp (isx_CannotCross b) (allp (isx_Closed b) all0)))))))))))))))))) rfl (n_isinstance b) boot_isinstance (au_cons v0 (au_cons (eu_glo (y := "BadDealing") rfl (gl_BadDealing b) (by decide)) au_nil rfl) rfl) (by decide) (by decide) rfl rfl) (au_cons (eu_callB (cu_isX (tds := xTds) (tab := xTab) (allp (isx_WorkerworldsError b) (allp (isx_BadBox b) (allp (isx_BadName b) (allp (isx_BadWorld b) (allp (isx_BadRow b) (allp (isx_BadProgram b) (allp (isx_BadText b) (allp (isx_TooMany b) (allp (isx_BadSetting b) (allp (isx_BadItem b) (allp (isx_BadCut b) (allp (isx_BadDealing b) (allp (isx_NoName b) (allp (isx_NoWorker b) (allp (isx_TaskFailed b) (allp (isx_CannotCross b) (allp (isx_Closed b) all0)))))))))))))))))) rfl (n_isinstance b) boot_isinstance (au_cons v0 (au_cons (eu_glo (y := "NoName") rfl (gl_NoName b) (by decide)) au_nil rfl) rfl) (by decide) (by decide) rfl rfl) (au_cons (eu_callB (cu_isX (tds := xTds) (tab := xTab) (allp (isx_WorkerworldsError b) (allp (isx_BadBox b) (allp (isx_BadName b) (allp (isx_BadWorld b) (allp (isx_BadRow b) (allp (isx_BadProgram b) (allp (isx_BadText b) (allp (isx_TooMany b) (allp (isx_BadSetting b) (allp (isx_BadItem b) (allp (isx_BadCut b) (allp (isx_BadDealing b) (allp (isx_NoName b) (allp (isx_NoWorker b) (allp (isx_TaskFailed b) (allp (isx_CannotCross b) (allp (isx_Closed b) all0)))))))))))))))))) rfl (n_isinstance b) boot_isinstance (au_cons v0 (au_cons (eu_glo (y := "NoWorker") rfl (gl_NoWorker b) (by decide)) au_nil rfl) rfl) (by decide) (by decide) rfl rfl) au_nil rfl) rfl) rfl)) au_nil rfl) rfl rfl rfl rfl rfl) rfl)
    (ssu_cons (su_expr (eu_bm PySem.F.plainAttrs_list PySem.F.slot_list_extend PySem.F.type_list_extend mu_extend v1 (au_cons (eu_lst (au_cons (eu_callB (cu_isX (tds := xTds) (tab := xTab) (allp (isx_WorkerworldsError b) (allp (isx_BadBox b) (allp (isx_BadName b) (allp (isx_BadWorld b) (allp (isx_BadRow b) (allp (isx_BadProgram b) (allp (isx_BadText b) (allp (isx_TooMany b) (allp (isx_BadSetting b) (allp (isx_BadItem b) (allp (isx_BadCut b) (allp (isx_BadDealing b) (allp (isx_NoName b) (allp (isx_NoWorker b) (allp (isx_TaskFailed b) (allp (isx_CannotCross b) (allp (isx_Closed b) all0)))))))))))))))))) rfl (n_isinstance b) boot_isinstance (au_cons v0 (au_cons (eu_glo (y := "TaskFailed") rfl (gl_TaskFailed b) (by decide)) au_nil rfl) rfl) (by decide) (by decide) rfl rfl) (au_cons (eu_callB (cu_isX (tds := xTds) (tab := xTab) (allp (isx_WorkerworldsError b) (allp (isx_BadBox b) (allp (isx_BadName b) (allp (isx_BadWorld b) (allp (isx_BadRow b) (allp (isx_BadProgram b) (allp (isx_BadText b) (allp (isx_TooMany b) (allp (isx_BadSetting b) (allp (isx_BadItem b) (allp (isx_BadCut b) (allp (isx_BadDealing b) (allp (isx_NoName b) (allp (isx_NoWorker b) (allp (isx_TaskFailed b) (allp (isx_CannotCross b) (allp (isx_Closed b) all0)))))))))))))))))) rfl (n_isinstance b) boot_isinstance (au_cons v0 (au_cons (eu_glo (y := "CannotCross") rfl (gl_CannotCross b) (by decide)) au_nil rfl) rfl) (by decide) (by decide) rfl rfl) (au_cons (eu_callB (cu_isX (tds := xTds) (tab := xTab) (allp (isx_WorkerworldsError b) (allp (isx_BadBox b) (allp (isx_BadName b) (allp (isx_BadWorld b) (allp (isx_BadRow b) (allp (isx_BadProgram b) (allp (isx_BadText b) (allp (isx_TooMany b) (allp (isx_BadSetting b) (allp (isx_BadItem b) (allp (isx_BadCut b) (allp (isx_BadDealing b) (allp (isx_NoName b) (allp (isx_NoWorker b) (allp (isx_TaskFailed b) (allp (isx_CannotCross b) (allp (isx_Closed b) all0)))))))))))))))))) rfl (n_isinstance b) boot_isinstance (au_cons v0 (au_cons (eu_glo (y := "Closed") rfl (gl_Closed b) (by decide)) au_nil rfl) rfl) (by decide) (by decide) rfl rfl) au_nil rfl) rfl) rfl)) au_nil rfl) rfl rfl rfl rfl rfl) rfl)
    (ssu_cons (su_set (i := 2) sc.nd rfl (by first | exact Or.inl rfl | exact Or.inr rfl) (eu_lst (au_cons (eu_callB (cu_isX (tds := xTds) (tab := xTab) (allp (isx_WorkerworldsError b) (allp (isx_BadBox b) (allp (isx_BadName b) (allp (isx_BadWorld b) (allp (isx_BadRow b) (allp (isx_BadProgram b) (allp (isx_BadText b) (allp (isx_TooMany b) (allp (isx_BadSetting b) (allp (isx_BadItem b) (allp (isx_BadCut b) (allp (isx_BadDealing b) (allp (isx_NoName b) (allp (isx_NoWorker b) (allp (isx_TaskFailed b) (allp (isx_CannotCross b) (allp (isx_Closed b) all0)))))))))))))))))) rfl (n_isinstance b) boot_isinstance (au_cons v0 (au_cons (eu_glo (y := "WorkerworldsError") rfl (gl_WorkerworldsError b) (by decide)) au_nil rfl) rfl) (by decide) (by decide) rfl rfl) (au_cons (eu_callB (cu_isX (tds := xTds) (tab := xTab) (allp (isx_WorkerworldsError b) (allp (isx_BadBox b) (allp (isx_BadName b) (allp (isx_BadWorld b) (allp (isx_BadRow b) (allp (isx_BadProgram b) (allp (isx_BadText b) (allp (isx_TooMany b) (allp (isx_BadSetting b) (allp (isx_BadItem b) (allp (isx_BadCut b) (allp (isx_BadDealing b) (allp (isx_NoName b) (allp (isx_NoWorker b) (allp (isx_TaskFailed b) (allp (isx_CannotCross b) (allp (isx_Closed b) all0)))))))))))))))))) rfl (n_isinstance b) boot_isinstance (au_cons v0 (au_cons (eu_ty rfl (n_ValueError b) (by decide +kernel) (by decide) (by decide)) au_nil rfl) rfl) (by decide) (by decide) rfl rfl) au_nil rfl) rfl)) rfl (Or.inl rfl))
    (ssu_cons (su_expr (eu_bm PySem.F.plainAttrs_list PySem.F.slot_list_append PySem.F.type_list_append mu_append v2 (au_cons (eu_callB (cu_isX (tds := xTds) (tab := xTab) (allp (isx_WorkerworldsError b) (allp (isx_BadBox b) (allp (isx_BadName b) (allp (isx_BadWorld b) (allp (isx_BadRow b) (allp (isx_BadProgram b) (allp (isx_BadText b) (allp (isx_TooMany b) (allp (isx_BadSetting b) (allp (isx_BadItem b) (allp (isx_BadCut b) (allp (isx_BadDealing b) (allp (isx_NoName b) (allp (isx_NoWorker b) (allp (isx_TaskFailed b) (allp (isx_CannotCross b) (allp (isx_Closed b) all0)))))))))))))))))) rfl (n_isinstance b) boot_isinstance (au_cons v0 (au_cons (eu_ty rfl (n_LookupError b) (by decide +kernel) (by decide) (by decide)) au_nil rfl) rfl) (by decide) (by decide) rfl rfl) au_nil rfl) rfl rfl rfl rfl rfl) rfl)
    (ssu_cons (su_set (i := 3) sc.nd rfl (by first | exact Or.inl rfl | exact Or.inr rfl) (eu_ifC (tu_cmp ou_in eu_bl v1 (by with_unfolding_all rfl)) (eu_bm PySem.F.plainAttrs_list PySem.F.slot_list_index PySem.F.type_list_index mu_indexB v1 (au_cons eu_bl au_nil rfl) rfl rfl rfl rfl rfl) (eu_un nu_neg eu_int)) rfl (Or.inl rfl))
    (ssu_cons (su_ret (eu_tup (au_cons v3 (au_cons (eu_bm PySem.F.plainAttrs_list PySem.F.slot_list_count PySem.F.type_list_count mu_countB v1 (au_cons eu_bl au_nil rfl) rfl rfl rfl rfl rfl) (au_cons v2 (au_cons (eu_callB (cu_isX (tds := xTds) (tab := xTab) (allp (isx_WorkerworldsError b) (allp (isx_BadBox b) (allp (isx_BadName b) (allp (isx_BadWorld b) (allp (isx_BadRow b) (allp (isx_BadProgram b) (allp (isx_BadText b) (allp (isx_TooMany b) (allp (isx_BadSetting b) (allp (isx_BadItem b) (allp (isx_BadCut b) (allp (isx_BadDealing b) (allp (isx_NoName b) (allp (isx_NoWorker b) (allp (isx_TaskFailed b) (allp (isx_CannotCross b) (allp (isx_Closed b) all0)))))))))))))))))) rfl (n_isinstance b) boot_isinstance (au_cons v0 (au_cons (eu_ty rfl (n_RuntimeError b) (by decide +kernel) (by decide) (by decide)) au_nil rfl) rfl) (by decide) (by decide) rfl rfl) au_nil rfl) rfl) rfl) rfl)))
    ssu_nil))))))))))
end F__law_kinds
theorem ok__law_kinds (b : Base K mg base) : Known P w K mg base d__law_kinds 1 sp__law_kinds :=
  ⟨fn_u (fd__law_kinds b).D F__law_kinds.sc rfl (fun cdv A outer s H G E hr => F__law_kinds.body b  hr) (fun ws G Q E h _ => law__law_kinds ws G Q E h), (fd__law_kinds b).D⟩
namespace F__law_take
def N : List Str := ["_law_bag_here", "_law_many", "_law_cell", "_law_added", "_law_digit"]
theorem sc : ScD N d__law_take := ⟨rfl, rfl, rfl, by decide +kernel, rfl, by decide +kernel, by decide +kernel⟩
abbrev X := cxV N d__law_take
theorem v0 {E : XK} : EU (X P w K mg base f cdv A outer s H E) W (.Name "_law_bag_here" pos) (tUVar 0) := ev
theorem v1 {E : XK} : EU (X P w K mg base f cdv A outer s H E) W (.Name "_law_many" pos) (tUVar 1) := ev
theorem v2 {E : XK} : EU (X P w K mg base f cdv A outer s H E) W (.Name "_law_cell" pos) (tUVar 2) := ev
theorem v3 {E : XK} : EU (X P w K mg base f cdv A outer s H E) W (.Name "_law_added" pos) (tUVar 3) := ev
theorem v4 {E : XK} : EU (X P w K mg base f cdv A outer s H E) W (.Name "_law_digit" pos) (tUVar 4) := ev
theorem body (b : Base K mg base)  (hr : RoomU 0 (A.deeper (envOfC d__law_take.qual d__law_take.scope s.heap.objs.size f cdv))) : SsU (X P w K mg base f cdv A outer s H (LX K H G E)) (wOf K H G E) (defBody (top 20)) t__law_take :=
  (ssu_cons (su_ifC (tu_cmp ou_gt (eu_ix iu0 v0 eu_int fun _ _ => rfl) eu_int (nomark _)) (ssu_cons (su_set (i := 4) sc.nd rfl (by first | exact Or.inl rfl | exact Or.inr rfl) (eu_bin ou_mod (eu_callTy cu_int rfl (n_int b) boot_int (au_cons (eu_ix iu0 v0 eu_int fun _ _ => rfl) au_nil rfl) (by decide) (by decide) rfl rfl) v1) rfl (Or.inl rfl))
    (ssu_cons (su_asg (eu_bin ou_fdivW (eu_ix iu0 v0 eu_int fun _ _ => rfl) v1) (gu_sub v0 eu_int stu0 fun _ => rfl) rfl rfl rfl)
    (ssu_cons (su_ret v4)
    ssu_nil))) ssu_nil)
    (ssu_cons (su_asg (eu_bin ou_add (eu_ix iu0 v0 eu_int fun _ _ => rfl) eu_int) (gu_sub v0 eu_int stu0 fun _ => rfl) rfl rfl rfl)
    (ssu_cons (su_set (i := 2) sc.nd rfl (by first | exact Or.inl rfl | exact Or.inr rfl) (eu_ifC (tu_cmp (ou_ne hr.rm.units) (eu_ix iu0 v0 eu_int fun _ _ => rfl) (eu_lst au_nil) (nomark _)) (eu_ix iu0 (eu_ix iu0 v0 eu_int fun _ _ => rfl) (eu_bin ou_mod (eu_ix iu0 v0 eu_int fun _ _ => rfl) (eu_callB cu_len rfl (n_len b) boot_len (au_cons (eu_ix iu0 v0 eu_int fun _ _ => rfl) au_nil rfl) (by decide) (by decide) rfl rfl)) fun _ _ => rfl) eu_int) rfl (Or.inl rfl))
    (ssu_cons (su_set (i := 3) sc.nd rfl (by first | exact Or.inl rfl | exact Or.inr rfl) (eu_bin ou_mod (eu_callTy cu_int rfl (n_int b) boot_int (au_cons v2 au_nil rfl) (by decide) (by decide) rfl rfl) eu_int) rfl (Or.inl rfl))
    (ssu_cons (su_asg (eu_bin ou_mod (eu_callTy cu_int rfl (n_int b) boot_int (au_cons (eu_bin ou_add (eu_bin ou_add (eu_bin ou_add (eu_bin ou_mul (eu_ix iu0 v0 eu_int fun _ _ => rfl) eu_int) v3) (eu_bin ou_mul eu_int (eu_ix iu0 v0 eu_int fun _ _ => rfl))) eu_int) au_nil rfl) (by decide) (by decide) rfl rfl) eu_int) (gu_sub v0 eu_int stu0 fun _ => rfl) rfl rfl rfl)
    (ssu_cons (su_ret (eu_bin ou_mod (eu_bin ou_fdivW (eu_bin ou_mod (eu_callTy cu_int rfl (n_int b) boot_int (au_cons (eu_bin ou_mul (eu_bin ou_fdivW (eu_ix iu0 v0 eu_int fun _ _ => rfl) eu_int) eu_int) au_nil rfl) (by decide) (by decide) rfl rfl) eu_int) eu_int) v1))
    ssu_nil))))))
end F__law_take
theorem ok__law_take (b : Base K mg base) : Known P w K mg base d__law_take 1 sp__law_take :=
  ⟨fn_u (fd__law_take b).D F__law_take.sc rfl (fun cdv A outer s H G E hr => F__law_take.body b  hr) (fun ws G Q E h _ => law__law_take ws G Q E h), (fd__law_take b).D⟩
namespace F__law_value
def N : List Str := ["_law_bag_here", "_law_way", "_law_number"]
theorem sc : ScD N d__law_value := ⟨rfl, rfl, rfl, by decide +kernel, rfl, by decide +kernel, by decide +kernel⟩
abbrev X := cxV N d__law_value
theorem v0 {E : XK} : EU (X P w K mg base f cdv A outer s H E) W (.Name "_law_bag_here" pos) (tUVar 0) := ev
theorem v1 {E : XK} : EU (X P w K mg base f cdv A outer s H E) W (.Name "_law_way" pos) (tUVar 1) := ev
theorem v2 {E : XK} : EU (X P w K mg base f cdv A outer s H E) W (.Name "_law_number" pos) (tUVar 2) := ev
theorem body (b : Base K mg base) (k__law_take : Known P w K mg base d__law_take 1 sp__law_take) (hr : RoomU 1 (A.deeper (envOfC d__law_value.qual d__law_value.scope s.heap.objs.size f cdv))) : SsU (X P w K mg base f cdv A outer s H (LX K H G E)) (wOf K H G E) (defBody (top 21)) t__law_value :=
  (ssu_cons (su_par (xs := ["_law_way", "_law_number"]) (is := [1, 2]) rfl sc.nd rfl (by decide) (fun k x i h1 h2 => match k, x, i, h1, h2 with | 0, _, _, rfl, rfl => ⟨rfl, rfl⟩ | 1, _, _, rfl, rfl => ⟨rfl, rfl⟩) (au_cons (eu_def (d := d__law_take) k__law_take (hr.mono (by decide)) rfl (g__law_take b) ⟨rfl, rfl, rfl⟩ (n := 2) (ks := []) (pl := [.p 0, .p 1]) (by decide) rfl rfl takes_u rfl (au_cons v0 (au_cons eu_int au_nil rfl) rfl) ku_nil rfl rfl rfl rfl (by decide)) (au_cons (eu_bin ou_sub (eu_def (d := d__law_take) k__law_take (hr.mono (by decide)) rfl (g__law_take b) ⟨rfl, rfl, rfl⟩ (n := 2) (ks := []) (pl := [.p 0, .p 1]) (by decide) rfl rfl takes_u rfl (au_cons v0 (au_cons (eu_bin ou_pow eu_int eu_int) au_nil rfl) rfl) ku_nil rfl rfl rfl rfl (by decide)) (eu_def (d := d__law_take) k__law_take (hr.mono (by decide)) rfl (g__law_take b) ⟨rfl, rfl, rfl⟩ (n := 2) (ks := []) (pl := [.p 0, .p 1]) (by decide) rfl rfl takes_u rfl (au_cons v0 (au_cons (eu_bin ou_pow eu_int eu_int) au_nil rfl) rfl) ku_nil rfl rfl rfl rfl (by decide))) au_nil rfl) rfl) rfl rfl)
    (ssu_cons (su_ifC (tu_cmp ou_lt v1 eu_int (nomark _)) (ssu_cons (su_ret (eu_ix iu0 (eu_lst (au_cons eu_non (au_cons eu_bl (au_cons eu_bl (au_cons (eu_strN (s := "") (by decide +kernel)) au_nil rfl) rfl) rfl) rfl)) v1 fun _ _ => rfl))
    ssu_nil) ssu_nil)
    (ssu_cons (su_ifC (tu_cmp (ou_eq hr.rm.units) v1 eu_int (nomark _)) (ssu_cons (su_ret v2)
    ssu_nil) ssu_nil)
    (ssu_cons (su_ifC (tu_cmp (ou_eq hr.rm.units) v1 eu_int (nomark _)) (ssu_cons (su_ret (eu_lst (au_cons v2 (au_cons (eu_strN (s := "ab") (by decide +kernel)) (au_cons (eu_lst (au_cons eu_bl (au_cons eu_int au_nil rfl) rfl)) au_nil rfl) rfl) rfl)))
    ssu_nil) ssu_nil)
    (ssu_cons (su_ifC (tu_cmp (ou_eq hr.rm.units) v1 eu_int (nomark _)) (ssu_cons (su_ret (eu_tup (au_cons v2 (au_cons (eu_tup au_nil) (au_cons (eu_tup (au_cons (eu_strN (s := "a") (by decide +kernel)) (au_cons eu_non au_nil rfl) rfl)) au_nil rfl) rfl) rfl)))
    ssu_nil) ssu_nil)
    (ssu_cons (su_ret (eu_bin ou_add (eu_bin ou_mulS (eu_strN (s := "a") (by decide +kernel)) (eu_def (d := d__law_take) k__law_take (hr.mono (by decide)) rfl (g__law_take b) ⟨rfl, rfl, rfl⟩ (n := 2) (ks := []) (pl := [.p 0, .p 1]) (by decide) rfl rfl takes_u rfl (au_cons v0 (au_cons eu_int au_nil rfl) rfl) ku_nil rfl rfl rfl rfl (by decide))) (eu_strN (s := " {}") (by decide +kernel))))
    ssu_nil))))))
end F__law_value
theorem ok__law_value (b : Base K mg base) : Known P w K mg base d__law_value 2 sp__law_value :=
  ⟨fn_u (fd__law_value b).D F__law_value.sc rfl (fun cdv A outer s H G E hr => F__law_value.body b (ok__law_take b) hr) (fun ws G Q E h _ => law__law_value ws G Q E h), (fd__law_value b).D⟩
namespace F__law_are_right
def N : List Str := ["_law_one", "_law_other", "_law_third", "_law_some", "_law_a", "_law_b", "_law_c", "_law_d", "_law_f", "_law_g", "_law_h", "_law_p", "_law_q", "_law_r", "_law_s", "_law_k", "_law_e", "_law_t", "_law_u", "_law_v", "_law_w", "_law_x", "_law_base"]
theorem sc : ScD N d__law_are_right := ⟨rfl, rfl, rfl, by decide +kernel, rfl, by decide +kernel, by decide +kernel⟩
abbrev X := cxV N d__law_are_right
theorem v0 {E : XK} : EU (X P w K mg base f cdv A outer s H E) W (.Name "_law_one" pos) (tUVar 0) := ev
theorem v1 {E : XK} : EU (X P w K mg base f cdv A outer s H E) W (.Name "_law_other" pos) (tUVar 1) := ev
theorem v2 {E : XK} : EU (X P w K mg base f cdv A outer s H E) W (.Name "_law_third" pos) (tUVar 2) := ev
theorem v3 {E : XK} : EU (X P w K mg base f cdv A outer s H E) W (.Name "_law_some" pos) (tUVar 3) := ev
theorem v4 {E : XK} : EU (X P w K mg base f cdv A outer s H E) W (.Name "_law_a" pos) (tUVar 4) := ev
theorem v5 {E : XK} : EU (X P w K mg base f cdv A outer s H E) W (.Name "_law_b" pos) (tUVar 5) := ev
theorem v6 {E : XK} : EU (X P w K mg base f cdv A outer s H E) W (.Name "_law_c" pos) (tUVar 6) := ev
theorem v7 {E : XK} : EU (X P w K mg base f cdv A outer s H E) W (.Name "_law_d" pos) (tUVar 7) := ev
theorem v8 {E : XK} : EU (X P w K mg base f cdv A outer s H E) W (.Name "_law_f" pos) (tUVar 8) := ev
theorem v9 {E : XK} : EU (X P w K mg base f cdv A outer s H E) W (.Name "_law_g" pos) (tUVar 9) := ev
theorem v10 {E : XK} : EU (X P w K mg base f cdv A outer s H E) W (.Name "_law_h" pos) (tUVar 10) := ev
theorem v11 {E : XK} : EU (X P w K mg base f cdv A outer s H E) W (.Name "_law_p" pos) (tUVar 11) := ev
theorem v12 {E : XK} : EU (X P w K mg base f cdv A outer s H E) W (.Name "_law_q" pos) (tUVar 12) := ev
theorem v13 {E : XK} : EU (X P w K mg base f cdv A outer s H E) W (.Name "_law_r" pos) (tUVar 13) := ev
theorem v14 {E : XK} : EU (X P w K mg base f cdv A outer s H E) W (.Name "_law_s" pos) (tUVar 14) := ev
theorem v15 {E : XK} : EU (X P w K mg base f cdv A outer s H E) W (.Name "_law_k" pos) (tUVar 15) := ev
theorem v16 {E : XK} : EU (X P w K mg base f cdv A outer s H E) W (.Name "_law_e" pos) (tUVar 16) := ev
theorem v17 {E : XK} : EU (X P w K mg base f cdv A outer s H E) W (.Name "_law_t" pos) (tUVar 17) := ev
theorem v18 {E : XK} : EU (X P w K mg base f cdv A outer s H E) W (.Name "_law_u" pos) (tUVar 18) := ev
theorem v19 {E : XK} : EU (X P w K mg base f cdv A outer s H E) W (.Name "_law_v" pos) (tUVar 19) := ev
theorem v20 {E : XK} : EU (X P w K mg base f cdv A outer s H E) W (.Name "_law_w" pos) (tUVar 20) := ev
theorem v21 {E : XK} : EU (X P w K mg base f cdv A outer s H E) W (.Name "_law_x" pos) (tUVar 21) := ev
theorem v22 {E : XK} : EU (X P w K mg base f cdv A outer s H E) W (.Name "_law_base" pos) (tUVar 22) := ev
theorem body (b : Base K mg base) (k__law_kinds : Known P w K mg base d__law_kinds 1 sp__law_kinds) (hr : RoomU 2 (A.deeper (envOfC d__law_are_right.qual d__law_are_right.scope s.heap.objs.size f cdv))) : SsU (X P w K mg base f cdv A outer s H (LX K H G E)) (wOf K H G E) (defBody (top 23)) t__law_are_right :=
  (ssu_cons (su_asg (eu_tup (au_cons (eu_xmk (c := "BadBox") (fl := ["contents"]) (d := d_BadBox___init__) (oex_BadBox b) (meth_BadBox___init__ b).at_ (beq_iff_eq.mp (meth_BadBox___init__ b).fn) (fd_BadBox___init__ b).D (ini_BadBox b) (hr.mono (by decide)) rfl (gl_BadBox b) ⟨rfl, rfl, rfl⟩ rfl (n := 2) (ks := []) (pl := [.p 1]) (by decide) rfl rfl (by decide) (au_cons v0 au_nil rfl) ku_nil rfl rfl rfl rfl (by decide) rfl rfl (by decide)) (au_cons (eu_xmk (c := "BadName") (fl := ["name"]) (d := d_BadName___init__) (oex_BadName b) (meth_BadName___init__ b).at_ (beq_iff_eq.mp (meth_BadName___init__ b).fn) (fd_BadName___init__ b).D (ini_BadName b) (hr.mono (by decide)) rfl (gl_BadName b) ⟨rfl, rfl, rfl⟩ rfl (n := 2) (ks := []) (pl := [.p 1]) (by decide) rfl rfl (by decide) (au_cons v0 au_nil rfl) ku_nil rfl rfl rfl rfl (by decide) rfl rfl (by decide)) (au_cons (eu_xmk (c := "BadWorld") (fl := ["at"]) (d := d_BadWorld___init__) (oex_BadWorld b) (meth_BadWorld___init__ b).at_ (beq_iff_eq.mp (meth_BadWorld___init__ b).fn) (fd_BadWorld___init__ b).D (ini_BadWorld b) (hr.mono (by decide)) rfl (gl_BadWorld b) ⟨rfl, rfl, rfl⟩ rfl (n := 2) (ks := []) (pl := [.p 1]) (by decide) rfl rfl (by decide) (au_cons v0 au_nil rfl) ku_nil rfl rfl rfl rfl (by decide) rfl rfl (by decide)) (au_cons (eu_xmk (c := "BadRow") (fl := ["row"]) (d := d_BadRow___init__) (oex_BadRow b) (meth_BadRow___init__ b).at_ (beq_iff_eq.mp (meth_BadRow___init__ b).fn) (fd_BadRow___init__ b).D (ini_BadRow b) (hr.mono (by decide)) rfl (gl_BadRow b) ⟨rfl, rfl, rfl⟩ rfl (n := 2) (ks := []) (pl := [.p 1]) (by decide) rfl rfl (by decide) (au_cons v0 au_nil rfl) ku_nil rfl rfl rfl rfl (by decide) rfl rfl (by decide)) au_nil rfl) rfl) rfl) rfl)) (gu_tup rfl (gsu_cons (gu_name (i := 4) sc.nd rfl (by first | exact Or.inl rfl | exact Or.inr rfl) (Or.inl rfl)) (gsu_cons (gu_name (i := 5) sc.nd rfl (by first | exact Or.inl rfl | exact Or.inr rfl) (Or.inl rfl)) (gsu_cons (gu_name (i := 6) sc.nd rfl (by first | exact Or.inl rfl | exact Or.inr rfl) (Or.inl rfl)) (gsu_cons (gu_name (i := 7) sc.nd rfl (by first | exact Or.inl rfl | exact Or.inr rfl) (Or.inl rfl)) gsu_nil rfl) rfl) rfl) rfl) rfl rfl) rfl rfl rfl)
    (ssu_cons (su_asg (eu_tup (au_cons (eu_xmk (c := "BadText") (fl := ["at"]) (d := d_BadText___init__) (oex_BadText b) (meth_BadText___init__ b).at_ (beq_iff_eq.mp (meth_BadText___init__ b).fn) (fd_BadText___init__ b).D (ini_BadText b) (hr.mono (by decide)) rfl (gl_BadText b) ⟨rfl, rfl, rfl⟩ rfl (n := 2) (ks := []) (pl := [.p 1]) (by decide) rfl rfl (by decide) (au_cons v0 au_nil rfl) ku_nil rfl rfl rfl rfl (by decide) rfl rfl (by decide)) (au_cons (eu_xmk (c := "TooMany") (fl := ["what"]) (d := d_TooMany___init__) (oex_TooMany b) (meth_TooMany___init__ b).at_ (beq_iff_eq.mp (meth_TooMany___init__ b).fn) (fd_TooMany___init__ b).D (ini_TooMany b) (hr.mono (by decide)) rfl (gl_TooMany b) ⟨rfl, rfl, rfl⟩ rfl (n := 2) (ks := []) (pl := [.p 1]) (by decide) rfl rfl (by decide) (au_cons v0 au_nil rfl) ku_nil rfl rfl rfl rfl (by decide) rfl rfl (by decide)) (au_cons (eu_xmk (c := "BadSetting") (fl := ["what"]) (d := d_BadSetting___init__) (oex_BadSetting b) (meth_BadSetting___init__ b).at_ (beq_iff_eq.mp (meth_BadSetting___init__ b).fn) (fd_BadSetting___init__ b).D (ini_BadSetting b) (hr.mono (by decide)) rfl (gl_BadSetting b) ⟨rfl, rfl, rfl⟩ rfl (n := 1) (ks := ["what"]) (pl := [.k 0]) (by decide) rfl rfl (by decide) au_nil (ku_cons v0 ku_nil) unst_nil rfl rfl rfl (by decide) rfl rfl (by decide)) (au_cons (eu_xmk (c := "BadItem") (fl := ["at"]) (d := d_BadItem___init__) (oex_BadItem b) (meth_BadItem___init__ b).at_ (beq_iff_eq.mp (meth_BadItem___init__ b).fn) (fd_BadItem___init__ b).D (ini_BadItem b) (hr.mono (by decide)) rfl (gl_BadItem b) ⟨rfl, rfl, rfl⟩ rfl (n := 2) (ks := []) (pl := [.p 1]) (by decide) rfl rfl (by decide) (au_cons v0 au_nil rfl) ku_nil rfl rfl rfl rfl (by decide) rfl rfl (by decide)) au_nil rfl) rfl) rfl) rfl)) (gu_tup rfl (gsu_cons (gu_name (i := 8) sc.nd rfl (by first | exact Or.inl rfl | exact Or.inr rfl) (Or.inl rfl)) (gsu_cons (gu_name (i := 9) sc.nd rfl (by first | exact Or.inl rfl | exact Or.inr rfl) (Or.inl rfl)) (gsu_cons (gu_name (i := 10) sc.nd rfl (by first | exact Or.inl rfl | exact Or.inr rfl) (Or.inl rfl)) (gsu_cons (gu_name (i := 11) sc.nd rfl (by first | exact Or.inl rfl | exact Or.inr rfl) (Or.inl rfl)) gsu_nil rfl) rfl) rfl) rfl) rfl rfl) rfl rfl rfl)
    (ssu_cons (su_par (xs := ["_law_q", "_law_r", "_law_s"]) (is := [12, 13, 14]) rfl sc.nd rfl (by decide) (fun k x i h1 h2 => match k, x, i, h1, h2 with | 0, _, _, rfl, rfl => ⟨rfl, rfl⟩ | 1, _, _, rfl, rfl => ⟨rfl, rfl⟩ | 2, _, _, rfl, rfl => ⟨rfl, rfl⟩) (au_cons (eu_xmk (c := "BadCut") (fl := ["at"]) (d := d_BadCut___init__) (oex_BadCut b) (meth_BadCut___init__ b).at_ (beq_iff_eq.mp (meth_BadCut___init__ b).fn) (fd_BadCut___init__ b).D (ini_BadCut b) (hr.mono (by decide)) rfl (gl_BadCut b) ⟨rfl, rfl, rfl⟩ rfl (n := 2) (ks := []) (pl := [.p 1]) (by decide) rfl rfl (by decide) (au_cons v0 au_nil rfl) ku_nil rfl rfl rfl rfl (by decide) rfl rfl (by decide)) (au_cons (eu_xmk (c := "BadDealing") (fl := ["at"]) (d := d_BadDealing___init__) (oex_BadDealing b) (meth_BadDealing___init__ b).at_ (beq_iff_eq.mp (meth_BadDealing___init__ b).fn) (fd_BadDealing___init__ b).D (ini_BadDealing b) (hr.mono (by decide)) rfl (gl_BadDealing b) ⟨rfl, rfl, rfl⟩ rfl (n := 2) (ks := []) (pl := [.p 1]) (by decide) rfl rfl (by decide) (au_cons v0 au_nil rfl) ku_nil rfl rfl rfl rfl (by decide) rfl rfl (by decide)) (au_cons (eu_xmk (c := "BadProgram") (fl := ["part", "at"]) (d := d_BadProgram___init__) (oex_BadProgram b) (meth_BadProgram___init__ b).at_ (beq_iff_eq.mp (meth_BadProgram___init__ b).fn) (fd_BadProgram___init__ b).D (ini_BadProgram b) (hr.mono (by decide)) rfl (gl_BadProgram b) ⟨rfl, rfl, rfl⟩ rfl (n := 3) (ks := []) (pl := [.p 1, .p 2]) (by decide) rfl rfl (by decide) (au_cons v0 (au_cons v1 au_nil rfl) rfl) ku_nil rfl rfl rfl rfl (by decide) rfl rfl (by decide)) au_nil rfl) rfl) rfl) rfl rfl)
    (ssu_cons (su_ifC (tu_cmp (ou_neP hr.rm.units) (eu_callB (cu_reprA hr.rm.units hr.gd) rfl (n_repr b) boot_repr (au_cons (eu_lst (au_cons (eu_xv (f := "contents") (allc (xf_BadBox_contents b) all0) v4 rfl) (au_cons (eu_xv (f := "name") (allc (xf_BadName_name b) (allc (xf_NoName_name b) all0)) v5 rfl) (au_cons (eu_xv (f := "at") (allc (xf_BadWorld_at b) (allc (xf_BadProgram_at b) (allc (xf_BadText_at b) (allc (xf_BadItem_at b) (allc (xf_BadCut_at b) (allc (xf_BadDealing_at b) (allc (xf_TaskFailed_at b) (allc (xf_CannotCross_at b) all0)))))))) v6 rfl) (au_cons (eu_xv (f := "row") (allc (xf_BadRow_row b) all0) v7 rfl) (au_cons (eu_xv (f := "at") (allc (xf_BadWorld_at b) (allc (xf_BadProgram_at b) (allc (xf_BadText_at b) (allc (xf_BadItem_at b) (allc (xf_BadCut_at b) (allc (xf_BadDealing_at b) (allc (xf_TaskFailed_at b) (allc (xf_CannotCross_at b) all0)))))))) v8 rfl) au_nil rfl) rfl) rfl) rfl) rfl)) au_nil rfl) (by decide) (by decide) rfl rfl) (eu_callB (cu_reprA hr.rm.units hr.gd) rfl (n_repr b) boot_repr (au_cons (eu_bin ou_mul (eu_lst (au_cons v0 au_nil rfl)) eu_int) au_nil rfl) (by decide) (by decide) rfl rfl) (nomark _)) (ssu_cons (su_ret eu_bl)
    ssu_nil) ssu_nil)
    (ssu_cons (su_ifC (tu_cmp (ou_neP hr.rm.units) (eu_callB (cu_reprA hr.rm.units hr.gd) rfl (n_repr b) boot_repr (au_cons (eu_lst (au_cons (eu_xv (f := "what") (allc (xf_TooMany_what b) (allc (xf_BadSetting_what b) (allc (xf_CannotCross_what b) all0))) v9 rfl) (au_cons (eu_xv (f := "what") (allc (xf_TooMany_what b) (allc (xf_BadSetting_what b) (allc (xf_CannotCross_what b) all0))) v10 rfl) (au_cons (eu_xv (f := "at") (allc (xf_BadWorld_at b) (allc (xf_BadProgram_at b) (allc (xf_BadText_at b) (allc (xf_BadItem_at b) (allc (xf_BadCut_at b) (allc (xf_BadDealing_at b) (allc (xf_TaskFailed_at b) (allc (xf_CannotCross_at b) all0)))))))) v11 rfl) (au_cons (eu_xv (f := "at") (allc (xf_BadWorld_at b) (allc (xf_BadProgram_at b) (allc (xf_BadText_at b) (allc (xf_BadItem_at b) (allc (xf_BadCut_at b) (allc (xf_BadDealing_at b) (allc (xf_TaskFailed_at b) (allc (xf_CannotCross_at b) all0)))))))) v12 rfl) (au_cons (eu_xv (f := "at") (allc (xf_BadWorld_at b) (allc (xf_BadProgram_at b) (allc (xf_BadText_at b) (allc (xf_BadItem_at b) (allc (xf_BadCut_at b) (allc (xf_BadDealing_at b) (allc (xf_TaskFailed_at b) (allc (xf_CannotCross_at b) all0)))))))) v13 rfl) au_nil rfl) rfl) rfl) rfl) rfl)) au_nil rfl) (by decide) (by decide) rfl rfl) (eu_callB (cu_reprA hr.rm.units hr.gd) rfl (n_repr b) boot_repr (au_cons (eu_bin ou_mul (eu_lst (au_cons v0 au_nil rfl)) eu_int) au_nil rfl) (by decide) (by decide) rfl rfl) (nomark _)) (ssu_cons (su_ret eu_bl)
    ssu_nil) ssu_nil)
    (ssu_cons (su_ifC (tu_cmp (ou_neP hr.rm.units) (eu_callB (cu_reprA hr.rm.units hr.gd) rfl (n_repr b) boot_repr (au_cons (eu_lst (au_cons (eu_xv (f := "part") (allc (xf_BadProgram_part b) all0) v14 rfl) (au_cons (eu_xv (f := "at") (allc (xf_BadWorld_at b) (allc (xf_BadProgram_at b) (allc (xf_BadText_at b) (allc (xf_BadItem_at b) (allc (xf_BadCut_at b) (allc (xf_BadDealing_at b) (allc (xf_TaskFailed_at b) (allc (xf_CannotCross_at b) all0)))))))) v14 rfl) au_nil rfl) rfl)) au_nil rfl) (by decide) (by decide) rfl rfl) (eu_callB (cu_reprA hr.rm.units hr.gd) rfl (n_repr b) boot_repr (au_cons (eu_lst (au_cons v0 (au_cons v1 au_nil rfl) rfl)) au_nil rfl) (by decide) (by decide) rfl rfl) (nomark _)) (ssu_cons (su_ret eu_bl)
    ssu_nil) ssu_nil)
    (ssu_cons (su_set (i := 3) sc.nd rfl (by first | exact Or.inl rfl | exact Or.inr rfl) (eu_lst (au_cons v4 (au_cons v5 (au_cons v6 (au_cons v7 (au_cons v14 au_nil rfl) rfl) rfl) rfl) rfl)) rfl (Or.inl rfl))
    (ssu_cons (su_expr (eu_bm PySem.F.plainAttrs_list PySem.F.slot_list_extend PySem.F.type_list_extend mu_extend v3 (au_cons (eu_lst (au_cons v8 (au_cons v9 (au_cons v10 (au_cons v11 (au_cons v12 (au_cons v13 au_nil rfl) rfl) rfl) rfl) rfl) rfl)) au_nil rfl) rfl rfl rfl rfl rfl) rfl)
    (ssu_cons (su_for PassesOwn.leaving rfl (iu_enumT rfl (n_enumerate b) v3 rfl) (gu_tup rfl (gsu_cons (gu_name (i := 15) sc.nd rfl (by first | exact Or.inl rfl | exact Or.inr rfl) (Or.inl rfl)) (gsu_cons (gu_name (i := 16) sc.nd rfl (by first | exact Or.inl rfl | exact Or.inr rfl) (Or.inl rfl)) gsu_nil rfl) rfl) rfl rfl) (ssu_cons (su_ifC (tu_cmp (ou_neP hr.rm.units) (eu_def (d := d__law_kinds) k__law_kinds (hr.mono (by decide)) rfl (g__law_kinds b) ⟨rfl, rfl, rfl⟩ (n := 1) (ks := []) (pl := [.p 0]) (by decide) rfl rfl takes_u rfl (au_cons v16 au_nil rfl) ku_nil rfl rfl rfl rfl (by decide)) (eu_tup (au_cons v15 (au_cons eu_int (au_cons (eu_lst (au_cons eu_bl (au_cons eu_bl (au_cons eu_bl au_nil rfl) rfl) rfl)) (au_cons eu_bl au_nil rfl) rfl) rfl) rfl)) (nomark _)) (ssu_cons (su_ret eu_bl)
    ssu_nil) ssu_nil)
    ssu_nil) fun _ => rfl)
    (ssu_cons (su_par (xs := ["_law_t", "_law_u", "_law_v"]) (is := [17, 18, 19]) rfl sc.nd rfl (by decide) (fun k x i h1 h2 => match k, x, i, h1, h2 with | 0, _, _, rfl, rfl => ⟨rfl, rfl⟩ | 1, _, _, rfl, rfl => ⟨rfl, rfl⟩ | 2, _, _, rfl, rfl => ⟨rfl, rfl⟩) (au_cons (eu_xmk (c := "NoName") (fl := ["name"]) (d := d_NoName___init__) (oex_NoName b) (meth_NoName___init__ b).at_ (beq_iff_eq.mp (meth_NoName___init__ b).fn) (fd_NoName___init__ b).D (ini_NoName b) (hr.mono (by decide)) rfl (gl_NoName b) ⟨rfl, rfl, rfl⟩ rfl (n := 1) (ks := ["name"]) (pl := [.k 0]) (by decide) rfl rfl (by decide) au_nil (ku_cons v0 ku_nil) unst_nil rfl rfl rfl (by decide) rfl rfl (by decide)) (au_cons (eu_xmk (c := "NoWorker") (fl := ["number"]) (d := d_NoWorker___init__) (oex_NoWorker b) (meth_NoWorker___init__ b).at_ (beq_iff_eq.mp (meth_NoWorker___init__ b).fn) (fd_NoWorker___init__ b).D (ini_NoWorker b) (hr.mono (by decide)) rfl (gl_NoWorker b) ⟨rfl, rfl, rfl⟩ rfl (n := 2) (ks := []) (pl := [.p 1]) (by decide) rfl rfl (by decide) (au_cons v0 au_nil rfl) ku_nil rfl rfl rfl rfl (by decide) rfl rfl (by decide)) (au_cons (eu_xmk (c := "TaskFailed") (fl := ["at", "told", "cause"]) (d := d_TaskFailed___init__) (oex_TaskFailed b) (meth_TaskFailed___init__ b).at_ (beq_iff_eq.mp (meth_TaskFailed___init__ b).fn) (fd_TaskFailed___init__ b).D (ini_TaskFailed b) (hr.mono (by decide)) rfl (gl_TaskFailed b) ⟨rfl, rfl, rfl⟩ rfl (n := 4) (ks := []) (pl := [.p 1, .p 2, .p 3]) (by decide) rfl rfl (by decide) (au_cons v0 (au_cons v1 (au_cons v2 au_nil rfl) rfl) rfl) ku_nil rfl rfl rfl rfl (by decide) rfl rfl (by decide)) au_nil rfl) rfl) rfl) rfl rfl)
    (ssu_cons (su_par (xs := ["_law_w", "_law_x", "_law_base"]) (is := [20, 21, 22]) rfl sc.nd rfl (by decide) (fun k x i h1 h2 => match k, x, i, h1, h2 with | 0, _, _, rfl, rfl => ⟨rfl, rfl⟩ | 1, _, _, rfl, rfl => ⟨rfl, rfl⟩ | 2, _, _, rfl, rfl => ⟨rfl, rfl⟩) (au_cons (eu_xmk (c := "CannotCross") (fl := ["at", "what"]) (d := d_CannotCross___init__) (oex_CannotCross b) (meth_CannotCross___init__ b).at_ (beq_iff_eq.mp (meth_CannotCross___init__ b).fn) (fd_CannotCross___init__ b).D (ini_CannotCross b) (hr.mono (by decide)) rfl (gl_CannotCross b) ⟨rfl, rfl, rfl⟩ rfl (n := 3) (ks := []) (pl := [.p 1, .p 2]) (by decide) rfl rfl (by decide) (au_cons v0 (au_cons v1 au_nil rfl) rfl) ku_nil rfl rfl rfl rfl (by decide) rfl rfl (by decide)) (au_cons (eu_xmk0 (x0_Closed b) rfl (gl_Closed b) (by decide)) (au_cons (eu_xmk0 (x0_WorkerworldsError b) rfl (gl_WorkerworldsError b) (by decide)) au_nil rfl) rfl) rfl) rfl rfl)
    (ssu_cons (su_ifC (tu_cmp (ou_neP hr.rm.units) (eu_callB (cu_reprA hr.rm.units hr.gd) rfl (n_repr b) boot_repr (au_cons (eu_lst (au_cons (eu_xv (f := "name") (allc (xf_BadName_name b) (allc (xf_NoName_name b) all0)) v17 rfl) (au_cons (eu_xv (f := "number") (allc (xf_NoWorker_number b) all0) v18 rfl) (au_cons (eu_xv (f := "at") (allc (xf_BadWorld_at b) (allc (xf_BadProgram_at b) (allc (xf_BadText_at b) (allc (xf_BadItem_at b) (allc (xf_BadCut_at b) (allc (xf_BadDealing_at b) (allc (xf_TaskFailed_at b) (allc (xf_CannotCross_at b) all0)))))))) v19 rfl) (au_cons (eu_xv (f := "told") (allc (xf_TaskFailed_told b) all0) v19 rfl) (au_cons (eu_xv (f := "cause") (allc (xf_TaskFailed_cause b) all0) v19 rfl) au_nil rfl) rfl) rfl) rfl) rfl)) au_nil rfl) (by decide) (by decide) rfl rfl) (eu_callB (cu_reprA hr.rm.units hr.gd) rfl (n_repr b) boot_repr (au_cons (eu_lst (au_cons v0 (au_cons v0 (au_cons v0 (au_cons v1 (au_cons v2 au_nil rfl) rfl) rfl) rfl) rfl)) au_nil rfl) (by decide) (by decide) rfl rfl) (nomark _)) (ssu_cons (su_ret eu_bl)
    ssu_nil) ssu_nil)
    (ssu_cons (su_ifC (tu_cmp (ou_neP hr.rm.units) (eu_callB (cu_reprA hr.rm.units hr.gd) rfl (n_repr b) boot_repr (au_cons (eu_lst (au_cons (eu_xv (f := "at") (allc (xf_BadWorld_at b) (allc (xf_BadProgram_at b) (allc (xf_BadText_at b) (allc (xf_BadItem_at b) (allc (xf_BadCut_at b) (allc (xf_BadDealing_at b) (allc (xf_TaskFailed_at b) (allc (xf_CannotCross_at b) all0)))))))) v20 rfl) (au_cons (eu_xv (f := "what") (allc (xf_TooMany_what b) (allc (xf_BadSetting_what b) (allc (xf_CannotCross_what b) all0))) v20 rfl) au_nil rfl) rfl)) au_nil rfl) (by decide) (by decide) rfl rfl) (eu_callB (cu_reprA hr.rm.units hr.gd) rfl (n_repr b) boot_repr (au_cons (eu_lst (au_cons v0 (au_cons v1 au_nil rfl) rfl)) au_nil rfl) (by decide) (by decide) rfl rfl) (nomark _)) (ssu_cons (su_ret eu_bl)
    ssu_nil) ssu_nil)
    (ssu_cons (su_ifC (tu_cmp (ou_neP hr.rm.units) (eu_def (d := d__law_kinds) k__law_kinds (hr.mono (by decide)) rfl (g__law_kinds b) ⟨rfl, rfl, rfl⟩ (n := 1) (ks := []) (pl := [.p 0]) (by decide) rfl rfl takes_u rfl (au_cons v22 au_nil rfl) ku_nil rfl rfl rfl rfl (by decide)) (eu_tup (au_cons (eu_un nu_neg eu_int) (au_cons eu_int (au_cons (eu_lst (au_cons eu_bl (au_cons eu_bl (au_cons eu_bl au_nil rfl) rfl) rfl)) (au_cons eu_bl au_nil rfl) rfl) rfl) rfl)) (nomark _)) (ssu_cons (su_ret eu_bl)
    ssu_nil) ssu_nil)
    (ssu_cons (su_ifC (tu_cmp (ou_neP hr.rm.units) (eu_def (d := d__law_kinds) k__law_kinds (hr.mono (by decide)) rfl (g__law_kinds b) ⟨rfl, rfl, rfl⟩ (n := 1) (ks := []) (pl := [.p 0]) (by decide) rfl rfl takes_u rfl (au_cons v17 au_nil rfl) ku_nil rfl rfl rfl rfl (by decide)) (eu_tup (au_cons eu_int (au_cons eu_int (au_cons (eu_lst (au_cons eu_bl (au_cons eu_bl (au_cons eu_bl au_nil rfl) rfl) rfl)) (au_cons eu_bl au_nil rfl) rfl) rfl) rfl)) (nomark _)) (ssu_cons (su_ret eu_bl)
    ssu_nil) ssu_nil)
    (ssu_cons (su_ifC (tu_cmp (ou_neP hr.rm.units) (eu_def (d := d__law_kinds) k__law_kinds (hr.mono (by decide)) rfl (g__law_kinds b) ⟨rfl, rfl, rfl⟩ (n := 1) (ks := []) (pl := [.p 0]) (by decide) rfl rfl takes_u rfl (au_cons v18 au_nil rfl) ku_nil rfl rfl rfl rfl (by decide)) (eu_tup (au_cons eu_int (au_cons eu_int (au_cons (eu_lst (au_cons eu_bl (au_cons eu_bl (au_cons eu_bl au_nil rfl) rfl) rfl)) (au_cons eu_bl au_nil rfl) rfl) rfl) rfl)) (nomark _)) (ssu_cons (su_ret eu_bl)
    ssu_nil) ssu_nil)
    (ssu_cons (su_ifC (tu_cmp (ou_neP hr.rm.units) (eu_def (d := d__law_kinds) k__law_kinds (hr.mono (by decide)) rfl (g__law_kinds b) ⟨rfl, rfl, rfl⟩ (n := 1) (ks := []) (pl := [.p 0]) (by decide) rfl rfl takes_u rfl (au_cons v19 au_nil rfl) ku_nil rfl rfl rfl rfl (by decide)) (eu_tup (au_cons eu_int (au_cons eu_int (au_cons (eu_bin ou_mul (eu_lst (au_cons eu_bl au_nil rfl)) eu_int) (au_cons eu_bl au_nil rfl) rfl) rfl) rfl)) (nomark _)) (ssu_cons (su_ret eu_bl)
    ssu_nil) ssu_nil)
    (ssu_cons (su_ifC (tu_cmp (ou_neP hr.rm.units) (eu_def (d := d__law_kinds) k__law_kinds (hr.mono (by decide)) rfl (g__law_kinds b) ⟨rfl, rfl, rfl⟩ (n := 1) (ks := []) (pl := [.p 0]) (by decide) rfl rfl takes_u rfl (au_cons v20 au_nil rfl) ku_nil rfl rfl rfl rfl (by decide)) (eu_tup (au_cons eu_int (au_cons eu_int (au_cons (eu_bin ou_mul (eu_lst (au_cons eu_bl au_nil rfl)) eu_int) (au_cons eu_bl au_nil rfl) rfl) rfl) rfl)) (nomark _)) (ssu_cons (su_ret eu_bl)
    ssu_nil) ssu_nil)
    (ssu_cons (su_ret (eu_cmp (ou_eqP hr.rm.units) (eu_def (d := d__law_kinds) k__law_kinds (hr.mono (by decide)) rfl (g__law_kinds b) ⟨rfl, rfl, rfl⟩ (n := 1) (ks := []) (pl := [.p 0]) (by decide) rfl rfl takes_u rfl (au_cons v21 au_nil rfl) ku_nil rfl rfl rfl rfl (by decide)) (eu_tup (au_cons eu_int (au_cons eu_int (au_cons (eu_bin ou_mul (eu_lst (au_cons eu_bl au_nil rfl)) eu_int) (au_cons eu_bl au_nil rfl) rfl) rfl) rfl)) (nomark _)))
    ssu_nil)))))))))))))))))))
end F__law_are_right
theorem ok__law_are_right (b : Base K mg base) : Known P w K mg base d__law_are_right 3 sp__law_are_right :=
  ⟨fn_u (fd__law_are_right b).D F__law_are_right.sc rfl (fun cdv A outer s H G E hr => F__law_are_right.body b (ok__law_kinds b) hr) (fun ws G Q E h _ => law__law_are_right ws G Q E h), (fd__law_are_right b).D⟩
namespace F_law
def N : List Str := ["_law_script", "_law_at", "_law_bag_here", "_law_one", "_law_other"]
theorem sc : ScD N d_law := ⟨rfl, rfl, rfl, by decide +kernel, rfl, by decide +kernel, by decide +kernel⟩
abbrev X := cxV N d_law
theorem v0 {E : XK} : EU (X P w K mg base f cdv A outer s H E) W (.Name "_law_script" pos) (tUVar 0) := ev
theorem v1 {E : XK} : EU (X P w K mg base f cdv A outer s H E) W (.Name "_law_at" pos) (tUVar 1) := ev
theorem v2 {E : XK} : EU (X P w K mg base f cdv A outer s H E) W (.Name "_law_bag_here" pos) (tUVar 2) := ev
theorem v3 {E : XK} : EU (X P w K mg base f cdv A outer s H E) W (.Name "_law_one" pos) (tUVar 3) := ev
theorem v4 {E : XK} : EU (X P w K mg base f cdv A outer s H E) W (.Name "_law_other" pos) (tUVar 4) := ev
theorem body (b : Base K mg base) (k__law_are_right : Known P w K mg base d__law_are_right 3 sp__law_are_right) (k__law_bag : Known P w K mg base d__law_bag 1 sp__law_bag) (k__law_value : Known P w K mg base d__law_value 2 sp__law_value) (hr : RoomU 3 (A.deeper (envOfC d_law.qual d_law.scope s.heap.objs.size f cdv))) : SsU (X P w K mg base f cdv A outer s H (LX K H G E)) (wOf K H G E) (defBody (top 24)) t_law :=
  (ssu_cons (su_for PassesOwn.leaving rfl (iu_range1 rfl (n_range b) (eu_callB (cu_max rfl) rfl (n_max b) boot_max (au_cons eu_int (au_cons (eu_callB (cu_min rfl) rfl (n_min b) boot_min (au_cons eu_int (au_cons (eu_callB cu_len rfl (n_len b) boot_len (au_cons v0 au_nil rfl) (by decide) (by decide) rfl rfl) au_nil rfl) rfl) (by decide) (by decide) rfl rfl) au_nil rfl) rfl) (by decide) (by decide) rfl rfl) rfl) (gu_name (i := 1) sc.nd rfl (by first | exact Or.inl rfl | exact Or.inr rfl) (Or.inl rfl)) (ssu_cons (su_set (i := 2) sc.nd rfl (by first | exact Or.inl rfl | exact Or.inr rfl) (eu_def (d := d__law_bag) k__law_bag (hr.mono (by decide)) rfl (g__law_bag b) ⟨rfl, rfl, rfl⟩ (n := 2) (ks := []) (pl := [.p 0, .p 1]) (by decide) rfl rfl takes_u rfl (au_cons v0 (au_cons v1 au_nil rfl) rfl) ku_nil rfl rfl rfl rfl (by decide)) rfl (Or.inl rfl))
    (ssu_cons (su_par (xs := ["_law_one", "_law_other"]) (is := [3, 4]) rfl sc.nd rfl (by decide) (fun k x i h1 h2 => match k, x, i, h1, h2 with | 0, _, _, rfl, rfl => ⟨rfl, rfl⟩ | 1, _, _, rfl, rfl => ⟨rfl, rfl⟩) (au_cons (eu_def (d := d__law_value) k__law_value (hr.mono (by decide)) rfl (g__law_value b) ⟨rfl, rfl, rfl⟩ (n := 1) (ks := []) (pl := [.p 0]) (by decide) rfl rfl takes_u rfl (au_cons v2 au_nil rfl) ku_nil rfl rfl rfl rfl (by decide)) (au_cons (eu_def (d := d__law_value) k__law_value (hr.mono (by decide)) rfl (g__law_value b) ⟨rfl, rfl, rfl⟩ (n := 1) (ks := []) (pl := [.p 0]) (by decide) rfl rfl takes_u rfl (au_cons v2 au_nil rfl) ku_nil rfl rfl rfl rfl (by decide)) au_nil rfl) rfl) rfl rfl)
    (ssu_cons (su_ifC (tu_not (tu_val tr_u (eu_def (d := d__law_are_right) k__law_are_right (hr.mono (by decide)) rfl (g__law_are_right b) ⟨rfl, rfl, rfl⟩ (n := 3) (ks := []) (pl := [.p 0, .p 1, .p 2]) (by decide) rfl rfl takes_u rfl (au_cons v3 (au_cons v4 (au_cons (eu_def (d := d__law_value) k__law_value (hr.mono (by decide)) rfl (g__law_value b) ⟨rfl, rfl, rfl⟩ (n := 1) (ks := []) (pl := [.p 0]) (by decide) rfl rfl takes_u rfl (au_cons v2 au_nil rfl) ku_nil rfl rfl rfl rfl (by decide)) au_nil rfl) rfl) rfl) ku_nil rfl rfl rfl rfl (by decide)) fun _ => rfl)) (ssu_cons (su_ret eu_bl)
    ssu_nil) ssu_nil)
    ssu_nil))) fun _ => rfl)
    (ssu_cons (su_ret eu_bl)
    ssu_nil))
end F_law
theorem ok_law (b : Base K mg base) : Known P w K mg base d_law 4 sp_law :=
  ⟨fn_u (fd_law b).D F_law.sc rfl (fun cdv A outer s H G E hr => F_law.body b (ok__law_are_right b) (ok__law_bag b) (ok__law_value b) hr) (fun ws G Q E h _ => law_law ws G Q E h), (fd_law b).D⟩
end
theorem want_ (ns : List Int) (h : ns.length ≤ 63) (_ : ∀ z ∈ ns, Builtin.Int.intBits z ≤ 1048576) : sp_law [.rol (IntU ns)] (fun _ => none) (fun v _ => v = .bl true) (fun _ _ => False) := ⟨ns, rfl, h, fun _ => rfl⟩
theorem room_ : RoomU 4 callerA := ⟨⟨rfl, by decide, by decide⟩, rfl⟩
theorem head_ {w : World} {mg : Str → Option Value} {fa_ : Addr} {h : Heap} (Y : hk.says w h) (g : h.Ns mainGlobals mg) (e : mg "law" = some (.ref fa_)) :
    ∃ (K : PySem.W.Frag) (fd : FuncData), K.In h ∧ (∀ (s : Shared) (u : Value), BindsTo s fd ⟨[u], []⟩ [("_law_script", u)]) ∧ ∀ base : Heap, K.In base → base.Ns mainGlobals mg → FnU R.prog w K mg base 4 fa_ fd ["_law_script"] sp_law := by
  obtain ⟨K, inK, c⟩ := Y
  have b : Base K mg h := ⟨c, inK, g⟩
  have z := e.symm.trans (g_law b)
  cases z
  refine ⟨K, _, inK, fun s u => ?_, fun base k1 k2 => (ok_law ⟨c, k1, k2⟩).F⟩
  exact FunD.bindsA (ps := ["_law_script"]) (fd_law b).D (fun _ _ _ _ _ _ us hl => match us, hl with | [_], _ => rfl) s [u] rfl
end K08
open PySem PySem.W PySem.Calls PyProof.Rows
theorem PySem.Challenge.cw_workerworlds_k08_errors_by_hand_holds : PySem.Challenge.rw_workerworlds_k08_errors_by_hand.Holds := by
  w_on; o_law
  refine HandSHeadRun.head_any (r := OpenLaw.row PySem.Challenge.rw_workerworlds_k08_errors_by_hand) (q := view (OpenLaw.row PySem.Challenge.rw_workerworlds_k08_errors_by_hand).prog [24]) (H := K08.hk) (ob := K08.ob) (M := 8000) (loose := K08.loose) (d := HandSHeadRun.topDef (OpenLaw.row PySem.Challenge.rw_workerworlds_k08_errors_by_hand).prog 24) (kwd := []) K08.ob_eq
    (by kernel_rfl) (fun s => by kernel_rfl) K08.run_ (by kernel_rfl) (by kernel_rfl) (by kernel_rfl) (by rfl) (by first | assumption | decide +kernel) (by decide +kernel) ⟨rfl, rfl, rfl, rfl, rfl, by decide +kernel⟩ ?hw ?hc
  case hw => w_witness2
  case hc =>
    refine UL.walk_u (l := PySem.Challenge.rw_workerworlds_k08_errors_by_hand) (n := 63) (k := 4) (x := "_law_script") (sp := K08.sp_law) rfl (by decide) (by kernel_rfl) K08.room_ ?F K08.want_
    intro w mg fa h Y g e
    have e1 : (HandSHeadRun.topDef (OpenLaw.row PySem.Challenge.rw_workerworlds_k08_errors_by_hand).prog 24).name = ("law" : PySem.Str) := by kernel_rfl
    rw [e1] at e
    exact K08.head_ Y g e
