import PyProof.Rows.All
import Wide.All
import OpenK.AllK
import Wide.FinOn
import HandS.Base
import HandS.Call
import HandS.List
import HandS.Comp
import HandS.Ends
import HandS.Exc
import HandS.Words
import HandS.WordsExc
import HandS.Defaults
import HandS.HeadHook1
import HandS.HeadHook2
import HandS.IsInst
import HandS.Text
import HandS.TupAny
import HandS.TupMul
import HandS.TupLe
import HandS.Deep
import HandS.FStr
import HandS.Iter
import HandS.WordsDict
import HandS.HeadEnd
import HandS.EndBits
import HandS.Head2
import HandS.Codes
import HandS.SlotsOwn
import HandS.RaiseMore
import HandS.ExcInit
import KE.KExcInit
import KE.KOpsOwn
import HandS.Property
import HandS.Style
import HandS.ClsMeth
import PyProof.EnumMake
import HandS.ExcField
import HandS.ExcIs
import PyProof.Draws
import PyProof.CallFns
import KE.KExcIs
import HandS.Dict
import HandS.More
import HandS.Star
import PyProof.ListStr
import HandS.TryMany
import HandS.Conv
import HandS.WideBits
import PyProof.AutoSeq1
import PyProof.Rows.StrPadWhole
import KE.DataCmp
import KE.GoesEnum
import PyProof.Rows.StrMul
import HandS.StrMore
import KE.DataEq
import HandS.Flt
import KE.KIndexOf
import HandS.SetFor
import HandS.TupSets
import KE.SortData
import KE.DataMinMax
import OpenK.KWalk
import PySem.Challenge.RW_workerworlds_k16_worlds_of_contents
set_option Elab.async false
set_option linter.all false
set_option maxRecDepth 100000
set_option maxHeartbeats 2000000
set_option maxHeartbeats 2000000
namespace UL
open PySem PySem.Spec PyProof.Rows L2

inductive U where
  | non | bl (b : Bool) | int (i : Int) | str (x : List Nat) | tup (us : List U) | ref (a : Addr) | ty (n : String) | rol (us : List U) | glo (x : String) | exc (a : Addr) (d : Option Addr) (c : String) (fl : List String) (us : List U)
  deriving Inhabited

abbrev S (s : String) : Str := Str.ofString s

/-- a list that is never written: the script -/
def RoL (K : PySem.W.Frag) (H : Hp) (a : Addr) (xs : List V) : Prop :=
  (∃ o, H a = some (.frz o (.lst xs))) ∨
    ∃ (o : Obj) (its : Array Value) (n : Nat), K.lookup a = some o ∧ o.cls = .type "list" ∧ o.dict = none ∧ o.data = .seq its n ∧ its.size ≤ sizeLine ∧ Vals xs its.toList
theorem RoL.sq {K : PySem.W.Frag} {H : Hp} {a : Addr} {xs : List V} (h : RoL K H a xs) : SqL K H a xs := by
  rcases h with ⟨o, h⟩ | h
  · exact .inl (.inr ⟨o, h⟩)
  · exact .inr h

mutual
def RelU (K : PySem.W.Frag) (H : Hp) : U → V → Prop
  | .non, v => v = .non
  | .bl b, v => v = .bl b
  | .int i, v => v = .int i
  | .str l, v => v = .str ⟨l.toArray⟩
  | .tup us, v => ∃ a vs, v = .ref a ∧ SqT K H a vs ∧ RelUs K H us vs
  | .ref a, v => v = .ref a
  | .ty n, v => v = .ty n
  | .rol us, v => ∃ a vs, v = .ref a ∧ RoL K H a vs ∧ RelUs K H us vs
  | .glo x, v => v = .ref (He.ga K (S x))
  | .exc a d _ fl us, v => v = .ref a ∧ (fl = [] ∨ ∃ x gs, d = some x ∧ H x = some (.xd gs) ∧ RelE K H gs fl us)
def RelUs (K : PySem.W.Frag) (H : Hp) : List U → List V → Prop
  | [], vs => vs = []
  | u :: us, vs => ∃ v ws, vs = v :: ws ∧ RelU K H u v ∧ RelUs K H us ws
/-- what a caught exception's dict holds -/
def RelE (K : PySem.W.Frag) (H : Hp) (gs : List (Str × V)) : List String → List U → Prop
  | _, [] => True
  | [], _ :: _ => False
  | f :: fl, u :: us => (∃ v, gs.lookup (S f) = some v ∧ RelU K H u v) ∧ RelE K H gs fl us
end

inductive Ob where
  | lst (us : List U)
  | dct (kvs : List (U × U))
  /-- a dict that is iterated over: read only -/
  | dcr (od : Obj) (gs : List (Key × V)) (kvs : List (U × U))
  | ins (c : String) (fs : List (String × U))
  deriving Inhabited
abbrev Gp := Addr → Option Ob
def gup (G : Gp) (a : Addr) (o : Ob) : Gp := fun b => if b = a then some o else G b
theorem gup_same {G : Gp} {a : Addr} {o : Ob} : gup G a o a = some o := if_pos rfl
theorem gup_ne {G : Gp} {a b : Addr} {o : Ob} (h : b ≠ a) : gup G a o b = G b := if_neg h

def fget : List (String × U) → String → Option U
  | [], _ => none
  | (g, u) :: r, f => if g = f then some u else fget r f
def fput : List (String × U) → String → U → List (String × U)
  | [], f, u => [(f, u)]
  | (g, w) :: r, f, u => if g = f then (g, u) :: r else (g, w) :: fput r f u

def RelF (K : PySem.W.Frag) (H : Hp) (C : Addr) : List (String × U) → List (Str × V) → Prop
  | [], gs => gs = []
  | (f, u) :: r, gs => ∃ v ws, gs = (S f, v) :: ws ∧ RelU K H u v ∧ NoAttr K C (S f) ∧ RelF K H C r ws

def fldsOf : String → List String
  | "Box" => ["contents"]
  | "World" => ["boxes"]
  | "Cuts" => ["count", "chunk", "many"]
  | "Dealings" => ["chunks", "workers", "many"]
  | "Program" => ["marks", "module", "of_module", "caller", "of_caller", "task"]
  | "Scope" => ["world", "own"]
  | "Task" => ["program", "parts", "targets"]
  | "Outcome" => ["answers", "failure", "world", "passed"]
  | "Worker" => ["start", "world"]
  | "Pool" => ["program", "way", "workers", "chunk", "back", "renew", "memory", "task", "crew", "opened"]
  | "Walk" => ["program", "workers", "chunk", "back", "renew", "all_seen", "begun_rows", "start", "sent", "first", "runs"]
  | "Verdict" => ["certificate", "levels"]
  | _ => []
def clsNames : List String := ["Box", "World", "Cuts", "Dealings", "Program", "Scope", "Task", "Way", "Outcome", "Worker", "Pool", "Walk", "Verdict"]
def tyNames : List String := ["int", "str", "bool", "list", "tuple", "dict", "set"]
/-- the name stands for an object of the text -/
def presB (d : String) (K : PySem.W.Frag) : Bool := match PySem.W.nsIn K mainGlobals (S d) with
  | some (some (.ref _)) => true
  | _ => false
def clsB (c : String) (K : PySem.W.Frag) : Bool :=
  let C := He.ga K (S c)
  PySem.W.plainGet K C Str.empty && PySem.W.hasDictIn K C && PySem.W.plainOver K C && decide (PySem.W.findIn K (.ref C) "__setattr__" = some (some (.builtin "object.__setattr__"))) &&
  decide (PySem.W.findIn K (.ref C) "__class__" = some (some (.builtin "object.__class__"))) && decide (PySem.W.specialIn K (.builtin "object.__class__") "__get__" = some (some (.builtin "getset_descriptor.__get__"))) &&
  decide (PySem.W.takesIn K (.builtin "object.__class__") = some true) && decide (PySem.W.mroIn K C (.type "object") = some true) &&
  decide (PySem.W.findIn K (.ref C) "__eq__" = some (some (.builtin "object.__eq__"))) && decide (PySem.W.findIn K (.ref C) "__ne__" = some (some (.builtin "object.__ne__"))) &&
  decide (PySem.W.findIn K (.ref C) "__hash__" = some (some (.builtin "object.__hash__"))) && PySem.W.selfFirst K C &&
  ((fldsOf c).all fun f => decide (PySem.W.findIn K (.ref C) (S f) = some none)) && (tyNames.all fun T => decide (PySem.W.kitOne K (.ref C) (.type T) = some false)) &&
  (clsNames.all fun d => !presB d K || decide (PySem.W.kitOne K (.ref C) (.ref (He.ga K (S d))) = some (decide (c = d))))
def ClsK (K : PySem.W.Frag) (c : String) : Prop := clsB c K = true
section
variable {K : PySem.W.Frag} {c : String}
theorem ClsK.all (h : ClsK K c) : (PySem.W.plainGet K (He.ga K (S c)) Str.empty = true ∧ PySem.W.hasDictIn K (He.ga K (S c)) = true ∧ PySem.W.plainOver K (He.ga K (S c)) = true ∧ PySem.W.findIn K (.ref (He.ga K (S c))) "__setattr__" = some (some (.builtin "object.__setattr__"))) ∧
    (PySem.W.findIn K (.ref (He.ga K (S c))) "__class__" = some (some (.builtin "object.__class__")) ∧ PySem.W.specialIn K (.builtin "object.__class__") "__get__" = some (some (.builtin "getset_descriptor.__get__")) ∧
    PySem.W.takesIn K (.builtin "object.__class__") = some true ∧ PySem.W.mroIn K (He.ga K (S c)) (.type "object") = some true) ∧
    (PySem.W.findIn K (.ref (He.ga K (S c))) "__eq__" = some (some (.builtin "object.__eq__")) ∧ PySem.W.findIn K (.ref (He.ga K (S c))) "__ne__" = some (some (.builtin "object.__ne__")) ∧ PySem.W.findIn K (.ref (He.ga K (S c))) "__hash__" = some (some (.builtin "object.__hash__"))) ∧
    PySem.W.selfFirst K (He.ga K (S c)) = true ∧ (∀ f ∈ fldsOf c, NoAttr K (He.ga K (S c)) (S f)) ∧ (∀ T ∈ tyNames, PySem.W.kitOne K (.ref (He.ga K (S c))) (.type T) = some false) ∧
    ∀ d ∈ clsNames, presB d K = true → PySem.W.kitOne K (.ref (He.ga K (S c))) (.ref (He.ga K (S d))) = some (decide (c = d)) := by
  unfold ClsK clsB at h
  simp only [Bool.and_eq_true, decide_eq_true_eq, List.all_eq_true, Bool.or_eq_true, Bool.not_eq_true'] at h
  obtain ⟨⟨⟨⟨⟨⟨⟨⟨⟨⟨⟨⟨⟨⟨h1, h2⟩, h3⟩, h4⟩, h5⟩, h6⟩, h7⟩, h8⟩, h9⟩, h10⟩, h11⟩, h12⟩, h13⟩, h14⟩, h15⟩ := h
  refine ⟨⟨h1, h2, h3, h4⟩, ⟨h5, h6, h7, h8⟩, ⟨h9, h10, h11⟩, h12, h13, h14, fun d hd hp => ?_⟩
  rcases h15 d hd with z | z
  · rw [hp] at z
    cases z
  · exact z
theorem ClsK.cls (h : ClsK K c) : Cls K (He.ga K (S c)) := ⟨h.all.1.1, h.all.1.2.1, h.all.1.2.2.1, h.all.1.2.2.2⟩
theorem ClsK.noat (h : ClsK K c) {f : String} (hf : f ∈ fldsOf c) : NoAttr K (He.ga K (S c)) (S f) := h.all.2.2.2.2.1 f hf
end

def KeyR : U → Key → Prop
  | .int i, k => k = .inl i
  | .str l, k => k = .inr ⟨l.toArray⟩
  | _, _ => False
def RelKV (K : PySem.W.Frag) (H : Hp) : List (U × U) → List (Key × V) → Prop
  | [], gs => gs = []
  | (k, u) :: r, gs => ∃ kk v ws, gs = (kk, v) :: ws ∧ KeyR k kk ∧ RelU K H u v ∧ RelKV K H r ws

def RepO (K : PySem.W.Frag) (H : Hp) (a : Addr) : Ob → Prop
  | .lst us => ∃ vs, H a = some (.lst vs) ∧ RelUs K H us vs
  | .dct kvs => ∃ gs, H a = some (.dK gs) ∧ RelKV K H kvs gs
  | .dcr od gs kvs => H a = some (.frz od (.dK gs)) ∧ RelKV K H kvs gs
  | .ins c fs => ClsK K c ∧ ∃ dx gs, H a = some (.ins (He.ga K (S c)) dx gs) ∧ RelF K H (He.ga K (S c)) fs gs
def Rep (K : PySem.W.Frag) (H : Hp) (G : Gp) : Prop := ∀ a o, G a = some o → RepO K H a o

/-- what G does not know stays as it is, and unknown -/
def Ext (H : Hp) (G : Gp) (H' : Hp) (G' : Gp) : Prop := ∀ a o, H a = some o → G a = none → H' a = some o ∧ G' a = none
theorem Ext.refl (H : Hp) (G : Gp) : Ext H G H G := fun _ _ h g => ⟨h, g⟩
theorem Ext.trans {H H1 H2 : Hp} {G G1 G2 : Gp} (x : Ext H G H1 G1) (y : Ext H1 G1 H2 G2) : Ext H G H2 G2 := fun a o h g =>
  let ⟨h1, g1⟩ := x a o h g
  y a o h1 g1

section
variable {K : PySem.W.Frag} {H H' : Hp} {G G' : Gp}
theorem Rep.there (r : Rep K H G) {a : Addr} {o : Ob} (h : G a = some o) : ∃ u, H a = some u := by
  have q := r a o h
  cases o with
  | lst us => obtain ⟨vs, e, _⟩ := q; exact ⟨_, e⟩
  | dct kvs => obtain ⟨vs, e, _⟩ := q; exact ⟨_, e⟩
  | dcr od gs kvs => exact ⟨_, q.1⟩
  | ins c fs => obtain ⟨_, dx, gs, e, _⟩ := q; exact ⟨_, e⟩
theorem Rep.fresh (r : Rep K H G) {a : Addr} (h : H a = none) : G a = none := by
  cases q : G a with
  | none => rfl
  | some o =>
    obtain ⟨u, e⟩ := r.there q
    rw [h] at e
    cases e
/-- tuples and read-only lists are not tracked by G -/
theorem Rep.noRd (r : Rep K H G) {a : Addr} {u : HO} (h : Rd H a u) (hu : (∃ xs, u = .tup xs) ∨ ∃ o xs, u = .lst xs ∧ H a = some (.frz o u)) : G a = none := by
  cases q : G a with
  | none => rfl
  | some o =>
    exfalso
    have z := r a o q
    have k : ∀ x, H a = some x → (∃ vs, x = .lst vs) ∨ (∃ vs, x = .dK vs) ∨ (∃ c d f, x = .ins c d f) ∨ ∃ od gs, x = .frz od (.dK gs) := by
      intro x hx
      cases o with
      | lst us => obtain ⟨vs, e, _⟩ := z; rw [hx] at e; exact .inl ⟨_, Option.some.inj e⟩
      | dct kvs => obtain ⟨vs, e, _⟩ := z; rw [hx] at e; exact .inr (.inl ⟨_, Option.some.inj e⟩)
      | dcr od gs kvs => obtain ⟨e, _⟩ := z; rw [hx] at e; exact .inr (.inr (.inr ⟨_, _, Option.some.inj e⟩))
      | ins c fs => obtain ⟨_, dx, gs, e, _⟩ := z; rw [hx] at e; exact .inr (.inr (.inl ⟨_, _, _, Option.some.inj e⟩))
    rcases hu with ⟨xs, rfl⟩ | ⟨ob, xs, rfl, h2⟩
    · rcases h with h | ⟨ob, h⟩ <;> rcases k _ h with ⟨_, e⟩ | ⟨_, e⟩ | ⟨_, _, _, e⟩ | ⟨_, _, e⟩ <;> cases e
    · rcases k _ h2 with ⟨_, e⟩ | ⟨_, e⟩ | ⟨_, _, _, e⟩ | ⟨_, _, e⟩ <;> cases e
theorem Ext.sqT (x : Ext H G H' G') (r : Rep K H G) {a : Addr} {xs : List V} (h : SqT K H a xs) : SqT K H' a xs := by
  rcases h with h | h
  · have n := r.noRd h (.inl ⟨_, rfl⟩)
    rcases h with h | ⟨o, h⟩
    · exact .inl (.inl (x a _ h n).1)
    · exact .inl (.inr ⟨o, (x a _ h n).1⟩)
  · exact .inr h
theorem Ext.roL (x : Ext H G H' G') (r : Rep K H G) {a : Addr} {xs : List V} (h : RoL K H a xs) : RoL K H' a xs := by
  rcases h with ⟨o, h⟩ | h
  · have n := r.noRd (a := a) (u := .lst xs) (.inr ⟨o, h⟩) (.inr ⟨o, _, rfl, h⟩)
    exact .inl ⟨o, (x a _ h n).1⟩
  · exact .inr h
theorem Ext.xd (x : Ext H G H' G') (r : Rep K H G) {d : Addr} {gs : List (Str × V)} (h : H d = some (.xd gs)) : H' d = some (.xd gs) := by
  refine (x d _ h ?_).1
  cases q : G d with
  | none => rfl
  | some o =>
    exfalso
    have z := r d o q
    cases o with
    | lst us => obtain ⟨vs, e, _⟩ := z; rw [h] at e; cases e
    | dct us => obtain ⟨vs, e, _⟩ := z; rw [h] at e; cases e
    | dcr od gs kvs => obtain ⟨e, _⟩ := z; rw [h] at e; cases e
    | ins c fs => obtain ⟨_, dx, gs, e, _⟩ := z; rw [h] at e; cases e
mutual
theorem RelU.ext (x : Ext H G H' G') (r : Rep K H G) : ∀ {u : U} {v : V}, RelU K H u v → RelU K H' u v
  | .non, _, h => h
  | .bl _, _, h => h
  | .int _, _, h => h
  | .str _, _, h => h
  | .tup us, _, ⟨a, vs, e, t, q⟩ => ⟨a, vs, e, x.sqT r t, RelUs.ext x r q⟩
  | .ref _, _, h => h
  | .ty _, _, h => h
  | .glo _, _, h => h
  | .rol us, _, ⟨a, vs, e, t, q⟩ => ⟨a, vs, e, x.roL r t, RelUs.ext x r q⟩
  | .exc a dd c fl us, _, ⟨e, h⟩ => ⟨e, h.elim .inl fun ⟨y, gs, z, g, q⟩ => .inr ⟨y, gs, z, x.xd r g, RelE.ext x r q⟩⟩
theorem RelUs.ext (x : Ext H G H' G') (r : Rep K H G) : ∀ {us : List U} {vs : List V}, RelUs K H us vs → RelUs K H' us vs
  | [], _, h => h
  | u :: us, _, ⟨v, ws, e, h, t⟩ => ⟨v, ws, e, RelU.ext x r h, RelUs.ext x r t⟩
theorem RelE.ext (x : Ext H G H' G') (r : Rep K H G) {gs : List (Str × V)} : ∀ {fl : List String} {us : List U}, RelE K H gs fl us → RelE K H' gs fl us
  | _, [], _ => True.intro
  | [], _ :: _, h => h.elim
  | f :: fl, u :: us, ⟨⟨v, e, h⟩, t⟩ => ⟨⟨v, e, RelU.ext x r h⟩, RelE.ext x r t⟩
end
mutual
theorem RelU.mono (hT : ∀ a xs, SqT K H a xs → SqT K H' a xs) (hR : ∀ a xs, RoL K H a xs → RoL K H' a xs) (hX : ∀ d gs, H d = some (.xd gs) → H' d = some (.xd gs)) : ∀ {u : U} {v : V}, RelU K H u v → RelU K H' u v
  | .non, _, h => h
  | .bl _, _, h => h
  | .int _, _, h => h
  | .str _, _, h => h
  | .tup us, _, ⟨a, vs, e, t, q⟩ => ⟨a, vs, e, hT _ _ t, RelUs.mono hT hR hX q⟩
  | .ref _, _, h => h
  | .ty _, _, h => h
  | .glo _, _, h => h
  | .rol us, _, ⟨a, vs, e, t, q⟩ => ⟨a, vs, e, hR _ _ t, RelUs.mono hT hR hX q⟩
  | .exc a dd c fl us, _, ⟨e, h⟩ => ⟨e, h.elim .inl fun ⟨y, gs, z, g, q⟩ => .inr ⟨y, gs, z, hX _ _ g, RelE.mono hT hR hX q⟩⟩
theorem RelUs.mono (hT : ∀ a xs, SqT K H a xs → SqT K H' a xs) (hR : ∀ a xs, RoL K H a xs → RoL K H' a xs) (hX : ∀ d gs, H d = some (.xd gs) → H' d = some (.xd gs)) : ∀ {us : List U} {vs : List V}, RelUs K H us vs → RelUs K H' us vs
  | [], _, h => h
  | u :: us, _, ⟨v, ws, e, h, t⟩ => ⟨v, ws, e, RelU.mono hT hR hX h, RelUs.mono hT hR hX t⟩
theorem RelE.mono (hT : ∀ a xs, SqT K H a xs → SqT K H' a xs) (hR : ∀ a xs, RoL K H a xs → RoL K H' a xs) (hX : ∀ d gs, H d = some (.xd gs) → H' d = some (.xd gs)) {gs : List (Str × V)} : ∀ {fl : List String} {us : List U}, RelE K H gs fl us → RelE K H' gs fl us
  | _, [], _ => True.intro
  | [], _ :: _, h => h.elim
  | f :: fl, u :: us, ⟨⟨v, e, h⟩, t⟩ => ⟨⟨v, e, RelU.mono hT hR hX h⟩, RelE.mono hT hR hX t⟩
end
theorem RelF.mono (hT : ∀ a xs, SqT K H a xs → SqT K H' a xs) (hR : ∀ a xs, RoL K H a xs → RoL K H' a xs) (hX : ∀ d gs, H d = some (.xd gs) → H' d = some (.xd gs)) {C : Addr} : ∀ {fs : List (String × U)} {gs : List (Str × V)}, RelF K H C fs gs → RelF K H' C fs gs
  | [], _, h => h
  | (f, u) :: fs, _, ⟨v, ws, e, h, n, t⟩ => ⟨v, ws, e, h.mono hT hR hX, n, RelF.mono hT hR hX t⟩
theorem RelKV.mono (hT : ∀ a xs, SqT K H a xs → SqT K H' a xs) (hR : ∀ a xs, RoL K H a xs → RoL K H' a xs) (hX : ∀ d gs, H d = some (.xd gs) → H' d = some (.xd gs)) : ∀ {fs : List (U × U)} {gs : List (Key × V)}, RelKV K H fs gs → RelKV K H' fs gs
  | [], _, h => h
  | (f, u) :: fs, _, ⟨kk, v, ws, e, n, h, t⟩ => ⟨kk, v, ws, e, n, h.mono hT hR hX, RelKV.mono hT hR hX t⟩
/-- an untracked list of ours grows -/
theorem own_upd {D : Addr} {xs ys : List V} (hD : H D = some (.lst xs)) : (∀ a zs, SqT K H a zs → SqT K (upd H D (.lst ys)) a zs) ∧ (∀ a zs, RoL K H a zs → RoL K (upd H D (.lst ys)) a zs) ∧ ∀ d gs, H d = some (.xd gs) → upd H D (.lst ys) d = some (.xd gs) := by
  have k : ∀ a u, H a = some u → (∀ zs, u ≠ .lst zs) → upd H D (.lst ys) a = some u := fun a u h n => by
    have e : a ≠ D := fun e => n xs (by rw [e, hD] at h; exact (Option.some.inj h).symm)
    rw [upd_ne e]
    exact h
  refine ⟨?_, ?_, fun d gs h => k d _ h fun _ z => by cases z⟩
  · rintro a zs ((h | ⟨o, h⟩) | h)
    · exact .inl (.inl (k a _ h fun _ z => by cases z))
    · exact .inl (.inr ⟨o, k a _ h fun _ z => by cases z⟩)
    · exact .inr h
  · rintro a zs (⟨o, h⟩ | h)
    · exact .inl ⟨o, k a _ h fun _ z => by cases z⟩
    · exact .inr h
theorem Rep.own {D : Addr} {xs ys : List V} (r : Rep K H G) (hD : H D = some (.lst xs)) (gD : G D = none) : Rep K (upd H D (.lst ys)) G := by
  obtain ⟨hT, hR, hX⟩ := own_upd (K := K) (ys := ys) hD
  intro b v e
  have hb : b ≠ D := fun z => by rw [z, gD] at e; cases e
  have q := r b v e
  cases v with
  | lst us => obtain ⟨vs, e1, e2⟩ := q; exact ⟨vs, by rw [upd_ne hb]; exact e1, e2.mono hT hR hX⟩
  | dct us => obtain ⟨vs, e1, e2⟩ := q; exact ⟨vs, by rw [upd_ne hb]; exact e1, e2.mono hT hR hX⟩
  | dcr od gs kvs => obtain ⟨e1, e2⟩ := q; exact ⟨by rw [upd_ne hb]; exact e1, e2.mono hT hR hX⟩
  | ins c fs => obtain ⟨ck, dx, gs, e1, e2⟩ := q; exact ⟨ck, dx, gs, by rw [upd_ne hb]; exact e1, e2.mono hT hR hX⟩
theorem RelF.ext (x : Ext H G H' G') (r : Rep K H G) {C : Addr} : ∀ {fs : List (String × U)} {gs : List (Str × V)}, RelF K H C fs gs → RelF K H' C fs gs
  | [], _, h => h
  | (f, u) :: fs, _, ⟨v, ws, e, h, n, t⟩ => ⟨v, ws, e, h.ext x r, n, RelF.ext x r t⟩
theorem RelKV.ext (x : Ext H G H' G') (r : Rep K H G) : ∀ {fs : List (U × U)} {gs : List (Key × V)}, RelKV K H fs gs → RelKV K H' fs gs
  | [], _, h => h
  | (f, u) :: fs, _, ⟨kk, v, ws, e, n, h, t⟩ => ⟨kk, v, ws, e, n, h.ext x r, RelKV.ext x r t⟩
end

theorem RepO.move {K : PySem.W.Frag} {H H' : Hp} {G G' : Gp} (x : Ext H G H' G') (r : Rep K H G) {b : Addr} (e : H' b = H b) : ∀ {o : Ob}, RepO K H b o → RepO K H' b o
  | .lst us, ⟨vs, e1, e2⟩ => ⟨vs, e.trans e1, e2.ext x r⟩
  | .dct us, ⟨vs, e1, e2⟩ => ⟨vs, e.trans e1, e2.ext x r⟩
  | .dcr _ _ _, ⟨e1, e2⟩ => ⟨e.trans e1, e2.ext x r⟩
  | .ins c fs, ⟨ck, dx, gs, e1, e2⟩ => ⟨ck, dx, gs, e.trans e1, e2.ext x r⟩

abbrev USt := List (Option U)
def RelS (K : PySem.W.Frag) (H : Hp) : USt → L2.St → Prop
  | [], vs => vs = []
  | none :: us, vs => ∃ v ws, vs = v :: ws ∧ RelS K H us ws
  | some u :: us, vs => ∃ v ws, vs = some v :: ws ∧ RelU K H u v ∧ RelS K H us ws
section
variable {K : PySem.W.Frag} {H H' : Hp} {G G' : Gp}
theorem RelS.ext (x : Ext H G H' G') (r : Rep K H G) : ∀ {us : USt} {vs : L2.St}, RelS K H us vs → RelS K H' us vs
  | [], _, h => h
  | none :: us, _, ⟨v, ws, e, t⟩ => ⟨v, ws, e, RelS.ext x r t⟩
  | some u :: us, _, ⟨v, ws, e, h, t⟩ => ⟨v, ws, e, h.ext x r, RelS.ext x r t⟩
theorem RelS.get : ∀ {us : USt} {vs : L2.St} {i : Nat} {u : U}, RelS K H us vs → us[i]? = some (some u) → ∃ v, vs[i]? = some (some v) ∧ RelU K H u v
  | [], _, _, _, _, e => by cases e
  | none :: us, _, 0, _, _, e => by cases e
  | some u :: us, _, 0, _, ⟨v, ws, rfl, h, t⟩, e => by
    cases e
    exact ⟨v, rfl, h⟩
  | none :: us, _, i + 1, u, ⟨v, ws, rfl, t⟩, e => RelS.get (i := i) (u := u) t e
  | some w :: us, _, i + 1, u, ⟨v, ws, rfl, h, t⟩, e => RelS.get (i := i) (u := u) t e
theorem RelS.set {u : U} {v : V} (h : RelU K H u v) : ∀ {us : USt} {vs : L2.St} (i : Nat), RelS K H us vs → RelS K H (us.set i (some u)) (vs.set i (some v))
  | [], _, _, e => by
    have e' : _ = ([] : L2.St) := e
    subst e'
    rfl
  | none :: us, _, 0, ⟨w, ws, rfl, t⟩ => ⟨v, ws, rfl, h, t⟩
  | some _ :: us, _, 0, ⟨w, ws, rfl, _, t⟩ => ⟨v, ws, rfl, h, t⟩
  | none :: us, _, i + 1, ⟨w, ws, rfl, t⟩ => ⟨w, _, rfl, RelS.set h i t⟩
  | some _ :: us, _, i + 1, ⟨w, ws, rfl, q, t⟩ => ⟨w, _, rfl, q, RelS.set h i t⟩
theorem RelS.clr : ∀ {us : USt} {vs : L2.St} (i : Nat), RelS K H us vs → RelS K H (us.set i none) (vs.set i none)
  | [], _, _, e => by
    have e' : _ = ([] : L2.St) := e
    subst e'
    rfl
  | none :: us, _, 0, ⟨w, ws, rfl, t⟩ => ⟨_, ws, rfl, t⟩
  | some _ :: us, _, 0, ⟨w, ws, rfl, _, t⟩ => ⟨_, ws, rfl, t⟩
  | none :: us, _, i + 1, ⟨w, ws, rfl, t⟩ => ⟨w, _, rfl, RelS.clr i t⟩
  | some _ :: us, _, i + 1, ⟨w, ws, rfl, q, t⟩ => ⟨w, _, rfl, q, RelS.clr i t⟩
def uwipe (σ : USt) : List Nat → USt
  | [] => σ
  | v :: vs => (uwipe σ vs).set v none
theorem RelS.wipe {us : USt} {vs : L2.St} (h : RelS K H us vs) : ∀ l : List Nat, RelS K H (uwipe us l) (wipe vs l)
  | [] => h
  | i :: l => RelS.clr i (h.wipe l)
theorem RelUs.length : ∀ {us : List U} {vs : List V}, RelUs K H us vs → vs.length = us.length
  | [], _, e => by
    have e' : _ = ([] : List V) := e
    subst e'
    rfl
  | _ :: us, _, ⟨v, ws, rfl, _, t⟩ => by
    rw [List.length_cons, List.length_cons, t.length]
theorem RelUs.get : ∀ {us : List U} {vs : List V} {i : Nat} {u : U}, RelUs K H us vs → us[i]? = some u → ∃ v, vs[i]? = some v ∧ RelU K H u v
  | [], _, _, _, _, e => by cases e
  | u :: us, _, 0, _, ⟨v, ws, rfl, h, t⟩, e => by
    cases e
    exact ⟨v, rfl, h⟩
  | w :: us, _, i + 1, u, ⟨v, ws, rfl, h, t⟩, e => RelUs.get (i := i) (u := u) t e
theorem RelUs.append : ∀ {us us' : List U} {vs vs' : List V}, RelUs K H us vs → RelUs K H us' vs' → RelUs K H (us ++ us') (vs ++ vs')
  | [], _, _, _, e, h => by
    have e' : _ = ([] : List V) := e
    subst e'
    exact h
  | u :: us, _, _, _, ⟨v, ws, rfl, h, t⟩, q => ⟨v, _, rfl, h, t.append q⟩
theorem RelUs.set {u : U} {v : V} (h : RelU K H u v) : ∀ {us : List U} {vs : List V} (i : Nat), RelUs K H us vs → RelUs K H (us.set i u) (vs.set i v)
  | [], _, _, e => by
    have e' : _ = ([] : List V) := e
    subst e'
    rfl
  | _ :: us, _, 0, ⟨w, ws, rfl, _, t⟩ => ⟨v, ws, rfl, h, t⟩
  | _ :: us, _, i + 1, ⟨w, ws, rfl, q, t⟩ => ⟨w, _, rfl, q, RelUs.set h i t⟩
theorem RelUs.drop : ∀ {us : List U} {vs : List V} (n : Nat), RelUs K H us vs → RelUs K H (us.drop n) (vs.drop n)
  | _, _, 0, h => h
  | [], _, n + 1, e => by
    have e' : _ = ([] : List V) := e
    subst e'
    rfl
  | _ :: us, _, n + 1, ⟨w, ws, rfl, _, t⟩ => RelUs.drop n t
theorem RelUs.take : ∀ {us : List U} {vs : List V} (n : Nat), RelUs K H us vs → RelUs K H (us.take n) (vs.take n)
  | _, _, 0, h => rfl
  | [], _, n + 1, e => by
    have e' : _ = ([] : List V) := e
    subst e'
    rfl
  | _ :: us, _, n + 1, ⟨w, ws, rfl, h, t⟩ => ⟨w, _, rfl, h, RelUs.take n t⟩
theorem RelUs.nil : RelUs K H [] [] := rfl
theorem RelUs.one {u : U} {v : V} (h : RelU K H u v) : RelUs K H [u] [v] := ⟨v, [], rfl, h, rfl⟩
theorem RelUs.reverse : ∀ {us : List U} {vs : List V}, RelUs K H us vs → RelUs K H us.reverse vs.reverse
  | [], _, e => by
    have e' : _ = ([] : List V) := e
    subst e'
    rfl
  | u :: us, _, ⟨w, ws, rfl, h, t⟩ => by
    rw [List.reverse_cons, List.reverse_cons]
    exact t.reverse.append (.one h)
theorem RelUs.rep {us : List U} {vs : List V} (h : RelUs K H us vs) : ∀ k : Nat, RelUs K H (List.replicate k us).flatten (List.replicate k vs).flatten
  | 0 => rfl
  | k + 1 => by
    rw [List.replicate_succ, List.replicate_succ, List.flatten_cons, List.flatten_cons]
    exact h.append (h.rep k)
/-- a new object is laid and tracked -/
theorem Rep.laid {a : Addr} {o : Ob} {u : HO} (r : Rep K H G) (hn : H a = none) (new : RepO K (upd H a u) a o) : Rep K (upd H a u) (gup G a o) ∧ Ext H G (upd H a u) (gup G a o) := by
  have x0 : Ext H G (upd H a u) G := fun b v h g => ⟨by rw [upd_ne (ne_of_none h hn)]; exact h, g⟩
  refine ⟨fun b v e => ?_, fun b v h g => ⟨by rw [upd_ne (ne_of_none h hn)]; exact h, by rw [gup_ne (ne_of_none h hn)]; exact g⟩⟩
  by_cases hb : b = a
  · subst hb
    rw [gup_same] at e
    cases e
    exact new
  · rw [gup_ne hb] at e
    have q := r b v e
    cases v with
    | lst us => obtain ⟨vs, e1, e2⟩ := q; exact ⟨vs, by rw [upd_ne hb]; exact e1, e2.ext x0 r⟩
    | dct us => obtain ⟨vs, e1, e2⟩ := q; exact ⟨vs, by rw [upd_ne hb]; exact e1, e2.ext x0 r⟩
    | dcr od gs kvs => obtain ⟨e1, e2⟩ := q; exact ⟨by rw [upd_ne hb]; exact e1, e2.ext x0 r⟩
    | ins c fs => obtain ⟨ck, dx, gs, e1, e2⟩ := q; exact ⟨ck, dx, gs, by rw [upd_ne hb]; exact e1, e2.ext x0 r⟩
/-- something is laid that G does not track (a tuple) -/
theorem Rep.laid0 {a : Addr} {u : HO} (r : Rep K H G) (hn : H a = none) : Rep K (upd H a u) G ∧ Ext H G (upd H a u) G := by
  have x0 : Ext H G (upd H a u) G := fun b v h g => ⟨by rw [upd_ne (ne_of_none h hn)]; exact h, g⟩
  refine ⟨fun b v e => ?_, x0⟩
  have hb : b ≠ a := by
    obtain ⟨w, z⟩ := r.there e
    exact ne_of_none z hn
  have q := r b v e
  cases v with
  | lst us => obtain ⟨vs, e1, e2⟩ := q; exact ⟨vs, by rw [upd_ne hb]; exact e1, e2.ext x0 r⟩
  | dct us => obtain ⟨vs, e1, e2⟩ := q; exact ⟨vs, by rw [upd_ne hb]; exact e1, e2.ext x0 r⟩
  | dcr od gs kvs => obtain ⟨e1, e2⟩ := q; exact ⟨by rw [upd_ne hb]; exact e1, e2.ext x0 r⟩
  | ins c fs => obtain ⟨ck, dx, gs, e1, e2⟩ := q; exact ⟨ck, dx, gs, by rw [upd_ne hb]; exact e1, e2.ext x0 r⟩
/-- a tracked object is written -/
theorem Rep.write {a : Addr} {o o0 : Ob} {u : HO} (r : Rep K H G) (h0 : G a = some o0) (new : RepO K (upd H a u) a o) : Rep K (upd H a u) (gup G a o) ∧ Ext H G (upd H a u) (gup G a o) := by
  have ne : ∀ b, G b = none → b ≠ a := fun b g z => by rw [z, h0] at g; cases g
  have x0 : Ext H G (upd H a u) (gup G a o) := fun b v h g => ⟨by rw [upd_ne (ne b g)]; exact h, by rw [gup_ne (ne b g)]; exact g⟩
  refine ⟨fun b v e => ?_, x0⟩
  by_cases hb : b = a
  · subst hb
    rw [gup_same] at e
    cases e
    exact new
  · rw [gup_ne hb] at e
    have q := r b v e
    cases v with
    | lst us => obtain ⟨vs, e1, e2⟩ := q; exact ⟨vs, by rw [upd_ne hb]; exact e1, e2.ext x0 r⟩
    | dct us => obtain ⟨vs, e1, e2⟩ := q; exact ⟨vs, by rw [upd_ne hb]; exact e1, e2.ext x0 r⟩
    | dcr od gs kvs => obtain ⟨e1, e2⟩ := q; exact ⟨by rw [upd_ne hb]; exact e1, e2.ext x0 r⟩
    | ins c fs => obtain ⟨ck, dx, gs, e1, e2⟩ := q; exact ⟨ck, dx, gs, by rw [upd_ne hb]; exact e1, e2.ext x0 r⟩
end
end UL
set_option maxHeartbeats 2000000
namespace UL
open PySem PySem.Spec PyProof.Rows L2

structure UExc where
  cls : String
  fs : List (String × U)
abbrev UK := U → Gp → Prop
abbrev UX := UExc → Gp → Prop
abbrev UTE := USt → Gp → UK → UX → Prop
abbrev UTT := USt → Gp → (Bool → Gp → Prop) → UX → Prop
abbrev UTA := USt → Gp → (List U → Gp → Prop) → UX → Prop

def ExcR (K : PySem.W.Frag) (H : Hp) (x : UExc) (cls : Value) (d : Option Addr) : Prop :=
  cls = .ref (He.ga K (S x.cls)) ∧ ((x.fs = [] ∧ d = none) ∨ ∃ dx gs, d = some dx ∧ H dx = some (.xd gs) ∧ ∀ f u, fget x.fs f = some u → ∃ v, gs.lookup (S f) = some v ∧ RelU K H u v)

def LV (K : PySem.W.Frag) (H : Hp) (G : Gp) (Q : UK) : VK := fun v H' => ∃ u G', Ext H G H' G' ∧ Rep K H' G' ∧ RelU K H' u v ∧ Q u G'
def LB (K : PySem.W.Frag) (H : Hp) (G : Gp) (Q : Bool → Gp → Prop) : Bool → Hp → Prop := fun b H' => ∃ G', Ext H G H' G' ∧ Rep K H' G' ∧ Q b G'
def LA (K : PySem.W.Frag) (H : Hp) (G : Gp) (Q : List U → Gp → Prop) : List V → Hp → Prop := fun vs H' => ∃ us G', Ext H G H' G' ∧ Rep K H' G' ∧ RelUs K H' us vs ∧ Q us G'
def LX (K : PySem.W.Frag) (H : Hp) (G : Gp) (E : UX) : XK := fun c d H' => ∃ x G', Ext H G H' G' ∧ Rep K H' G' ∧ ExcR K H' x c d ∧ E x G'
section
variable {K : PySem.W.Frag} {H H1 : Hp} {G G1 : Gp}
theorem LV.trans (x : Ext H G H1 G1) {Q : UK} {v : V} {H' : Hp} : LV K H1 G1 Q v H' → LV K H G Q v H' := fun ⟨u, G', e, r, q⟩ => ⟨u, G', x.trans e, r, q⟩
theorem LB.trans (x : Ext H G H1 G1) {Q : Bool → Gp → Prop} {v : Bool} {H' : Hp} : LB K H1 G1 Q v H' → LB K H G Q v H' := fun ⟨G', e, r, q⟩ => ⟨G', x.trans e, r, q⟩
theorem LX.trans (x : Ext H G H1 G1) {E : UX} {c : Value} {d : Option Addr} {H' : Hp} : LX K H1 G1 E c d H' → LX K H G E c d H' := fun ⟨u, G', e, r, q⟩ => ⟨u, G', x.trans e, r, q⟩
theorem LV.here (r : Rep K H G) {Q : UK} {u : U} {v : V} (h : RelU K H u v) (q : Q u G) : LV K H G Q v H := ⟨u, G, .refl _ _, r, h, q⟩
end

structure EU (X : Cx) (W : WX) (e : Expr) (t : UTE) : Prop where
  run : ∀ (pins : List (Addr × Obj)) (s : Shared) (σ : L2.St) (H : Hp) (us : USt) (G : Gp) (Q : UK) (E : UX), Inv X pins σ H s → RelS X.K H us σ → Rep X.K H G → t us G Q E →
    (∀ c d H', LX X.K H G E c d H' → W c d σ H') → wpAny (model X.prog X.w) X.A (eval e X.env) (EP X pins σ (LV X.K H G Q)) X.xe s
structure TU (X : Cx) (W : WX) (e : Expr) (t : UTT) : Prop where
  run : ∀ (pins : List (Addr × Obj)) (s : Shared) (σ : L2.St) (H : Hp) (us : USt) (G : Gp) (Q : Bool → Gp → Prop) (E : UX), Inv X pins σ H s → RelS X.K H us σ → Rep X.K H G → t us G Q E →
    (∀ c d H', LX X.K H G E c d H' → W c d σ H') → wpAny (model X.prog X.w) X.A (isTrue e X.env (eval e X.env)) (TP X pins σ (LB X.K H G Q)) X.xe s
structure AU (X : Cx) (W : WX) (es : List Expr) (t : UTA) : Prop where
  run : ∀ (pos : Pos) (pins : List (Addr × Obj)) (s : Shared) (σ : L2.St) (H : Hp) (us : USt) (G : Gp) (Q : List U → Gp → Prop) (E : UX), Inv X pins σ H s → RelS X.K H us σ → Rep X.K H G → t us G Q E →
    (∀ c d H', LX X.K H G E c d H' → W c d σ H') → wpAny (model X.prog X.w) X.A (spliced (backTo pos (starEach es X.env))) (AP X pins σ (LA X.K H G Q)) X.xe s

def lE (K : PySem.W.Frag) (W : WX) (t : UTE) : TE := fun σ H Q => ∃ us G Qu Eu, RelS K H us σ ∧ Rep K H G ∧ t us G Qu Eu ∧ (∀ v H', LV K H G Qu v H' → Q v H') ∧ ∀ c d H', LX K H G Eu c d H' → W c d σ H'
def lT (K : PySem.W.Frag) (W : WX) (t : UTT) : TT := fun σ H Q => ∃ us G Qu Eu, RelS K H us σ ∧ Rep K H G ∧ t us G Qu Eu ∧ (∀ v H', LB K H G Qu v H' → Q v H') ∧ ∀ c d H', LX K H G Eu c d H' → W c d σ H'
def lA (K : PySem.W.Frag) (W : WX) (t : UTA) : TA := fun σ H Q => ∃ us G Qu Eu, RelS K H us σ ∧ Rep K H G ∧ t us G Qu Eu ∧ (∀ v H', LA K H G Qu v H' → Q v H') ∧ ∀ c d H', LX K H G Eu c d H' → W c d σ H'

section
variable {X : Cx} {W : WX} {e a b : Expr} {es : List Expr} {t ta tb : UTE} {tt : UTT} {tr : UTA} {pos : Pos}
theorem ep_imp {pins : List (Addr × Obj)} {σ : L2.St} {Q Q' : VK} {u : Value} {s : Shared} (h : ∀ v H, Q v H → Q' v H) : EP X pins σ Q u s → EP X pins σ Q' u s := fun ⟨v, H', I, r, q⟩ => ⟨v, H', I, r, h v H' q⟩
theorem EU.pe (h : EU X W e t) : PE X e (lE X.K W t) := ⟨fun pins s σ H Q I ⟨us, G, Qu, Eu, rs, rp, ht, hq, hx⟩ => thn (h.run pins s σ H us G Qu Eu I rs rp ht hx) fun v s' h => ep_imp hq h⟩
theorem EU.of {tv : TE} (h : PE X e tv) (k : ∀ σ H us G Q E, RelS X.K H us σ → Rep X.K H G → t us G Q E → (∀ c d H', LX X.K H G E c d H' → W c d σ H') → tv σ H (LV X.K H G Q)) : EU X W e t :=
  ⟨fun pins s σ H us G Q E I rs rp ht hx => h.run pins s σ H _ I (k σ H us G Q E rs rp ht hx)⟩
theorem TU.pt (h : TU X W e tt) : PT X e (lT X.K W tt) := ⟨fun pins s σ H Q I ⟨us, G, Qu, Eu, rs, rp, ht, hq, hx⟩ => thn (h.run pins s σ H us G Qu Eu I rs rp ht hx) fun v s' ⟨H', I', q⟩ => ⟨H', I', hq _ _ q⟩⟩
theorem TU.of {tv : TT} (h : PT X e tv) (k : ∀ σ H us G Q E, RelS X.K H us σ → Rep X.K H G → tt us G Q E → (∀ c d H', LX X.K H G E c d H' → W c d σ H') → tv σ H (LB X.K H G Q)) : TU X W e tt :=
  ⟨fun pins s σ H us G Q E I rs rp ht hx => h.run pins s σ H _ I (k σ H us G Q E rs rp ht hx)⟩
theorem AU.pa (h : AU X W es tr) : PA X es (lA X.K W tr) := ⟨fun pos pins s σ H Q I ⟨us, G, Qu, Eu, rs, rp, ht, hq, hx⟩ => thn (h.run pos pins s σ H us G Qu Eu I rs rp ht hx) fun v s' ⟨vs, H', I', r, q⟩ => ⟨vs, H', I', r, hq _ _ q⟩⟩
theorem EU.imp {t' : UTE} (h : EU X W e t) (k : ∀ us G Q E, t' us G Q E → t us G Q E) : EU X W e t' := ⟨fun pins s σ H us G Q E I rs rp ht hx => h.run pins s σ H us G Q E I rs rp (k _ _ _ _ ht) hx⟩
theorem TU.imp {t' : UTT} (h : TU X W e tt) (k : ∀ us G Q E, t' us G Q E → tt us G Q E) : TU X W e t' := ⟨fun pins s σ H us G Q E I rs rp ht hx => h.run pins s σ H us G Q E I rs rp (k _ _ _ _ ht) hx⟩

def tUVar (i : Nat) : UTE := fun us G Q _ => match us[i]? with
  | some (some u) => Q u G
  | _ => False
theorem eu_var {i : Nat} {x : Str} (hN : X.N[i]? = some x) (hv : Vis X.env.scope x) (hd : (x == ("__debug__" : Str)) = false) (hcd : (x == ("__classdict__" : Str)) = false) : EU X W (.Name x pos) (tUVar i) :=
  .of (pe_var hN hv hd hcd) fun σ H us G Q E rs rp q _ => by
    unfold tUVar at q
    split at q
    · rename_i u e
      obtain ⟨v, e2, r⟩ := rs.get e
      exact ⟨v, e2, .here rp r q⟩
    · exact q.elim
def tUC (u : U) : UTE := fun _ G Q _ => Q u G
theorem eu_c {u : U} {v : V} (h : PE X e (tC v)) (r : ∀ H, RelU X.K H u v) : EU X W e (tUC u) := .of h fun σ H us G Q E rs rp q _ => LV.here rp (r H) q
theorem eu_int {i j} : EU X W (.Constant (.int i) j pos) (tUC (.int i)) := eu_c pe_int fun _ => rfl
theorem eu_bl {i j} : EU X W (.Constant (.bool i) j pos) (tUC (.bl i)) := eu_c pe_bl fun _ => rfl
theorem eu_non {j} : EU X W (.Constant .none j pos) (tUC .non) := eu_c pe_non fun _ => rfl
theorem eu_str {x : Str} {j} : EU X W (.Constant (.str x) j pos) (tUC (.str x.cps.toList)) := eu_c pe_str fun _ => by
  show V.str x = V.str ⟨x.cps.toList.toArray⟩
  rfl

abbrev UR2 := U → U → Gp → UK → UX → Prop
def OpU (X : Cx) (W : WX) (f : Value → Value → Sem Value) (r : UR2) : Prop :=
  ∀ (pins : List (Addr × Obj)) (s : Shared) (σ : L2.St) (H : Hp) (x y : V) (v u : Value) (a b : U) (G : Gp) (Q : UK) (E : UX), Inv X pins σ H s → RelV x v → RelV y u → RelU X.K H a x → RelU X.K H b y → Rep X.K H G → r a b G Q E →
    (∀ c d H', LX X.K H G E c d H' → W c d σ H') → wpAny (model X.prog X.w) X.A (f v u) (EP X pins σ (LV X.K H G Q)) X.xe s
theorem OpU.of {f : Value → Value → Sem Value} {r : UR2} {rv : R2} (h : OpR X f rv) (k : ∀ x y H a b G Q E, RelU X.K H a x → RelU X.K H b y → Rep X.K H G → r a b G Q E → rv x y H (LV X.K H G Q)) : OpU X W f r :=
  fun pins s σ H x y v u a b G Q E I rx ry ra rb rp hr _ => h pins s σ H x y v u _ I rx ry (k x y H a b G Q E ra rb rp hr)
theorem OpU.imp {f : Value → Value → Sem Value} {r r' : UR2} (h : OpU X W f r) (k : ∀ a b G Q E, r' a b G Q E → r a b G Q E) : OpU X W f r' :=
  fun pins s σ H x y v u a b G Q E I rx ry ra rb rp hr hx => h pins s σ H x y v u a b G Q E I rx ry ra rb rp (k _ _ _ _ _ hr) hx
def tUOp (r : UR2) (ta tb : UTE) : UTE := fun us G Q E => ta us G (fun u G1 => tb us G1 (fun w G2 => r u w G2 Q E) E) E
/-- two expressions in a row -/
theorem bin2 (ha : EU X W a ta) (hb : EU X W b tb) {pins : List (Addr × Obj)} {s : Shared} {σ : L2.St} {H : Hp} {us : USt} {G : Gp} {E : UX} {R : U → U → Gp → Prop} (I : Inv X pins σ H s) (rs : RelS X.K H us σ) (rp : Rep X.K H G)
    (h : ta us G (fun u G1 => tb us G1 (fun w G2 => R u w G2) E) E) (hx : ∀ c d H', LX X.K H G E c d H' → W c d σ H') {Q : Value → Shared → Prop} {f : Value → Value → Sem Value}
    (hf : ∀ v u s2 x y H2 p q G2, Inv X pins σ H2 s2 → RelV x v → RelV y u → Ext H G H2 G2 → Rep X.K H2 G2 → RelS X.K H2 us σ → RelU X.K H2 p x → RelU X.K H2 q y → R p q G2 → (∀ c d H', LX X.K H2 G2 E c d H' → W c d σ H') → wpAny (model X.prog X.w) X.A (f v u) Q X.xe s2) :
    wpAny (model X.prog X.w) X.A (eval a X.env) (fun v s₁ => wpAny (model X.prog X.w) X.A (eval b X.env) (fun u s₂ => wpAny (model X.prog X.w) X.A (f v u) Q X.xe s₂) X.xe s₁) X.xe s := by
  refine thn (ha.run pins s σ H us G _ E I rs rp h hx) fun v s1 ⟨x, H1, I1, r1, p, G1, x1, rp1, rp', q1⟩ => ?_
  refine thn (hb.run pins s1 σ H1 us G1 _ E I1 (rs.ext x1 rp) rp1 q1 fun c d H' h => hx c d H' (h.trans x1)) fun u s2 ⟨y, H2, I2, r2, q, G2, x2, rp2, rq, q2⟩ => ?_
  exact hf v u s2 x y H2 p q G2 I2 r1 r2 (x1.trans x2) rp2 ((rs.ext x1 rp).ext x2 rp1) (rp'.ext x2 rp1) rq q2 fun c d H' h => hx c d H' (h.trans (x1.trans x2))
theorem lv_pins {pins : List (Addr × Obj)} {σ : L2.St} {H H2 : Hp} {G G2 : Gp} {Q : UK} {u : Value} {s : Shared} (x : Ext H G H2 G2) : EP X pins σ (LV X.K H2 G2 Q) u s → EP X pins σ (LV X.K H G Q) u s := ep_imp fun _ _ h => h.trans x
theorem eu_bin {op : Operator} {r : UR2} (ho : OpU X W (binaryOp op) r) (ha : EU X W a ta) (hb : EU X W b tb) : EU X W (.BinOp a op b pos) (tUOp r ta tb) := by
  refine ⟨fun pins s σ H us G Q E I rs rp h hx => ?_⟩
  exact wpAny_BinOp (bin2 ha hb I rs rp h hx fun v u s2 x y H2 p q G2 I2 r1 r2 ex rp2 rs2 rp' rq hr hx2 => thn (ho pins s2 σ H2 x y v u p q G2 Q E I2 r1 r2 rp' rq rp2 hr hx2) fun _ _ h => lv_pins ex h)
theorem eu_cmp {op : CmpOp} {r : UR2} (ho : OpU X W (compareOp op) r) (ha : EU X W a ta) (hb : EU X W b tb) (hm : behindInMarks op b = false) : EU X W (.Compare a [op] [b] pos) (tUOp r ta tb) := by
  refine ⟨fun pins s σ H us G Q E I rs rp h hx => ?_⟩
  exact wpAny_Compare1 (bin2 ha hb I rs rp h hx fun v u s2 x y H2 p q G2 I2 r1 r2 ex rp2 rs2 rp' rq hr hx2 => thn (ho pins s2 σ H2 x y v u p q G2 Q E I2 r1 r2 rp' rq rp2 hr hx2) fun _ _ h => lv_pins ex h) hm
/-- a comparison as a test: its answer is a truth value -/
def kBl (Q : Bool → Gp → Prop) : UK := fun u G => match u with
  | .bl b => Q b G
  | _ => False
theorem tu_cmp {op : CmpOp} {r : UR2} (ho : OpU X W (compareOp op) r) (ha : EU X W a ta) (hb : EU X W b tb) (hm : behindInMarks op b = false) : TU X W (.Compare a [op] [b] pos) (fun us G Q E => tUOp r ta tb us G (kBl Q) E) := by
  refine ⟨fun pins s σ H us G Q E I rs rp h hx => ?_⟩
  refine wpAny_isTrue_Compare1 (thn (bin2 ha hb I rs rp h hx fun v u s2 x y H2 p q G2 I2 r1 r2 ex rp2 rs2 rp' rq hr hx2 => thn (ho pins s2 σ H2 x y v u p q G2 _ E I2 r1 r2 rp' rq rp2 hr hx2) fun _ _ h => lv_pins ex h) fun v s1 h1 => thn h1 fun u s2 h2 => thn h2 fun c s3 h3 => ?_) hm
  obtain ⟨x, H3, I3, rv, u', G3, x3, rp3, ru, q3⟩ := h3
  cases u' with
  | bl b =>
    obtain rfl : x = V.bl b := ru
    cases rv
    exact wpAny_truthy_bool ⟨H3, I3, G3, x3, rp3, q3⟩
  | _ => exact False.elim q3

abbrev UR1 := U → Gp → UK → UX → Prop
def UnU (X : Cx) (W : WX) (f : Value → Sem Value) (r : UR1) : Prop :=
  ∀ (pins : List (Addr × Obj)) (s : Shared) (σ : L2.St) (H : Hp) (x : V) (v : Value) (a : U) (G : Gp) (Q : UK) (E : UX), Inv X pins σ H s → RelV x v → RelU X.K H a x → Rep X.K H G → r a G Q E →
    (∀ c d H', LX X.K H G E c d H' → W c d σ H') → wpAny (model X.prog X.w) X.A (f v) (EP X pins σ (LV X.K H G Q)) X.xe s
theorem UnU.of {f : Value → Sem Value} {r : UR1} {rv : V → Hp → VK → Prop} (h : UnR X f rv) (k : ∀ x H a G Q E, RelU X.K H a x → Rep X.K H G → r a G Q E → rv x H (LV X.K H G Q)) : UnU X W f r :=
  fun pins s σ H x v a G Q E I rx ra rp hr _ => h pins s σ H x v _ I rx (k x H a G Q E ra rp hr)
def TrU (X : Cx) (W : WX) (r : U → Gp → (Bool → Gp → Prop) → UX → Prop) : Prop :=
  ∀ (pins : List (Addr × Obj)) (s : Shared) (σ : L2.St) (H : Hp) (x : V) (v : Value) (a : U) (G : Gp) (Q : Bool → Gp → Prop) (E : UX), Inv X pins σ H s → RelV x v → RelU X.K H a x → Rep X.K H G → r a G Q E →
    (∀ c d H', LX X.K H G E c d H' → W c d σ H') → wpAny (model X.prog X.w) X.A (truthy v) (TP X pins σ (LB X.K H G Q)) X.xe s
/-- a value's truth -/
def tUTru (r : U → Gp → (Bool → Gp → Prop) → UX → Prop) (ta : UTE) : UTT := fun us G Q E => ta us G (fun u G1 => r u G1 Q E) E
theorem tu_val {r : U → Gp → (Bool → Gp → Prop) → UX → Prop} (ht : TrU X W r) (ha : EU X W e ta) (he : ∀ whole, isTrue e X.env whole = (do let v ← whole; standAt e.pos; holding [v] (truthy v))) : TU X W e (tUTru r ta) := by
  refine ⟨fun pins s σ H us G Q E I rs rp h hx => ?_⟩
  refine isTrue_plain (thn (ha.run pins s σ H us G _ E I rs rp h hx) fun v s1 ⟨x, H1, I1, r1, p, G1, x1, rp1, rp', q1⟩ => ?_) (he _)
  exact thn (ht pins s1 σ H1 x v p G1 Q E I1 r1 rp' rp1 q1 fun c d H' h => hx c d H' (h.trans x1)) fun _ _ ⟨H', I', q⟩ => ⟨H', I', q.trans x1⟩
def tUNot (t : UTT) : UTT := fun us G Q E => t us G (fun b G1 => Q (!b) G1) E
theorem tu_not (ha : TU X W a tt) : TU X W (.UnaryOp .Not a pos) (tUNot tt) := by
  refine ⟨fun pins s σ H us G Q E I rs rp h hx => ?_⟩
  exact thn (pt_not ha.pt |>.run pins s σ H (LB X.K H G Q) I ⟨us, G, _, E, rs, rp, h, fun b H' q => q, hx⟩) fun _ _ q => q
end
end UL
set_option maxHeartbeats 2000000
namespace UL
open PySem PySem.Spec PyProof.Rows L2

theorem lim_line {n : Nat} (h : n ≤ 1000000) : n ≤ sizeLine := by rw [sizeLine_eq]; omega
theorem lim_lt {n : Nat} (h : n < 1000000) : n < sizeLine := by rw [sizeLine_eq]; omega

section
variable {K : PySem.W.Frag} {H : Hp} {G : Gp}
theorem RelU.tup_of {us : List U} {v : V} (h : RelU K H (.tup us) v) : ∃ a vs, v = .ref a ∧ SqT K H a vs ∧ RelUs K H us vs := h
theorem Rep.lst {a : Addr} {us : List U} (r : Rep K H G) (h : G a = some (.lst us)) : ∃ vs, H a = some (.lst vs) ∧ RelUs K H us vs := r a _ h
theorem Rep.dct {a : Addr} {us : List (U × U)} (r : Rep K H G) (h : G a = some (.dct us)) : ∃ vs, H a = some (.dK vs) ∧ RelKV K H us vs := r a _ h
theorem Rep.ins {a : Addr} {c : String} {fs : List (String × U)} (r : Rep K H G) (h : G a = some (.ins c fs)) : ∃ dx gs, H a = some (.ins (He.ga K (S c)) dx gs) ∧ RelF K H (He.ga K (S c)) fs gs := (r a _ h).2
theorem Rep.clsK {a : Addr} {c : String} {fs : List (String × U)} (r : Rep K H G) (h : G a = some (.ins c fs)) : ClsK K c := (r a _ h).1
end

section
variable {K : PySem.W.Frag} {H : Hp} {G : Gp} {Q : UK}
theorem lv_int (r : Rep K H G) {i : Int} (q : Q (.int i) G) : LV K H G Q (.int i) H := LV.here (u := .int i) r rfl q
theorem lv_bl (r : Rep K H G) {i : Bool} (q : Q (.bl i) G) : LV K H G Q (.bl i) H := LV.here (u := .bl i) r rfl q
theorem lv_str (r : Rep K H G) {l : List Nat} (q : Q (.str l) G) : LV K H G Q (.str ⟨l.toArray⟩) H := LV.here (u := .str l) r rfl q
theorem lv_old (r : Rep K H G) {us : List U} {a : Addr} {vs : List V} (t : SqT K H a vs) (h : RelUs K H us vs) (q : Q (.tup us) G) : LV K H G Q (.ref a) H := LV.here (u := .tup us) r ⟨a, vs, rfl, t, h⟩ q
theorem lv_tup (r : Rep K H G) {us : List U} {vs : List V} (h : RelUs K H us vs) {p : Addr} (hp : H p = none) (q : Q (.tup us) G) : LV K H G Q (.ref p) (upd H p (.tup vs)) := by
  obtain ⟨r1, x1⟩ := r.laid0 (u := .tup vs) hp
  exact ⟨.tup us, G, x1, r1, ⟨p, vs, rfl, .of upd_same, h.ext x1 r⟩, q⟩
theorem lv_lst (r : Rep K H G) {us : List U} {vs : List V} (h : RelUs K H us vs) {p : Addr} (hp : H p = none) (q : Q (.ref p) (gup G p (.lst us))) : LV K H G Q (.ref p) (upd H p (.lst vs)) := by
  have x0 : Ext H G (upd H p (.lst vs)) G := (r.laid0 hp).2
  obtain ⟨r1, x1⟩ := r.laid (u := .lst vs) (o := .lst us) hp ⟨vs, upd_same, h.ext x0 r⟩
  exact ⟨.ref p, _, x1, r1, rfl, q⟩
theorem lv_setl (r : Rep K H G) {a : Addr} {o : Ob} (ho : G a = some o) {us : List U} {vs : List V} (h : RelUs K H us vs) {u : U} {v : V} (hu : RelU K H u v) (q : Q u (gup G a (.lst us))) : LV K H G Q v (upd H a (.lst vs)) := by
  have ne : ∀ b, G b = none → b ≠ a := fun b g z => by rw [z, ho] at g; cases g
  have x0 : Ext H G (upd H a (.lst vs)) (gup G a (.lst us)) := fun b w h g => ⟨by rw [upd_ne (ne b g)]; exact h, by rw [gup_ne (ne b g)]; exact g⟩
  obtain ⟨r1, x1⟩ := r.write (u := .lst vs) (o := .lst us) ho ⟨vs, upd_same, h.ext x0 r⟩
  exact ⟨u, _, x1, r1, hu.ext x1 r, q⟩
end

mutual
inductive Dat (G : Gp) : U → PyData → Prop
  | non : Dat G .non .none
  | bl (b : Bool) : Dat G (.bl b) (.bool b)
  | int (i : Int) : Dat G (.int i) (.int i)
  | str (l : List Nat) : Dat G (.str l) (.str ⟨l.toArray⟩)
  | tup {us : List U} {ds : List PyData} : Dats G us ds → Dat G (.tup us) (.tuple ds)
  | lst {a : Addr} {us : List U} {ds : List PyData} : G a = some (.lst us) → Dats G us ds → Dat G (.ref a) (.list ds)
inductive Dats (G : Gp) : List U → List PyData → Prop
  | nil : Dats G [] []
  | cons {u : U} {us : List U} {d : PyData} {ds : List PyData} : Dat G u d → Dats G us ds → Dats G (u :: us) (d :: ds)
end
section
variable {K : PySem.W.Frag} {H : Hp} {G : Gp}
mutual
theorem Dat.dp (r : Rep K H G) : ∀ (d : PyData) (u : U) (v : V), Dat G u d → RelU K H u v → Dp K H v d
  | _, _, v, .non, e => by rw [show v = .non from e]; exact .non
  | _, _, v, .bl b, e => by rw [show v = .bl b from e]; exact .bl b
  | _, _, v, .int i, e => by rw [show v = .int i from e]; exact .int i
  | _, _, v, .str l, e => by rw [show v = .str ⟨l.toArray⟩ from e]; exact .str _
  | .tuple ds, _, v, .tup h, e => by
    obtain ⟨a, vs, rfl, ht, hr⟩ := e.tup_of
    exact .tup ht (Dats.dp r ds _ vs h hr)
  | .list ds, _, v, .lst hg h, e => by
    rw [show v = .ref _ from e]
    obtain ⟨vs, e1, hr⟩ := r.lst hg
    exact .lst (.of e1) (Dats.dp r ds _ vs h hr)
theorem Dats.dp (r : Rep K H G) : ∀ (ds : List PyData) (us : List U) (vs : List V), Dats G us ds → RelUs K H us vs → DpAll K H vs ds
  | [], _, vs, .nil, e => by
    have e' : vs = [] := e
    subst e'
    exact .nil
  | d :: ds, _, vs, .cons h t, e => by
    obtain ⟨v, ws, rfl, hv, hs⟩ := e
    exact .cons (Dat.dp r d _ v h hv) (Dats.dp r ds _ ws t hs)
end
end

def addU : UR2 := fun x y G Q _ => match x, y with
  | .int i, .int j => Q (.int (i + j)) G
  | .str a, .str b => a.length + b.length ≤ 1000000 ∧ Q (.str (a ++ b)) G
  | .tup a, .tup b => a.length + b.length ≤ 1000000 ∧ Q (.tup (a ++ b)) G
  | .ref a, .ref b => ∃ xs ys, G a = some (.lst xs) ∧ G b = some (.lst ys) ∧ xs.length + ys.length ≤ 1000000 ∧ ∀ p, G p = none → Q (.ref p) (gup G p (.lst (xs ++ ys)))
  | _, _ => False
def subU : UR2 := fun x y G Q _ => match x, y with
  | .int i, .int j => Q (.int (i - j)) G
  | _, _ => False
/-- one factor below 2^64 -/
def mulU : UR2 := fun x y G Q _ => match x, y with
  | .int i, .int j => CMul i j ∧ Q (.int (i * j)) G
  | .tup a, .int k => a ≠ [] ∧ a.length ≤ 1000 ∧ 0 ≤ k ∧ k ≤ 1000 ∧ Q (.tup (List.replicate k.toNat a).flatten) G
  | .ref a, .int k => ∃ xs, G a = some (.lst xs) ∧ -(2 ^ 63) ≤ k ∧ k < 2 ^ 63 ∧ xs.length * k.toNat ≤ 1000000 ∧ ∀ p, G p = none → Q (.ref p) (gup G p (.lst (List.replicate k.toNat xs).flatten))
  | _, _ => False
def modU : UR2 := fun x y G Q _ => match x, y with
  | .int i, .int j => 0 < j ∧ Q (.int (i % j)) G
  | _, _ => False
def fdivU : UR2 := fun x y G Q _ => match x, y with
  | .int i, .int j => (0 < j ∧ j < 1073741824) ∧ Q (.int (i / j)) G
  | _, _ => False
def powU : UR2 := fun x y G Q _ => match x, y with
  | .int i, .int j => CPow i j ∧ Q (.int (i ^ j.toNat)) G
  | _, _ => False
section
variable {X : Cx} {W : WX}
theorem str_app {a b : List Nat} : (⟨a.toArray⟩ : Str) ++ (⟨b.toArray⟩ : Str) = ⟨(a ++ b).toArray⟩ := by
  show (⟨a.toArray ++ b.toArray⟩ : Str) = _
  simp
theorem ou_add : OpU X W (binaryOp .Add) addU := by
  intro pins s σ H x y v u a b G Q E I rx ry ra rb rp hr hx
  cases a <;> cases b <;> try exact hr.elim
  case int.int i j => exact op_add pins s σ H x y v u _ I rx ry ⟨i, j, ra, rb, lv_int rp hr⟩
  case str.str i j =>
    refine op_add_str pins s σ H x y v u _ I rx ry ⟨_, _, ra, rb, ?_, ?_⟩
    · show i.toArray.size + j.toArray.size ≤ sizeLine
      simp only [List.size_toArray]
      exact lim_line hr.1
    · exact (by rw [str_app]; exact lv_str rp hr.2)
  case tup.tup i j =>
    obtain ⟨pa, vs, ea, ta, sa⟩ := ra.tup_of
    obtain ⟨pb, ws, eb, tb, sb⟩ := rb.tup_of
    refine op_catA pins s σ H x y v u _ I rx ry ⟨pa, pb, vs, ws, ea, eb, ta, tb, by rw [sa.length, sb.length]; exact lim_line hr.1, fun e => ?_, fun ne e => ?_, fun n1 n2 p hp => ?_⟩
    · subst e
      have : i = [] := List.eq_nil_of_length_eq_zero sa.length.symm
      subst this
      exact lv_old rp tb sb (by simpa using hr.2)
    · subst e
      have : j = [] := List.eq_nil_of_length_eq_zero sb.length.symm
      subst this
      exact lv_old rp ta sa (by simpa using hr.2)
    · exact lv_tup rp (sa.append sb) hp hr.2
  case ref.ref i j =>
    obtain ⟨xs, ys, g1, g2, hl, hr⟩ := hr
    obtain ⟨vs, e1, r1⟩ := rp.lst g1
    obtain ⟨ws, e2, r2⟩ := rp.lst g2
    exact op_cat pins s σ H x y v u _ I rx ry ⟨i, j, vs, ws, ra, rb, e1, e2, by rw [r1.length, r2.length]; exact lim_line hl, fun p hp => lv_lst rp (r1.append r2) hp (hr p (rp.fresh hp))⟩
theorem ou_sub : OpU X W (binaryOp .Sub) subU := by
  intro pins s σ H x y v u a b G Q E I rx ry ra rb rp hr hx
  cases a <;> cases b <;> try exact hr.elim
  case int.int i j => exact op_sub pins s σ H x y v u _ I rx ry ⟨i, j, ra, rb, lv_int rp hr⟩
theorem ou_mod : OpU X W (binaryOp .Mod) modU := by
  intro pins s σ H x y v u a b G Q E I rx ry ra rb rp hr hx
  cases a <;> cases b <;> try exact hr.elim
  case int.int i j => exact op_mod pins s σ H x y v u _ I rx ry ⟨i, j, ra, rb, hr.1, lv_int rp hr.2⟩
theorem ou_fdiv : OpU X W (binaryOp .FloorDiv) fdivU := by
  intro pins s σ H x y v u a b G Q E I rx ry ra rb rp hr hx
  cases a <;> cases b <;> try exact hr.elim
  case int.int i j => exact op_fdiv pins s σ H x y v u _ I rx ry ⟨i, j, ra, rb, hr.1, lv_int rp hr.2⟩
theorem ou_pow : OpU X W (binaryOp .Pow) powU := by
  intro pins s σ H x y v u a b G Q E I rx ry ra rb rp hr hx
  cases a <;> cases b <;> try exact hr.elim
  case int.int i j => exact op_pow pins s σ H x y v u _ I rx ry ⟨i, j, ra, rb, hr.1, lv_int rp hr.2⟩
end
end UL
set_option maxHeartbeats 400000
namespace UL
open PySem PySem.Spec PyProof.Rows L2
theorem tup_mul1 (l : Addr) (items : Array Value) (n : Nat) (dd : Option Addr) (sl : Array (Option Value)) (u : Tok) :
    Meets (Builtin.«tuple.__mul__» ⟨[.ref l, .int 1 u], []⟩) (fun _ R s => s.heap.get? l = some { cls := .type "tuple", dict := dd, data := .seq items n, slots := sl } ∧ R (.ok (.ret (.ref l))) s) :=
  .of_wp fun prog w A R s h => by
    obtain ⟨hp, g, d, tk, os⟩ := s
    obtain ⟨hl, h⟩ := h
    have f1 := AutoSeq1.idx_int
    wp_walk using wpAny_loadPart' hl
    exact ⟨_, rfl, h⟩
theorem tup_mul0 (l : Addr) (items : Array Value) (n : Nat) (dd : Option Addr) (sl : Array (Option Value)) (x : Int) (u : Tok) (c0 : (decide (x < -(2 ^ 63)) || decide (x ≥ 2 ^ 63)) = false) (c1 : (items.isEmpty || x == 1) = false) (c2 : (decide (x ≤ 0) || items.isEmpty) = true) :
    Meets (Builtin.«tuple.__mul__» ⟨[.ref l, .int x u], []⟩) (fun _ R s => s.heap.get? l = some { cls := .type "tuple", dict := dd, data := .seq items n, slots := sl } ∧
      R (.ok (.ret (Value.ref s.heap.objs.size))) { s with heap := s.heap.push { cls := Value.type "tuple", data := Data.seq #[] }, toks := s.toks }) :=
  .of_wp fun prog w A R s h => by
    obtain ⟨hp, g, d, tk, os⟩ := s
    obtain ⟨hl, h⟩ := h
    have f1 := AutoSeq1.idx_int
    wp_walk using wpAny_loadPart' hl
    repeat (first
      | (refine wpAny_ite_false (decide_eq_false (by rw [c0]; exact Bool.false_ne_true)) ?_; wp_walk using wpAny_loadPart' hl)
      | (refine wpAny_ite_false (decide_eq_false (by rw [c1]; exact Bool.false_ne_true)) ?_; wp_walk using wpAny_loadPart' hl)
      | (refine wpAny_ite_true (decide_eq_true c2) ?_; wp_walk using wpAny_loadPart' hl))
    exact ⟨_, rfl, h⟩
section
variable {X : Cx} {W : WX}
/-- t * 0, t * 1 -/
def rRep01 (K : PySem.W.Frag) : R2 := fun x y H Q => ∃ l xs, x = .ref l ∧ SqT K H l xs ∧ xs ≠ [] ∧ ((y = .int 1 ∧ Q (.ref l) H) ∨ (y = .int 0 ∧ ∀ p, H p = none → Q (.ref p) (upd H p (.tup []))))
theorem op_rep01 : OpR X (binaryOp .Mult) (rRep01 X.K) := by
  intro pins s σ H x y v u Q I rx ry h
  obtain ⟨l, xs, rfl, hT, hne, h⟩ := h
  cases rx
  obtain ⟨its, r, ⟨⟨cls, dd, data, sl⟩, ho, hc, n, hd⟩, hs⟩ := I.tuple hT
  simp only at hc hd
  subst hc hd
  have hn : its ≠ [] := fun e => hne (by
    rw [e] at r
    exact List.eq_nil_of_length_eq_zero r.length)
  have hi : its.toArray.isEmpty = false := by
    cases its with
    | nil => exact absurd rfl hn
    | cons a b => rfl
  rcases h with ⟨rfl, q⟩ | ⟨rfl, q⟩
  · obtain ⟨t, rfl⟩ := ry
    exact wpAny_binaryOp_repeat_ref (T := "tuple") (U := "int") (by decide) ⟨_, ho, rfl⟩ (fun s' => typeIs_int s' 1 t) noFill_tuple_mul F.fills_int_mul F.slot_int_rmul repeat_tuple F.slot_int_index.lookup
      (call_meets F.slot_int_rmul (typeIs_int s 1 t) F.entry_int_rmul (F.args_int_rmul_2 _ _) (int_rmul_tuple 1 t l its.toArray n dd sl)
        ⟨ho, rfl, ⟨_, ho, rfl⟩, call_meets F.slot_tuple_mul ⟨_, ho, rfl⟩ F.entry_tuple_mul (F.args_tuple_mul_2 _ _) (tup_mul1 l its.toArray n dd sl t) ⟨ho, .ref l, H, I, rfl, q⟩⟩)
  · obtain ⟨t, rfl⟩ := ry
    refine wpAny_binaryOp_repeat_ref (T := "tuple") (U := "int") (by decide) ⟨_, ho, rfl⟩ (fun s' => typeIs_int s' 0 t) noFill_tuple_mul F.fills_int_mul F.slot_int_rmul repeat_tuple F.slot_int_index.lookup
      (call_meets F.slot_int_rmul (typeIs_int s 0 t) F.entry_int_rmul (F.args_int_rmul_2 _ _) (int_rmul_tuple 0 t l its.toArray n dd sl)
        ⟨ho, rfl, ⟨_, ho, rfl⟩, call_meets F.slot_tuple_mul ⟨_, ho, rfl⟩ F.entry_tuple_mul (F.args_tuple_mul_2 _ _) (tup_mul0 l its.toArray n dd sl 0 t (by decide) (by rw [hi]; rfl) (by rfl)) ⟨ho, ?_⟩⟩)
    refine ⟨.ref s.heap.objs.size, _, I.laid (t' := s.toks) (o := .tup []) (fun b ob q => Heap.get?_push_of_some _ q) (Nat.le_refl _) ?_, rfl, q _ (I.hok.fresh (Nat.le_refl _))⟩
    exact ⟨Nat.zero_le _, [], .nil, IsTup.new _ _⟩
theorem ou_mul : OpU X W (binaryOp .Mult) mulU := by
  intro pins s σ H x y v u a b G Q E I rx ry ra rb rp hr hx
  cases a <;> cases b <;> try exact hr.elim
  case int.int i j => exact op_mul pins s σ H x y v u _ I rx ry ⟨i, j, ra, rb, hr.1, lv_int rp hr.2⟩
  case tup.int i k =>
    obtain ⟨hne, hl, k0, k1, q⟩ := hr
    obtain ⟨pa, vs, ea, ta, sa⟩ := ra.tup_of
    have hv : vs ≠ [] := fun e => hne (by
      rw [e] at sa
      exact List.eq_nil_of_length_eq_zero sa.length.symm)
    by_cases h0 : k = 0
    · subst h0
      refine op_rep01 pins s σ H x y v u _ I rx ry ⟨pa, vs, ea, ta, hv, .inr ⟨rb, fun p hp => ?_⟩⟩
      exact lv_tup (us := []) rp rfl hp q
    · by_cases h1 : k = 1
      · subst h1
        refine op_rep01 pins s σ H x y v u _ I rx ry ⟨pa, vs, ea, ta, hv, .inl ⟨rb, ?_⟩⟩
        exact lv_old rp ta sa (by simpa using q)
      · exact op_repT pins s σ H x y v u _ I rx ry ⟨pa, k, vs, ea, rb, ta, hv, by omega, k1, by rw [sa.length]; exact hl, fun p hp => lv_tup rp (sa.rep _) hp q⟩
  case ref.int i k =>
    obtain ⟨xs, g1, k0, k1, hl, q⟩ := hr
    obtain ⟨vs, e1, r1⟩ := rp.lst g1
    exact op_rep pins s σ H x y v u _ I rx ry ⟨i, k, vs, ra, rb, e1, k0, k1, by rw [r1.length]; exact lim_line hl, fun p hp => lv_lst rp (r1.rep _) hp (q p (rp.fresh hp))⟩
end
end UL
set_option maxHeartbeats 400000
namespace UL
open PySem PySem.Spec PyProof.Rows L2

def ueq : U → U → Bool
  | .non, .non => true
  | .bl a, .bl b => a == b
  | .bl a, .int b => (if a then 1 else 0) == b
  | .int a, .bl b => a == (if b then 1 else 0)
  | .int a, .int b => a == b
  | .str a, .str b => a == b
  | _, _ => false
def uflat : U → Bool
  | .non => true
  | .bl _ => true
  | .int _ => true
  | .str _ => true
  | _ => false
theorem arr_eq {a b : List Nat} : ((⟨a.toArray⟩ : Str) == (⟨b.toArray⟩ : Str)) = (a == b) := by
  by_cases h : a = b
  · subst h
    rw [beq_self_eq_true, beq_self_eq_true]
  · have h2 : ¬ (⟨a.toArray⟩ : Str) = (⟨b.toArray⟩ : Str) := fun e => h (by
      have e' : a.toArray = b.toArray := congrArg Str.cps e
      simpa using e')
    rw [beq_eq_false_iff_ne.mpr h, beq_eq_false_iff_ne.mpr h2]
section
variable {K : PySem.W.Frag} {H : Hp} {G : Gp}
theorem flat_of {u : U} {v : V} (r : RelU K H u v) (h : uflat u = true) : flatV v = true := by
  cases u with
  | non => rw [show v = .non from r]; rfl
  | bl b => rw [show v = .bl b from r]; rfl
  | int b => rw [show v = .int b from r]; rfl
  | str b => rw [show v = .str ⟨b.toArray⟩ from r]; rfl
  | _ => cases h
theorem eqV_of {u w : U} {v z : V} (r : RelU K H u v) (q : RelU K H w z) (h : uflat u = true) (h2 : uflat w = true) : eqV v z = ueq u w := by
  cases u <;> first | (cases h; done) | skip
  all_goals (cases w <;> first | (cases h2; done) | skip)
  all_goals (have r' := r; have q' := q; simp only [RelU] at r' q'; subst r' q'; first | rfl | exact arr_eq)
theorem flatAll_of : ∀ {us : List U} {vs : List V}, RelUs K H us vs → us.all uflat = true → vs.all flatV = true
  | [], _, e, _ => by
    have e' : _ = ([] : List V) := e
    subst e'
    rfl
  | u :: us, _, ⟨v, ws, rfl, h, t⟩, a => by
    rw [List.all_cons, Bool.and_eq_true] at a
    rw [List.all_cons, flat_of h a.1, flatAll_of t a.2]
    rfl
theorem inV_of {x : U} {z : V} (rx : RelU K H x z) (fx : uflat x = true) : ∀ {us : List U} {vs : List V}, RelUs K H us vs → us.all uflat = true → inV z vs = us.any fun y => ueq y x
  | [], _, e, _ => by
    have e' : _ = ([] : List V) := e
    subst e'
    rfl
  | u :: us, _, ⟨v, ws, rfl, h, t⟩, a => by
    rw [List.all_cons, Bool.and_eq_true] at a
    have ih := inV_of rx fx t a.2
    unfold inV at ih ⊢
    rw [List.any_cons, List.any_cons, eqV_of h rx a.1 fx, ih]
end

def eqU : UR2 := fun x y G Q _ => match x, y with
  | .int i, .int j => Q (.bl (decide (i = j))) G
  | .str i, .str j => Q (.bl (decide (i = j))) G
  | .non, .non => Q (.bl true) G
  | x, y => ∃ d e, Dat G x d ∧ Dat G y e ∧ SeqAt.shaped d = true ∧ SeqAt.shaped e = true ∧ Q (.bl (PyData.eqv d e)) G
def neU : UR2 := fun x y G Q _ => match x, y with
  | .int i, .int j => Q (.bl (!decide (i = j))) G
  | .str i, .str j => Q (.bl (!decide (i = j))) G
  | .non, .non => Q (.bl false) G
  | x, y => ∃ d e, Dat G x d ∧ Dat G y e ∧ SeqAt.shaped d = true ∧ SeqAt.shaped e = true ∧ Q (.bl (!PyData.eqv d e)) G
def ltU : UR2 := fun x y G Q _ => match x, y with
  | .int i, .int j => Q (.bl (decide (i < j))) G
  | .str i, .str j => Q (.bl (decide (i < j))) G
  | _, _ => False
def leU : UR2 := fun x y G Q _ => match x, y with
  | .int i, .int j => Q (.bl (decide (i ≤ j))) G
  | .str i, .str j => Q (.bl (!decide (j < i))) G
  | _, _ => False
def gtU : UR2 := fun x y G Q _ => match x, y with
  | .int i, .int j => Q (.bl (decide (j < i))) G
  | .str i, .str j => Q (.bl (decide (j < i))) G
  | _, _ => False
def geU : UR2 := fun x y G Q _ => match x, y with
  | .int i, .int j => Q (.bl (decide (j ≤ i))) G
  | .str i, .str j => Q (.bl (!decide (i < j))) G
  | _, _ => False
def inU : UR2 := fun x y G Q _ => match x, y with
  | .str c, .str l => ∃ k, c = [k] ∧ Q (.bl (decide (k ∈ l))) G
  | x, .tup us => uflat x = true ∧ us.all uflat = true ∧ Q (.bl (us.any fun y => ueq y x)) G
  | x, .ref a => ∃ us, G a = some (.lst us) ∧ uflat x = true ∧ us.all uflat = true ∧ Q (.bl (us.any fun y => ueq y x)) G
  | _, _ => False
def notInU : UR2 := fun x y G Q _ => match x, y with
  | .str c, .str l => ∃ k, c = [k] ∧ Q (.bl (!decide (k ∈ l))) G
  | x, .tup us => uflat x = true ∧ us.all uflat = true ∧ Q (.bl (!us.any fun y => ueq y x)) G
  | x, .ref a => ∃ us, G a = some (.lst us) ∧ uflat x = true ∧ us.all uflat = true ∧ Q (.bl (!us.any fun y => ueq y x)) G
  | _, _ => False
def noDict : Ob → Bool
  | .lst _ => true
  | .ins _ _ => true
  | _ => false
section
variable {X : Cx} {W : WX}
theorem dec_strU {i j : List Nat} : decide (V.str ⟨i.toArray⟩ = V.str ⟨j.toArray⟩) = decide (i = j) := by
  by_cases h : i = j
  · subst h
    simp
  · have h2 : ¬ V.str ⟨i.toArray⟩ = V.str ⟨j.toArray⟩ := fun e => h (by
      have e' : i.toArray = j.toArray := congrArg Str.cps (V.str.inj e)
      simpa using e')
    rw [decide_eq_false h, decide_eq_false h2]
theorem dec_intU {i j : Int} : decide (V.int i = V.int j) = decide (i = j) := by
  by_cases h : i = j
  · subst h
    simp
  · have h2 : ¬ V.int i = V.int j := fun e => h (V.int.inj e)
    rw [decide_eq_false h, decide_eq_false h2]
theorem ou_eq (hu : X.A.units + 64 < cLine) : OpU X W (compareOp .Eq) eqU := by
  intro pins s σ H x y v u a b G Q E I rx ry ra rb rp hr hx
  unfold eqU at hr
  split at hr
  · exact op_eq pins s σ H x y v u _ I rx ry (by
      rw [show x = .int _ from ra, show y = .int _ from rb]
      exact ⟨rfl, by rw [dec_intU]; exact lv_bl rp hr⟩)
  · exact op_eq pins s σ H x y v u _ I rx ry (by
      rw [show x = .str _ from ra, show y = .str _ from rb]
      exact ⟨rfl, by rw [dec_strU]; exact lv_bl rp hr⟩)
  · exact op_eq pins s σ H x y v u _ I rx ry (by
      rw [show x = .non from ra, show y = .non from rb]
      exact ⟨rfl, lv_bl rp hr⟩)
  · obtain ⟨d, e, h1, h2, h3, h4, q⟩ := hr
    exact op_eqD hu pins s σ H x y v u _ I rx ry ⟨d, e, h1.dp rp _ _ _ ra, h2.dp rp _ _ _ rb, h3, h4, lv_bl rp q⟩
theorem ou_ne (hu : X.A.units + 64 < cLine) : OpU X W (compareOp .NotEq) neU := by
  intro pins s σ H x y v u a b G Q E I rx ry ra rb rp hr hx
  unfold neU at hr
  split at hr
  · exact op_ne pins s σ H x y v u _ I rx ry (by
      rw [show x = .int _ from ra, show y = .int _ from rb]
      exact ⟨rfl, by rw [dec_intU]; exact lv_bl rp hr⟩)
  · exact op_ne pins s σ H x y v u _ I rx ry (by
      rw [show x = .str _ from ra, show y = .str _ from rb]
      exact ⟨rfl, by rw [dec_strU]; exact lv_bl rp hr⟩)
  · exact op_ne pins s σ H x y v u _ I rx ry (by
      rw [show x = .non from ra, show y = .non from rb]
      exact ⟨rfl, lv_bl rp hr⟩)
  · obtain ⟨d, e, h1, h2, h3, h4, q⟩ := hr
    exact op_neD hu pins s σ H x y v u _ I rx ry ⟨d, e, h1.dp rp _ _ _ ra, h2.dp rp _ _ _ rb, h3, h4, lv_bl rp q⟩
theorem ou_lt : OpU X W (compareOp .Lt) ltU := by
  intro pins s σ H x y v u a b G Q E I rx ry ra rb rp hr hx
  cases a <;> cases b <;> try exact hr.elim
  case int.int i j => exact op_lt pins s σ H x y v u _ I rx ry ⟨i, j, ra, rb, lv_bl rp hr⟩
  case str.str i j => exact op_lt_str pins s σ H x y v u _ I rx ry ⟨_, _, ra, rb, lv_bl rp hr⟩
theorem ou_le : OpU X W (compareOp .LtE) leU := by
  intro pins s σ H x y v u a b G Q E I rx ry ra rb rp hr hx
  cases a <;> cases b <;> try exact hr.elim
  case int.int i j => exact op_le pins s σ H x y v u _ I rx ry ⟨i, j, ra, rb, lv_bl rp hr⟩
  case str.str i j => exact op_le_str pins s σ H x y v u _ I rx ry ⟨_, _, ra, rb, lv_bl rp hr⟩
theorem ou_gt : OpU X W (compareOp .Gt) gtU := by
  intro pins s σ H x y v u a b G Q E I rx ry ra rb rp hr hx
  cases a <;> cases b <;> try exact hr.elim
  case int.int i j => exact op_gt pins s σ H x y v u _ I rx ry ⟨i, j, ra, rb, lv_bl rp hr⟩
  case str.str i j => exact op_gt_str pins s σ H x y v u _ I rx ry ⟨_, _, ra, rb, lv_bl rp hr⟩
theorem ou_ge : OpU X W (compareOp .GtE) geU := by
  intro pins s σ H x y v u a b G Q E I rx ry ra rb rp hr hx
  cases a <;> cases b <;> try exact hr.elim
  case int.int i j => exact op_ge pins s σ H x y v u _ I rx ry ⟨i, j, ra, rb, lv_bl rp hr⟩
  case str.str i j => exact op_ge_str pins s σ H x y v u _ I rx ry ⟨_, _, ra, rb, lv_bl rp hr⟩
theorem inU_cases {neg : Bool} {x y : U} {v z : V} {H : Hp} {G : Gp} {Q : VK} (rp : Rep X.K H G) (ra : RelU X.K H x v) (rb : RelU X.K H y z) {us : List U}
    (hy : y = .tup us ∨ ∃ a, y = .ref a ∧ G a = some (.lst us)) (fx : uflat x = true) (fu : us.all uflat = true) (q : Q (.bl (if neg then !us.any fun y => ueq y x else us.any fun y => ueq y x)) H) : rIn X.K neg v z H Q := by
  rcases hy with rfl | ⟨a, rfl, hg⟩
  · obtain ⟨p, vs, rfl, t, r⟩ := rb.tup_of
    exact ⟨p, vs, rfl, .inr t, flat_of ra fx, flatAll_of r fu, by rw [inV_of ra fx r fu]; exact q⟩
  · obtain ⟨vs, e, r⟩ := rp.lst hg
    rw [show z = .ref a from rb]
    exact ⟨a, vs, rfl, .inl (.of e), flat_of ra fx, flatAll_of r fu, by rw [inV_of ra fx r fu]; exact q⟩
theorem ou_in : OpU X W (compareOp .In) inU := by
  intro pins s σ H x y v u a b G Q E I rx ry ra rb rp hr hx
  cases b with
  | str l =>
    cases a with
    | str c =>
      obtain ⟨k, rfl, q⟩ := hr
      exact op_in_sign pins s σ H x y v u _ I rx ry ⟨k, _, ra, rb, lv_bl rp q⟩
    | _ => exact hr.elim
  | tup us =>
    have hr' : uflat a = true ∧ us.all uflat = true ∧ Q (.bl (us.any fun y => ueq y a)) G := by cases a <;> exact hr
    exact op_in_seq pins s σ H x y v u _ I rx ry (inU_cases rp ra rb (.inl rfl) hr'.1 hr'.2.1 (lv_bl rp hr'.2.2))
  | ref p =>
    have hr' : ∃ us, G p = some (.lst us) ∧ uflat a = true ∧ us.all uflat = true ∧ Q (.bl (us.any fun y => ueq y a)) G := by cases a <;> exact hr
    obtain ⟨us, g, h1, h2, q⟩ := hr'
    exact op_in_seq pins s σ H x y v u _ I rx ry (inU_cases rp ra rb (.inr ⟨p, rfl, g⟩) h1 h2 (lv_bl rp q))
  | _ => exact (show False by cases a <;> exact hr).elim
theorem ou_notIn : OpU X W (compareOp .NotIn) notInU := by
  intro pins s σ H x y v u a b G Q E I rx ry ra rb rp hr hx
  cases b with
  | str l =>
    cases a with
    | str c =>
      obtain ⟨k, rfl, q⟩ := hr
      exact op_notIn_sign pins s σ H x y v u _ I rx ry ⟨k, _, ra, rb, lv_bl rp q⟩
    | _ => exact hr.elim
  | tup us =>
    have hr' : uflat a = true ∧ us.all uflat = true ∧ Q (.bl (!us.any fun y => ueq y a)) G := by cases a <;> exact hr
    exact op_notIn_seq pins s σ H x y v u _ I rx ry (inU_cases rp ra rb (.inl rfl) hr'.1 hr'.2.1 (lv_bl rp hr'.2.2))
  | ref p =>
    have hr' : ∃ us, G p = some (.lst us) ∧ uflat a = true ∧ us.all uflat = true ∧ Q (.bl (!us.any fun y => ueq y a)) G := by cases a <;> exact hr
    obtain ⟨us, g, h1, h2, q⟩ := hr'
    exact op_notIn_seq pins s σ H x y v u _ I rx ry (inU_cases rp ra rb (.inr ⟨p, rfl, g⟩) h1 h2 (lv_bl rp q))
  | _ => exact (show False by cases a <;> exact hr).elim
def truU (u : U) (G : Gp) (Q : Bool → Gp → Prop) : Prop := match u with
  | .non => Q false G
  | .bl b => Q b G
  | .int i => Q (i != 0) G
  | .str l => l.length ≤ 1000000 ∧ Q (!l.isEmpty) G
  | .tup us => Q (!us.isEmpty) G
  | .ref a => (∃ us, G a = some (.lst us) ∧ Q (!us.isEmpty) G) ∨ ∃ kvs, G a = some (.dct kvs) ∧ Q (!kvs.isEmpty) G
  | _ => False
theorem isEmptyUs {K : PySem.W.Frag} {H : Hp} {us : List U} {vs : List V} (h : RelUs K H us vs) : vs.isEmpty = us.isEmpty := by
  cases us with
  | nil =>
    have e' : vs = [] := h
    subst e'
    rfl
  | cons u us =>
    obtain ⟨v, ws, rfl, _⟩ := h
    rfl
theorem isEmptyKv {K : PySem.W.Frag} {H : Hp} {us : List (U × U)} {vs : List (Key × V)} (h : RelKV K H us vs) : vs.isEmpty = us.isEmpty := by
  cases us with
  | nil =>
    have e' : vs = [] := h
    subst e'
    rfl
  | cons u us =>
    obtain ⟨k, u⟩ := u
    obtain ⟨kk, v, ws, rfl, _⟩ := h
    rfl
theorem tr_u : TrU X W (fun u G Q _ => truU u G Q) := by
  intro pins s σ H x v a G Q E I rx ra rp hr hx
  have key : ∀ k, TruV X.K x H k → Q k G → wpAny (model X.prog X.w) X.A (truthy v) (TP X pins σ (LB X.K H G Q)) X.xe s := fun k t q => tru_ok pins s σ H x v _ I rx ⟨k, t, G, .refl _ _, rp, q⟩
  cases a with
  | non =>
    rw [show x = .non from ra] at key
    exact key false rfl hr
  | bl b =>
    rw [show x = .bl b from ra] at key
    exact key b rfl hr
  | int i =>
    rw [show x = .int i from ra] at key
    exact key _ rfl hr
  | str l =>
    rw [show x = .str ⟨l.toArray⟩ from ra] at key
    refine key _ ⟨?_, ?_⟩ hr.2
    · show l.toArray.size ≤ sizeLine
      rw [List.size_toArray]
      exact lim_line hr.1
    · show (!l.isEmpty) = (((l.toArray.size : Nat) : Int) != 0)
      rw [List.size_toArray]
      cases l with
      | nil => rfl
      | cons c l =>
        have : (((c :: l).length : Nat) : Int) ≠ 0 := by simp only [List.length_cons]; omega
        rw [bne_iff_ne.mpr this]
        rfl
  | tup us =>
    obtain ⟨p, vs, rfl, t, r⟩ := ra.tup_of
    exact key _ (.inr (.inl ⟨vs, t, by rw [isEmptyUs r]⟩)) hr
  | ref a =>
    rw [show x = .ref a from ra] at key
    rcases hr with ⟨us, g, q⟩ | ⟨kvs, g, q⟩
    · obtain ⟨vs, e, r⟩ := rp.lst g
      exact key _ (.inl ⟨vs, .of e, by rw [isEmptyUs r]⟩) q
    · obtain ⟨vs, e, r⟩ := rp.dct g
      exact key _ (.inr (.inr ⟨vs, e, by rw [isEmptyKv r]⟩)) q
  | _ => exact hr.elim
end
end UL
set_option maxHeartbeats 400000
namespace UL
open PySem PySem.Spec PyProof.Rows L2

section
variable {X : Cx} {W : WX} {e a b c o : Expr} {es : List Expr} {t ta tb : UTE} {tt tt' : UTT} {tr : UTA} {pos : Pos}
def tUAnd (ta tb : UTE) : UTE := fun us G Q E => ta us G (fun u G1 => match u with
  | .bl true => tb us G1 Q E
  | .bl false => Q (.bl false) G1
  | _ => False) E
theorem eu_and {rest : List Expr} (ha : EU X W a ta) (hb : EU X W (.BoolOp .And (b :: rest) pos) tb) : EU X W (.BoolOp .And (a :: b :: rest) pos) (tUAnd ta tb) := by
  refine .of (pe_and ha.pe hb.pe) fun σ H us G Q E rs rp h hx => ⟨us, G, _, E, rs, rp, h, fun v H1 ⟨u, G1, x1, r1, ru, q1⟩ => ?_, hx⟩
  cases u with
  | bl b =>
    refine ⟨b, ru, ?_⟩
    cases b with
    | true =>
      rw [if_pos rfl]
      exact ⟨us, G1, Q, E, rs.ext x1 rp, r1, q1, fun v H' h' => h'.trans x1, fun c d H' h' => hx c d H' (h'.trans x1)⟩
    | false =>
      rw [if_neg Bool.false_ne_true]
      exact (lv_bl r1 q1).trans x1
  | _ => exact False.elim q1
theorem eu_one {op} (h : EU X W a ta) : EU X W (.BoolOp op [a] pos) ta := ⟨fun pins s σ H us G Q E I rs rp ht hx => BoolOp_one (h.run pins s σ H us G Q E I rs rp ht hx)⟩
/-- tests -/
structure WU (X : Cx) (W : WX) (e : Expr) (t : UTT) : Prop where
  run : ∀ (whole : Sem Value) (pins : List (Addr × Obj)) (s : Shared) (σ : L2.St) (H : Hp) (us : USt) (G : Gp) (Q : Bool → Gp → Prop) (E : UX), Inv X pins σ H s → RelS X.K H us σ → Rep X.K H G → t us G Q E →
    (∀ c d H', LX X.K H G E c d H' → W c d σ H') → wpAny (model X.prog X.w) X.A (isTrue e X.env whole) (TP X pins σ (LB X.K H G Q)) X.xe s
theorem WU.tu (h : WU X W e tt) : TU X W e tt := ⟨h.run _⟩
def tBAnd (ta tb : UTT) : UTT := fun us G Q E => ta us G (fun b G1 => bif b then tb us G1 Q E else Q false G1) E
def tBOr (ta tb : UTT) : UTT := fun us G Q E => ta us G (fun b G1 => bif b then Q true G1 else tb us G1 Q E) E
theorem wu_and1 (ha : TU X W a tt) : WU X W (.BoolOp .And [a] pos) tt := by
  refine ⟨fun wh pins s σ H us G Q E I rs rp h hx => ?_⟩
  refine isTrue_and (thn (ha.run pins s σ H us G Q E I rs rp h hx) fun c s1 e => ?_)
  cases c with
  | true => exact isTrue_and_nil e
  | false => exact e
theorem wu_or1 (ha : TU X W a tt) : WU X W (.BoolOp .Or [a] pos) tt := by
  refine ⟨fun wh pins s σ H us G Q E I rs rp h hx => ?_⟩
  refine isTrue_or (thn (ha.run pins s σ H us G Q E I rs rp h hx) fun c s1 e => ?_)
  cases c with
  | false => exact isTrue_or_nil e
  | true => exact e
theorem tp_trans {pins : List (Addr × Obj)} {σ : L2.St} {H H2 : Hp} {G G2 : Gp} {Q : Bool → Gp → Prop} {u : Bool} {s : Shared} (x : Ext H G H2 G2) : TP X pins σ (LB X.K H2 G2 Q) u s → TP X pins σ (LB X.K H G Q) u s := fun ⟨H', I, q⟩ => ⟨H', I, q.trans x⟩
theorem wu_and {rest : List Expr} (ha : TU X W a tt) (hb : WU X W (.BoolOp .And (b :: rest) pos) tt') : WU X W (.BoolOp .And (a :: b :: rest) pos) (tBAnd tt tt') := by
  refine ⟨fun wh pins s σ H us G Q E I rs rp h hx => ?_⟩
  refine isTrue_and (thn (ha.run pins s σ H us G _ E I rs rp h hx) fun c s1 ⟨H1, I1, G1, x1, r1, q1⟩ => ?_)
  cases c with
  | true => exact thn (hb.run wh pins s1 σ H1 us G1 Q E I1 (rs.ext x1 rp) r1 q1 fun c d H' h' => hx c d H' (h'.trans x1)) fun _ _ h => tp_trans x1 h
  | false => exact ⟨H1, I1, G1, x1, r1, q1⟩
theorem wu_or {rest : List Expr} (ha : TU X W a tt) (hb : WU X W (.BoolOp .Or (b :: rest) pos) tt') : WU X W (.BoolOp .Or (a :: b :: rest) pos) (tBOr tt tt') := by
  refine ⟨fun wh pins s σ H us G Q E I rs rp h hx => ?_⟩
  refine isTrue_or (thn (ha.run pins s σ H us G _ E I rs rp h hx) fun c s1 ⟨H1, I1, G1, x1, r1, q1⟩ => ?_)
  cases c with
  | false => exact thn (hb.run wh pins s1 σ H1 us G1 Q E I1 (rs.ext x1 rp) r1 q1 fun c d H' h' => hx c d H' (h'.trans x1)) fun _ _ h => tp_trans x1 h
  | true => exact ⟨H1, I1, G1, x1, r1, q1⟩
def tUNil : UTA := fun _ G Q _ => Q [] G
def tUCons (ta : UTE) (tr : UTA) : UTA := fun us G Q E => ta us G (fun u G1 => tr us G1 (fun ws G2 => Q (u :: ws) G2) E) E
theorem au_nil : AU X W [] tUNil := ⟨fun _ _ s σ H us G Q E I rs rp h _ => Calls.spliced_nil ⟨[], H, I, .nil, [], G, .refl _ _, rp, rfl, h⟩⟩
theorem au_cons (ha : EU X W e t) (hr : AU X W es tr) (hs : starEach (e :: es) X.env = (false, eval e X.env) :: starEach es X.env) : AU X W (e :: es) (tUCons t tr) := by
  refine ⟨fun pos pins s σ H us G Q E I rs rp h hx => ?_⟩
  rw [hs]
  show wpAny _ _ (spliced ((false, eval e X.env) :: backTo pos (starEach es X.env))) _ _ s
  refine Calls.spliced_cons (thn (ha.run pins s σ H us G _ E I rs rp h hx) fun u s1 ⟨x, H1, I1, r1, p, G1, x1, rp1, ru, q1⟩ => ?_)
  exact thn (hr.run pos pins s1 σ H1 us G1 _ E I1 (rs.ext x1 rp) rp1 q1 fun c d H' h' => hx c d H' (h'.trans x1)) fun us' s2 ⟨xs, H2, I2, r2, ps, G2, x2, rp2, rs2, q2⟩ =>
    ⟨x :: xs, H2, I2, .cons r1 r2, p :: ps, G2, x1.trans x2, rp2, ⟨x, xs, rfl, ru.ext x2 rp1, rs2⟩, q2⟩
def tUTup (t : UTA) : UTE := fun us G Q E => t us G (fun ws G1 => ws.length ≤ 1000000 ∧ Q (.tup ws) G1) E
def tULst (t : UTA) : UTE := fun us G Q E => t us G (fun ws G1 => ws.length ≤ 1000000 ∧ ∀ p, G1 p = none → Q (.ref p) (gup G1 p (.lst ws))) E
theorem eu_tup {x1} (h : AU X W es tr) : EU X W (.Tuple es x1 pos) (tUTup tr) :=
  .of (pe_tup h.pa) fun σ H us G Q E rs rp ht hx => ⟨us, G, _, E, rs, rp, ht, fun vs H1 ⟨ws, G1, x1, r1, rw', q1⟩ => ⟨by rw [rw'.length]; exact lim_line q1.1, fun p hp => (lv_tup r1 rw' hp q1.2).trans x1⟩, hx⟩
theorem eu_lst (h : AU X W es tr) : EU X W (.List es pos) (tULst tr) :=
  .of (pe_lst h.pa) fun σ H us G Q E rs rp ht hx => ⟨us, G, _, E, rs, rp, ht, fun vs H1 ⟨ws, G1, x1, r1, rw', q1⟩ => ⟨by rw [rw'.length]; exact lim_line q1.1, fun p hp => (lv_lst r1 rw' hp (q1.2 p (r1.fresh hp))).trans x1⟩, hx⟩

def IxU (X : Cx) (W : WX) (r : UR2) : Prop :=
  ∀ (value slice : Expr) (pins : List (Addr × Obj)) (s : Shared) (σ : L2.St) (H : Hp) (x y : V) (v u : Value) (a b : U) (G : Gp) (Q : UK) (E : UX), Inv X pins σ H s → RelV x v → RelV y u → RelU X.K H a x → RelU X.K H b y → Rep X.K H G → r a b G Q E →
    (∀ c d H', LX X.K H G E c d H' → W c d σ H') → subscripted slice false v u = operate [v, u] (getItem v u) → wpAny (model X.prog X.w) X.A (subscriptTail value slice v u) (EP X pins σ (LV X.K H G Q)) X.xe s
theorem eu_ix {r : UR2} (hr : IxU X W r) (ha : EU X W a ta) (hb : EU X W b tb) (hs : PlainIx b) : EU X W (.Subscript a b pos) (tUOp r ta tb) := by
  refine ⟨fun pins s σ H us G Q E I rs rp h hx => ?_⟩
  exact Subscript_ (bin2 ha hb I rs rp h hx fun v u s2 x y H2 p q G2 I2 r1 r2 ex rp2 rs2 rp' rq hq hx2 => thn (hr a b pins s2 σ H2 x y v u p q G2 Q E I2 r1 r2 rp' rq rp2 hq hx2 (hs _ _)) fun _ _ h => lv_pins ex h)
theorem atI_rel {K : PySem.W.Frag} {H : Hp} {us : List U} {vs : List V} {i : Int} {u : U} (r : RelUs K H us vs) (h : atI us i = some u) : ∃ v, atI vs i = some v ∧ RelU K H u v := by
  unfold atI at h ⊢
  rw [r.length]
  cases hi : ixN us.length i with
  | none =>
    rw [hi] at h
    cases h
  | some j =>
    rw [hi] at h
    exact r.get h
def ixU0 : UR2 := fun x y G Q _ => match x, y with
  | .ref a, .int i => ∃ us u, G a = some (.lst us) ∧ atI us i = some u ∧ Q u G
  | .tup us, .int i => ∃ u, atI us i = some u ∧ Q u G
  | .rol us, .int i => ∃ u, atI us i = some u ∧ Q u G
  | .str l, .int i => l.length ≤ 1000000 ∧ ∃ c, atI l i = some c ∧ Q (.str [c]) G
  | _, _ => False
theorem iu0 : IxU X W ixU0 := by
  intro value slice pins s σ H x y v u a b G Q E I rx ry ra rb rp hr hx hs
  cases b with
  | int i =>
    cases a with
    | ref p =>
      obtain ⟨us, w, g, hi, q⟩ := hr
      obtain ⟨vs, e, r⟩ := rp.lst g
      obtain ⟨z, hz, rz⟩ := atI_rel r hi
      exact ix_list value slice pins s σ H x y v u _ I rx ry ⟨p, vs, i, z, ra, rb, .of e, hz, .here rp rz q⟩ hs
    | tup us =>
      obtain ⟨w, hi, q⟩ := hr
      obtain ⟨p, vs, e, t, r⟩ := ra.tup_of
      obtain ⟨z, hz, rz⟩ := atI_rel r hi
      exact ix_tup value slice pins s σ H x y v u _ I rx ry ⟨p, vs, i, z, e, rb, t, hz, .here rp rz q⟩ hs
    | rol us =>
      obtain ⟨w, hi, q⟩ := hr
      obtain ⟨p, vs, e, t, r⟩ := (show ∃ a vs, x = .ref a ∧ RoL X.K H a vs ∧ RelUs X.K H us vs from ra)
      obtain ⟨z, hz, rz⟩ := atI_rel r hi
      exact ix_list value slice pins s σ H x y v u _ I rx ry ⟨p, vs, i, z, e, rb, t.sq, hz, .here rp rz q⟩ hs
    | str l =>
      obtain ⟨hl, c, hi, q⟩ := hr
      exact ix_str value slice pins s σ H x y v u _ I rx ry ⟨_, i, c, ra, rb, by show l.toArray.size ≤ sizeLine; rw [List.size_toArray]; exact lim_line hl, hi, lv_str (l := [c]) rp q⟩ hs
    | _ => exact hr.elim
  | _ => exact (show False by cases a <;> exact hr).elim

abbrev UTO := USt → Gp → (Option Int → Gp → Prop) → UX → Prop
def LO (K : PySem.W.Frag) (H : Hp) (G : Gp) (Q : Option Int → Gp → Prop) : Option Int → Hp → Prop := fun o H' => ∃ G', Ext H G H' G' ∧ Rep K H' G' ∧ Q o G'
def lO (K : PySem.W.Frag) (W : WX) (t : UTO) : TO := fun σ H Q => ∃ us G Qu Eu, RelS K H us σ ∧ Rep K H G ∧ t us G Qu Eu ∧ (∀ v H', LO K H G Qu v H' → Q v H') ∧ ∀ c d H', LX K H G Eu c d H' → W c d σ H'
def tUNoPart : UTO := fun _ G Q _ => Q none G
def tUPart (t : UTE) : UTO := fun us G Q E => t us G (fun u G1 => match u with
  | .int i => Q (some i) G1
  | _ => False) E
theorem pou_none : PO X none (lO X.K W tUNoPart) := ⟨fun pins s σ H Q I ⟨us, G, Qu, Eu, rs, rp, h, hq, _⟩ => po_none.run pins s σ H Q I (hq none H ⟨G, .refl _ _, rp, h⟩)⟩
theorem pou_some (h : EU X W e t) : PO X (some e) (lO X.K W (tUPart t)) := by
  refine ⟨fun pins s σ H Q I ⟨us, G, Qu, Eu, rs, rp, ht, hq, hx⟩ => (po_some h.pe).run pins s σ H Q I ⟨us, G, _, Eu, rs, rp, ht, fun v H' ⟨u, G', x1, r1, ru, q1⟩ => ?_, hx⟩⟩
  cases u with
  | int i => exact ⟨i, ru, hq _ _ ⟨G', x1, r1, q1⟩⟩
  | _ => exact False.elim q1
def cutU (xs : List U) (lo hi : Option Int) : List U := (xs.drop (HT.sIx xs.length 0 lo)).take (HT.sIx xs.length xs.length hi - HT.sIx xs.length 0 lo)
def cutN (xs : List Nat) (lo hi : Option Int) : List Nat := (xs.drop (HT.sIx xs.length 0 lo)).take (HT.sIx xs.length xs.length hi - HT.sIx xs.length 0 lo)
theorem RelUs.cut {K : PySem.W.Frag} {H : Hp} {us : List U} {vs : List V} (r : RelUs K H us vs) (lo hi : Option Int) : RelUs K H (cutU us lo hi) (cutV vs lo hi) := by
  unfold cutU cutV
  rw [r.length]
  exact (r.drop _).take _
def slU (x : U) (lo hi : Option Int) (G : Gp) (Q : UK) : Prop := match x with
  | .ref a => ∃ us, G a = some (.lst us) ∧ ∀ p, G p = none → Q (.ref p) (gup G p (.lst (cutU us lo hi)))
  | .rol us => ∀ p, G p = none → Q (.ref p) (gup G p (.lst (cutU us lo hi)))
  | .tup us => Q (.tup (cutU us lo hi)) G
  | .str l => l.length ≤ 1000000 ∧ Q (.str (cutN l lo hi)) G
  | _ => False
def tUSl (te : UTE) (tl th : UTO) : UTE := fun us G Q E => te us G (fun x G1 => tl us G1 (fun l G2 => th us G2 (fun h G3 => slU x l h G3 Q) E) E) E
theorem eu_slice {p2 : Pos} {lo hi : Option Expr} {tl th : UTO} (he : EU X W e t) (hl : PO X lo (lO X.K W tl)) (hh : PO X hi (lO X.K W th)) : EU X W (.Subscript e (.Slice lo hi none p2) pos) (tUSl t tl th) := by
  refine .of (pe_slice (sl_list.or (sl_tupA.or sl_str)) he.pe hl hh) fun σ H us G Q E rs rp h hx => ?_
  refine ⟨us, G, _, E, rs, rp, h, fun v H1 ⟨u, G1, x1, r1, ru, q1⟩ => ?_, hx⟩
  have hx1 : ∀ c d H', LX X.K H1 G1 E c d H' → W c d σ H' := fun c d H' h' => hx c d H' (h'.trans x1)
  refine ⟨us, G1, _, E, rs.ext x1 rp, r1, q1, fun l H2 ⟨G2, x2, r2, q2⟩ => ?_, hx1⟩
  refine ⟨us, G2, _, E, (rs.ext x1 rp).ext x2 r1, r2, q2, fun h' H3 ⟨G3, x3, r3, q3⟩ => ?_, fun c d H' h' => hx1 c d H' (h'.trans x2)⟩
  have ru3 := (ru.ext x2 r1).ext x3 r2
  have ex := (x1.trans x2).trans x3
  cases u with
  | ref a =>
    obtain ⟨us', g, q⟩ := q3
    obtain ⟨vs, e1, r⟩ := r3.lst g
    exact .inl ⟨a, vs, ru3, .of e1, fun p hp => (lv_lst r3 (r.cut l h') hp (q p (r3.fresh hp))).trans ex⟩
  | rol us' =>
    obtain ⟨p, vs, e1, t1, r⟩ := (show ∃ a vs, v = .ref a ∧ RoL X.K H3 a vs ∧ RelUs X.K H3 us' vs from ru3)
    exact .inl ⟨p, vs, e1, t1.sq, fun p hp => (lv_lst r3 (r.cut l h') hp (q3 p (r3.fresh hp))).trans ex⟩
  | tup us' =>
    obtain ⟨p, vs, e1, t1, r⟩ := ru3.tup_of
    have hl := r.length
    refine .inr (.inl ⟨p, vs, e1, t1, fun hw => ?_, fun _ p hp => (lv_tup r3 (r.cut l h') hp q3).trans ex⟩)
    refine (lv_old r3 t1 r ?_).trans ex
    have hc : cutU us' l h' = us' := by
      unfold cutU
      rw [hl] at hw
      rw [hw.1, hw.2]
      simp
    have q4 : Q (.tup (cutU us' l h')) G3 := q3
    rw [hc] at q4
    exact q4
  | str x =>
    refine .inr (.inr ⟨_, ru3, ?_, ?_⟩)
    · show x.toArray.size ≤ sizeLine
      rw [List.size_toArray]
      exact lim_line q3.1
    · have q4 := (lv_str (l := cutN x l h') r3 q3.2).trans ex
      have hz : L2.cutS ⟨x.toArray⟩ l h' = ⟨(cutN x l h').toArray⟩ := by
        unfold L2.cutS cutN
        show (⟨((x.toArray.toList.drop (HT.sIx x.toArray.size 0 l)).take (HT.sIx x.toArray.size x.toArray.size h' - HT.sIx x.toArray.size 0 l)).toArray⟩ : Str) = _
        rw [List.size_toArray]
      rw [hz]
      exact q4
  | _ => exact False.elim q3
end

abbrev URC := List U → Gp → UK → UX → Prop
def CallU (X : Cx) (W : WX) (f : Value) (r : URC) : Prop :=
  ∀ (pins : List (Addr × Obj)) (s : Shared) (σ : L2.St) (H : Hp) (xs : List V) (us : List Value) (as : List U) (G : Gp) (Q : UK) (E : UX), Inv X pins σ H s → Vals xs us → RelUs X.K H as xs → Rep X.K H G → r as G Q E →
    (∀ c d H', LX X.K H G E c d H' → W c d σ H') → wpAny (model X.prog X.w) X.A (call f us) (EP X pins σ (LV X.K H G Q)) X.xe s
theorem CallU.of {X : Cx} {W : WX} {f : Value} {r : URC} {rv : List V → Hp → VK → Prop} (h : CallR X f rv) (k : ∀ xs H as G Q E, RelUs X.K H as xs → Rep X.K H G → r as G Q E → rv xs H (LV X.K H G Q)) : CallU X W f r :=
  fun pins s σ H xs us as G Q E I rx ra rp hr _ => h pins s σ H xs us _ I rx (k xs H as G Q E ra rp hr)
def tUCall (r : URC) (t : UTA) : UTE := fun us G Q E => t us G (fun as G1 => r as G1 Q E) E
section
variable {X : Cx} {W : WX} {x : Str} {p pos : Pos} {e : Expr} {es : List Expr} {tr : UTA} {id T : String} {r : URC}
theorem eu_callB (hc : CallU X W (.builtin id) r) (hg : Gl X x) (hm : X.mg x = none) (hv : bootBuiltins x = some (.builtin id)) (ha : AU X W (e :: es) tr) (hn : x ≠ "__name__") (hdb : (x == ("__debug__" : Str)) = false)
    (he : starEach (e :: es) X.env = (false, eval e X.env) :: starEach es X.env) (hpl : (backTo pos (starEach es X.env)).any (·.1) = false) : EU X W (.Call (.Name x p) (e :: es) [] pos) (tUCall r tr) := by
  refine ⟨fun pins s σ H us G Q E I rs rp h hx => ?_⟩
  refine wpAny_Call_Name_kw (ld_blt I hg hm hv ?_ hn hdb)
  refine PyProof.Rows.callWith_builtin1 (thn (ha.run pos pins s σ H us G _ E I rs rp h hx) fun us' s1 ⟨vs, H1, I1, r1, as, G1, x1, rp1, ra, q1⟩ => ?_) he hpl
  exact thn (hc pins s1 σ H1 vs us' as G1 Q E I1 r1 ra rp1 q1 fun c d H' h' => hx c d H' (h'.trans x1)) fun _ _ h => lv_pins x1 h
theorem eu_callTy (hc : CallU X W (.type T) r) (hg : Gl X x) (hm : X.mg x = none) (hv : bootBuiltins x = some (.type T)) (ha : AU X W (e :: es) tr) (hn : x ≠ "__name__") (hdb : (x == ("__debug__" : Str)) = false)
    (he : starEach (e :: es) X.env = (false, eval e X.env) :: starEach es X.env) (hpl : (backTo pos (starEach es X.env)).any (·.1) = false) : EU X W (.Call (.Name x p) (e :: es) [] pos) (tUCall r tr) := by
  refine ⟨fun pins s σ H us G Q E I rs rp h hx => ?_⟩
  refine wpAny_Call_Name_kw (ld_blt I hg hm hv ?_ hn hdb)
  refine PyProof.Rows.callWith_type1 (thn (ha.run pos pins s σ H us G _ E I rs rp h hx) fun us' s1 ⟨vs, H1, I1, r1, as, G1, x1, rp1, ra, q1⟩ => ?_) he hpl
  exact thn (hc pins s1 σ H1 vs us' as G1 Q E I1 r1 ra rp1 q1 fun c d H' h' => hx c d H' (h'.trans x1)) fun _ _ h => lv_pins x1 h
def MtU (X : Cx) (W : WX) (id : String) (r : U → List U → Gp → UK → UX → Prop) : Prop :=
  ∀ (pins : List (Addr × Obj)) (s : Shared) (σ : L2.St) (H : Hp) (x : V) (xs : List V) (v : Value) (us : List Value) (a : U) (as : List U) (G : Gp) (Q : UK) (E : UX), Inv X pins σ H s → RelV x v → Vals xs us → RelU X.K H a x → RelUs X.K H as xs → Rep X.K H G → r a as G Q E →
    (∀ c d H', LX X.K H G E c d H' → W c d σ H') → wpAny (model X.prog X.w) X.A (call (.builtin id) (v :: us)) (EP X pins σ (LV X.K H G Q)) X.xe s
/-- of which builtin type a value is -/
def tyU (T : String) (x : U) (G : Gp) : Prop := match x with
  | .str _ => T = "str"
  | .int _ => T = "int"
  | .ref p => (T = "list" ∧ ∃ us, G p = some (.lst us)) ∨ (T = "dict" ∧ ∃ us, G p = some (.dct us))
  | _ => False
theorem tyU_v {K : PySem.W.Frag} {H : Hp} {G : Gp} {T : String} {a : U} {x : V} (rp : Rep K H G) (r : RelU K H a x) (h : tyU T a G) : tyV K T x H := by
  cases a with
  | str l => rw [show x = .str ⟨l.toArray⟩ from r]; exact h
  | int l => rw [show x = .int l from r]; exact h
  | ref p =>
    rw [show x = .ref p from r]
    rcases h with ⟨rfl, us, g⟩ | ⟨rfl, us, g⟩
    · obtain ⟨vs, e, _⟩ := rp.lst g
      exact .inl ⟨rfl, vs, .of e⟩
    · obtain ⟨vs, e, _⟩ := rp.dct g
      exact .inr (.inr (.inl ⟨rfl, .inl ⟨vs, e⟩⟩))
  | _ => exact h.elim
variable {o : Expr} {to : UTE} {name : Str} {apos cpos : Pos} {rm : U → List U → Gp → UK → UX → Prop}
def tUBM (T : String) (rm : U → List U → Gp → UK → UX → Prop) (to : UTE) (t : UTA) : UTE := fun us G Q E => to us G (fun u G1 => tyU T u G1 ∧ t us G1 (fun as G2 => rm u as G2 Q E) E) E
theorem eu_bm (pa : PlainAttrs T) (slot : Slot T name id) (hty : typeOf (.builtin id) = pure (.type "method_descriptor")) (hm : MtU X W id rm) (ho : EU X W o to) (ha : AU X W (e :: es) tr)
    (hbase : attributeBase o name X.env (eval o X.env) = eval o X.env)
    (hfew : ((backTo cpos (starEach (e :: es) X.env)).all (fun x => !x.1) && (backToKw cpos (keywordEach [] X.env)).all (fun x => x.1.isSome)
      && decide ((e :: es).length + ([] : List Keyword).length + (if ([] : List Keyword).isEmpty then 0 else 1) < 30)) = true)
    (hline : (apos.endLine == cpos.line) = true) (hs : starEach (e :: es) X.env = (false, eval e X.env) :: starEach es X.env) (hplain : (backTo cpos (starEach es X.env)).any (·.1) = false) :
    EU X W (.Call (.Attribute o name apos) (e :: es) [] cpos) (tUBM T rm to tr) := by
  refine ⟨fun pins s σ H us G Q E I rs rp h hx => ?_⟩
  refine wpAny_Call_method_late hbase hfew hline rfl (thn (ho.run pins s σ H us G _ E I rs rp h hx) fun v s1 ⟨x, H1, I1, r1, u, G1, x1, rp1, ru, ty, q1⟩ => ?_)
  obtain ⟨h1, h2⟩ := tyV_is I1 r1 (tyU_v rp1 ru ty)
  refine ⟨T, id, pa, slot, hty, h1, h2, ?_⟩
  have hx1 : ∀ c d H', LX X.K H1 G1 E c d H' → W c d σ H' := fun c d H' h' => hx c d H' (h'.trans x1)
  have hA := ha.run cpos pins s1 σ H1 us G1 _ E I1 (rs.ext x1 rp) rp1 q1 hx1
  rw [hs] at hA ⊢
  refine Calls.callWith_builtin (by show (false || (backTo cpos (starEach es X.env)).any (·.1)) = false; rw [hplain] <;> rfl) (Calls.evalArgs_plain ?_)
  exact thn hA fun us' s2 ⟨vs, H2, I2, r2, as, G2, x2, rp2, ra, q2⟩ => thn (hm pins s2 σ H2 x vs v us' u as G2 Q E I2 r1 r2 (ru.ext x2 rp1) ra rp2 q2 fun c d H' h' => hx1 c d H' (h'.trans x2)) fun _ _ h => lv_pins (x1.trans x2) h
end
end UL
set_option maxHeartbeats 400000
namespace UL
open PySem PySem.Spec PyProof.Rows L2

structure UEnds where
  nx : USt → Gp → Prop
  rt : UK
  bk : USt → Gp → Prop
  ct : USt → Gp → Prop
  ex : UExc → USt → Gp → Prop
abbrev UTS := UEnds → USt → Gp → Prop
def LS (K : PySem.W.Frag) (H : Hp) (G : Gp) (P : USt → Gp → Prop) : L2.St → Hp → Prop := fun σ' H' => ∃ us' G', Ext H G H' G' ∧ Rep K H' G' ∧ RelS K H' us' σ' ∧ P us' G'
def LXS (K : PySem.W.Frag) (H : Hp) (G : Gp) (E : UExc → USt → Gp → Prop) : WX := fun c d σ' H' => ∃ x us' G', Ext H G H' G' ∧ Rep K H' G' ∧ RelS K H' us' σ' ∧ ExcR K H' x c d ∧ E x us' G'
def lD (K : PySem.W.Frag) (H : Hp) (G : Gp) (D : UEnds) : Ends := { nx := LS K H G D.nx, rt := LV K H G D.rt, bk := LS K H G D.bk, ct := LS K H G D.ct }
theorem LS.trans {K : PySem.W.Frag} {H H1 : Hp} {G G1 : Gp} (x : Ext H G H1 G1) {P : USt → Gp → Prop} {σ' : L2.St} {H' : Hp} : LS K H1 G1 P σ' H' → LS K H G P σ' H' := fun ⟨us, G', e, r⟩ => ⟨us, G', x.trans e, r⟩
theorem LXS.trans {K : PySem.W.Frag} {H H1 : Hp} {G G1 : Gp} (x : Ext H G H1 G1) {E : UExc → USt → Gp → Prop} {c : Value} {d : Option Addr} {σ' : L2.St} {H' : Hp} : LXS K H1 G1 E c d σ' H' → LXS K H G E c d σ' H' := fun ⟨y, us, G', e, r⟩ => ⟨y, us, G', x.trans e, r⟩
theorem LXS.of {K : PySem.W.Frag} {H : Hp} {G : Gp} {E : UExc → USt → Gp → Prop} {c : Value} {d : Option Addr} {us : USt} {σ : L2.St} {H' : Hp} (rs : RelS K H us σ) (rp : Rep K H G) : LX K H G (fun x G' => E x us G') c d H' → LXS K H G E c d σ H' :=
  fun ⟨x, G', e, r, q, h⟩ => ⟨x, us, G', e, r, rs.ext e rp, q, h⟩
structure SU (X : Cx) (W : WX) (st : Stmt) (t : UTS) : Prop where
  run : ∀ (pins : List (Addr × Obj)) (s : Shared) (σ : L2.St) (H : Hp) (us : USt) (G : Gp) (D : UEnds), Inv X pins σ H s → RelS X.K H us σ → Rep X.K H G → t D us G → (∀ c d σ' H', LXS X.K H G D.ex c d σ' H' → W c d σ' H') →
    wpAny (model X.prog X.w) X.A (exec st X.env) (SP X pins (lD X.K H G D)) X.xe s
structure SsU (X : Cx) (W : WX) (st : List Stmt) (t : UTS) : Prop where
  run : ∀ (pins : List (Addr × Obj)) (s : Shared) (σ : L2.St) (H : Hp) (us : USt) (G : Gp) (D : UEnds), Inv X pins σ H s → RelS X.K H us σ → Rep X.K H G → t D us G → (∀ c d σ' H', LXS X.K H G D.ex c d σ' H' → W c d σ' H') →
    wpAny (model X.prog X.w) X.A (execs st X.env) (SP X pins (lD X.K H G D)) X.xe s
def lS (K : PySem.W.Frag) (W : WX) (t : UTS) : TS := fun D σ H => ∃ us G Du, RelS K H us σ ∧ Rep K H G ∧ t Du us G ∧ (∀ σ' H', LS K H G Du.nx σ' H' → D.nx σ' H') ∧ (∀ v H', LV K H G Du.rt v H' → D.rt v H') ∧ (∀ σ' H', LS K H G Du.bk σ' H' → D.bk σ' H') ∧ (∀ σ' H', LS K H G Du.ct σ' H' → D.ct σ' H') ∧
  ∀ c d σ' H', LXS K H G Du.ex c d σ' H' → W c d σ' H'
theorem sp_imp {X : Cx} {pins : List (Addr × Obj)} {D D' : Ends} {f : Flow} {s : Shared} (h1 : ∀ σ H, D.nx σ H → D'.nx σ H) (h2 : ∀ v H, D.rt v H → D'.rt v H) (h3 : ∀ σ H, D.bk σ H → D'.bk σ H) (h4 : ∀ σ H, D.ct σ H → D'.ct σ H) : SP X pins D f s → SP X pins D' f s := by
  intro h
  cases f with
  | next => obtain ⟨σ', H', I, q⟩ := h; exact ⟨σ', H', I, h1 _ _ q⟩
  | ret v => obtain ⟨x, σ', H', I, r, q⟩ := h; exact ⟨x, σ', H', I, r, h2 _ _ q⟩
  | brk => obtain ⟨σ', H', I, q⟩ := h; exact ⟨σ', H', I, h3 _ _ q⟩
  | cont => obtain ⟨σ', H', I, q⟩ := h; exact ⟨σ', H', I, h4 _ _ q⟩
theorem sp_trans {X : Cx} {pins : List (Addr × Obj)} {H H1 : Hp} {G G1 : Gp} {D : UEnds} {f : Flow} {s : Shared} (x : Ext H G H1 G1) : SP X pins (lD X.K H1 G1 D) f s → SP X pins (lD X.K H G D) f s :=
  sp_imp (fun _ _ h => h.trans x) (fun _ _ h => h.trans x) (fun _ _ h => h.trans x) (fun _ _ h => h.trans x)
section
variable {X : Cx} {W : WX} {st : Stmt} {rest : List Stmt} {t u : UTS} {e : Expr} {te : UTE} {pos : Pos}
theorem SU.ps (h : SU X W st t) : PS X st (lS X.K W t) := ⟨fun pins s σ H D I ⟨us, G, Du, rs, rp, ht, h1, h2, h3, h4, hx⟩ => thn (h.run pins s σ H us G Du I rs rp ht hx) fun f s' q => sp_imp h1 h2 h3 h4 q⟩
theorem SsU.pss (h : SsU X W rest t) : PSs X rest (lS X.K W t) := ⟨fun pins s σ H D I ⟨us, G, Du, rs, rp, ht, h1, h2, h3, h4, hx⟩ => thn (h.run pins s σ H us G Du I rs rp ht hx) fun f s' q => sp_imp h1 h2 h3 h4 q⟩
theorem SU.of {tv : TS} (h : PS X st tv) (k : ∀ σ H us G D, RelS X.K H us σ → Rep X.K H G → t D us G → (∀ c d σ' H', LXS X.K H G D.ex c d σ' H' → W c d σ' H') → tv (lD X.K H G D) σ H) : SU X W st t :=
  ⟨fun pins s σ H us G D I rs rp ht hx => h.run pins s σ H _ I (k σ H us G D rs rp ht hx)⟩
theorem SU.imp {t' : UTS} (h : SU X W st t) (k : ∀ D us G, t' D us G → t D us G) : SU X W st t' := ⟨fun pins s σ H us G D I rs rp ht hx => h.run pins s σ H us G D I rs rp (k _ _ _ ht) hx⟩
def tUNext : UTS := fun D us G => D.nx us G
def tUSeq (t u : UTS) : UTS := fun D us G => t { D with nx := u D } us G
theorem ssu_nil : SsU X W [] tUNext := ⟨fun pins s σ H us G D I rs rp h _ => wpAny_execs_nil ⟨σ, H, I, us, G, .refl _ _, rp, rs, h⟩⟩
theorem ssu_cons (h1 : SU X W st t) (h2 : SsU X W rest u) : SsU X W (st :: rest) (tUSeq t u) := by
  refine ⟨fun pins s σ H us G D I rs rp h hx => ?_⟩
  refine wpAny_execs_cons (thn (h1.run pins s σ H us G { D with nx := u D } I rs rp h hx) fun f s1 q => ?_)
  cases f with
  | next =>
    obtain ⟨σ', H', I', us', G', x1, rp', rs', q⟩ := q
    exact thn (h2.run pins s1 σ' H' us' G' D I' rs' rp' q fun c d σ2 H2 h' => hx c d σ2 H2 (h'.trans x1)) fun _ _ q => sp_trans x1 q
  | ret v => exact q
  | brk => exact q
  | cont => exact q
def tUDrop (te : UTE) : UTS := fun D us G => te us G (fun _ G1 => D.nx us G1) (fun x G1 => D.ex x us G1)
theorem su_expr (he : EU X W e te) (hs : swapsWith e none pos.line X.env = pure false) : SU X W (.Expr e pos) (tUDrop te) :=
  .of (ps_expr he.pe hs) fun σ H us G D rs rp h hx => ⟨us, G, _, _, rs, rp, h, fun v H' ⟨u, G1, x1, r1, _, q⟩ => ⟨us, G1, x1, r1, rs.ext x1 rp, q⟩, fun c d H' h' => hx c d σ H' (LXS.of rs rp h')⟩
def tURet (te : UTE) : UTS := fun D us G => te us G D.rt (fun x G1 => D.ex x us G1)
theorem su_ret (he : EU X W e te) : SU X W (.Return (some e) pos) (tURet te) :=
  .of (ps_ret he.pe) fun σ H us G D rs rp h hx => ⟨us, G, _, _, rs, rp, h, fun v H' h => h, fun c d H' h' => hx c d σ H' (LXS.of rs rp h')⟩
abbrev UTG := U → USt → Gp → (USt → Gp → Prop) → UX → Prop
abbrev UTGs := List U → USt → Gp → (USt → Gp → Prop) → UX → Prop
/-- the slots outside sl are as they were -/
def Out (sl : List Nat) (σ σ' : L2.St) : Prop := σ'.length = σ.length ∧ ∀ i, i ∉ sl → σ'[i]? = σ[i]?
theorem Out.refl (sl : List Nat) (σ : L2.St) : Out sl σ σ := ⟨rfl, fun _ _ => rfl⟩
theorem Out.trans {sl sl' : List Nat} {σ σ1 σ2 : L2.St} (a : Out sl σ σ1) (b : Out sl' σ1 σ2) : Out (sl ++ sl') σ σ2 :=
  ⟨b.1.trans a.1, fun i hi => (b.2 i fun z => hi (List.mem_append_right _ z)).trans (a.2 i fun z => hi (List.mem_append_left _ z))⟩
theorem Out.set (i : Nat) (σ : L2.St) (v : Option V) : Out [i] σ (σ.set i v) := ⟨List.length_set, fun j hj => List.getElem?_set_ne fun z => hj (by simp [z])⟩
theorem wipe_get (σ : L2.St) : ∀ (vs : List Nat) (i : Nat), (wipe σ vs)[i]? = if i ∈ vs then (if i < σ.length then some none else none) else σ[i]?
  | [], i => by simp [wipe]
  | v :: vs, i => by
    unfold wipe
    have hl : (wipe σ vs).length = σ.length := wipe_length σ vs
    by_cases h : v = i
    · subst h
      by_cases hv : v < σ.length
      · rw [List.getElem?_set_self (by omega)]
        simp [hv]
      · rw [List.getElem?_eq_none (by simp [hl]; omega)]
        simp [hv]
    · rw [List.getElem?_set_ne h, wipe_get σ vs i]
      have : (i ∈ v :: vs) = (i ∈ vs) := by
        simp only [List.mem_cons, eq_iff_iff]
        constructor
        · rintro (z | z)
          · exact absurd z.symm h
          · exact z
        · exact Or.inr
      simp only [this]
theorem Out.wipe {sl vs : List Nat} {σ σ' : L2.St} (a : Out sl σ σ') (h : ∀ i ∈ sl, i ∈ vs) : wipe σ' vs = wipe σ vs := by
  apply List.ext_getElem?
  intro i
  rw [wipe_get, wipe_get, a.1]
  by_cases hi : i ∈ vs
  · rw [if_pos hi, if_pos hi]
  · rw [if_neg hi, if_neg hi]
    exact a.2 i fun z => hi (h i z)
theorem wipe_wipe (σ : L2.St) (vs : List Nat) : L2.wipe (L2.wipe σ vs) vs = L2.wipe σ vs := by
  apply List.ext_getElem?
  intro i
  rw [wipe_get, wipe_get, wipe_length]
  by_cases hi : i ∈ vs
  · rw [if_pos hi, if_pos hi]
  · rw [if_neg hi, if_neg hi]
structure GU (X : Cx) (W : WX) (tg : Expr) (t : UTG) (sl : List Nat) : Prop where
  run : ∀ (pins : List (Addr × Obj)) (s : Shared) (σ : L2.St) (H : Hp) (v : V) (u : Value) (w : U) (us : USt) (G : Gp) (Q : USt → Gp → Prop) (E : UX), Inv X pins σ H s → RelV v u → RelU X.K H w v → RelS X.K H us σ → Rep X.K H G → t w us G Q E →
    (∀ c d H', LX X.K H G E c d H' → W c d σ H') → wpAny (model X.prog X.w) X.A (assign tg X.env u) (fun _ s' => ∃ σ' H', Inv X pins σ' H' s' ∧ LS X.K H G Q σ' H' ∧ Out sl σ σ') X.xe s
structure GsU (X : Cx) (W : WX) (ts : List Expr) (t : UTGs) (sl : List Nat) : Prop where
  run : ∀ (pins : List (Addr × Obj)) (s : Shared) (σ : L2.St) (H : Hp) (vs : List V) (us : List Value) (ws : List U) (ss : USt) (G : Gp) (Q : USt → Gp → Prop), Inv X pins σ H s → Vals vs us → RelUs X.K H ws vs → RelS X.K H ss σ → Rep X.K H G → t ws ss G Q (fun _ _ => False) →
    wpAny (model X.prog X.w) X.A (assignInOrder ((assignEach ts X.env).map (·.2)) us) (fun _ s' => ∃ σ' H', Inv X pins σ' H' s' ∧ LS X.K H G Q σ' H' ∧ Out sl σ σ') X.xe s
def gUName (i : Nat) : UTG := fun w us G Q _ => Q (us.set i (some w)) G
theorem gu_name {i : Nat} {x : Str} (hN : X.N.Nodup) (hi : X.N[i]? = some x) (hx : Loc X.env.scope x) (hf : X.fn x = true ∨ X.env.scope.names.lookup x = some .local) : GU X W (.Name x pos) (gUName i) [i] :=
  ⟨fun pins s σ H v u w us G Q E I r ru rs rp h _ => wpAny_assign_Name (store_ok I hN hi hx r (fun s' I' => ⟨_, H, I', ⟨us.set i (some w), G, .refl _ _, rp, RelS.set ru i rs, h⟩, Out.set i σ _⟩) hf)⟩
def gUNil : UTGs := fun ws us G Q _ => ws = [] ∧ Q us G
def gUCons (t : UTG) (tr : UTGs) : UTGs := fun ws us G Q E => match ws with
  | w :: r => t w us G (fun us1 G1 => tr r us1 G1 Q E) E
  | [] => False
theorem gsu_nil : GsU X W [] gUNil [] := ⟨fun pins s σ H vs us ws ss G Q I r ru rs rp ⟨e, q⟩ => by
  subst e
  have e' : vs = [] := ru
  subst e'
  cases r
  exact assignInOrder_nil ⟨σ, H, I, ⟨ss, G, .refl _ _, rp, rs, q⟩, Out.refl _ _⟩⟩
theorem gsu_cons {e : Expr} {es : List Expr} {t : UTG} {tr : UTGs} {sl sl' : List Nat} (h1 : GU X W e t sl) (h2 : GsU X W es tr sl') (hs : (assignEach (e :: es) X.env).map (·.2) = assign e X.env :: (assignEach es X.env).map (·.2)) : GsU X W (e :: es) (gUCons t tr) (sl ++ sl') := by
  refine ⟨fun pins s σ H vs us ws ss G Q I r ru rs rp h => ?_⟩
  cases ws with
  | nil => exact h.elim
  | cons w wr =>
    obtain ⟨v, vr, rfl, hw, hr⟩ := ru
    cases r with
    | cons r rr =>
      rw [hs]
      refine assignInOrder_cons (thn (h1.run pins s σ H v _ w ss G _ _ I r hw rs rp h fun c d H' ⟨_, _, _, _, _, z⟩ => z.elim) fun _ s1 ⟨σ1, H1, I1, ⟨us1, G1, x1, rp1, rs1, q1⟩, o1⟩ => ?_)
      exact thn (h2.run pins s1 σ1 H1 vr _ wr us1 G1 Q I1 rr (hr.ext x1 rp) rs1 rp1 q1) fun _ s2 ⟨σ2, H2, I2, q2, o2⟩ => ⟨σ2, H2, I2, q2.trans x1, o1.trans o2⟩
def gUTup (n : Nat) (t : UTGs) : UTG := fun w us G Q _ => match w with
  | .tup ws => ws.length = n ∧ t ws us G Q (fun _ _ => False)
  | _ => False
theorem gu_tup {es : List Expr} {k : Nat} {t : UTGs} {n : Nat} {sl : List Nat} (hc : X.calm = true) (h : GsU X W es t sl) (hn : (assignEach es X.env).length = n) (hst : (assignEach es X.env).findIdx? (·.1) = none) : GU X W (.Tuple es k pos) (gUTup n t) sl := by
  refine ⟨fun pins s σ H v u w us G Q E I r ru rs rp hw _ => ?_⟩
  cases w with
  | tup ws =>
    obtain ⟨hl, hw⟩ := hw
    obtain ⟨a, xs, e1, hq, hr⟩ := ru.tup_of
    subst e1
    cases r
    obtain ⟨its, rv, ht, hz⟩ := I.tuple hq
    refine assign_Tuple_tuple (I.ok.hd hc) ht (by simp [hn, ← hl, ← hr.length, rv.length]) hst fun h' hx => ?_
    have I1 : Inv X pins σ H { s with heap := h' } := I.kept (t' := s.toks) fun b o e => hx b o (Nat.ne_of_lt (Heap.lt_size e)) e
    exact h.run pins _ σ H xs _ ws us G Q I1 (by simpa using rv) hr rs rp hw
  | _ => exact hw.elim
def StU (X : Cx) (W : WX) (t : U → U → U → Gp → (Gp → Prop) → UX → Prop) : Prop :=
  ∀ (pins : List (Addr × Obj)) (s : Shared) (σ : L2.St) (H : Hp) (o i v : V) (ov iv u : Value) (a b c : U) (G : Gp) (Q : Gp → Prop) (E : UX), Inv X pins σ H s → RelV o ov → RelV i iv → RelV v u → RelU X.K H a o → RelU X.K H b i → RelU X.K H c v → Rep X.K H G → t a b c G Q E →
    (∀ c d H', LX X.K H G E c d H' → W c d σ H') → wpAny (model X.prog X.w) X.A (setItem ov iv u) (fun _ s' => ∃ H' G', Inv X pins σ H' s' ∧ Ext H G H' G' ∧ Rep X.K H' G' ∧ Q G') X.xe s
def gUSub (to ti : UTE) (t : U → U → U → Gp → (Gp → Prop) → UX → Prop) : UTG := fun w us G Q E => to us G (fun o G1 => ti us G1 (fun i G2 => t o i w G2 (fun G3 => Q us G3) E) E) E
theorem gu_sub {o i : Expr} {to ti : UTE} {t : U → U → U → Gp → (Gp → Prop) → UX → Prop} (ho : EU X W o to) (hi : EU X W i ti) (hs : StU X W t)
    (ha : ∀ v, assign (.Subscript o i pos) X.env v = (do
      let ov ← holding [v] (eval o X.env)
      let iv ← holding [v, ov] (eval i X.env)
      standAt pos
      holding [v, ov, iv] (setItem ov iv v)
      release [v, ov, iv] [])) : GU X W (.Subscript o i pos) (gUSub to ti t) [] := by
  refine ⟨fun pins s σ H v u w us G Q E I r ru rs rp h hx => ?_⟩
  rw [ha]
  refine wpAny_bind (wpAny_holding (thn (ho.run pins s σ H us G _ E I rs rp h hx) fun ov s1 ⟨x, H1, I1, r1, p, G1, x1, rp1, rup, q1⟩ => ?_))
  have hx1 : ∀ c d H', LX X.K H1 G1 E c d H' → W c d σ H' := fun c d H' h' => hx c d H' (h'.trans x1)
  refine wpAny_bind (wpAny_holding (thn (hi.run pins s1 σ H1 us G1 _ E I1 (rs.ext x1 rp) rp1 q1 hx1) fun iv s2 ⟨y, H2, I2, r2, q, G2, x2, rp2, ruq, q2⟩ => ?_))
  refine wpAny_bind (wpAny_standAt (wpAny_bind (wpAny_holding (thn (hs pins s2 σ H2 x y v ov iv u p q w G2 _ E I2 r1 r2 r (rup.ext x2 rp1) ruq ((ru.ext x1 rp).ext x2 rp1) rp2 q2 fun c d H' h' => hx1 c d H' (h'.trans x2)) fun _ s3 ⟨H3, G3, I3, x3, rp3, q3⟩ => ?_))))
  exact wpAny_release ⟨σ, H3, I3, ⟨us, G3, (x1.trans x2).trans x3, rp3, ((rs.ext x1 rp).ext x2 rp1).ext x3 rp2, q3⟩, Out.refl _ _⟩
def setU0 (o i v : U) (G : Gp) (Q : Gp → Prop) (_ : UX) : Prop := match o, i with
  | .ref a, .int k => ∃ us j, G a = some (.lst us) ∧ ixN us.length k = some j ∧ Q (gup G a (.lst (us.set j v)))
  | _, _ => False
theorem stu0 : StU X W setU0 := by
  intro pins s σ H o i v ov iv u a b c G Q E I ro ri rv ra rb rc rp h hx
  cases a with
  | ref p =>
    cases b with
    | int k =>
      obtain ⟨us, j, g, hj, q⟩ := h
      obtain ⟨vs, e, r⟩ := rp.lst g
      refine thn (set_list pins s σ H o i v ov iv u (fun H' => ∃ G', Ext H G H' G' ∧ Rep X.K H' G' ∧ Q G') I ro ri rv ⟨p, vs, k, j, ra, rb, e, by rw [r.length]; exact hj, ?_⟩) fun _ s' ⟨H', I', G', x1, r1, q1⟩ => ⟨H', G', I', x1, r1, q1⟩
      obtain ⟨u', G', x1, r1, _, q1⟩ := lv_setl (Q := fun _ G' => Q G') (u := .non) (v := .non) rp g (r.set rc j) rfl q
      exact ⟨G', x1, r1, q1⟩
    | _ => exact h.elim
  | _ => exact (show False by cases b <;> exact h).elim
def tUAsg (te : UTE) (g : UTG) : UTS := fun D us G => te us G (fun x G1 => g x us G1 D.nx (fun x G1 => D.ex x us G1)) (fun x G1 => D.ex x us G1)
theorem su_asg {tg e : Expr} {te : UTE} {g : UTG} {sl : List Nat} (he : EU X W e te) (hg : GU X W tg g sl) (hs : swapsWithSole [tg] e pos.line X.env = pure false) (hw : swappedStores [tg] e X.env = pure none)
    (h1 : (assignEach [tg] X.env).map (·.2) = [assign tg X.env]) : SU X W (.Assign [tg] e pos) (tUAsg te g) := by
  refine ⟨fun pins s σ H us G D I rs rp h hx => ?_⟩
  have hx0 : ∀ c d H', LX X.K H G (fun x G1 => D.ex x us G1) c d H' → W c d σ H' := fun c d H' h' => hx c d σ H' (LXS.of rs rp h')
  refine wpAny_Assign_stores (thn (he.run pins s σ H us G _ _ I rs rp h hx0) fun v s1 ⟨x, H1, I1, r1, p, G1, x1, rp1, ru, q1⟩ => ?_) hs hw
  rw [h1]
  exact thn (hg.run pins s1 σ H1 x v p us G1 _ _ I1 r1 ru (rs.ext x1 rp) rp1 q1 fun c d H' h' => hx0 c d H' (h'.trans x1)) fun _ s2 ⟨σ2, H2, I2, q2, _⟩ => ⟨σ2, H2, I2, q2.trans x1⟩
theorem su_set {i : Nat} {x : Str} {pos' : Pos} (hN : X.N.Nodup) (hi : X.N[i]? = some x) (hx : Loc X.env.scope x) (he : EU X W e te) (hs : swapsWith e (some (.Name x pos')) pos.line X.env = pure false) (hf : X.fn x = true ∨ X.env.scope.names.lookup x = some .local) :
    SU X W (.Assign [.Name x pos'] e pos) (tUAsg te (gUName i)) :=
  .of (ps_set hN hi hx he.pe hs hf) fun σ H us G D rs rp h hx => ⟨us, G, _, _, rs, rp, h, fun v H' ⟨u, G1, x1, r1, ru, q⟩ => ⟨us.set i (some u), G1, x1, r1, RelS.set ru i (rs.ext x1 rp), q⟩, fun c d H' h' => hx c d σ H' (LXS.of rs rp h')⟩
def setAll (us : USt) : List Nat → List U → USt
  | i :: is, w :: ws => setAll (us.set i (some w)) is ws
  | _, _ => us
def tUPar (is : List Nat) (ta : UTA) : UTS := fun D us G => ta us G (fun ws G1 => ws.length = is.length ∧ D.nx (setAll us is.reverse ws.reverse) G1) (fun x G1 => D.ex x us G1)
theorem par_store {E : Value → Shared → Prop} {pins : List (Addr × Obj)} (hN : X.N.Nodup) {Q : Unit → Shared → Prop} : ∀ (xs : List Str) (is : List Nat) (vs : List V) (us : List Value) (ws : List U) (ss : USt) (G : Gp) (s : Shared) (σ : L2.St) (H : Hp),
    xs.length = is.length → ws.length = is.length → (∀ (k : Nat) x i, xs[k]? = some x → is[k]? = some i → X.N[i]? = some x ∧ X.env.scope.names.lookup x = some .local) → Inv X pins σ H s → Vals vs us → RelUs X.K H ws vs → RelS X.K H ss σ → Rep X.K H G →
    (∀ s' σ', Inv X pins σ' H s' → RelS X.K H (setAll ss is ws) σ' → Q () s') → wpAny (model X.prog X.w) X.A (assignInOrder (xs.map fun n v => bindName X.env n v) us) Q E s
  | [], [], vs, us, ws, ss, G, s, σ, H, _, h2, _, I, rv, rw', rs, rp, q => by
    have : ws = [] := List.eq_nil_of_length_eq_zero h2
    subst this
    have e' : vs = [] := rw'
    subst e'
    cases rv
    exact assignInOrder_nil (q s σ I rs)
  | x :: xs, i :: is, vs, us, [], ss, G, s, σ, H, _, h2, _, I, rv, rw', rs, rp, q => by cases h2
  | x :: xs, i :: is, vs, us, w :: ws, ss, G, s, σ, H, h1, h2, hk, I, rv, rw', rs, rp, q => by
    obtain ⟨v, vr, rfl, hv, hr⟩ := rw'
    cases rv with
    | cons r rr =>
      obtain ⟨hi, hl⟩ := hk 0 x i rfl rfl
      rw [List.map_cons]
      refine assignInOrder_cons (wpAny_bindName (store_ok I hN hi (.inl hl) r (fun s2 I2 => ?_) (.inr hl)))
      exact par_store hN xs is vr _ ws _ G s2 _ H (by simpa using h1) (by simpa using h2) (fun k y j e1 e2 => hk (k + 1) y j e1 e2) I2 rr hr (RelS.set hv i rs) rp q
  | [], _ :: _, _, _, _, _, _, _, _, _, h1, _, _, _, _, _, _, _, _ => by cases h1
  | _ :: _, [], _, _, _, _, _, _, _, _, h1, _, _, _, _, _, _, _, _ => by cases h1
theorem su_par {ts es : List Expr} {kt k2 : Nat} {pt pt2 : Pos} {xs : List Str} {is : List Nat} {ta : UTA} (hc : X.calm = true) (hN : X.N.Nodup) (hl : xs.length = is.length) (h23 : is.length ≤ 3)
    (hk : ∀ (k : Nat) x i, xs[k]? = some x → is[k]? = some i → X.N[i]? = some x ∧ X.env.scope.names.lookup x = some .local) (ha : AU X W es ta)
    (hw : swappedStores [.Tuple ts kt pt] (.Tuple es k2 pt2) X.env = pure (some xs)) (hs : swapsWithSole [.Tuple ts kt pt] (.Tuple es k2 pt2) pos.line X.env = pure false) : SU X W (.Assign [.Tuple ts kt pt] (.Tuple es k2 pt2) pos) (tUPar is ta) := by
  refine ⟨fun pins s σ H us G D I rs rp h hx => ?_⟩
  have hx0 : ∀ c d H', LX X.K H G (fun x G1 => D.ex x us G1) c d H' → W c d σ H' := fun c d H' h' => hx c d σ H' (LXS.of rs rp h')
  rw [exec_Assign_arm]
  refine wpAny_bind (wpAny_standAt ?_)
  rw [hs]
  refine wpAny_bind (wpAny_pure ?_)
  rw [if_neg (by decide)]
  refine wpAny_bind (Tuple_ (thn (ha.run _ pins s σ H us G _ _ I rs rp h hx0) fun vals s1 ⟨vs, H1, I1, r1, ws, G1, x1, rp1, ru, hlen, q1⟩ => ?_))
  have lv : vals.length = is.length := by rw [← r1.length, ru.length, hlen]
  refine wpAny_newObj_type ?_ (by show vals.toArray.size ≤ sizeLine; rw [List.size_toArray, lv, sizeLine_eq]; omega)
  have I2 : Inv X pins σ H1 { s1 with heap := s1.heap.push { cls := .type "tuple", data := .seq vals.toArray } } := I1.kept (t' := s1.toks) fun b o e => Heap.get?_push_of_some _ e
  rw [hw]
  refine wpAny_bind (wpAny_pure ?_)
  show wpAny (model X.prog X.w) X.A (do rule "assign.swapped-stores"; let items ← unpackItems (.ref s1.heap.objs.size) xs.length none; assignInOrder (xs.reverse.map fun n v => bindName X.env n v) items.reverse; pure Flow.next) _ _ _
  have e1 : vals.toArray.size = xs.length := by rw [List.size_toArray, lv, hl]
  rw [← e1]
  refine wpAny_bind (wpAny_rule (wpAny_bind (unpackItems_tuple (items := vals.toArray) (I.ok.hd hc) (IsTup.new s1.heap _) fun h' hx' => ?_)))
  have I3 := I2.kept (h' := h') (t' := s1.toks) fun b o e => hx' b o (Nat.ne_of_lt (Heap.lt_size e)) e
  refine wpAny_bind (par_store hN xs.reverse is.reverse vs.reverse _ ws.reverse us G1 _ σ H1 (by simp [hl]) (by simp [hlen]) (fun k y j h1 h2 => ?_) I3 (by simpa using r1.reverse) ru.reverse (rs.ext x1 rp) rp1 fun s2 σ' I4 rs4 => wpAny_pure ⟨σ', H1, I4, _, G1, x1, rp1, rs4, q1⟩)
  have kl : k < xs.length := by
    have := (List.getElem?_eq_some_iff.mp h1).1
    simpa using this
  rw [List.getElem?_reverse (by omega)] at h1
  rw [List.getElem?_reverse (by omega), ← hl] at h2
  exact hk _ y j h1 h2
end
end UL
set_option maxHeartbeats 400000
namespace UL
open PySem PySem.Spec PyProof.Rows L2

abbrev UKI := (Gp → Prop) → List U → Gp → Prop
abbrev UTI := USt → Gp → UKI → UX → Prop
/-- the iterator J gives just these items while chk holds -/
structure ItU (K : PySem.W.Frag) (J : It) (chk : Gp → Prop) (items : List U) (H0 : Hp) (G0 : Gp) : Prop where
  go : ∀ (i : Nat) H G, Ext H0 G0 H G → Rep K H G → chk G → i < items.length → J.go i H ∧ ∀ x H', J.yld i H x H' → ∃ u, items[i]? = some u ∧ Ext H G H' G ∧ Rep K H' G ∧ RelU K H' u x
  stop : ∀ H G, Ext H0 G0 H G → Rep K H G → chk G → J.stop items.length H
def RI (K : PySem.W.Frag) (H : Hp) (G : Gp) (Q : UKI) : It → Hp → Prop := fun J H1 => ∃ chk items G1, Ext H G H1 G1 ∧ Rep K H1 G1 ∧ ItU K J chk items H1 G1 ∧ Q chk items G1
theorem RI.trans {K : PySem.W.Frag} {H H1 : Hp} {G G1 : Gp} (x : Ext H G H1 G1) {Q : UKI} {J : It} {H' : Hp} : RI K H1 G1 Q J H' → RI K H G Q J H' := fun ⟨c, i, G', e, r⟩ => ⟨c, i, G', x.trans e, r⟩
structure IU (X : Cx) (W : WX) (tg iter : Expr) (t : UTI) : Prop where
  run : ∀ (pins : List (Addr × Obj)) (s : Shared) (σ : L2.St) (H : Hp) (us : USt) (G : Gp) (Q : UKI) (E : UX), Inv X pins σ H s → RelS X.K H us σ → Rep X.K H G → t us G Q E → (∀ c d H', LX X.K H G E c d H' → W c d σ H') →
    wpAny (model X.prog X.w) X.A (eval iter X.env) (fun v s1 => wpAny (model X.prog X.w) X.A (pyIter v) (PIE X pins σ tg (RI X.K H G Q)) X.xe s1) X.xe s
def lI (K : PySem.W.Frag) (W : WX) (t : UTI) : TI := fun σ H R => ∃ us G Qu Eu, RelS K H us σ ∧ Rep K H G ∧ t us G Qu Eu ∧ (∀ J H', RI K H G Qu J H' → R J H') ∧ ∀ c d H', LX K H G Eu c d H' → W c d σ H'
theorem pie_imp {X : Cx} {pins : List (Addr × Obj)} {σ : L2.St} {tg : Expr} {R R' : It → Hp → Prop} {v : Value} {s : Shared} (h : ∀ J H, R J H → R' J H) : PIE X pins σ tg R v s → PIE X pins σ tg R' v s :=
  fun ⟨it, fp, tn, J, H', e, I, T, st, f, r⟩ => ⟨it, fp, tn, J, H', e, I, T, st, f, h _ _ r⟩
theorem IU.pi {X : Cx} {W : WX} {tg iter : Expr} {t : UTI} (h : IU X W tg iter t) : PI X tg iter (lI X.K W t) :=
  ⟨fun pins s σ H R I ⟨us, G, Qu, Eu, rs, rp, ht, hq, hx⟩ => thn (h.run pins s σ H us G Qu Eu I rs rp ht hx) fun v s1 h1 => thn h1 fun _ _ h2 => pie_imp hq h2⟩
section
variable {K : PySem.W.Frag} {H0 : Hp} {G0 : Gp}
theorem itu_list {a : Addr} {us : List U} : ItU K (Itl K a) (fun G => G a = some (.lst us)) us H0 G0 := by
  refine ⟨fun i H G x r g hi => ?_, fun H G x r g => ?_⟩
  · obtain ⟨vs, e, rv⟩ := r.lst g
    obtain ⟨v, ev, ru⟩ := rv.get (List.getElem?_eq_getElem hi)
    refine ⟨⟨vs, v, .of e, ev⟩, fun y H' ⟨eH, hy⟩ => ?_⟩
    subst eH
    have := hy vs (.of e)
    rw [ev] at this
    cases this
    exact ⟨_, List.getElem?_eq_getElem hi, .refl _ _, r, ru⟩
  · obtain ⟨vs, e, rv⟩ := r.lst g
    exact ⟨vs, .of e, by rw [rv.length]; exact Nat.le_refl _⟩
theorem itu_rol {a : Addr} {us : List U} {vs : List V} (h : RoL K H0 a vs) (rv : RelUs K H0 us vs) (r0 : Rep K H0 G0) : ItU K (Itl K a) (fun _ => True) us H0 G0 := by
  refine ⟨fun i H G x r _ hi => ?_, fun H G x r _ => ?_⟩
  · obtain ⟨v, ev, ru⟩ := rv.get (List.getElem?_eq_getElem hi)
    have h' := (x.roL r0 h).sq
    refine ⟨⟨vs, v, h', ev⟩, fun y H' ⟨eH, hy⟩ => ?_⟩
    subst eH
    have := hy vs h'
    rw [ev] at this
    cases this
    exact ⟨_, List.getElem?_eq_getElem hi, .refl _ _, r, ru.ext x r0⟩
  · exact ⟨vs, (x.roL r0 h).sq, by rw [rv.length]; exact Nat.le_refl _⟩
theorem itu_tup {a : Addr} {us : List U} {vs : List V} (h : SqT K H0 a vs) (rv : RelUs K H0 us vs) (r0 : Rep K H0 G0) : ItU K (Itt K a) (fun _ => True) us H0 G0 := by
  refine ⟨fun i H G x r _ hi => ?_, fun H G x r _ => ?_⟩
  · obtain ⟨v, ev, ru⟩ := rv.get (List.getElem?_eq_getElem hi)
    have h' := x.sqT r0 h
    refine ⟨⟨vs, v, h', ev⟩, fun y H' ⟨eH, hy⟩ => ?_⟩
    subst eH
    have := hy vs h'
    rw [ev] at this
    cases this
    exact ⟨_, List.getElem?_eq_getElem hi, .refl _ _, r, ru.ext x r0⟩
  · exact ⟨vs, x.sqT r0 h, by rw [rv.length]; exact Nat.le_refl _⟩
def sgs (l : List Nat) : List U := l.map fun c => .str [c]
theorem itu_str {l : List Nat} : ItU K (Its ⟨l.toArray⟩) (fun _ => True) (sgs l) H0 G0 := by
  have sz : (sgs l).length = l.length := List.length_map _
  refine ⟨fun i H G x r _ hi => ?_, fun H G x r _ => ?_⟩
  · refine ⟨show i < l.toArray.size by rw [List.size_toArray]; omega, fun y H' ⟨eH, c, hc, hy⟩ => ?_⟩
    subst eH hy
    have hc' : l[i]? = some c := by simpa using hc
    exact ⟨.str [c], by unfold sgs; rw [List.getElem?_map, hc']; rfl, .refl _ _, r, rfl⟩
  · show l.toArray.size ≤ (sgs l).length
    rw [List.size_toArray, sz]
    exact Nat.le_refl _
def rngs (lo : Int) (n : Nat) : List U := (List.range n).map fun i => .int (lo + (i : Nat))
theorem itu_range {lo : Int} {n : Nat} : ItU K (Itr lo n) (fun _ => True) (rngs lo n) H0 G0 := by
  have sz : (rngs lo n).length = n := by unfold rngs; simp
  refine ⟨fun i H G x r _ hi => ?_, fun H G x r _ => ?_⟩
  · refine ⟨by rw [sz] at hi; exact hi, fun y H' ⟨eH, hy⟩ => ?_⟩
    subst eH hy
    refine ⟨.int (lo + (i : Nat)), ?_, .refl _ _, r, rfl⟩
    unfold rngs
    rw [List.getElem?_map, List.getElem?_range (by omega)]
    rfl
  · show n ≤ (rngs lo n).length
    rw [sz]
    exact Nat.le_refl _
theorem ext_tup {H : Hp} {G : Gp} (r : Rep K H G) {T : Addr} {xs : List V} (hT : H T = none) : Ext H G (upd H T (.tup xs)) G ∧ Rep K (upd H T (.tup xs)) G := ⟨(r.laid0 hT).2, (r.laid0 hT).1⟩
def enumU : Nat → List U → List U
  | _, [] => []
  | n, u :: us => .tup [.int (n : Nat), u] :: enumU (n + 1) us
theorem enumU_len : ∀ (n : Nat) (us : List U), (enumU n us).length = us.length
  | _, [] => rfl
  | n, u :: us => by rw [enumU, List.length_cons, List.length_cons, enumU_len]
theorem enumU_get : ∀ (n : Nat) (us : List U) (i : Nat) (u : U), us[i]? = some u → (enumU n us)[i]? = some (.tup [.int ((n + i : Nat)), u])
  | _, [], _, _, h => by cases h
  | n, w :: us, 0, _, h => by
    cases h
    rfl
  | n, w :: us, i + 1, u, h => by
    rw [enumU, List.getElem?_cons_succ, enumU_get (n + 1) us i u (by simpa using h)]
    congr 5
    omega
end
section
variable {X : Cx} {W : WX} {tg e : Expr} {te : UTE} {ta : UTA} {pos p : Pos}
/-- any value that may be walked -/
def iterU (u : U) (G : Gp) (Q : UKI) : Prop := match u with
  | .ref a => ∃ us, G a = some (.lst us) ∧ Q (fun G => G a = some (.lst us)) us G
  | .tup us => Q (fun _ => True) us G
  | .rol us => Q (fun _ => True) us G
  | .str l => Q (fun _ => True) (sgs l) G
  | _ => False
theorem pit_list {pins : List (Addr × Obj)} {σ : L2.St} {H : Hp} {s : Shared} {R : It → Hp → Prop} {E : Value → Shared → Prop} {a : Addr} {xs : List V} (I : Inv X pins σ H s) (hq : SqL X.K H a xs) (q : R (Itl X.K a) H) : wpAny (model X.prog X.w) X.A (pyIter (.ref a)) (PIE X pins σ tg R) E s := by
  obtain ⟨its, rv, pl, hz⟩ := I.list hq
  exact wpAny_pyIter_list pl.isList (pi_one (tk := s.toks) I _ (turn_list a _) ⟨_, Heap.get?_push_size _ rfl, rfl, rfl⟩ q)
theorem pit_tup {pins : List (Addr × Obj)} {σ : L2.St} {H : Hp} {s : Shared} {R : It → Hp → Prop} {E : Value → Shared → Prop} {a : Addr} {xs : List V} (I : Inv X pins σ H s) (hq : SqT X.K H a xs) (q : R (Itt X.K a) H) : wpAny (model X.prog X.w) X.A (pyIter (.ref a)) (PIE X pins σ tg R) E s := by
  obtain ⟨its, rv, pl, hz⟩ := I.tuple hq
  exact wpAny_pyIter_tuple (show s.heap.IsTuple a its.toArray from pl) (pi_one (tk := s.toks) I _ (turn_tuple a _) ⟨_, Heap.get?_push_size _ rfl, rfl, rfl⟩ q)
theorem pit_str {pins : List (Addr × Obj)} {σ : L2.St} {H : Hp} {s : Shared} {R : It → Hp → Prop} {E : Value → Shared → Prop} {x : Str} {t : Tok} (I : Inv X pins σ H s) (q : R (Its x) H) : wpAny (model X.prog X.w) X.A (pyIter (.str x t)) (PIE X pins σ tg R) E s := by
  cases ha : x.cps.all (· < 128)
  · exact wpAny_pyIter_wide ha (pi_one (tk := s.toks) I _ (turn_str _ x t "str_iterator" (.inr rfl)) ⟨_, Heap.get?_push_size _ rfl, rfl, rfl⟩ q)
  · exact wpAny_pyIter_ascii ha (pi_one (tk := s.toks) I _ (turn_str _ x t "str_ascii_iterator" (.inl rfl)) ⟨_, Heap.get?_push_size _ rfl, rfl, rfl⟩ q)
theorem pit_any {pins : List (Addr × Obj)} {σ : L2.St} {H : Hp} {s : Shared} {E : Value → Shared → Prop} {u : U} {v : V} {w : Value} {G : Gp} {Q : UKI} (I : Inv X pins σ H s) (rp : Rep X.K H G) (ru : RelU X.K H u v) (rv : RelV v w) (h : iterU u G Q) :
    wpAny (model X.prog X.w) X.A (pyIter w) (PIE X pins σ tg (RI X.K H G Q)) E s := by
  cases u with
  | ref a =>
    obtain ⟨us, g, q⟩ := h
    rw [show v = .ref a from ru] at rv
    obtain rfl : w = Value.ref a := rv
    obtain ⟨vs, e, r⟩ := rp.lst g
    exact pit_list I (.of e) ⟨_, us, G, .refl _ _, rp, itu_list, q⟩
  | tup us =>
    obtain ⟨a, vs, rfl, t, r⟩ := ru.tup_of
    obtain rfl : w = Value.ref a := rv
    exact pit_tup I t ⟨_, us, G, .refl _ _, rp, itu_tup t r rp, h⟩
  | rol us =>
    obtain ⟨a, vs, rfl, t, r⟩ := (show ∃ a vs, v = .ref a ∧ RoL X.K H a vs ∧ RelUs X.K H us vs from ru)
    obtain rfl : w = Value.ref a := rv
    exact pit_list I t.sq ⟨_, us, G, .refl _ _, rp, itu_rol t r rp, h⟩
  | str l =>
    rw [show v = .str ⟨l.toArray⟩ from ru] at rv
    obtain ⟨t, rfl⟩ := rv
    exact pit_str I ⟨_, sgs l, G, .refl _ _, rp, itu_str, h⟩
  | _ => exact h.elim
def tIAny (te : UTE) : UTI := fun us G Q E => te us G (fun u G1 => iterU u G1 Q) E
theorem iu_any (he : EU X W e te) : IU X W tg e (tIAny te) := by
  refine ⟨fun pins s σ H us G Q E I rs rp h hx => ?_⟩
  refine thn (he.run pins s σ H us G _ E I rs rp h hx) fun v s1 ⟨x, H1, I1, r1, u, G1, x1, rp1, ru, q1⟩ => ?_
  exact thn (pit_any I1 rp1 ru r1 q1) fun _ _ h => pie_imp (fun _ _ h => h.trans x1) h
def rngA (u : U) (G : Gp) (Q : UKI) : Prop := match u with
  | .int j => (-(2 ^ 62) ≤ j ∧ j < 2 ^ 62) ∧ Q (fun _ => True) (rngs 0 j.toNat) G
  | _ => False
def rngQ1 (Q : UKI) (ws : List U) (G : Gp) : Prop := match ws with
  | [u] => rngA u G Q
  | _ => False
def tIRng1 (ta : UTE) : UTI := fun us G Q E => ta us G (fun u G1 => rngA u G1 Q) E
theorem iu_range1 {a : Expr} (hg : Gl X "range") (hm : X.mg "range" = none) (ha : EU X W a te) (hs : starEach [a] X.env = (false, eval a X.env) :: starEach [] X.env) : IU X W tg (.Call (.Name "range" p) [a] [] pos) (tIRng1 te) := by
  refine ⟨fun pins s σ H us G Q E I rs rp h hx => ?_⟩
  refine Call_ (ld_blt I hg hm boot_range (PyProof.Rows.callWith_type1 (thn ((au_cons ha au_nil hs).run pos pins s σ H us G (rngQ1 Q) E I rs rp h hx) fun vals s1 ⟨vs, H1, I1, r1, ws, G1, x1, rp1, ru, q1⟩ => ?_) hs rfl))
  cases ws with
  | nil => exact q1.elim
  | cons u r =>
    cases r with
    | cons _ _ => exact q1.elim
    | nil =>
      obtain ⟨v, vr, e1, ev, e2⟩ := ru
      have e2' : vr = [] := e2
      subst e1 e2'
      cases u with
      | int j =>
        rw [show v = .int j from ev] at r1
        cases r1 with
        | cons r rr =>
          cases rr
          obtain ⟨t, rfl⟩ := r
          obtain ⟨⟨q2, q3⟩, q⟩ := q1
          exact call_range_1 (range_it I1 (by omega) (by omega) q2 q3 ⟨_, _, G1, x1, rp1, itu_range, by simpa using q⟩)
      | _ => exact q1.elim
end

def forU (tg : UTG) (body : UTS) (chk : Gp → Prop) : List U → UTS
  | [] => fun D us G => chk G ∧ D.nx us G
  | x :: xs => fun D us G => chk G ∧ tg x us G (fun us1 G1 => body { D with nx := forU tg body chk xs D, ct := forU tg body chk xs D, bk := D.nx } us1 G1) (fun x G1 => D.ex x us G1)
def tUFor (ti : UTI) (tg : UTG) (body : UTS) : UTS := fun D us G => ti us G (fun chk items G1 => forU tg body chk items D us G1) (fun x G1 => D.ex x us G1)
def lG (K : PySem.W.Frag) (W : WX) (t : UTG) (sl : List Nat) : TG := fun v σ H Q => ∃ w us G Qu Eu, RelU K H w v ∧ RelS K H us σ ∧ Rep K H G ∧ t w us G Qu Eu ∧ (∀ σ' H', LS K H G Qu σ' H' → Out sl σ σ' → Q σ' H') ∧ ∀ c d H', LX K H G Eu c d H' → W c d σ H'
theorem GU.pg {X : Cx} {W : WX} {tg : Expr} {t : UTG} {sl : List Nat} (h : GU X W tg t sl) : PG X tg (lG X.K W t sl) :=
  ⟨fun pins s σ H v u Q I r ⟨w, us, G, Qu, Eu, ru, rs, rp, ht, hq, hx⟩ => thn (h.run pins s σ H v u w us G Qu Eu I r ru rs rp ht hx) fun _ s' ⟨σ', H', I', q, o⟩ => ⟨σ', H', I', hq _ _ q o⟩⟩
theorem drop_cons {α : Type} {xs : List α} {i : Nat} {x : α} (h : xs[i]? = some x) : xs.drop i = x :: xs.drop (i + 1) := by
  obtain ⟨hi, e⟩ := List.getElem?_eq_some_iff.mp h
  rw [List.drop_eq_getElem_cons hi, e]
theorem su_for {X : Cx} {W : WX} {iter tg : Expr} {body : List Stmt} {ti : UTI} {g : UTG} {sl : List Nat} {tb : UTS} {pos : Pos} (hp : PassesOwn (model X.prog X.w) X.A X.env X.xe) (hc : X.calm = true) (hi : IU X W tg iter ti) (hg : GU X W tg g sl) (hb : SsU X W body tb)
    (hs : ∀ x, foldedSetIterable iter X.env x = pure x) : SU X W (.For tg iter body [] pos) (tUFor ti g tb) := by
  refine .of (ps_for hp hc hi.pi hg.pg hb.pss hs) fun σ H us G D rs rp h hx => ⟨us, G, _, _, rs, rp, h, fun J H1 ⟨chk, items, G1, x1, rp1, it, q⟩ => ?_, fun c d H' h' => hx c d σ H' (LXS.of rs rp h')⟩
  refine ⟨fun i m σ' H' => m = items.length - i ∧ i ≤ items.length ∧ ∃ us' G', Ext H1 G1 H' G' ∧ RelS X.K H' us' σ' ∧ Rep X.K H' G' ∧ forU g tb chk (items.drop i) D us' G', ⟨_, rfl, Nat.zero_le _, us, G1, .refl _ _, rs.ext x1 rp, rp1, by simpa using q⟩, ?_⟩
  rintro i m σ' H' ⟨rfl, hi, us', G', x2, rs', rp', q'⟩
  by_cases hlt : i < items.length
  · obtain ⟨u, eu⟩ : ∃ u, items[i]? = some u := ⟨_, List.getElem?_eq_getElem hlt⟩
    rw [drop_cons eu] at q'
    obtain ⟨hchk, q'⟩ := q'
    obtain ⟨hgo, hy⟩ := it.go i H' G' x2 rp' hchk hlt
    refine .inr ⟨hgo, LS X.K H' G' (forU g tb chk (items.drop (i + 1)) D), fun σ2 H2 ⟨us2, G2, x3, rp2, rs2, q2⟩ => ⟨items.length - (i + 1), by omega, rfl, hlt, us2, G2, x2.trans x3, rs2, rp2, q2⟩, fun x H2 y => ?_⟩
    obtain ⟨w, ew, x3, rp3, rw'⟩ := hy x H2 y
    rw [eu] at ew
    cases ew
    have rs3 := rs'.ext x3 rp'
    refine ⟨u, us', G', _, _, rw', rs3, rp3, q', fun σ4 H4 ⟨us4, G4, x4, rp4, rs4, q4⟩ _ => ?_, fun c d H4 h' => hx c d _ H4 (((LXS.of rs3 rp3 h').trans x3).trans (x1.trans x2))⟩
    have xa := x3.trans x4
    have xb := (x1.trans x2).trans xa
    exact ⟨us4, G4, _, rs4, rp4, q4, fun _ _ h => h.trans xa, fun _ _ h => h.trans xb, fun _ _ h => h.trans xb, fun _ _ h => h.trans xa, fun c d σ5 H5 h' => hx c d σ5 H5 (h'.trans xb)⟩
  · have e : i = items.length := by omega
    subst e
    rw [List.drop_length] at q'
    exact .inl ⟨it.stop H' G' x2 rp' q'.1, us', G', x1.trans x2, rp', rs', q'.2⟩

def F0 : UX := fun _ _ => False
def W0 : WX := fun _ _ _ _ => False
def lcU (tg : UTG) (tt : UTT) (te : UTE) (chk : Gp → Prop) (us : USt) (Q : List U → Gp → Prop) : List U → List U → Gp → Prop
  | [], acc, G => chk G ∧ Q acc G
  | x :: xs, acc, G => chk G ∧ tg x us G (fun us1 G1 => tt us1 G1 (fun b G2 => bif b then te us1 G2 (fun y G3 => acc.length < 1000000 ∧ lcU tg tt te chk us Q xs (acc ++ [y]) G3) F0 else lcU tg tt te chk us Q xs acc G2) F0) F0
def tULc (ti : UTI) (tg : UTG) (tt : UTT) (te : UTE) (own : List Nat) : UTE := fun us G Q E => ti us G (fun chk items G1 => lcU tg tt te chk (uwipe us own) (fun acc G2 => ∀ p, G2 p = none → Q (.ref p) (gup G2 p (.lst acc))) items [] G1) E
/-- a clause's tests -/
structure FsU (X : Cx) (W : WX) (ifs : List Expr) (t : UTT) : Prop where
  run : ∀ (pins : List (Addr × Obj)) (s : Shared) (σ : L2.St) (H : Hp) (us : USt) (G : Gp) (Q : Bool → Gp → Prop) (E : UX), Inv X pins σ H s → RelS X.K H us σ → Rep X.K H G → t us G Q E → (∀ c d H', LX X.K H G E c d H' → W c d σ H') →
    wpAny (model X.prog X.w) X.A (forIn ifs true fun c r => if r = true then do let ok ← isTrue c X.env (eval c X.env); pure (ForInStep.yield ok) else pure (ForInStep.yield r)) (TP X pins σ (LB X.K H G Q)) X.xe s
theorem fsu_nil {X : Cx} {W : WX} : FsU X W [] (fun _ G Q _ => Q true G) := ⟨fun _ _ _ H _ G Q E I _ rp h _ => wpAny_tests_nil ⟨H, I, G, .refl _ _, rp, h⟩⟩
theorem fsu_one {X : Cx} {W : WX} {c : Expr} {t : UTT} (h : TU X W c t) : FsU X W [c] t := ⟨fun pins s σ H us G Q E I rs rp hw hx => wpAny_tests_one (h.run pins s σ H us G Q E I rs rp hw hx)⟩
theorem FsU.pts {X : Cx} {W : WX} {ifs : List Expr} {t : UTT} (h : FsU X W ifs t) : PTs X ifs (lT X.K W t) := ⟨fun pins s σ H Q I ⟨us, G, Qu, Eu, rs, rp, ht, hq, hx⟩ => thn (h.run pins s σ H us G Qu Eu I rs rp ht hx) fun v s' ⟨H', I', q⟩ => ⟨H', I', hq _ _ q⟩⟩
theorem lx_false {K : PySem.W.Frag} {H : Hp} {G : Gp} {c : Value} {d : Option Addr} {H' : Hp} : LX K H G F0 c d H' → False := fun ⟨_, _, _, _, _, z⟩ => z
section
variable {X : Cx} {W : WX} {elt tg iter : Expr} {ifs : List Expr} {scope : Scope} {own : List (Str × Nat)} {pos spos : Pos} {ti : UTI} {g : UTG} {tt : UTT} {te : UTE} {sl : List Nat}
theorem lc_read {K : PySem.W.Frag} {σ : L2.St} {H H1 : Hp} {us : USt} {G G1 : Gp} {J : It} {chk : Gp → Prop} {items : List U} {vs : List Nat} {Q : UK} (hsl : ∀ i ∈ sl, i ∈ vs) (rs : RelS K H us σ) (rp : Rep K H G) (x1 : Ext H G H1 G1) (rp1 : Rep K H1 G1) (it : ItU K J chk items H1 G1)
    (q : lcU g tt te chk (uwipe us vs) (fun acc G2 => ∀ p, G2 p = none → Q (.ref p) (gup G2 p (.lst acc))) items [] G1) : ∀ D, H1 D = none → ∃ Wv : Nat → Nat → Hp → Prop, (∃ m, Wv 0 m (upd H1 D (.lst []))) ∧ ∀ i m H, Wv i m H →
      (J.stop i H ∧ LV K H1 G1 Q (.ref D) H) ∨ (J.go i H ∧ ∃ Nx : Hp → Prop, (∀ H', Nx H' → ∃ m', m' < m ∧ Wv (i + 1) m' H') ∧ ∀ x H', J.yld i H x H' → lG K W0 g sl x (wipe σ vs) H' fun σ2 H2 => wipe σ2 vs = wipe σ vs ∧ lT K W0 tt σ2 H2 fun b H3 =>
        if b = true then lE K W0 te σ2 H3 fun y H4 => ∃ acc, H4 D = some (.lst acc) ∧ acc.length < sizeLine ∧ Nx (upd H4 D (.lst (acc ++ [y]))) else Nx H3) := by
  intro D hD
  have x0 : Ext H1 G1 (upd H1 D (.lst [])) G1 := (rp1.laid0 hD).2
  have r0 : Rep K (upd H1 D (.lst [])) G1 := (rp1.laid0 hD).1
  have gD : G1 D = none := rp1.fresh hD
  have rsw : RelS K H1 (uwipe us vs) (L2.wipe σ vs) := (rs.ext x1 rp).wipe vs
  have grow : ∀ {H5 : Hp} {G5 : Gp} {o : HO}, Ext H1 G1 H5 G5 → Ext H1 G1 (upd H5 D o) G5 := fun {H5 G5 o} x b u hb gb => by
    obtain ⟨z1, z2⟩ := x b u hb gb
    exact ⟨by rw [upd_ne (ne_of_none hb hD)]; exact z1, z2⟩
  refine ⟨fun i m H' => m = items.length - i ∧ i ≤ items.length ∧ ∃ G' acc accv, Ext H1 G1 H' G' ∧ Rep K H' G' ∧ G' D = none ∧ H' D = some (.lst accv) ∧ RelUs K H' acc accv ∧ lcU g tt te chk (uwipe us vs) (fun acc G2 => ∀ p, G2 p = none → Q (.ref p) (gup G2 p (.lst acc))) (items.drop i) acc G',
    ⟨_, rfl, Nat.zero_le _, G1, [], [], x0, r0, gD, upd_same, rfl, by simpa using q⟩, ?_⟩
  rintro i m H' ⟨rfl, hi, G', acc, accv, x2, rp2, gD2, hD2, ra, q2⟩
  by_cases hlt : i < items.length
  · obtain ⟨u, eu⟩ : ∃ u, items[i]? = some u := ⟨_, List.getElem?_eq_getElem hlt⟩
    rw [drop_cons eu] at q2
    obtain ⟨hchk, q2⟩ := q2
    obtain ⟨hgo, hy⟩ := it.go i H' G' x2 rp2 hchk hlt
    refine .inr ⟨hgo, fun H5 => ∃ G5 acc5 accv5, Ext H1 G1 H5 G5 ∧ Rep K H5 G5 ∧ G5 D = none ∧ H5 D = some (.lst accv5) ∧ RelUs K H5 acc5 accv5 ∧ lcU g tt te chk (uwipe us vs) (fun acc G2 => ∀ p, G2 p = none → Q (.ref p) (gup G2 p (.lst acc))) (items.drop (i + 1)) acc5 G5,
      fun H5 ⟨G5, a5, v5, x5, r5, g5, h5, ra5, q5⟩ => ⟨items.length - (i + 1), by omega, rfl, hlt, G5, a5, v5, x5, r5, g5, h5, ra5, q5⟩, fun x H3 y => ?_⟩
    obtain ⟨w, ew, x3, rp3, rw'⟩ := hy x H3 y
    rw [eu] at ew
    cases ew
    have rs3 : RelS K H3 (uwipe us vs) (L2.wipe σ vs) := (rsw.ext x2 rp1).ext x3 rp2
    refine ⟨u, uwipe us vs, G', _, _, rw', rs3, rp3, q2, fun σ4 H4 ⟨us4, G4, x4, rp4, rs4, q4⟩ ho => ⟨by rw [ho.wipe hsl, wipe_wipe], us4, G4, _, _, rs4, rp4, q4, fun b H5 ⟨G5, x5, rp5, q5⟩ => ?_, fun c d H' h' => (lx_false h').elim⟩, fun c d H' h' => (lx_false h').elim⟩
    have xa := (x3.trans x4).trans x5
    have hD5 := xa D _ hD2 gD2
    cases b with
    | true =>
      refine iteT ?_
      refine ⟨us4, G5, _, _, rs4.ext x5 rp4, rp5, q5, fun y H6 ⟨z, G6, x6, rp6, rz, hz, q6⟩ => ?_, fun c d H' h' => (lx_false h').elim⟩
      have xb := xa.trans x6
      have hD6 := xb D _ hD2 gD2
      have ra6 : RelUs K H6 acc accv := ra.ext xb rp2
      obtain ⟨hT, hR, hX⟩ := own_upd (K := K) (ys := accv ++ [y]) hD6.1
      exact ⟨accv, hD6.1, by rw [ra.length]; exact lim_lt hz, G6, acc ++ [z], accv ++ [y], grow (x2.trans xb), rp6.own hD6.1 hD6.2, hD6.2, upd_same, (ra6.append (.one rz)).mono hT hR hX, q6⟩
    | false =>
      refine iteF ?_
      exact ⟨G5, acc, accv, x2.trans xa, rp5, hD5.2, hD5.1, ra.ext xa rp2, q5⟩
  · have e : i = items.length := by omega
    subst e
    rw [List.drop_length] at q2
    refine .inl ⟨it.stop H' G' x2 rp2 q2.1, .ref D, gup G' D (.lst acc), fun b o hb gb => ?_, fun b o e => ?_, rfl, q2.2 D gD2⟩
    · obtain ⟨z1, z2⟩ := x2 b o hb gb
      exact ⟨z1, by rw [gup_ne (ne_of_none hb hD)]; exact z2⟩
    · by_cases hb : b = D
      · subst hb
        rw [gup_same] at e
        cases e
        exact ⟨accv, hD2, ra⟩
      · rw [gup_ne hb] at e
        exact rp2 b o e
theorem eu_lc (hc : X.calm = true) (hN : X.N.Nodup) (hi : IU X W tg iter ti) (ok : BlkOk X.N X.env.scope scope own) (hsl : ∀ i ∈ sl, i ∈ own.map (·.2))
    (hg : ∀ (s : Shared) (H : Hp) (C : Addr) (cl : List (Str × Addr)) (fp : List Addr), GU (X.blk s H scope (compEnvC scope cl C X.env) fp) W0 tg g sl) (ht : ∀ (s : Shared) (H : Hp) (C : Addr) (cl : List (Str × Addr)) (fp : List Addr), FsU (X.blk s H scope (compEnvC scope cl C X.env) fp) W0 ifs tt)
    (he : ∀ (s : Shared) (H : Hp) (C : Addr) (cl : List (Str × Addr)) (fp : List Addr), EU (X.blk s H scope (compEnvC scope cl C X.env) fp) W0 elt te) (hs : ∀ x, foldedSetIterable iter X.env x = pure x) :
    EU X W (.ListComp elt [⟨tg, iter, ifs, 0⟩] scope pos) (tULc ti g tt te (own.map (·.2))) := by
  refine .of (pe_lc (te := lE X.K W0 te) (tt := lT X.K W0 tt) (g := lG X.K W0 g sl) hc hN hi.pi ok (fun s H C cl fp => (hg s H C cl fp).pg) (fun s H C cl fp => (ht s H C cl fp).pts) (fun s H C cl fp => (he s H C cl fp).pe) hs) fun σ H us G Q E rs rp h hx => ?_
  refine ⟨us, G, _, _, rs, rp, h, fun J H1 ⟨chk, items, G1, x1, rp1, it, q⟩ => fun D hD => ?_, hx⟩
  obtain ⟨Wv, h1, h2⟩ := lc_read hsl rs rp x1 rp1 it q D hD
  refine ⟨Wv, h1, fun i m H' w => ?_⟩
  rcases h2 i m H' w with ⟨a, b⟩ | z
  · exact .inl ⟨a, b.trans x1⟩
  · exact .inr z
theorem su_setLc {i : Nat} {y : Str} {py : Pos} (hc : X.calm = true) (hN : X.N.Nodup) (hy : X.N[i]? = some y) (hyl : X.env.scope.names.lookup y = some .local)
    (hsw : swapsWith (.ListComp elt [⟨tg, iter, ifs, 0⟩] scope pos) (some (.Name y py)) spos.line X.env = pure true) (hi : IU X W tg iter ti) (ok : BlkOk X.N X.env.scope scope own) (hsl : ∀ i ∈ sl, i ∈ own.map (·.2))
    (hg : ∀ (s : Shared) (H : Hp) (C : Addr) (cl : List (Str × Addr)) (fp : List Addr), GU (X.blk s H scope (compEnvC scope cl C X.env) fp) W0 tg g sl) (ht : ∀ (s : Shared) (H : Hp) (C : Addr) (cl : List (Str × Addr)) (fp : List Addr), FsU (X.blk s H scope (compEnvC scope cl C X.env) fp) W0 ifs tt)
    (he : ∀ (s : Shared) (H : Hp) (C : Addr) (cl : List (Str × Addr)) (fp : List Addr), EU (X.blk s H scope (compEnvC scope cl C X.env) fp) W0 elt te) (hs : ∀ x, foldedSetIterable iter X.env x = pure x) :
    SU X W (.Assign [.Name y py] (.ListComp elt [⟨tg, iter, ifs, 0⟩] scope pos) spos) (tUAsg (tULc ti g tt te (own.map (·.2))) (gUName i)) := by
  refine .of (ps_setLc (te := lE X.K W0 te) (tt := lT X.K W0 tt) (g := lG X.K W0 g sl) hc hN hy hyl hsw hi.pi ok (fun s H C cl fp => (hg s H C cl fp).pg) (fun s H C cl fp => (ht s H C cl fp).pts) (fun s H C cl fp => (he s H C cl fp).pe) hs) fun σ H us G D rs rp h hx => ?_
  refine ⟨us, G, _, _, rs, rp, h, fun J H1 ⟨chk, items, G1, x1, rp1, it, q⟩ => fun B hB => ?_, fun c d H' h' => hx c d σ H' (LXS.of rs rp h')⟩
  obtain ⟨Wv, h1, h2⟩ := lc_read (Q := fun v G1 => D.nx (us.set i (some v)) G1) hsl rs rp x1 rp1 it q B hB
  refine ⟨Wv, h1, fun j m H' w => ?_⟩
  rcases h2 j m H' w with ⟨a, u, G', x2, rp2, ru, b⟩ | z
  · exact .inl ⟨a, us.set i (some u), G', x1.trans x2, rp2, RelS.set ru i ((rs.ext x1 rp).ext x2 rp1), b⟩
  · exact .inr z
end
end UL
set_option maxHeartbeats 400000
namespace UL
open PySem PySem.Spec PyProof.Rows L2 PySem.W

section
variable {α : Type}
/-- the keywords' values behind the positional ones; none where one is refused -/
def kwAdd (names : List Str) : List (Str × α) → List (Str × α) → Option (List (Str × α))
  | slots, [] => some slots
  | slots, (k, v) :: r => if names.contains k then (if (slots.lookup k).isSome then none else kwAdd names (slots ++ [(k, v)]) r) else none
def dfAdd : List (Str × α) → List (Str × α) → List (Str × α)
  | slots, [] => slots
  | slots, (k, v) :: r => dfAdd (if (slots.lookup k).isNone then slots ++ [(k, v)] else slots) r
def kdAdd (kd : List (Str × α)) : List (Str × α) → List Str → Option (List (Str × α))
  | slots, [] => some slots
  | slots, k :: r => if (slots.lookup k).isNone then (match kd.lookup k with
    | some v => kdAdd kd (slots ++ [(k, v)]) r
    | none => none) else kdAdd kd slots r
def getAll (slots : List (Str × α)) : List Str → Option (List α)
  | [] => some []
  | n :: r => match slots.lookup n, getAll slots r with
    | some v, some vs => some (v :: vs)
    | _, _ => none
def bindV (normal kwonly : List Str) (us : List α) (kws : List (Str × α)) (dv : List α) (kd : List (Str × α)) : Option (List α) :=
  if us.length ≤ normal.length ∧ dv.length ≤ normal.length then
    match kwAdd (normal ++ kwonly) (normal.zip us) kws with
    | none => none
    | some s1 => if ((normal.take (normal.length - dv.length)).filter fun n => (s1.lookup n).isNone).isEmpty then
        match kdAdd kd (dfAdd s1 ((normal.drop (normal.length - dv.length)).zip dv)) kwonly with
        | none => none
        | some s2 => getAll s2 (normal ++ kwonly)
      else none
  else none
end
theorem getAll_zip {α : Type} {slots : List (Str × α)} : ∀ {ns : List Str} {vs : List α}, getAll slots ns = some vs → (ns.filterMap fun n => (slots.lookup n).map (n, ·)) = ns.zip vs
  | [], vs, h => by
    cases h
    rfl
  | n :: ns, vs, h => by
    unfold getAll at h
    cases e1 : slots.lookup n with
    | none =>
      rw [e1] at h
      cases h
    | some v =>
      cases e2 : getAll slots ns with
      | none =>
        rw [e1, e2] at h
        cases h
      | some ws =>
        rw [e1, e2] at h
        cases h
        rw [List.filterMap_cons, e1]
        show (n, v) :: _ = _
        rw [getAll_zip e2]
        rfl
theorem looks_forIn {M : Model} {h : Heap} {α β : Type} {f : α → β → Sem (ForInStep β)} : ∀ (l : List α) (b r : β) (g : β → List α → β → Prop), (∀ b x l r, g b (x :: l) r → ∃ b', Looks M h (f x b) (.yield b') ∧ g b' l r) → (∀ b r, g b [] r → b = r) → g b l r → Looks M h (forIn l b f) r
  | [], b, r, g, _, h0, hh => by
    rw [List.forIn_nil, h0 b r hh]
    exact .now
  | x :: l, b, r, g, hs, h0, hh => by
    obtain ⟨b', e, h'⟩ := hs b x l r hh
    rw [List.forIn_cons]
    exact e.andThen (looks_forIn l b' r g hs h0 h')
theorem bind_gen {M : Model} {h : Heap} {fd : FuncData} {us : List Value} {kws : List (Str × Value)} {normal kwonly : List Str} {dv : List Value} {kd : List (Str × Value)} {zs : List Value}
    (h1 : fd.params.posonlyargs = []) (h2 : fd.params.args.map (·.arg) = normal) (h3 : fd.params.kwonlyargs.map (·.arg) = kwonly) (h4 : fd.params.vararg = none) (h5 : fd.params.kwarg = none)
    (hd : ∃ o : Option (Array Value), Looks M h (seqItems? fd.defaults) o ∧ (o.getD #[]).toList = dv)
    (hk : ∀ k v, kd.lookup k = some v → ∃ D, fd.kwdefaults = .ref D ∧ Looks M h (nsGet D k) (some v))
    (e : bindV normal kwonly us kws dv kd = some zs) : Looks M h (bindArgs fd ⟨us, kws⟩) ((normal ++ kwonly).zip zs) := by
  unfold bindV at e
  split at e
  · rename_i hl
    obtain ⟨hl1, hl2⟩ := hl
    split at e
    · cases e
    · rename_i s1 e1
      split at e
      · rename_i hm
        split at e
        · cases e
        · rename_i s2 e2
          obtain ⟨o, ho, eo⟩ := hd
          unfold bindArgs
          simp only [h1, h2, h3, h4, h5, List.map_nil, List.nil_append]
          refine Looks.andThen (a := (s1, [])) (looks_forIn _ _ _ (fun b l r => b.2 = [] ∧ r.2 = [] ∧ kwAdd (normal ++ kwonly) b.1 l = some r.1) ?_ ?_ ⟨rfl, rfl, e1⟩) ?_
          · rintro ⟨b1, b2⟩ ⟨k, v⟩ l ⟨r1, r2⟩ ⟨hb, hr, hh⟩
            dsimp only at hb hr hh
            subst hb hr
            unfold kwAdd at hh
            split at hh
            · rename_i hc
              split at hh
              · cases hh
              · rename_i hn
                refine ⟨(b1 ++ [(k, v)], []), ?_, rfl, rfl, hh⟩
                have hc' : (normal.contains k || kwonly.contains k) = true := by
                  rw [List.contains_append] at hc
                  exact hc
                simp only [hc', if_true]
                rw [if_neg hn]
                exact .now
            · cases hh
          · rintro ⟨b1, b2⟩ ⟨r1, r2⟩ ⟨hb, hr, hh⟩
            dsimp only at hb hr hh
            subst hb hr
            cases hh
            rfl
          · dsimp only
            refine ho.andThen ?_
            simp only [eo]
            have hg : (decide (us.length > normal.length) && (none : Option Arg).isNone) = false := by
              rw [decide_eq_false (by omega)]
              rfl
            rw [if_neg (by rw [hg]; exact Bool.false_ne_true)]
            have hdrop : List.drop (dv.length - normal.length) dv = dv := by
              rw [show dv.length - normal.length = 0 by omega]
              rfl
            simp only [hdrop]
            rw [if_neg (by rw [hm]; decide)]
            refine Looks.andThen (a := dfAdd s1 ((normal.drop (normal.length - dv.length)).zip dv)) (looks_forIn _ _ _ (fun b l r => dfAdd b l = r) ?_ ?_ rfl) ?_
            · rintro b ⟨k, v⟩ l r hh
              unfold dfAdd at hh
              refine ⟨_, ?_, hh⟩
              dsimp only
              split
              · exact .now
              · exact .now
            · intro b r hh
              exact hh
            · refine Looks.andThen (a := (s2, [])) (looks_forIn _ _ _ (fun b l r => b.2 = [] ∧ r.2 = [] ∧ kdAdd kd b.1 l = some r.1) ?_ ?_ ⟨rfl, rfl, e2⟩) ?_
              · rintro ⟨b1, b2⟩ k l ⟨r1, r2⟩ ⟨hb, hr, hh⟩
                dsimp only at hb hr hh
                subst hb hr
                unfold kdAdd at hh
                dsimp only
                split at hh
                · rename_i hn
                  rw [if_pos hn]
                  split at hh
                  · rename_i v hv
                    obtain ⟨D, eD, lD⟩ := hk k v hv
                    refine ⟨(b1 ++ [(k, v)], []), ?_, rfl, rfl, hh⟩
                    rw [eD]
                    exact lD.andThen .now
                  · cases hh
                · rename_i hn
                  rw [if_neg hn]
                  exact ⟨(b1, []), .now, rfl, rfl, hh⟩
              · rintro ⟨b1, b2⟩ ⟨r1, r2⟩ ⟨hb, hr, hh⟩
                dsimp only at hb hr hh
                subst hb hr
                cases hh
                rfl
              · dsimp only
                rw [if_neg (by decide)]
                exact .of_pure (by rw [getAll_zip e])
      · cases e
  · cases e
end UL
set_option maxHeartbeats 400000
namespace UL
open PySem PySem.Spec PyProof.Rows L2 PySem.W

structure RoomU (k : Nat) (A : Around) : Prop where
  rm : Room k A
  gd : A.guards = some []
theorem RoomU.mono {j k : Nat} {A : Around} (r : RoomU k A) (h : j ≤ k) : RoomU j A := ⟨r.rm.mono h, r.gd⟩
theorem RoomU.deeper {k : Nat} {A : Around} (r : RoomU (k + 1) A) (env : Env) : RoomU k (A.deeper env) := ⟨r.rm.deeper env, r.gd⟩
theorem RoomU.in1 {k : Nat} {A : Around} (r : RoomU (k + 1) A) : RoomU k A.in1 := ⟨r.rm.in1, r.gd⟩
theorem make_guards {A : Around} {C : Addr} {us : List Value} {kw : List (Str × Value)} (h : A.guards = some []) : (A.under (.builtin "type.__call__" ⟨.ref C :: us, kw⟩)).guards = some [] := by
  simp [Around.under, Code.guards, Code.isGuard, guardIds, pushGuards, h]
theorem RoomU.make {k : Nat} {A : Around} (r : RoomU (k + 1) A) (C : Addr) (us : List Value) (kw : List (Str × Value)) : RoomU k (A.under (.builtin "type.__call__" ⟨.ref C :: us, kw⟩)) := ⟨r.rm.make C us kw, make_guards r.gd⟩

abbrev USp := List U → Gp → UK → UX → Prop
structure FnU (P : Program) (w : World) (K : PySem.W.Frag) (mg : Str → Option Value) (base : Heap) (k : Nat) (f : Addr) (fd : FuncData) (ps : List Str) (sp : USp) : Prop where
  run : ∀ (A : Around) (outer : List Env) (s : Shared) (H : Hp) (args : Args) (us : List Value) (vs : List V) (ws : List U) (G : Gp) (Q : UK) (E : UX), RoomU k A → Env0 P w K mg base A outer s H → BindsTo s fd args (ps.zip us) →
    Vals vs us → RelUs K H ws vs → ws.length = ps.length → Rep K H G → sp ws G Q E → codeAny (model P w) A (.call (.ref f) args) (CR (L2.CX P w) outer P w H s (LV K H G Q) (LX K H G E)) s
theorem FnU.mono {P : Program} {w : World} {K : PySem.W.Frag} {mg : Str → Option Value} {base : Heap} {j k : Nat} {f : Addr} {fd : FuncData} {ps : List Str} {sp : USp} (F : FnU P w K mg base j f fd ps sp) (h : j ≤ k) : FnU P w K mg base k f fd ps sp :=
  ⟨fun A outer s H args us vs ws G Q E hr => F.run A outer s H args us vs ws G Q E (hr.mono h)⟩

def ustart (n : Nat) (ws : List U) : USt := ws.map some ++ List.replicate (n - ws.length) none
theorem RelS.nones {K : PySem.W.Frag} {H : Hp} : ∀ m : Nat, RelS K H (List.replicate m none) (List.replicate m none)
  | 0 => rfl
  | m + 1 => by
    rw [List.replicate_succ, List.replicate_succ]
    exact ⟨none, List.replicate m none, rfl, RelS.nones m⟩
theorem relS_start {K : PySem.W.Frag} {H : Hp} {n : Nat} {N : List Str} (hn : N.length = n) {ws : List U} {vs : List V} (h : RelUs K H ws vs) : RelS K H (ustart n ws) (L2.start N vs) := by
  have go : ∀ (m : Nat) {ws : List U} {vs : List V}, RelUs K H ws vs → RelS K H (ws.map some ++ List.replicate m none) (vs.map some ++ List.replicate m none) := by
    intro m ws
    induction ws with
    | nil =>
      intro vs h
      have e : vs = [] := h
      subst e
      exact RelS.nones m
    | cons w ws ih =>
      intro vs h
      obtain ⟨v, r, rfl, h1, h2⟩ := h
      exact ⟨v, _, rfl, h1, ih h2⟩
  unfold ustart L2.start
  rw [h.length, hn]
  exact go _ h

/-- a part of what is known -/
def Sub (G2 G1 : Gp) : Prop := ∀ a o, G2 a = some o → G1 a = some o
theorem Sub.refl (G : Gp) : Sub G G := fun _ _ h => h
theorem Sub.trans {G1 G2 G3 : Gp} (x : Sub G1 G2) (y : Sub G2 G3) : Sub G1 G3 := fun a o h => y a o (x a o h)
theorem Sub.rep {K : PySem.W.Frag} {H : Hp} {G1 G2 : Gp} (x : Sub G2 G1) (r : Rep K H G1) : Rep K H G2 := fun a o h => r a o (x a o h)
theorem Sub.ext {H H' : Hp} {G G1 G2 : Gp} (x : Sub G2 G1) (e : Ext H G H' G1) : Ext H G H' G2 := fun a o h g => by
  obtain ⟨h1, h2⟩ := e a o h g
  refine ⟨h1, ?_⟩
  cases z : G2 a with
  | none => rfl
  | some u =>
    rw [x a u z] at h2
    cases h2
/-- at the end a def may forget -/
def KF (Q : UK) : UK := fun u G => ∃ G2, Sub G2 G ∧ Q u G2
theorem KF.now {Q : UK} {u : U} {G : Gp} (h : Q u G) : KF Q u G := ⟨G, .refl G, h⟩
theorem lv_forget {K : PySem.W.Frag} {H H' : Hp} {G : Gp} {Q : UK} {v : V} : LV K H G (KF Q) v H' → LV K H G Q v H' := fun ⟨u, G', x, r, ru, G2, s, q⟩ => ⟨u, G2, s.ext x, s.rep r, ru, q⟩
def KX (E : UX) : UX := fun x G => ∃ G2, Sub G2 G ∧ E x G2
theorem KX.now {E : UX} {x : UExc} {G : Gp} (h : E x G) : KX E x G := ⟨G, .refl G, h⟩
theorem KX.of {E : UX} {x : UExc} {G G2 : Gp} (s : Sub G2 G) (h : E x G2) : KX E x G := ⟨G2, s, h⟩
def endsU (Q : UK) (E : UX) : UEnds := { nx := fun _ G => KF Q .non G, rt := KF Q, bk := fun _ _ => False, ct := fun _ _ => False, ex := fun x _ G => KX E x G }
/-- the frame of a def's body -/
abbrev wOf (K : PySem.W.Frag) (H : Hp) (G : Gp) (E : UX) : WX := fun c d _ H' => LX K H G E c d H'
abbrev cxU (P : Program) (w : World) (K : PySem.W.Frag) (mg : Str → Option Value) (base : Heap) (N : List Str) (qual : Str) (scope : Scope) (f : Addr) (cdv : Value) (A : Around) (outer : List Env) (s : Shared) (H : Hp) (E : XK) : Cx :=
  cxOf (L2.CX P w) P w K mg base N qual scope f cdv A outer s H E
theorem takes_u {P : Program} {w : World} {K : PySem.W.Frag} {mg : Str → Option Value} {base : Heap} {N : List Str} {qual : Str} {scope : Scope} {f : Addr} {cdv : Value} {A : Around} {outer : List Env} {s : Shared} {H : Hp} {G : Gp} {E : UX} :
    Takes (cxU P w K mg base N qual scope f cdv A outer s H (LX K H G E)) (wOf K H G E) := takes_of rfl rfl rfl rfl

theorem fn_u {P : Program} {w : World} {K : PySem.W.Frag} {mg : Str → Option Value} {base : Heap} {k n : Nat} {f : Addr} {fd : FuncData} {name qual : Str} {params : Arguments} {body : List Stmt} {scope : Scope} {dvs : List V} {kws : List (Str × V)} {N ps : List Str} {sp : USp} {t : UTS}
    (F : FunD K name qual params body scope dvs kws f fd) (S : FnScope N ps scope) (hn : N.length = n)
    (hb : ∀ (cdv : Value) (A : Around) (outer : List Env) (s : Shared) (H : Hp) (G : Gp) (E : UX), RoomU k (A.deeper (envOfC qual scope s.heap.objs.size f cdv)) →
      SsU (cxU P w K mg base N qual scope f cdv A outer s H (LX K H G E)) (wOf K H G E) body t)
    (hsp : ∀ ws G Q E, sp ws G Q E → ws.length = ps.length → t (endsU Q E) (ustart n ws) G) : FnU P w K mg base (k + 1) f fd ps sp := by
  obtain ⟨oc, od, dV, kV, doc, pm, an, cdv, ct, osl, rfl, lk, hcd, _, _⟩ := F.ex
  refine ⟨fun A outer s H args us vs ws G Q E room at0 binds rv ru hlen rp want => ?_⟩
  have hvs : vs.length = ps.length := ru.length.trans hlen
  have inK : K.In s.heap := at0.mod.kin.keeps fun b o e => (at0.bs b o e).1
  have noLim : s.heap.NoLimit := at0.mod.nolimit.keeps fun b o e => (at0.bs b o e).1
  refine codeAny_call_function room.rm.depth (inK _ _ lk) rfl S.co S.gen rfl (PySem.W.codeRec_of inK hcd) (binds _ _ _ _ ?_)
  refine wpAny_newFunctionEnv_cells S.kind (fun q hq => ?_) fun env he s1 x => ?_
  · rcases S.par q.1 (List.of_mem_zip (show (q.1, q.2) ∈ ps.zip us from hq)).1 with z | z
    · exact .inl z
    · exact .inr ⟨z, PySem.W.cellsFrom_some _ _ _ (.inl z)⟩
  subst he
  refine ⟨noLim.keeps x.toInCall.keep, codeAny_func ?_⟩
  have I0 : Inv (cxU P w K mg base N qual scope f cdv A outer s H (LX K H G E)) [] (L2.start N vs) H s1 := inv_start S room.rm.hd at0 hvs rv x
  have body_ := (hb cdv A outer s H G E (room.deeper _)).run [] s1 (L2.start N vs) H (ustart n ws) G (endsU Q E) I0 (relS_start hn ru) rp (hsp ws G Q E want hlen)
    fun c d σ' H' ⟨y, us', G', x1, rp', _, q, G2, sb, z⟩ => ⟨y, G2, sb.ext x1, sb.rep rp', q, z⟩
  have done_ : ∀ {σ' : L2.St} {H' : Hp} {v : V} {u : Value} {s' : Shared}, Inv (cxU P w K mg base N qual scope f cdv A outer s H (LX K H G E)) [] σ' H' s' → RelV v u → LV K H G (KF Q) v H' → L2.CE outer P w H s (LV K H G Q) u s' :=
    fun {σ' H' v u s'} J r q => ⟨v, H', J.os, J.bare, J.base, J.hok, r, lv_forget q⟩
  refine wpAny_mono body_ (fun fl s' hs => ?_) fun e s' hs => hs
  cases fl with
  | next =>
    obtain ⟨σ', H', J, us', G', x1, rp', _, q⟩ := hs
    exact done_ (v := V.non) (u := Value.none) J rfl ⟨.non, G', x1, rp', rfl, q⟩
  | ret u =>
    obtain ⟨v, σ', H', J, r, q⟩ := hs
    exact done_ J r q
  | brk =>
    obtain ⟨_, _, _, _, _, _, _, _, q⟩ := hs
    exact q.elim
  | cont =>
    obtain ⟨_, _, _, _, _, _, _, _, q⟩ := hs
    exact q.elim
end UL
set_option maxHeartbeats 400000
namespace UL
open PySem PySem.Spec PyProof.Rows L2 PySem.W

inductive Src where | p (i : Nat) | k (i : Nat) | d (i : Nat) | q (i : Nat)
  deriving DecidableEq
def Src.get {α : Type} (z : α) (us ws dv kv : List α) : Src → α
  | .p i => us.getD i z
  | .k i => ws.getD i z
  | .d i => dv.getD i z
  | .q i => kv.getD i z
section
variable {α β : Type} (f : α → β)
def mp (l : List (Str × α)) : List (Str × β) := l.map fun q => (q.1, f q.2)
theorem lookup_mp (k : Str) : ∀ l : List (Str × α), (mp f l).lookup k = (l.lookup k).map f
  | [] => rfl
  | (a, b) :: r => by
    show List.lookup k ((a, f b) :: mp f r) = _
    rw [List.lookup_cons, List.lookup_cons]
    cases h : k == a with
    | true => simp [h]
    | false => simp [h, lookup_mp k r]
theorem mp_append (l r : List (Str × α)) : mp f (l ++ r) = mp f l ++ mp f r := List.map_append
theorem zip_mp (l : List Str) (r : List α) : l.zip (r.map f) = mp f (l.zip r) := by
  unfold mp
  induction l generalizing r with
  | nil => rfl
  | cons a l ih =>
    cases r with
    | nil => rfl
    | cons b r => simp [ih]
theorem kwAdd_mp (names : List Str) : ∀ (ks s : List (Str × α)), kwAdd names (mp f s) (mp f ks) = (kwAdd names s ks).map (mp f)
  | [], s => rfl
  | (k, v) :: r, s => by
    show (if names.contains k then (if ((mp f s).lookup k).isSome then none else kwAdd names (mp f s ++ [(k, f v)]) (mp f r)) else none) = _
    rw [lookup_mp, Option.isSome_map, show mp f s ++ [(k, f v)] = mp f (s ++ [(k, v)]) from (mp_append f s [(k, v)]).symm, kwAdd_mp names r]
    rw [kwAdd]
    split
    · split <;> rfl
    · rfl
theorem dfAdd_mp : ∀ (ks s : List (Str × α)), dfAdd (mp f s) (mp f ks) = mp f (dfAdd s ks)
  | [], s => rfl
  | (k, v) :: r, s => by
    show dfAdd (if ((mp f s).lookup k).isNone then mp f s ++ [(k, f v)] else mp f s) (mp f r) = _
    rw [lookup_mp, Option.isNone_map, show mp f s ++ [(k, f v)] = mp f (s ++ [(k, v)]) from (mp_append f s [(k, v)]).symm]
    rw [dfAdd]
    split
    · exact dfAdd_mp r _
    · exact dfAdd_mp r _
theorem kdAdd_mp (kd : List (Str × α)) : ∀ (ks : List Str) (s : List (Str × α)), kdAdd (mp f kd) (mp f s) ks = (kdAdd kd s ks).map (mp f)
  | [], s => rfl
  | k :: r, s => by
    rw [kdAdd, kdAdd, lookup_mp, lookup_mp, Option.isNone_map]
    split
    · cases kd.lookup k with
      | none => rfl
      | some v =>
        show kdAdd (mp f kd) (mp f s ++ [(k, f v)]) r = _
        rw [show mp f s ++ [(k, f v)] = mp f (s ++ [(k, v)]) from (mp_append f s [(k, v)]).symm]
        exact kdAdd_mp kd r _
    · exact kdAdd_mp kd r s
theorem getAll_mp (s : List (Str × α)) : ∀ ks : List Str, getAll (mp f s) ks = (getAll s ks).map (List.map f)
  | [] => rfl
  | k :: r => by
    rw [getAll, getAll, lookup_mp, getAll_mp s r]
    cases s.lookup k <;> cases getAll s r <;> rfl
theorem bindV_mp (normal kwonly : List Str) (us : List α) (kws : List (Str × α)) (dv : List α) (kd : List (Str × α)) :
    bindV normal kwonly (us.map f) (mp f kws) (dv.map f) (mp f kd) = (bindV normal kwonly us kws dv kd).map (List.map f) := by
  unfold bindV
  rw [List.length_map, List.length_map, zip_mp, kwAdd_mp, zip_mp]
  split
  · cases kwAdd (normal ++ kwonly) (normal.zip us) kws with
    | none => rfl
    | some s1 =>
      dsimp only [Option.map]
      have e : (List.filter (fun n => (List.lookup n (mp f s1)).isNone) (List.take (normal.length - dv.length) normal)) = (List.filter (fun n => (List.lookup n s1).isNone) (List.take (normal.length - dv.length) normal)) := by
        congr 1
        funext n
        rw [lookup_mp, Option.isNone_map]
      rw [e, dfAdd_mp, kdAdd_mp]
      split
      · cases kdAdd kd (dfAdd s1 ((normal.drop (normal.length - dv.length)).zip dv)) kwonly with
        | none => rfl
        | some s2 => exact getAll_mp f s2 _
      · rfl
  · rfl
end
theorem range_get {α : Type} (z : α) (us : List α) {n : Nat} (h : us.length = n) : (List.range n).map (fun i => us.getD i z) = us := by
  apply List.ext_getElem
  · simp [h]
  · intro i h1 h2
    simp [List.getElem?_eq_getElem h2]
def planOf (normal kwonly : List Str) (n : Nat) (ks : List Str) (a : Nat) (kn : List Str) : Option (List Src) :=
  bindV normal kwonly ((List.range n).map .p) (ks.zip ((List.range ks.length).map .k)) ((List.range a).map .d) (kn.zip ((List.range kn.length).map .q))
theorem bindV_plan {α : Type} (z : α) {normal kwonly : List Str} {n a : Nat} {ks kn : List Str} {pl : List Src} (e : planOf normal kwonly n ks a kn = some pl) {us ws dv kv : List α} (h1 : us.length = n) (h2 : ws.length = ks.length) (h3 : dv.length = a) (h4 : kv.length = kn.length) :
    bindV normal kwonly us (ks.zip ws) dv (kn.zip kv) = some (pl.map (Src.get z us ws dv kv)) := by
  have q := bindV_mp (Src.get z us ws dv kv) normal kwonly ((List.range n).map Src.p) (ks.zip ((List.range ks.length).map .k)) ((List.range a).map .d) (kn.zip ((List.range kn.length).map .q))
  rw [show bindV normal kwonly ((List.range n).map Src.p) (ks.zip ((List.range ks.length).map .k)) ((List.range a).map .d) (kn.zip ((List.range kn.length).map .q)) = some pl from e] at q
  rw [← zip_mp, ← zip_mp, List.map_map, List.map_map, List.map_map, List.map_map] at q
  rw [show (List.range n).map (Src.get z us ws dv kv ∘ Src.p) = us from range_get z us h1, show (List.range ks.length).map (Src.get z us ws dv kv ∘ Src.k) = ws from range_get z ws h2,
    show (List.range a).map (Src.get z us ws dv kv ∘ Src.d) = dv from range_get z dv h3, show (List.range kn.length).map (Src.get z us ws dv kv ∘ Src.q) = kv from range_get z kv h4] at q
  exact q
theorem paired_getD {α β : Type} {R : α → β → Prop} {z : α} {y : β} (h0 : R z y) : ∀ {l : List α} {r : List β} (i : Nat), Paired R l r → R (l.getD i z) (r.getD i y)
  | _, _, i, .nil => by simpa using h0
  | _, _, 0, .cons h _ => by simpa using h
  | _, _, i + 1, .cons _ t => by simpa using paired_getD h0 i t
theorem RelUs.getD {K : PySem.W.Frag} {H : Hp} : ∀ {us : List U} {vs : List V} (i : Nat), RelUs K H us vs → RelU K H (us.getD i .non) (vs.getD i .non)
  | [], _, i, e => by
    have e' : _ = ([] : List V) := e
    subst e'
    simp [RelU]
  | _ :: _, _, 0, ⟨v, ws, rfl, h, t⟩ => by simpa using h
  | _ :: us, _, i + 1, ⟨v, ws, rfl, h, t⟩ => by simpa using RelUs.getD i t
theorem plan_vals {us ws dv kv : List Value} {vs zs d q : List V} (h1 : Vals vs us) (h2 : Vals zs ws) (h3 : Vals d dv) (h4 : Vals q kv) : ∀ pl : List Src, Vals (pl.map (Src.get .non vs zs d q)) (pl.map (Src.get .none us ws dv kv))
  | [] => .nil
  | .p i :: pl => .cons (paired_getD (R := RelV) (z := V.non) (y := Value.none) rfl i h1) (plan_vals h1 h2 h3 h4 pl)
  | .k i :: pl => .cons (paired_getD (R := RelV) (z := V.non) (y := Value.none) rfl i h2) (plan_vals h1 h2 h3 h4 pl)
  | .d i :: pl => .cons (paired_getD (R := RelV) (z := V.non) (y := Value.none) rfl i h3) (plan_vals h1 h2 h3 h4 pl)
  | .q i :: pl => .cons (paired_getD (R := RelV) (z := V.non) (y := Value.none) rfl i h4) (plan_vals h1 h2 h3 h4 pl)
theorem plan_rel {K : PySem.W.Frag} {H : Hp} {us ws dv kv : List U} {vs zs d q : List V} (h1 : RelUs K H us vs) (h2 : RelUs K H ws zs) (h3 : RelUs K H dv d) (h4 : RelUs K H kv q) : ∀ pl : List Src, RelUs K H (pl.map (Src.get .non us ws dv kv)) (pl.map (Src.get .non vs zs d q))
  | [] => rfl
  | .p i :: pl => ⟨_, _, rfl, h1.getD i, plan_rel h1 h2 h3 h4 pl⟩
  | .k i :: pl => ⟨_, _, rfl, h2.getD i, plan_rel h1 h2 h3 h4 pl⟩
  | .d i :: pl => ⟨_, _, rfl, h3.getD i, plan_rel h1 h2 h3 h4 pl⟩
  | .q i :: pl => ⟨_, _, rfl, h4.getD i, plan_rel h1 h2 h3 h4 pl⟩

def parN (p : Arguments) : List Str := p.args.map (·.arg)
def parK (p : Arguments) : List Str := p.kwonlyargs.map (·.arg)
/-- no parameter behind a slash, none starred -/
structure Plain (p : Arguments) : Prop where
  po : p.posonlyargs = []
  va : p.vararg = none
  kw : p.kwarg = none
theorem lookup_zip_mem {α : Type} {k : Str} {v : α} : ∀ {ks : List Str} {vs : List α}, (ks.zip vs).lookup k = some v → (k, v) ∈ ks.zip vs
  | [], _, h => by simp at h
  | _ :: _, [], h => by simp at h
  | a :: ks, b :: vs, h => by
    rw [List.zip_cons_cons, List.lookup_cons] at h
    cases e : k == a with
    | true =>
      rw [e] at h
      cases h
      rw [beq_iff_eq.mp e]
      exact List.mem_cons_self
    | false =>
      rw [e] at h
      exact List.mem_cons_of_mem _ (lookup_zip_mem h)
/-- how a call with n positional values and keywords ks binds the parameters of the def -/
structure BindU (K : PySem.W.Frag) (fd : FuncData) (ps : List Str) (n : Nat) (ks : List Str) (pl : List Src) (dvs kvs : List V) : Prop where
  ex : ∃ dv kv : List Value, Vals dvs dv ∧ Vals kvs kv ∧ ∀ (s : Shared) (us ws : List Value), K.In s.heap → us.length = n → ws.length = ks.length → BindsTo s fd ⟨us, ks.zip ws⟩ (ps.zip (pl.map (Src.get .none us ws dv kv)))
theorem bind_u {K : PySem.W.Frag} {name qual : Str} {params : Arguments} {body : List Stmt} {scope : Scope} {dvs : List V} {kws : List (Str × V)} {f : Addr} {fd : FuncData} {n : Nat} {ks : List Str} {pl : List Src}
    (F : FunD K name qual params body scope dvs kws f fd) (hp : Plain params) (e : planOf (parN params) (parK params) n ks dvs.length (kws.map (·.1)) = some pl) :
    BindU K fd (parN params ++ parK params) n ks pl dvs (kws.map (·.2)) := by
  obtain ⟨oc, od, dV, kV, doc, pm, an, cdv, ct, osl, rfl, lk, hcd, hD, hK⟩ := F.ex
  have hd : ∃ dv : List Value, Vals dvs dv ∧ ∀ (M : Model) (h : Heap), K.In h → ∃ o : Option (Array Value), Looks M h (seqItems? dV) o ∧ (o.getD #[]).toList = dv := by
    rcases hD with ⟨rfl, rfl⟩ | ⟨_, T, o, its, m, rfl, lT, oT, rT⟩
    · exact ⟨[], .nil, fun M h _ => ⟨none, .of_pure rfl, rfl⟩⟩
    · refine ⟨its, rT, fun M h X => ⟨some its.toArray, fun A Q E s kp q => ?_, by simp⟩⟩
      exact wpAny_seqItems (kp _ _ (X _ _ lT)) oT q
  have hk : ∃ kv : List Value, Vals (kws.map (·.2)) kv ∧ ∀ (M : Model) (h : Heap), K.In h → ∀ k v, ((kws.map (·.1)).zip kv).lookup k = some v → ∃ D, kV = .ref D ∧ Looks M h (nsGet D k) (some v) := by
    rcases hK with rfl | ⟨D, rfl, hq⟩
    · exact ⟨[], .nil, fun M h _ k v z => by simp at z⟩
    · obtain ⟨kv, _, rk, hks⟩ := kwd_vals hq
      exact ⟨kv, rk, fun M h X k v z => ⟨D, rfl, looks_nsIn X (hks (k, v) (lookup_zip_mem z))⟩⟩
  obtain ⟨dv, rd, hd⟩ := hd
  obtain ⟨kv, rk, hk⟩ := hk
  refine ⟨dv, kv, rd, rk, fun s us ws X l1 l2 => BindsTo.of_looks fun M => ?_⟩
  exact bind_gen (fd := PySem.W.fnOf name qual params body scope dV kV doc pm an cdv ct) hp.po rfl rfl hp.va hp.kw (hd M _ X) (hk M _ X) (bindV_plan .none e l1 l2 rd.length.symm (by rw [← rk.length, List.length_map, List.length_map]))
end UL
set_option maxHeartbeats 400000
namespace UL
open PySem PySem.Spec PyProof.Rows L2 PySem.W

structure KU (X : Cx) (W : WX) (kws : List Keyword) (t : UTA) : Prop where
  run : ∀ (pos : Pos) (pins : List (Addr × Obj)) (s : Shared) (σ : L2.St) (H : Hp) (us : USt) (G : Gp) (Q : List U → Gp → Prop) (E : UX), Inv X pins σ H s → RelS X.K H us σ → Rep X.K H G → t us G Q E →
    (∀ c d H', LX X.K H G E c d H' → W c d σ H') → wpAny (model X.prog X.w) X.A (evalAll ((backToKw pos (keywordEach kws X.env)).map (·.2))) (AP X pins σ (LA X.K H G Q)) X.xe s
section
variable {X : Cx} {W : WX} {e : Expr} {es : List Expr} {kws : List Keyword} {te : UTE} {t tk ta : UTA} {nm : Option Str} {pos p kpos apos : Pos}
theorem ku_nil : KU X W [] tUNil := ⟨fun _ _ s σ H us G Q E I rs rp h _ => wpAny_evalAll_nil ⟨[], H, I, .nil, [], G, .refl _ _, rp, rfl, h⟩⟩
theorem ku_cons (ha : EU X W e te) (hr : KU X W kws t) : KU X W (⟨nm, e, kpos⟩ :: kws) (tUCons te t) := by
  refine ⟨fun pos pins s σ H us G Q E I rs rp h hx => ?_⟩
  show wpAny _ _ (evalAll ((do let v ← eval e X.env; standAt pos; pure v) :: (backToKw pos (keywordEach kws X.env)).map (·.2))) _ _ s
  refine wpAny_evalAll_cons (wpAny_bind (thn (ha.run pins s σ H us G _ E I rs rp h hx) fun u s1 ⟨x, H1, I1, r1, w, G1, x1, rp1, ru, q1⟩ => wpAny_bind (wpAny_standAt (wpAny_pure ?_))))
  refine thn (hr.run pos pins s1 σ H1 us G1 _ E I1 (rs.ext x1 rp) rp1 q1 fun c d H' z => hx c d H' (z.trans x1)) fun vs s2 ⟨xs, H2, I2, r2, ws, G2, x2, rp2, ru2, q2⟩ => ?_
  exact ⟨x :: xs, H2, I2, .cons r1 r2, w :: ws, G2, x1.trans x2, rp2, ⟨x, xs, rfl, ru.ext x2 rp1, ru2⟩, q2⟩

/-- the first argument is not starred; no argument: no value -/
def Unst (env : Env) : List Expr → UTA → Prop
  | [], t => ∀ us G Q E, t us G Q E → Q [] G
  | e :: r, _ => starEach (e :: r) env = (false, eval e env) :: starEach r env
theorem unst_nil {env : Env} : Unst env [] tUNil := fun _ _ _ _ h => h
/-- values come, then the callee runs -/
theorem call_with {f : Value} {first : List Value} {ks : List Str} (hk : PySem.W.keepIn X.K f = true) (ha : AU X W es ta) (hkw : KU X W kws tk) (hst : Unst X.env es ta)
    (hall : (backToKw pos (keywordEach kws X.env)).all (·.1.isSome) = true) (hks : (backToKw pos (keywordEach kws X.env)).filterMap (·.1) = ks)
    (hpl : ((backTo pos (starEach es X.env)).any (·.1) || (backToKw pos (keywordEach kws X.env)).any (·.1.isNone)) = false)
    {pins : List (Addr × Obj)} {s : Shared} {σ : L2.St} {H : Hp} {us : USt} {G : Gp} {R : List U → List U → Gp → Prop} {Q : Value → Shared → Prop} {E : UX} (I : Inv X pins σ H s) (rs : RelS X.K H us σ) (rp : Rep X.K H G)
    (h : ta us G (fun vs G1 => tk us G1 (fun zs G2 => R vs zs G2) E) E) (hx : ∀ c d H', LX X.K H G E c d H' → W c d σ H')
    (go : ∀ (s2 : Shared) (H2 : Hp) (G2 : Gp) (vs zs : List U) (vv zv : List V) (vl zl : List Value), Inv X pins σ H2 s2 → Ext H G H2 G2 → Rep X.K H2 G2 → Vals vv vl → Vals zv zl → RelUs X.K H2 vs vv → RelUs X.K H2 zs zv → R vs zs G2 →
      wpAny (model X.prog X.w) X.A (call f (first ++ vl) (ks.zip zl)) Q X.xe s2) :
    wpAny (model X.prog X.w) X.A (callWith pos f first (backTo pos (starEach es X.env)) (backToKw pos (keywordEach kws X.env))) Q X.xe s := by
  have kwp : ∀ {s1 : Shared} {H1 : Hp} {G1 : Gp} {vs : List U} {vv : List V} {vl : List Value}, Inv X pins σ H1 s1 → Ext H G H1 G1 → Rep X.K H1 G1 → Vals vv vl → RelUs X.K H1 vs vv → tk us G1 (fun zs G2 => R vs zs G2) E →
      wpAny (model X.prog X.w) X.A (evalAll ((backToKw pos (keywordEach kws X.env)).map (·.2))) (fun zl s2 => X.K.In s2.heap ∧ wpAny (model X.prog X.w) X.A (call f (first ++ vl) (((backToKw pos (keywordEach kws X.env)).filterMap (·.1)).zip zl)) Q X.xe s2) X.xe s1 := by
    intro s1 H1 G1 vs vv vl I1 x1 rp1 rv ru q
    refine thn (hkw.run pos pins s1 σ H1 us G1 _ E I1 (rs.ext x1 rp) rp1 q fun c d H' z => hx c d H' (z.trans x1)) fun zl s2 ⟨zv, H2, I2, rz, zs, G2, x2, rp2, ru2, q2⟩ => ⟨I2.kIn, ?_⟩
    rw [hks]
    exact go s2 H2 G2 vs zs vv zv vl zl I2 (x1.trans x2) rp2 rv rz (ru.ext x2 rp1) ru2 q2
  cases es with
  | nil =>
    refine PySem.W.callWith_KW0 (h₀ := X.base) I.ok.mod.kin hk hall ?_ hpl
    exact kwp (vs := []) (vv := []) (vl := []) I (.refl _ _) rp .nil rfl (hst _ _ _ _ h)
  | cons e r =>
    exact PySem.W.callWith_KW (h₀ := X.base) I.ok.mod.kin hk hall (thn (ha.run pos pins s σ H us G _ E I rs rp h hx) fun vl s1 ⟨vv, H1, I1, rv, vs, G1, x1, rp1, ru, q⟩ => kwp I1 x1 rp1 rv ru q) hpl hst

variable {k n : Nat} {f : Addr} {fd : FuncData} {ps ks : List Str} {sp : USp} {pl : List Src} {dvs kvs : List V} {udv ukv : List U}
theorem run_uA {A : Around} {pins : List (Addr × Obj)} {s2 : Shared} {σ : L2.St} {H H2 : Hp} {G G2 : Gp} {Q : UK} {E : UX} {vs zs : List U} {vv zv : List V} {vl zl : List Value}
    (F : FnU X.prog X.w X.K X.mg X.base k f fd ps sp) (hr : RoomU k A) (frA : A.frames = some X.stack) (hb : BindU X.K fd ps n ks pl dvs kvs) (hd : ∀ H, RelUs X.K H udv dvs) (hk : ∀ H, RelUs X.K H ukv kvs) (tk : Takes X W)
    (I : Inv X pins σ H2 s2) (x : Ext H G H2 G2) (rp : Rep X.K H2 G2) (rv : Vals vv vl) (rz : Vals zv zl) (ru : RelUs X.K H2 vs vv) (ruz : RelUs X.K H2 zs zv) (l1 : vs.length = n) (l2 : zs.length = ks.length) (l3 : pl.length = ps.length)
    (h : sp (pl.map (Src.get .non vs zs udv ukv)) G2 Q E) (hx : ∀ c d H', LX X.K H G E c d H' → W c d σ H') :
    wpAny (model X.prog X.w) A (call (.ref f) vl (ks.zip zl)) (EP X pins σ (LV X.K H G Q)) X.xe s2 := by
  obtain ⟨dv, kv, rd, rk, bt⟩ := hb.ex
  have bt2 := bt s2 vl zl I.kIn (by rw [← rv.length, ru.length, l1]) (by rw [← rz.length, ruz.length, l2])
  have lv := plan_vals rv rz rd rk pl
  have lu := plan_rel ru ruz (hd H2) (hk H2) pl
  refine wpAny_call (codeAny_mono (F.run A X.stack s2 H2 ⟨vl, ks.zip zl⟩ _ _ _ G2 Q E hr ⟨frA, I.env0.mod, I.env0.bs, I.env0.bsz, I.env0.funs, I.env0.frf, I.env0.hok, I.env0.bare⟩ bt2 lv lu (by rw [List.length_map, l3]) rp h) fun r s' hq => ?_)
  cases r with
  | error e => exact tk e s' (XE.of_call I (fun c d H' z => hx c d H' (z.trans x)) hq)
  | ok fl =>
    cases fl with
    | ret u => exact ep_imp (fun v H' q => q.trans x) (I.after hq)
    | next => exact False.elim hq
    | brk => exact False.elim hq
    | cont => exact False.elim hq

theorem run_u {pins : List (Addr × Obj)} {s2 : Shared} {σ : L2.St} {H H2 : Hp} {G G2 : Gp} {Q : UK} {E : UX} {vs zs : List U} {vv zv : List V} {vl zl : List Value}
    (F : FnU X.prog X.w X.K X.mg X.base k f fd ps sp) (hr : RoomU k X.A) (hb : BindU X.K fd ps n ks pl dvs kvs) (hd : ∀ H, RelUs X.K H udv dvs) (hk : ∀ H, RelUs X.K H ukv kvs) (tk : Takes X W)
    (I : Inv X pins σ H2 s2) (x : Ext H G H2 G2) (rp : Rep X.K H2 G2) (rv : Vals vv vl) (rz : Vals zv zl) (ru : RelUs X.K H2 vs vv) (ruz : RelUs X.K H2 zs zv) (l1 : vs.length = n) (l2 : zs.length = ks.length) (l3 : pl.length = ps.length)
    (h : sp (pl.map (Src.get .non vs zs udv ukv)) G2 Q E) (hx : ∀ c d H', LX X.K H G E c d H' → W c d σ H') :
    wpAny (model X.prog X.w) X.A (call (.ref f) vl (ks.zip zl)) (EP X pins σ (LV X.K H G Q)) X.xe s2 :=
  run_uA F hr I.ok.frames hb hd hk tk I x rp rv rz ru ruz l1 l2 l3 h hx
def tUDef (sp : USp) (n m : Nat) (pl : List Src) (udv ukv : List U) (t tk : UTA) : UTE := fun us G Q E => t us G (fun vs G1 => tk us G1 (fun zs G2 => vs.length = n ∧ zs.length = m ∧ sp (pl.map (Src.get .non vs zs udv ukv)) G2 Q E) E) E
theorem eu_call {x : Str} (F : FnU X.prog X.w X.K X.mg X.base k f fd ps sp) (hr : RoomU k X.A) (hg : Gl X x) (hm : X.mg x = some (.ref f)) (hkp : PySem.W.keepIn X.K (.ref f) = true) (hb : BindU X.K fd ps n ks pl dvs kvs)
    (hd : ∀ H, RelUs X.K H udv dvs) (hk : ∀ H, RelUs X.K H ukv kvs) (hT : Takes X W) (l3 : pl.length = ps.length) (ha : AU X W es ta) (hkw : KU X W kws tk) (hst : Unst X.env es ta)
    (hall : (backToKw pos (keywordEach kws X.env)).all (·.1.isSome) = true) (hks : (backToKw pos (keywordEach kws X.env)).filterMap (·.1) = ks)
    (hpl : ((backTo pos (starEach es X.env)).any (·.1) || (backToKw pos (keywordEach kws X.env)).any (·.1.isNone)) = false) (hdb : (x == ("__debug__" : Str)) = false) :
    EU X W (.Call (.Name x p) es kws pos) (tUDef sp n ks.length pl udv ukv ta tk) := by
  refine ⟨fun pins s σ H us G Q E I rs rp h hx => ?_⟩
  refine wpAny_Call_Name_kw (ld_glob I hg hm ?_ hdb)
  refine call_with (first := []) hkp ha hkw hst hall hks hpl I rs rp h hx fun s2 H2 G2 vs zs vv zv vl zl I2 x2 rp2 rv rz ru ruz ⟨l1, l2, q⟩ => ?_
  exact run_u F hr hb hd hk hT I2 x2 rp2 rv rz ru ruz l1 l2 l3 q hx
end
end UL
set_option maxHeartbeats 400000
namespace UL
open PySem PySem.Spec PyProof.Rows L2

section
variable {K : PySem.W.Frag} {H : Hp} {G : Gp}
theorem relUs1 {u : U} {xs : List V} (h : RelUs K H [u] xs) : ∃ x, xs = [x] ∧ RelU K H u x := by
  obtain ⟨v, ws, rfl, h1, h2⟩ := h
  have e : ws = [] := h2
  subst e
  exact ⟨v, rfl, h1⟩
theorem relUs2 {u w : U} {xs : List V} (h : RelUs K H [u, w] xs) : ∃ x y, xs = [x, y] ∧ RelU K H u x ∧ RelU K H w y := by
  obtain ⟨v, ws, rfl, h1, h2⟩ := h
  obtain ⟨y, rfl, h3⟩ := relUs1 h2
  exact ⟨v, y, rfl, h1, h3⟩
end
def u1 (f : U → Gp → UK → Prop) : URC := fun as G Q _ => match as with
  | [u] => f u G Q
  | _ => False
def u2 (f : U → U → Gp → UK → Prop) : URC := fun as G Q _ => match as with
  | [u, w] => f u w G Q
  | _ => False
theorem u1_of {f : U → Gp → UK → Prop} {as : List U} {G : Gp} {Q : UK} {E : UX} (h : u1 f as G Q E) : ∃ u, as = [u] ∧ f u G Q := by
  rcases as with _ | ⟨a, _ | ⟨b, r⟩⟩
  · exact h.elim
  · exact ⟨a, rfl, h⟩
  · exact h.elim
theorem u2_of {f : U → U → Gp → UK → Prop} {as : List U} {G : Gp} {Q : UK} {E : UX} (h : u2 f as G Q E) : ∃ u w, as = [u, w] ∧ f u w G Q := by
  rcases as with _ | ⟨a, _ | ⟨b, _ | ⟨c, r⟩⟩⟩
  · exact h.elim
  · exact h.elim
  · exact ⟨a, b, rfl, h⟩
  · exact h.elim
def absV : U → Gp → UK → Prop := fun u G Q => match u with
  | .int i => Q (.int (if i < 0 then -i else i)) G
  | _ => False
def maxV : U → U → Gp → UK → Prop := fun u w G Q => match u, w with
  | .int i, .int j => Q (.int (if j > i then j else i)) G
  | _, _ => False
def minV : U → U → Gp → UK → Prop := fun u w G Q => match u, w with
  | .int i, .int j => Q (.int (if j < i then j else i)) G
  | _, _ => False
def intV : U → Gp → UK → Prop := fun u G Q => match u with
  | .int i => Q (.int i) G
  | .bl k => Q (.int (if k then 1 else 0)) G
  | _ => False
/-- the items of a list or tuple -/
def seqOf (G : Gp) : U → Option (List U)
  | .tup us => some us
  | .rol us => some us
  | .ref a => match G a with
    | some (.lst us) => some us
    | _ => none
  | _ => none
def lenV : U → Gp → UK → Prop := fun u G Q => match u with
  | .str l => l.length ≤ 1000000 ∧ Q (.int l.length) G
  | .ref a => (match G a with
    | some (.lst us) => Q (.int us.length) G
    | some (.dct us) => Q (.int us.length) G
    | _ => False)
  | .tup us => Q (.int us.length) G
  | .rol us => Q (.int us.length) G
  | _ => False
def tupleV : U → Gp → UK → Prop := fun u G Q => match seqOf G u with
  | some us => Q (.tup us) G
  | none => False
def listV : U → Gp → UK → Prop := fun u G Q => match seqOf G u with
  | some us => ∀ p, G p = none → Q (.ref p) (gup G p (.lst us))
  | none => False
/-- what repr shows of data: its text fits -/
def Shows (G : Gp) (u : U) (d : PyData) : Prop := Dat G u d ∧ d.showable = true ∧ d.depth ≤ 40 ∧ d.shown.length ≤ sizeLine
theorem seq_rel {K : PySem.W.Frag} {H : Hp} {G : Gp} {u : U} {x : V} {us : List U} (rp : Rep K H G) (r : RelU K H u x) (h : seqOf G u = some us) : ∃ p vs, x = .ref p ∧ RelUs K H us vs ∧ (SqL K H p vs ∨ (SqT K H p vs ∧ u = .tup us)) := by
  cases u with
  | tup ws =>
    cases h
    obtain ⟨a, vs, rfl, t, ru⟩ := r.tup_of
    exact ⟨a, vs, rfl, ru, .inr ⟨t, rfl⟩⟩
  | rol ws =>
    cases h
    obtain ⟨a, vs, rfl, t, ru⟩ := r
    exact ⟨a, vs, rfl, ru, .inl t.sq⟩
  | ref a =>
    have h' : (match G a with
      | some (.lst us) => some us
      | _ => none) = some us := h
    cases g : G a with
    | none => rw [g] at h'; cases h'
    | some o =>
      rw [g] at h'
      cases o with
      | lst ws =>
        cases h'
        obtain ⟨vs, e1, ru⟩ := rp.lst g
        exact ⟨a, vs, r, ru, .inl (.of e1)⟩
      | _ => cases h'
  | _ => cases h
theorem relKV_length {K : PySem.W.Frag} {H : Hp} : ∀ {us : List (U × U)} {vs : List (Key × V)}, RelKV K H us vs → vs.length = us.length
  | [], vs, h => by
    have e : vs = [] := h
    subst e
    rfl
  | _ :: us, _, ⟨_, _, ws, rfl, _, _, t⟩ => by
    show ws.length + 1 = us.length + 1
    rw [relKV_length t]
mutual
theorem Dp.noDict {K : PySem.W.Frag} {H : Hp} : ∀ (d : PyData) (v : V), Dp K H v d → d.hasDict = false
  | .none, _, _ => by simp only [PyData.hasDict]
  | .bool _, _, _ => by simp only [PyData.hasDict]
  | .int _, _, _ => by simp only [PyData.hasDict]
  | .str _, _, _ => by simp only [PyData.hasDict]
  | .list ds, _, h => by
    cases h with
    | lst _ ha =>
      simp only [PyData.hasDict]
      exact Dp.noDictAll ds _ ha
  | .tuple ds, _, h => by
    cases h with
    | tup _ ha =>
      simp only [PyData.hasDict]
      exact Dp.noDictAll ds _ ha
  | .dict _, _, h => by cases h
theorem Dp.noDictAll {K : PySem.W.Frag} {H : Hp} : ∀ (ds : List PyData) (vs : List V), DpAll K H vs ds → PyData.hasDictAll ds = false
  | [], _, _ => by simp only [PyData.hasDictAll]
  | d :: ds, _, h => by
    cases h with
    | cons h1 h2 => simp only [PyData.hasDictAll, Dp.noDict d _ h1, Dp.noDictAll ds _ h2, Bool.or_self]
end
section
variable {X : Cx} {W : WX}
theorem cu_abs : CallU X W (.builtin "abs") (u1 absV) := .of call_abs fun xs H as G Q E r rp h => by
  obtain ⟨u, rfl, q⟩ := u1_of h
  clear h
  obtain ⟨x, rfl, e⟩ := relUs1 r
  cases u <;> try exact q.elim
  case int i => exact ⟨i, by rw [show x = .int i from e], lv_int rp q⟩
theorem cu_max (hc : X.calm = true) : CallU X W (.builtin "max") (u2 maxV) := .of (call_max2 hc) fun xs H as G Q E r rp h => by
  obtain ⟨u, w, rfl, q⟩ := u2_of h
  clear h
  obtain ⟨x, y, rfl, e, e'⟩ := relUs2 r
  cases u <;> try exact q.elim
  cases w <;> try exact q.elim
  case int.int i j => exact ⟨i, j, by rw [show x = .int i from e, show y = .int j from e'], lv_int rp q⟩
theorem cu_min (hc : X.calm = true) : CallU X W (.builtin "min") (u2 minV) := .of (call_min2 hc) fun xs H as G Q E r rp h => by
  obtain ⟨u, w, rfl, q⟩ := u2_of h
  clear h
  obtain ⟨x, y, rfl, e, e'⟩ := relUs2 r
  cases u <;> try exact q.elim
  cases w <;> try exact q.elim
  case int.int i j => exact ⟨i, j, by rw [show x = .int i from e, show y = .int j from e'], lv_int rp q⟩
theorem cu_int : CallU X W (.type "int") (u1 intV) := .of call_int1 fun xs H as G Q E r rp h => by
  obtain ⟨u, rfl, q⟩ := u1_of h
  clear h
  obtain ⟨x, rfl, e⟩ := relUs1 r
  cases u <;> try exact q.elim
  case int i => exact .inl ⟨i, by rw [show x = .int i from e], lv_int rp q⟩
  case bl i => exact .inr ⟨i, by rw [show x = .bl i from e], lv_int rp q⟩
theorem cu_len : CallU X W (.builtin "len") (u1 lenV) := .of (call_len.or call_lenD) fun xs H as G Q E r rp h => by
  obtain ⟨u, rfl, q⟩ := u1_of h
  clear h
  obtain ⟨x, rfl, e⟩ := relUs1 r
  cases u <;> try exact q.elim
  case str l => exact .inl ⟨x, l.length, rfl, by rw [show x = .str ⟨l.toArray⟩ from e]; exact ⟨lim_line q.1, rfl⟩, lv_int rp q.2⟩
  case tup us =>
    obtain ⟨a, vs, rfl, t, ru⟩ := e.tup_of
    exact .inl ⟨_, us.length, rfl, .inr ⟨vs, t, ru.length.symm⟩, lv_int rp q⟩
  case rol us =>
    obtain ⟨a, vs, rfl, t, ru⟩ := e
    exact .inl ⟨_, us.length, rfl, .inl ⟨vs, t.sq, ru.length.symm⟩, lv_int rp q⟩
  case ref a =>
    have h' : (match G a with
      | some (.lst us) => Q (.int us.length) G
      | some (.dct us) => Q (.int us.length) G
      | _ => False) := q
    have ex : x = .ref a := e
    subst ex
    cases g : G a with
    | none =>
      rw [g] at h'
      exact h'.elim
    | some o =>
      rw [g] at h'
      cases o with
      | lst us =>
        obtain ⟨vs, e1, ru⟩ := rp.lst g
        exact .inl ⟨_, us.length, rfl, .inl ⟨vs, .of e1, ru.length.symm⟩, lv_int rp h'⟩
      | dct us =>
        obtain ⟨vs, e1, ru⟩ := rp.dct g
        exact .inr ⟨a, vs, rfl, e1, by rw [relKV_length ru]; exact lv_int rp h'⟩
      | dcr od gs kvs => exact h'.elim
      | ins c fs => exact h'.elim
theorem cu_tuple : CallU X W (.type "tuple") (u1 tupleV) := .of call_tuple_of fun xs H as G Q E r rp h => by
  obtain ⟨u, rfl, q⟩ := u1_of h
  clear h
  obtain ⟨x, rfl, e⟩ := relUs1 r
  unfold tupleV at q
  cases g : seqOf G u with
  | none => rw [g] at q; exact q.elim
  | some us =>
    rw [g] at q
    obtain ⟨p, vs, rfl, ru, t⟩ := seq_rel rp e g
    rcases t with t | ⟨t, _⟩
    · exact ⟨p, vs, rfl, .inl ⟨t, fun l hl => lv_tup rp ru hl q⟩⟩
    · exact ⟨p, vs, rfl, .inr ⟨t, lv_old rp t ru q⟩⟩
theorem cu_list : CallU X W (.type "list") (u1 listV) := .of call_list_of fun xs H as G Q E r rp h => by
  obtain ⟨u, rfl, q⟩ := u1_of h
  clear h
  obtain ⟨x, rfl, e⟩ := relUs1 r
  unfold listV at q
  cases g : seqOf G u with
  | none => rw [g] at q; exact q.elim
  | some us =>
    rw [g] at q
    obtain ⟨p, vs, rfl, ru, t⟩ := seq_rel rp e g
    exact ⟨p, vs, rfl, t.imp id (·.1), fun l hl => lv_lst rp ru hl (q l (rp.fresh hl))⟩
end
end UL
set_option maxHeartbeats 400000
namespace UL
open PySem PySem.Spec PyProof.Rows L2

abbrev URM := U → List U → Gp → UK → UX → Prop
theorem MtU.of {X : Cx} {W : WX} {id : String} {r : URM} {rv : V → List V → Hp → VK → Prop} (h : MtM X id rv) (k : ∀ x xs H a as G Q E, RelU X.K H a x → RelUs X.K H as xs → Rep X.K H G → r a as G Q E → rv x xs H (LV X.K H G Q)) : MtU X W id r :=
  fun pins s σ H x xs v us a as G Q E I rx rv' ra ras rp hr _ => h pins s σ H x xs v us _ I rx rv' (k x xs H a as G Q E ra ras rp hr)
/-- the receiver is a list -/
def onLst (f : Addr → List U → List U → Gp → UK → Prop) : URM := fun x as G Q _ => match x with
  | .ref a => match G a with
    | some (.lst us) => f a us as G Q
    | _ => False
  | _ => False
theorem onLst_of {f : Addr → List U → List U → Gp → UK → Prop} {x : U} {as : List U} {G : Gp} {Q : UK} {E : UX} (h : onLst f x as G Q E) : ∃ a us, x = .ref a ∧ G a = some (.lst us) ∧ f a us as G Q := by
  cases x <;> try exact h.elim
  case ref a =>
    have h' : (match G a with
      | some (.lst us) => f a us as G Q
      | _ => False) := h
    cases g : G a with
    | none =>
      rw [g] at h'
      exact h'.elim
    | some o =>
      rw [g] at h'
      cases o with
      | lst us => exact ⟨a, us, rfl, g, h'⟩
      | _ => exact h'.elim
def appendL : Addr → List U → List U → Gp → UK → Prop := fun a us as G Q => match as with
  | [y] => us.length < 1000000 ∧ Q .non (gup G a (.lst (us ++ [y])))
  | _ => False
section
variable {X : Cx} {W : WX}
theorem mu_append : MtU X W "list.append" (onLst appendL) := .of mt_append fun x xs H u as G Q E ru ras rp h => by
  obtain ⟨a, us, rfl, g, h⟩ := onLst_of h
  rcases as with _ | ⟨y, _ | ⟨z, r⟩⟩
  · exact h.elim
  · obtain ⟨yv, rfl, ry⟩ := relUs1 ras
    obtain ⟨vs, e, rv⟩ := rp.lst g
    exact ⟨a, vs, yv, ru, rfl, e, by rw [rv.length]; exact lim_lt h.1, lv_setl (u := .non) rp g (rv.append (.one ry)) rfl h.2⟩
  · exact h.elim
end

def IntU (ns : List Int) : List U := ns.map .int
theorem relUs_ints {K : PySem.W.Frag} {H : Hp} : ∀ ns : List Int, RelUs K H (IntU ns) (ns.map V.int)
  | [] => rfl
  | n :: ns => ⟨.int n, _, rfl, rfl, relUs_ints ns⟩
theorem law_u {P : Program} {w : World} {K : PySem.W.Frag} {mg mb : Str → Option Value} {k : Nat} {fa a : Addr} {fd : FuncData} {x : Str} {sp : USp} {s1 : Shared} {vs : List Value} {ns : List Int}
    (inK : K.In s1.heap) (glo : s1.heap.Ns mainGlobals mg) (blt : s1.heap.Ns builtinsNs mb) (bb : ∀ x : Str, x ≠ "__name__" → mb x = bootBuiltins x) (lim : s1.heap.NoLimit) (noGen : s1.gens = #[])
    (at_ : s1.heap.get? a = some { cls := .type "list", data := .seq vs.toArray }) (ints_ : IntsAre vs ns) (short : ns.length ≤ sizeLine) (room : RoomU k callerA)
    (F : ∀ base : Heap, K.In base → base.Ns mainGlobals mg → FnU P w K mg base k fa fd [x] sp) (bind1 : ∀ (s : Shared) (u : Value), BindsTo s fd ⟨[u], []⟩ [(x, u)])
    (want : sp [.rol (IntU ns)] (fun _ => none) (fun v _ => v = .bl true) fun _ _ => False) :
    codeAny (model P w) callerA (.call (.ref fa) ⟨[.ref a], []⟩) (fun r s' => r = .ok (.ret (.bool true)) ∧ OldK s1.heap s'.heap ∧ s'.os = s1.os ∧ AllBare s'.gens) s1 := by
  have rv := vals_ints ints_
  have lenV := ints_.length
  -- H: nothing is tracked but, at most, the script
  suffices main : ∀ H : Hp, (∀ b, b ≠ a → H b = none) → (H a = none ∨ (H a = some (.frz { cls := .type "list", data := .seq vs.toArray } (.lst (ns.map V.int))) ∧ K.lookup a = none)) → RoL K H a (ns.map V.int) → HOk P w H s1.heap →
      codeAny (model P w) callerA (.call (.ref fa) ⟨[.ref a], []⟩) (fun r s' => r = .ok (.ret (.bool true)) ∧ OldK s1.heap s'.heap ∧ s'.os = s1.os ∧ AllBare s'.gens) s1 by
    cases kl : K.lookup a with
    | some o =>
      have e := inK a o kl
      rw [at_] at e
      cases e
      exact main (fun _ => none) (fun _ _ => rfl) (.inl rfl) (.inr ⟨_, vs.toArray, _, kl, rfl, rfl, rfl, by rw [List.size_toArray, lenV]; exact short, by simpa using rv⟩) fun b u z => nomatch (show (none : Option HO) = some u from z)
    | none =>
      have here : (fun b => if b = a then some (HO.frz { cls := .type "list", data := .seq vs.toArray } (.lst (ns.map V.int))) else none : Hp) a = some (HO.frz { cls := .type "list", data := .seq vs.toArray } (.lst (ns.map V.int))) := if_pos rfl
      refine main (fun b => if b = a then some (.frz { cls := .type "list", data := .seq vs.toArray } (.lst (ns.map V.int))) else none) (fun b hb => if_neg hb) (.inr ⟨here, kl⟩) (.inl ⟨_, here⟩) fun b u z => ?_
      by_cases hb : b = a
      · subst hb
        cases here.symm.trans z
        exact ⟨at_, by rw [List.length_map]; exact short, vs, _, rv, at_⟩
      · cases (if_neg hb).symm.trans z
  intro H off on rl hok
  have isSeq : ∀ {b : Addr} {o : Obj}, s1.heap.get? b = some o → (∀ n, o ≠ { cls := .type "list", data := .seq vs.toArray n }) → H b = none := fun {b o} e ne => by
    by_cases hb : b = a
    · subst hb
      rw [at_] at e
      cases e
      exact absurd rfl (ne _)
    · exact off b hb
  have nsB : ∀ {b : Addr} {m : Str → Option Value}, s1.heap.Ns b m → (hidT s1.heap H).Ns b m := fun {b m} ⟨o, es, ep, e, d, r⟩ =>
    ⟨o, es, ep, hidT_get e (isSeq e fun n z => by rw [z] at d; exact nomatch (show Data.seq vs.toArray n = Data.dict es ep from d)), d, r⟩
  have kB : K.In (hidT s1.heap H) := fun b o e => hidT_get (inK b o e) (by
    by_cases hb : b = a
    · subst hb
      rcases on with z | ⟨_, z⟩
      · exact z
      · rw [e] at z
        cases z
    · exact off b hb)
  obtain ⟨mc, c1, c2⟩ := lim
  have at0 : Env0 P w K mg (hidT s1.heap H) callerA [] s1 H := ⟨rfl, ⟨kB, nsB glo, ⟨mb, nsB blt, bb⟩, mc, nsB c1, c2⟩, fun b o e => of_hidT e, Nat.le_of_eq (hidT_size _ _), trivial, (fun b hb => nomatch hb), hok, .of_eq noGen⟩
  have rp : Rep K H (fun _ => none) := fun b o z => nomatch (show (none : Option Ob) = some o from z)
  refine codeAny_mono ((F _ kB (nsB glo)).run callerA [] s1 H ⟨[.ref a], []⟩ [.ref a] [.ref a] [.rol (IntU ns)] (fun _ => none) _ _ room at0 (bind1 s1 (.ref a)) (.cons rfl .nil) ⟨.ref a, [], rfl, ⟨a, ns.map V.int, rfl, rl, relUs_ints ns⟩, rfl⟩ rfl rp want) fun r s' h => ?_
  cases r with
  | error e =>
    obtain ⟨_, _, H', c, d, _, _, _, _, _, _, _, y, G', _, _, _, z⟩ := h
    exact z.elim
  | ok fl =>
    cases fl with
    | next => exact False.elim h
    | brk => exact False.elim h
    | cont => exact False.elim h
    | ret u =>
      obtain ⟨v, H', os, bare, un, hok', r', w', G', _, _, rw', e⟩ := h
      have e' : w' = .bl true := e
      subst e'
      have ev : v = .bl true := rw'
      subst ev
      obtain rfl : u = Value.bool true := r'
      refine ⟨rfl, OldK.of_keep fun b o e => ?_, os, bare⟩
      by_cases hb : b = a
      · subst hb
        rcases on with z | ⟨z, _⟩
        · exact un.keep b o e z (fun q => nomatch q) (fun q => nomatch q)
        · obtain ⟨e1, _⟩ := hok b _ z
          obtain ⟨e2, _⟩ := hok' b _ (un.frzs b _ _ z)
          rw [e] at e1
          cases e1
          exact e2
      · exact un.keep b o e (off b hb) (fun q => nomatch q) (fun q => nomatch q)
theorem walk_u {l : PySem.W.OpenLaw} {n k : Nat} {q : Program} {loose : List Str} {XP : (Str → Option Value) → Heap → Prop} {YP : World → Heap → Prop} {d : DefRec} {x : Str} {sp : USp}
    (hn : l.most = some n) (hn2 : n ≤ sizeLine) (hdf : d.params.defaults = []) (room : RoomU k callerA)
    (F : ∀ (w : World) (mg : Str → Option Value) (fa : Addr) (h : Heap), YP w h → h.Ns mainGlobals mg → mg d.name = some (.ref fa) →
      ∃ (K : PySem.W.Frag) (fd : FuncData), K.In h ∧ (∀ (s : Shared) (u : Value), BindsTo s fd ⟨[u], []⟩ [(x, u)]) ∧ ∀ base : Heap, K.In base → base.Ns mainGlobals mg → FnU l.prog w K mg base k fa fd [x] sp)
    (want : ∀ ns : List Int, ns.length ≤ n → (∀ z ∈ ns, Builtin.Int.intBits z ≤ 1048576) → sp [.rol (IntU ns)] (fun _ => none) (fun v _ => v = .bl true) fun _ _ => False) :
    PySem.W.WalkO q loose XP YP l.row.toRowW d [] (fun f vs => PySem.call f vs) := by
  refine Att.attach_callB hn hdf fun w s₀ s1 mg mb fa o pm cd doc a vs ns G Y ho hd hcd hmg hobj hints hlen hbits hg => ?_
  obtain ⟨K, fd, inK, hb, hF⟩ := F w mg fa _ Y G.T.g hmg
  exact law_u inK G.T.g G.T.b G.T.builtins G.T.nolimit hg hobj hints (Nat.le_trans hlen hn2) room hF hb (want ns hlen hbits)
end UL
set_option maxHeartbeats 400000
namespace UL
open PySem PySem.Spec PyProof.Rows L2

structure DD where
  at_ : PySem.W.Frag → Addr
  name : Str
  qual : Str
  params : Arguments
  body : List Stmt
  scope : Scope
  dfl : List He.Dv := []
  kwd : List (Str × He.Dv) := []
def DD.dvs (K : PySem.W.Frag) (d : DD) : List V := d.dfl.map (He.Dv.v K)
def DD.kws (K : PySem.W.Frag) (d : DD) : List (Str × V) := d.kwd.map fun z => (z.1, z.2.v K)
def gAt (x : String) (K : PySem.W.Frag) : Addr := He.ga K (S x)
def mAt (c m : String) (K : PySem.W.Frag) : Addr := He.ma K (He.ga K (S c)) (S m)
/-- behind a property, a staticmethod -/
def wAt (c m kind : String) (K : PySem.W.Frag) : Addr := match PySem.W.recIn K (mAt c m K) kind with
  | some (.ref g :: _) => g
  | _ => 0
def codeOf (d : FuncData) : He.FnW := some (d.name, d.qualname, d.params, d.body, d.scope, d.globals, d.closure, d.builtins)
def told (K : PySem.W.Frag) (a : Addr) : He.FnW := (K.lookup a).bind fun o => match o.data with
  | .func z => codeOf z
  | _ => none
def DD.due (d : DD) : He.FnW := some (d.name, d.qual, d.params, .stmts d.body, d.scope, mainGlobals, [], builtinsNs)
def DD.fit (K : PySem.W.Frag) (d : DD) : Bool := PySem.W.keepIn K (.ref (d.at_ K)) && (match (K.lookup (d.at_ K)).map (fun o : Obj => o.data) with
  | some (.func z) => PySem.W.codeIn K z.code d.qual && He.dflB K z.defaults (d.dvs K) && He.kwdB K z.kwdefaults (d.kws K)
  | _ => false)
theorem DD.funD {K : PySem.W.Frag} {d : DD} (e : told K (d.at_ K) = d.due) (c : d.fit K = true) : ∃ z, FunD K d.name d.qual d.params d.body d.scope (d.dvs K) (d.kws K) (d.at_ K) z := by
  unfold DD.fit at c
  rw [Bool.and_eq_true] at c
  obtain ⟨kp, c⟩ := c
  unfold told at e
  cases hl : K.lookup (d.at_ K) with
  | none => rw [hl] at c; cases c
  | some o =>
    rw [hl] at c e
    obtain ⟨ocl, odi, oda, osl⟩ := o
    cases oda <;> try (cases c; done)
    rename_i z
    simp only [Option.map_some, Bool.and_eq_true] at c
    obtain ⟨⟨c1, c2⟩, c3⟩ := c
    have e2 : codeOf z = d.due := e
    unfold codeOf DD.due at e2
    obtain ⟨z1, z2, z3, z4, z5, z6, z7, z8, z9, z10, z11, z12, z13, z14, z15⟩ := z
    simp only [Option.some.injEq, Prod.mk.injEq] at e2
    obtain ⟨rfl, rfl, rfl, rfl, rfl, rfl, rfl, rfl⟩ := e2
    exact ⟨_, ⟨ocl, odi, z8, z9, z10, z11, z12, z13, z14, osl, rfl, hl, c1, He.dflB_ok c2, He.kwdB_ok c3⟩, kp⟩
end UL
set_option maxHeartbeats 400000
namespace UL
open PySem PySem.Spec PyProof.Rows L2

def fdOf (K : PySem.W.Frag) (a : Addr) : FuncData := match K.lookup a with
  | some ⟨_, _, .func fd, _⟩ => fd
  | _ => default
structure FunK (K : PySem.W.Frag) (d : DD) : Prop where
  D : FunD K d.name d.qual d.params d.body d.scope (d.dvs K) (d.kws K) (d.at_ K) (fdOf K (d.at_ K))
theorem funK {K : PySem.W.Frag} {d : DD} (h : ∃ fd, FunD K d.name d.qual d.params d.body d.scope (d.dvs K) (d.kws K) (d.at_ K) fd) : FunK K d := by
  obtain ⟨fd, F⟩ := h
  obtain ⟨oc, od, dV, kV, doc, pm, an, cdv, ct, osl, e, lk, r⟩ := F.ex
  have z : fdOf K (d.at_ K) = fd := by
    unfold fdOf
    rw [lk]
  exact ⟨by rw [z]; exact F⟩
structure Known (P : Program) (w : World) (K : PySem.W.Frag) (mg : Str → Option Value) (base : Heap) (d : DD) (k : Nat) (sp : USp) : Prop where
  F : FnU P w K mg base k (d.at_ K) (fdOf K (d.at_ K)) (parN d.params ++ parK d.params) sp
  D : FunD K d.name d.qual d.params d.body d.scope (d.dvs K) (d.kws K) (d.at_ K) (fdOf K (d.at_ K))
def uOf : He.Dv → U
  | .bl b => .bl b
  | .int i => .int i
  | .str x => .str x.cps.toList
  | .ty n => .ty n
  | _ => .non
def plainD : He.Dv → Bool
  | .non => true
  | .bl _ => true
  | .int _ => true
  | .str _ => true
  | .ty _ => true
  | _ => false
theorem rel_dv {K : PySem.W.Frag} {H : Hp} (d : He.Dv) (h : plainD d = true) : RelU K H (uOf d) (d.v K) := by
  cases d <;> first
    | rfl
    | cases h
theorem relUs_dv {K : PySem.W.Frag} {H : Hp} : ∀ l : List He.Dv, l.all plainD = true → RelUs K H (l.map uOf) (l.map (He.Dv.v K))
  | [], _ => rfl
  | d :: l, h => by
    rw [List.all_cons, Bool.and_eq_true] at h
    exact ⟨_, _, rfl, rel_dv d h.1, relUs_dv l h.2⟩
theorem relUs_kd {K : PySem.W.Frag} {H : Hp} : ∀ l : List (Str × He.Dv), l.all (fun q => plainD q.2) = true → RelUs K H (l.map fun q => uOf q.2) ((l.map fun q => (q.1, q.2.v K)).map (·.2))
  | [], _ => rfl
  | d :: l, h => by
    rw [List.all_cons, Bool.and_eq_true] at h
    exact ⟨_, _, rfl, rel_dv d.2 h.1, relUs_kd l h.2⟩
theorem takes_W0 {X : Cx} : Takes X W0 := fun u s' ⟨_, _, _, _, _, _, _, _, _, _, _, _, _, _, _, _, z⟩ => z.elim
def blkB (N : List Str) (sc scope : Scope) (own : List (Str × Nat)) : Bool :=
  decide (scope.kind = .function) && (scope.names.all (fun y => decide (scope.names.lookup y.1 = some y.2)) && (own.all (fun p => decide (N[p.2]? = some p.1)) &&
    (scope.names.all (fun y => !decide (y.2 = .free) || (decide (sc.names.lookup y.1 = some .cell) || decide (sc.names.lookup y.1 = some .free))) &&
      scope.names.all (fun y => !(decide (y.2 = .local) || decide (y.2 = .cell)) || ((own.map (·.1)).contains y.1 || !N.contains y.1)))))
theorem blk_of {N : List Str} {sc scope : Scope} {own : List (Str × Nat)} (h : blkB N sc scope own = true) : BlkOk N sc scope own := by
  unfold blkB at h
  simp only [Bool.and_eq_true, List.all_eq_true, decide_eq_true_eq, Bool.or_eq_true, Bool.not_eq_true', decide_eq_false_iff_not, List.contains_iff_mem] at h
  obtain ⟨h1, h2, h3, h4, h5⟩ := h
  refine ⟨h1, h2, h3, fun y hy e => (h4 y hy).resolve_left fun z => z e, fun y hy e => ?_⟩
  rcases h5 y hy with z | z | z
  · rcases e with e | e
    · rw [e] at z
      simp at z
    · rw [e] at z
      simp at z
  · exact .inl z
  · refine .inr fun q => ?_
    rw [← List.contains_iff_mem, z] at q
    cases q
def tUTest (t : UTE) : UTT := fun us G Q E => t us G (kBl Q) E
def KS (P : USt → Gp → Prop) : USt → Gp → Prop := fun us G => ∃ G2, Sub G2 G ∧ P us G2
theorem KS.now {P : USt → Gp → Prop} {us : USt} {G : Gp} (h : P us G) : KS P us G := ⟨G, .refl G, h⟩
def tUCut (t : UTS) : UTS := fun D us G => ∃ M : USt → Gp → Prop, (∀ us G, M us G → KS D.nx us G) ∧ t { D with nx := M } us G
/-- a condition with a cut behind it -/
def CondE (k : Bool) (x y : UK → UX → Prop) (Q : UK) (E : UX) : Prop := ∃ M : UK, (∀ u G, M u G → KF Q u G) ∧ bif k then x M E else y M E
def CondS (k : Bool) (x y : UEnds → Prop) (D : UEnds) : Prop := ∃ M : USt → Gp → Prop, (∀ us G, M us G → KS D.nx us G) ∧ bif k then x { D with nx := M } else y { D with nx := M }
def tUIfC (c : UTT) (ta tb : UTE) : UTE := fun us G Q E => c us G (fun k G1 => CondE k (ta us G1) (tb us G1) Q E) E
def tUIfSC (c : UTT) (t u : UTS) : UTS := fun D us G => c us G (fun k G1 => CondS k (fun D' => t D' us G1) (fun D' => u D' us G1) D) (fun x G1 => D.ex x us G1)
theorem lv_weak {K : PySem.W.Frag} {H H' : Hp} {G : Gp} {M Q : UK} (le : ∀ u G, M u G → KF Q u G) {v : V} (q : LV K H G M v H') : LV K H G Q v H' := by
  obtain ⟨u, G', a, b, c, m⟩ := q
  obtain ⟨G2, sb, n⟩ := le _ _ m
  exact ⟨u, G2, sb.ext a, sb.rep b, c, n⟩
theorem eu_ifC {X : Cx} {W : WX} {c a b : Expr} {tc : UTT} {ta tb : UTE} {pos : Pos} (hc : TU X W c tc) (ha : EU X W a ta) (hb : EU X W b tb) : EU X W (.IfExp c a b pos) (tUIfC tc ta tb) := by
  refine ⟨fun pins s σ H us G Q E I rs rp h hx => ?_⟩
  refine wpAny_IfExp (thn (hc.run pins s σ H us G _ E I rs rp h hx) fun d s1 ⟨H1, I1, G1, x1, r1, M, le, q1⟩ => ?_)
  cases d with
  | true => exact thn (ha.run pins s1 σ H1 us G1 M E I1 (rs.ext x1 rp) r1 q1 fun c d H' h' => hx c d H' (h'.trans x1)) fun _ _ h => ep_imp (fun _ _ h => lv_weak le (h.trans x1)) h
  | false => exact thn (hb.run pins s1 σ H1 us G1 M E I1 (rs.ext x1 rp) r1 q1 fun c d H' h' => hx c d H' (h'.trans x1)) fun _ _ h => ep_imp (fun _ _ h => lv_weak le (h.trans x1)) h
theorem ls_weak {K : PySem.W.Frag} {H H' : Hp} {G : Gp} {M Q : USt → Gp → Prop} (le : ∀ u G, M u G → KS Q u G) {σ' : L2.St} (q : LS K H G M σ' H') : LS K H G Q σ' H' := by
  obtain ⟨u, G', a, b, c, m⟩ := q
  obtain ⟨G2, sb, n⟩ := le _ _ m
  exact ⟨u, G2, sb.ext a, sb.rep b, c, n⟩
theorem su_ifC {X : Cx} {W : WX} {c : Expr} {a b : List Stmt} {tc : UTT} {t u : UTS} {pos : Pos} (hc : TU X W c tc) (ha : SsU X W a t) (hb : SsU X W b u) : SU X W (.If c a b pos) (tUIfSC tc t u) := by
  refine .of (ps_if hc.pt ha.pss hb.pss) fun σ H us G D rs rp h hx => ⟨us, G, _, _, rs, rp, h, fun v H' ⟨G1, x1, r1, M, le, q⟩ => ?_, fun c d H' h' => hx c d σ H' (LXS.of rs rp h')⟩
  cases v with
  | true =>
    rw [if_pos rfl]
    exact ⟨us, G1, _, rs.ext x1 rp, r1, q, fun _ _ h => ls_weak le (h.trans x1), fun _ _ h => h.trans x1, fun _ _ h => h.trans x1, fun _ _ h => h.trans x1, fun c d σ' H' h' => hx c d σ' H' (h'.trans x1)⟩
  | false =>
    rw [if_neg Bool.false_ne_true]
    exact ⟨us, G1, _, rs.ext x1 rp, r1, q, fun _ _ h => ls_weak le (h.trans x1), fun _ _ h => h.trans x1, fun _ _ h => h.trans x1, fun _ _ h => h.trans x1, fun c d σ' H' h' => hx c d σ' H' (h'.trans x1)⟩
theorem condT {x y : UK → UX → Prop} {Q : UK} {E : UX} (h : x Q E) : CondE true x y Q E := ⟨Q, fun _ _ h => KF.now h, h⟩
theorem condF {x y : UK → UX → Prop} {Q : UK} {E : UX} (h : y Q E) : CondE false x y Q E := ⟨Q, fun _ _ h => KF.now h, h⟩
theorem scondT {x y : UEnds → Prop} {D : UEnds} (h : x D) : CondS true x y D := ⟨D.nx, fun _ _ h => KS.now h, h⟩
theorem scondF {x y : UEnds → Prop} {D : UEnds} (h : y D) : CondS false x y D := ⟨D.nx, fun _ _ h => KS.now h, h⟩
theorem scond2 {k : Bool} {x y : UEnds → Prop} {D : UEnds} (h1 : k = true → x D) (h2 : k = false → y D) : CondS k x y D := by
  cases k with
  | true => exact scondT (h1 rfl)
  | false => exact scondF (h2 rfl)
theorem dscond2 {p : Prop} [Decidable p] {x y : UEnds → Prop} {D : UEnds} (h1 : p → x D) (h2 : ¬p → y D) : CondS (decide p) x y D :=
  scond2 (fun e => h1 (of_decide_eq_true e)) fun e => h2 (of_decide_eq_false e)
/-- both ways lead to M -/
theorem condM {k : Bool} {x y : UK → UX → Prop} {Q : UK} {E : UX} (M : UK) (h1 : k = true → x (KF M) E) (h2 : k = false → y (KF M) E) (h : ∀ u G, M u G → Q u G) : CondE k x y Q E :=
  ⟨KF M, fun u G ⟨G2, s, m⟩ => ⟨G2, s, h u G2 m⟩, by cases k with
    | true => exact h1 rfl
    | false => exact h2 rfl⟩
theorem cut {t : UTS} {D : UEnds} {us : USt} {G : Gp} (M : USt → Gp → Prop) (h : t { D with nx := KS M } us G) (k : ∀ us G, M us G → D.nx us G) : tUCut t D us G := ⟨_, fun us G ⟨G2, s, m⟩ => ⟨G2, s, k us G2 m⟩, h⟩
section
variable {X : Cx} {W : WX} {es : List Expr} {kws : List Keyword} {tk ta : UTA} {pos p : Pos} {k k' n : Nat} {ks : List Str} {sp : USp} {pl : List Src} {x : Str} {d : DD}
/-- a call of a def of the module -/
theorem eu_def (kn : Known X.prog X.w X.K X.mg X.base d k sp) (hr : RoomU k X.A) (hg : Gl X x) (hm : X.mg x = some (.ref (d.at_ X.K))) (hP : Plain d.params) (e : planOf (parN d.params) (parK d.params) n ks d.dfl.length (d.kwd.map (·.1)) = some pl)
    (hd : d.dfl.all plainD = true) (hk : d.kwd.all (fun q => plainD q.2) = true) (hT : Takes X W) (l3 : pl.length = (parN d.params ++ parK d.params).length) (ha : AU X W es ta) (hkw : KU X W kws tk) (hst : Unst X.env es ta)
    (hall : (backToKw pos (keywordEach kws X.env)).all (·.1.isSome) = true) (hks : (backToKw pos (keywordEach kws X.env)).filterMap (·.1) = ks)
    (hpl : ((backTo pos (starEach es X.env)).any (·.1) || (backToKw pos (keywordEach kws X.env)).any (·.1.isNone)) = false) (hdb : (x == ("__debug__" : Str)) = false) :
    EU X W (.Call (.Name x p) es kws pos) (tUDef sp n ks.length pl (d.dfl.map uOf) (d.kwd.map fun q => uOf q.2) ta tk) := by
  have b := bind_u (n := n) (ks := ks) (pl := pl) kn.D hP (by
    unfold DD.dvs DD.kws
    rw [List.length_map, List.map_map]
    exact e)
  exact eu_call kn.F hr hg hm kn.D.kp b (fun _ => relUs_dv _ hd) (fun _ => relUs_kd _ hk) hT l3 ha hkw hst hall hks hpl hdb
end
end UL
set_option maxHeartbeats 400000
namespace UL
open PySem PySem.Spec PyProof.Rows L2 PySem.W

theorem S_list (s : String) : (S s).cps.toList = s.toList.map Char.toNat := by
  show (PySem.cpsOfBytes 0 0 s.toByteArray.data.toList).toArray.toList = _
  rw [PySem.cpsOfBytes_string]
theorem S_inj {a b : String} (h : S a = S b) : a = b := by
  have e : a.toList.map Char.toNat = b.toList.map Char.toNat := by rw [← S_list, ← S_list, h]
  have e2 : a.toList = b.toList := by
    have go : ∀ (l m : List Char), l.map Char.toNat = m.map Char.toNat → l = m := by
      intro l
      induction l with
      | nil =>
        intro m h
        cases m with
        | nil => rfl
        | cons _ _ => cases h
      | cons x l ih =>
        intro m h
        cases m with
        | nil => cases h
        | cons y m =>
          simp only [List.map_cons, List.cons.injEq] at h
          have e : x = y := Char.ext (UInt32.toNat_inj.mp h.1)
          rw [e, ih m h.2]
    exact go _ _ e
  exact String.toList_inj.mp e2
theorem RelF.get {K : PySem.W.Frag} {H : Hp} {C : Addr} {f : String} {u : U} : ∀ {fs : List (String × U)} {gs : List (Str × V)}, RelF K H C fs gs → fget fs f = some u → ∃ v, gs.lookup (S f) = some v ∧ RelU K H u v ∧ NoAttr K C (S f)
  | [], _, _, h => by cases h
  | (g, w) :: r, _, ⟨v, ws, rfl, rw_, na, t⟩, h => by
    unfold fget at h
    by_cases e : g = f
    · subst e
      rw [if_pos rfl] at h
      cases h
      exact ⟨v, by rw [List.lookup_cons]; simp, rw_, na⟩
    · rw [if_neg e] at h
      obtain ⟨v', h1, h2, h3⟩ := RelF.get t h
      have ne : (S f == S g) = false := beq_eq_false_iff_ne.mpr fun z => e (S_inj z.symm)
      exact ⟨v', by rw [List.lookup_cons, ne]; exact h1, h2, h3⟩
theorem RelF.none {K : PySem.W.Frag} {H : Hp} {C : Addr} {f : String} : ∀ {fs : List (String × U)} {gs : List (Str × V)}, RelF K H C fs gs → fget fs f = none → gs.lookup (S f) = none
  | [], _, e, _ => by
    have e' : _ = ([] : List (Str × V)) := e
    subst e'
    rfl
  | (g, w) :: r, _, ⟨v, ws, rfl, rw_, na, t⟩, h => by
    unfold fget at h
    by_cases e : g = f
    · subst e
      rw [if_pos rfl] at h
      cases h
    · rw [if_neg e] at h
      have ne : (S f == S g) = false := beq_eq_false_iff_ne.mpr fun z => e (S_inj z.symm)
      rw [List.lookup_cons, ne]
      exact RelF.none t h
theorem RelF.put {K : PySem.W.Frag} {H : Hp} {C : Addr} {f : String} {u : U} {v : V} (hu : RelU K H u v) (na : NoAttr K C (S f)) : ∀ {fs : List (String × U)} {gs : List (Str × V)}, RelF K H C fs gs → RelF K H C (fput fs f u) (putF (S f) v gs)
  | [], _, e => by
    have e' : _ = ([] : List (Str × V)) := e
    subst e'
    exact ⟨v, [], rfl, hu, na, rfl⟩
  | (g, w) :: r, _, ⟨z, ws, rfl, rw_, na', t⟩ => by
    unfold fput putF
    by_cases e : g = f
    · subst e
      rw [if_pos rfl, if_pos rfl]
      exact ⟨v, ws, rfl, hu, na, t⟩
    · have ne : ¬ S g = S f := fun q => e (S_inj q)
      rw [if_neg e, if_neg ne]
      exact ⟨z, _, rfl, rw_, na', RelF.put hu na t⟩
theorem RelF.length {K : PySem.W.Frag} {H : Hp} {C : Addr} : ∀ {fs : List (String × U)} {gs : List (Str × V)}, RelF K H C fs gs → gs.length = fs.length
  | [], _, e => by
    have e' : _ = ([] : List (Str × V)) := e
    subst e'
    rfl
  | _ :: r, _, ⟨_, ws, rfl, _, _, t⟩ => by
    show ws.length + 1 = r.length + 1
    rw [RelF.length t]

/-- e.f -/
def fldU (f : String) : U → Gp → UK → Prop := fun x G Q => match x with
  | .ref a => (match G a with
    | some (.ins _ fs) => (match fget fs f with
      | some u => Q u G
      | none => False)
    | _ => False)
  | _ => False
def tUFld (f : String) (te : UTE) : UTE := fun us G Q E => te us G (fun x G1 => fldU f x G1 Q) E
theorem fldU_of {f : String} {x : U} {G : Gp} {Q : UK} (h : fldU f x G Q) : ∃ a c fs u, x = .ref a ∧ G a = some (.ins c fs) ∧ fget fs f = some u ∧ Q u G := by
  cases x <;> try exact h.elim
  case ref a =>
    unfold fldU at h
    dsimp only at h
    split at h
    · rename_i c fs g
      split at h
      · rename_i u e
        exact ⟨a, c, fs, u, rfl, g, e, h⟩
      · exact h.elim
    · exact h.elim
section
variable {X : Cx} {W : WX} {e : Expr} {te : UTE} {f : String} {pos : Pos}
theorem eu_fld (he : EU X W e te) (hb : attributeBase e (S f) X.env (eval e X.env) = eval e X.env) : EU X W (.Attribute e (S f) pos) (tUFld f te) := by
  refine .of (pe_fld he.pe hb) fun σ H us G Q E rs rp h hx => ⟨us, G, _, E, rs, rp, h, fun v H1 ⟨u, G1, x1, r1, ru, q1⟩ => ?_, hx⟩
  obtain ⟨a, c, fs, w, rfl, g, hf, q⟩ := fldU_of q1
  obtain ⟨dx, gs, hh, rf⟩ := r1.ins g
  obtain ⟨z, l, rz, na⟩ := rf.get hf
  exact ⟨a, _, dx, gs, z, ru, hh, (r1.clsK g).cls, na, l, (LV.here r1 rz q).trans x1⟩
/-- o.f = w -/
def setF (f : String) (x w : U) (G : Gp) (Z : Gp → Prop) : Prop := match x with
  | .ref a => (match G a with
    | some (.ins c fs) => f ∈ fldsOf c ∧ fs.length < 100 ∧ Z (gup G a (.ins c (fput fs f w)))
    | _ => False)
  | _ => False
theorem setF_of {x w : U} {G : Gp} {Z : Gp → Prop} (h : setF f x w G Z) : ∃ a c fs, x = .ref a ∧ G a = some (.ins c fs) ∧ f ∈ fldsOf c ∧ fs.length < 100 ∧ Z (gup G a (.ins c (fput fs f w))) := by
  cases x <;> try exact h.elim
  case ref a =>
    unfold setF at h
    dsimp only at h
    split at h
    · rename_i c fs g
      exact ⟨a, c, fs, rfl, g, h⟩
    · exact h.elim
def gUFld (f : String) (to : UTE) : UTG := fun w us G Q E => to us G (fun x G1 => setF f x w G1 fun G2 => Q us G2) E
theorem rep_setF {K : PySem.W.Frag} {H : Hp} {G : Gp} {a dx : Addr} {c : String} {fs : List (String × U)} {gs : List (Str × V)} {u : U} {v : V} (r : Rep K H G) (g : G a = some (.ins c fs)) (rf : RelF K H (He.ga K (S c)) fs gs) (hu : RelU K H u v) (na : NoAttr K (He.ga K (S c)) (S f)) :
    Rep K (upd H a (.ins (He.ga K (S c)) dx (putF (S f) v gs))) (gup G a (.ins c (fput fs f u))) ∧ Ext H G (upd H a (.ins (He.ga K (S c)) dx (putF (S f) v gs))) (gup G a (.ins c (fput fs f u))) := by
  have x0 : Ext H G (upd H a (.ins (He.ga K (S c)) dx (putF (S f) v gs))) (gup G a (.ins c (fput fs f u))) := fun b o h gb => by
    have ne : b ≠ a := fun z => by rw [z, g] at gb; cases gb
    exact ⟨by rw [upd_ne ne]; exact h, by rw [gup_ne ne]; exact gb⟩
  exact r.write g ⟨r.clsK g, dx, _, upd_same, (RelF.put hu na rf).ext x0 r⟩
theorem su_fld {o value : Expr} {to tv : UTE} {pos' : Pos} (ho : EU X W o to) (hv : EU X W value tv)
    (hs : swapsWith value (some (.Attribute o (S f) pos')) pos.line X.env = pure false) : SU X W (.Assign [.Attribute o (S f) pos'] value pos) (tUAsg tv (gUFld f to)) := by
  refine .of (ps_fld ho.pe hv.pe hs) fun σ H us G D rs rp h hx => ?_
  have hx0 : ∀ c d H', LX X.K H G (fun x G1 => D.ex x us G1) c d H' → W c d σ H' := fun c d H' h' => hx c d σ H' (LXS.of rs rp h')
  refine ⟨us, G, _, _, rs, rp, h, fun y H1 ⟨w, G1, x1, r1, rw_, q1⟩ => ?_, hx0⟩
  refine ⟨us, G1, _, _, rs.ext x1 rp, r1, q1, fun x H2 ⟨u, G2, x2, r2, ru, q2⟩ => ?_, fun c d H' h' => hx0 c d H' (h'.trans x1)⟩
  obtain ⟨a, c, fs, rfl, g, hm, hl, q⟩ := setF_of q2
  obtain ⟨dx, gs, hh, rf⟩ := r2.ins g
  have k1 := (r2.clsK g).cls
  have k2 := (r2.clsK g).noat hm
  obtain ⟨r3, x3⟩ := rep_setF (dx := dx) r2 g rf (rw_.ext x2 r1) k2
  exact ⟨a, _, dx, gs, ru, hh, k1, k2, by rw [rf.length]; omega, us, _, (x1.trans x2).trans x3, r3, ((rs.ext x1 rp).ext x2 r1).ext x3 r2, q⟩
end
end UL
set_option maxHeartbeats 400000
namespace UL
open PySem PySem.Spec PyProof.Rows L2 PySem.W

abbrev MAp := U → List U → List U → Gp → UK → UX → Prop
/-- the method m of an instance of the class named c, called with n values behind it and the keywords ks -/
structure MCall (X : Cx) (W : WX) (m : Str) (n : Nat) (ks : List Str) (c : String) (ap : MAp) : Prop where
  cls : Cls X.K (He.ga X.K (S c))
  go : ∃ f, Meth X.K (He.ga X.K (S c)) m f ∧ ∀ (A : Around), (A = X.A ∨ A = X.A.in1 ∨ A = X.A.in1.in1) → ∀ (pins : List (Addr × Obj)) (s2 : Shared) (σ : L2.St) (H H2 : Hp) (G G2 : Gp) (Q : UK) (E : UX) (a : Addr) (vs zs : List U) (vv zv : List V) (vl zl : List Value), Inv X pins σ H2 s2 → Ext H G H2 G2 → Rep X.K H2 G2 →
    Vals vv vl → Vals zv zl → RelUs X.K H2 vs vv → RelUs X.K H2 zs zv → vs.length = n → zs.length = ks.length → ap (.ref a) vs zs G2 Q E → (∀ c d H', LX X.K H G E c d H' → W c d σ H') →
    wpAny (model X.prog X.w) A (call (.ref f) (.ref a :: vl) (ks.zip zl)) (EP X pins σ (LV X.K H G Q)) X.xe s2
def apOf (sp : USp) (pl : List Src) (ud uk : List U) : MAp := fun self vs zs G Q E => sp (pl.map (Src.get .non (self :: vs) zs ud uk)) G Q E
section
variable {X : Cx} {W : WX} {es : List Expr} {kws : List Keyword} {e o : Expr} {to te ta' tb : UTE} {tk ta : UTA} {pos p apos : Pos} {k n : Nat} {ks : List Str} {sp : USp} {pl : List Src} {x m : Str} {d : DD} {c : String} {ap : MAp}
theorem mcall (kn : Known X.prog X.w X.K X.mg X.base d k sp) (hr : RoomU (k + 2) X.A) (cls : Cls X.K (He.ga X.K (S c))) (meth : Meth X.K (He.ga X.K (S c)) m (d.at_ X.K)) (hP : Plain d.params)
    (e : planOf (parN d.params) (parK d.params) (n + 1) ks d.dfl.length (d.kwd.map (·.1)) = some pl) (hd : d.dfl.all plainD = true) (hk : d.kwd.all (fun q => plainD q.2) = true) (hT : Takes X W) (l3 : pl.length = (parN d.params ++ parK d.params).length) :
    MCall X W m n ks c (apOf sp pl (d.dfl.map uOf) (d.kwd.map fun q => uOf q.2)) := by
  have b := bind_u (n := n + 1) (ks := ks) (pl := pl) kn.D hP (by
    unfold DD.dvs DD.kws
    rw [List.length_map, List.map_map]
    exact e)
  refine ⟨cls, _, meth, fun A hA pins s2 σ H H2 G G2 Q E a vs zs vv zv vl zl I x rp rv rz ru ruz l1 l2 h hx => ?_⟩
  have hrA : RoomU k A := by
    rcases hA with rfl | rfl | rfl
    · exact hr.mono (by omega)
    · exact (hr.in1).mono (by omega)
    · exact hr.in1.in1
  have frA : A.frames = some X.stack := by
    rcases hA with rfl | rfl | rfl <;> exact I.ok.frames
  exact run_uA (vv := .ref a :: vv) (vs := .ref a :: vs) (vl := .ref a :: vl) kn.F hrA frA b (fun _ => relUs_dv _ hd) (fun _ => relUs_kd _ hk) hT I x rp (.cons rfl rv) rz ⟨_, _, rfl, rfl, ru⟩ ruz (by rw [List.length_cons, l1]) l2 l3 h hx
theorem inst_at {pins : List (Addr × Obj)} {σ : L2.St} {H : Hp} {G : Gp} {s : Shared} {a : Addr} {fs : List (String × U)} (I : Inv X pins σ H s) (rp : Rep X.K H G) (g : G a = some (.ins c fs)) : ∃ ox od, InstAt s.heap a ox (He.ga X.K (S c)) (some od) := by
  obtain ⟨dx, gs, hh, _⟩ := rp.ins g
  obtain ⟨mA, O, _⟩ := ins_get I.hok hh
  obtain ⟨od, J, _⟩ := O.look
  exact ⟨_, od, J⟩
/-- o.m(..), by the receiver's class -/
def tUMeth (tab : List (String × MAp)) (m : String) (n nk : Nat) (to : UTE) (t tk : UTA) : UTE := fun us G Q E => to us G (fun x G0 => match x with
  | .ref a => (match G0 a with
    | some (.ins c fs) => fget fs m = none ∧ (match tab.lookup c with
      | some ap => t us G0 (fun vs G1 => tk us G1 (fun zs G2 => vs.length = n ∧ zs.length = nk ∧ ap (.ref a) vs zs G2 Q E) E) E
      | none => False)
    | _ => False)
  | _ => False) E
theorem eu_meth {pl : Sem Bool} {tab : List (String × MAp)} {m : String} (hm : ∀ c ap, tab.lookup c = some ap → MCall X W (S m) n ks c ap) (ho : EU X W o to) (ha : AU X W es ta) (hkw : KU X W kws tk) (hst : Unst X.env es ta)
    (hall : (backToKw pos (keywordEach kws X.env)).all (·.1.isSome) = true) (hks : (backToKw pos (keywordEach kws X.env)).filterMap (·.1) = ks)
    (hpl : ((backTo pos (starEach es X.env)).any (·.1) || (backToKw pos (keywordEach kws X.env)).any (·.1.isNone)) = false)
    (ht : eval (.Call (.Attribute o (S m) apos) es kws pos) X.env = (do
      let ov ← eval o X.env
      standAt apos.atName
      let (f, first) ← holding [ov] (getMethod ov (S m) pl)
      callWith pos f first (backTo pos (starEach es X.env)) (backToKw pos (keywordEach kws X.env)))) :
    EU X W (.Call (.Attribute o (S m) apos) es kws pos) (tUMeth tab m n ks.length to ta tk) := by
  refine ⟨fun pins s σ H us G Q E I rs rp h hx => ?_⟩
  refine PySem.W.methodCall_KW (pl := pl) (thn (ho.run pins s σ H us G _ E I rs rp h hx) fun u s1 ⟨x, H1, I1, rx, w, G1, x1, rp1, rw_, q⟩ => ?_) ht
  obtain ⟨a, c, fs, rfl, g, q⟩ : ∃ a c fs, w = .ref a ∧ G1 a = some (.ins c fs) ∧ (fget fs m = none ∧ (match tab.lookup c with
      | some ap => ta us G1 (fun vs G2 => tk us G2 (fun zs G3 => vs.length = n ∧ zs.length = ks.length ∧ ap (.ref a) vs zs G3 Q E) E) E
      | none => False)) := by
    cases w <;> try exact q.elim
    dsimp only at q
    split at q
    · rename_i g
      exact ⟨_, _, _, rfl, g, q⟩
    · exact q.elim
  · obtain ⟨hn, q⟩ := q
    split at q
    · rename_i ap hl
      have ex : x = .ref a := rw_
      subst ex
      obtain rfl : u = Value.ref a := rx
      obtain ⟨cl, f, mt, go⟩ := hm c ap hl
      obtain ⟨dx, gs, hh, rf⟩ := rp1.ins g
      refine getmeth_ok I1 hh cl mt (rf.none hn) ?_
      have hx1 : ∀ c d H', LX X.K H1 G1 E c d H' → W c d σ H' := fun c d H' z => hx c d H' (z.trans x1)
      refine call_with (first := [.ref a]) mt.kp ha hkw hst hall hks hpl I1 (rs.ext x1 rp) rp1 q hx1 fun s2 H2 G2 vs zs vv zv vl zl I2 x2 rp2 rv rz ru ruz ⟨l1, l2, q2⟩ => ?_
      exact thn (go X.A (.inl rfl) pins s2 σ H1 H2 G1 G2 Q E a vs zs vv zv vl zl I2 x2 rp2 rv rz ru ruz l1 l2 q2 hx1) fun _ _ q => ep_imp (fun _ _ q => q.trans x1) q
    · exact q.elim
/-- the operand is an instance: its class's entry -/
def ownU (tab : List (String × MAp)) (m : String) (x : U) (ys : List U) (G : Gp) (Q : UK) (E : UX) : Prop := match x with
  | .ref a => (match G a with
    | some (.ins c fs) => (match tab.lookup c with
      | some ap => ap (.ref a) ys [] G Q E
      | none => False)
    | _ => False)
  | _ => False
theorem ownU_of {tab : List (String × MAp)} {m : String} {x : U} {ys : List U} {G : Gp} {Q : UK} {E : UX} (h : ownU tab m x ys G Q E) : ∃ a c fs ap, x = .ref a ∧ G a = some (.ins c fs) ∧ tab.lookup c = some ap ∧ ap (.ref a) ys [] G Q E := by
  cases x <;> try exact h.elim
  rename_i a
  unfold ownU at h
  dsimp only at h
  split at h
  · rename_i c fs g
    split at h
    · rename_i ap hl
      exact ⟨a, c, fs, ap, rfl, g, hl, h⟩
    · exact h.elim
  · exact h.elim
def isInsU (x : U) (G : Gp) : Bool := match x with
  | .ref a => (match G a with
    | some (.ins _ _) => true
    | _ => false)
  | _ => false
/-- x in o, x not in o, o with a __contains__ -/
def truQ (neg : Bool) (Q : UK) : UK := fun u G => truU u G fun b G1 => Q (.bl (if neg then !b else b)) G1
def orIn (neg : Bool) (r : UR2) (tab : List (String × MAp)) : UR2 := fun x y G Q E => (isInsU y G = false ∧ r x y G Q E) ∨ ownU tab "__contains__" y [x] G (truQ neg Q) E
theorem tru_run {pins : List (Addr × Obj)} {σ : L2.St} {H : Hp} {G : Gp} {Q : UK} {neg : Bool} {v : Value} {s : Shared} (h : EP X pins σ (LV X.K H G (truQ neg Q)) v s) :
    wpAny (model X.prog X.w) X.A (truthy v) (fun b s' => EP X pins σ (LV X.K H G Q) (.bool (if neg then !b else b)) s') X.xe s := by
  obtain ⟨z, H1, I1, rz, u, G1, x1, rp1, ru, q⟩ := h
  have hW : ∀ c d H', LX X.K H1 G1 (fun _ _ => False) c d H' → W0 c d σ H' := fun c d H' ⟨_, _, _, _, _, q⟩ => q.elim
  exact thn (tr_u (W := W0) pins s σ H1 z v u G1 _ (fun _ _ => False) I1 rz ru rp1 q hW) fun b s2 ⟨H2, I2, G2, x2, rp2, q2⟩ => ⟨.bl (if neg then !b else b), H2, I2, rfl, .bl (if neg then !b else b), G2, x1.trans x2, rp2, rfl, q2⟩
theorem ou_notInOwn {r : UR2} {tab : List (String × MAp)} (h0 : OpU X W (compareOp .NotIn) r) (hm : ∀ c ap, tab.lookup c = some ap → MCall X W (S "__contains__") 1 [] c ap) : OpU X W (compareOp .NotIn) (orIn true r tab) := by
  intro pins s σ H x y v u a b G Q E I rx ry ra rb rp h hx
  rcases h with ⟨_, h⟩ | h
  · exact h0 pins s σ H x y v u a b G Q E I rx ry ra rb rp h hx
  · obtain ⟨p, c, fs, ap, rfl, g, hl, h⟩ := ownU_of h
    obtain ⟨cl, f, mt, go⟩ := hm c ap hl
    have ey : y = .ref p := rb
    subst ey
    obtain rfl : u = Value.ref p := ry
    obtain ⟨ox, od, J⟩ := inst_at I rp g
    obtain ⟨mm, F⟩ := I.fr
    exact notIn_K F I.mod.kin J mt.at_ mt.fn (thn (go X.A (.inl rfl) pins s σ H H G G _ E p [a] [] [x] [] [v] [] I (.refl _ _) rp (.cons rx .nil) .nil (.one ra) rfl rfl rfl h hx) fun z s' q => tru_run (neg := true) q)
end
end UL
set_option maxHeartbeats 400000
namespace UL
open PySem PySem.Spec PyProof.Rows L2 PySem.W

section
variable {X : Cx} {W : WX} {es : List Expr} {kws : List Keyword} {e o : Expr} {to te ta' tb : UTE} {tk ta : UTA} {pos p apos : Pos} {k n : Nat} {ks : List Str} {sp : USp} {pl : List Src} {x m : Str} {d : DD} {c : String} {ap : MAp}
theorem eu_ty {T : String} (hg : Gl X x) (hm : X.mg x = none) (hv : bootBuiltins x = some (.type T)) (hn : x ≠ "__name__") (hd : (x == ("__debug__" : Str)) = false) : EU X W (.Name x pos) (tUC (.ty T)) := eu_c (pe_bltn (v := .ty T) hg hm hv rfl hn hd) fun _ => rfl
theorem eu_glo {y : String} (hg : Gl X (S y)) (hm : X.mg (S y) = some (.ref (He.ga X.K (S y)))) (hd : (S y == ("__debug__" : Str)) = false) : EU X W (.Name (S y) pos) (tUC (.glo y)) := eu_c (pe_glob (v := .ref (He.ga X.K (S y))) hg hm rfl hd) fun _ => rfl
theorem eu_gstr {z : Str} (hg : Gl X x) (hm : ∃ t, X.mg x = some (.str z t)) (hd : (x == ("__debug__" : Str)) = false) : EU X W (.Name x pos) (tUC (.str z.cps.toList)) := by
  obtain ⟨t, hm⟩ := hm
  exact eu_c (pe_glob (v := .str z) hg hm ⟨t, rfl⟩ hd) fun _ => rfl
theorem eu_gint {i : Int} (hg : Gl X x) (hm : ∃ t, X.mg x = some (.int i t)) (hd : (x == ("__debug__" : Str)) = false) : EU X W (.Name x pos) (tUC (.int i)) := by
  obtain ⟨t, hm⟩ := hm
  exact eu_c (pe_glob (v := .int i) hg hm ⟨t, rfl⟩ hd) fun _ => rfl
def tUMake (c : String) (sp : USp) (n m : Nat) (pl : List Src) (ud uk : List U) (t tk : UTA) : UTE := fun us G Q E => t us G (fun vs G1 => tk us G1 (fun zs G2 => vs.length + 1 = n ∧ zs.length = m ∧ ∀ a, G2 a = none →
  sp (pl.map (Src.get .non (.ref a :: vs) zs ud uk)) (gup G2 a (.ins c [])) (fun v G3 => v = .non ∧ Q (.ref a) G3) E) E) E
theorem rep_made {K : PySem.W.Frag} {H : Hp} {G : Gp} {a dx : Addr} (ck : ClsK K c) (r : Rep K H G) (h1 : H a = none) (h2 : H dx = none) (ne : dx ≠ a) :
    Rep K (upd (upd H dx (.own a)) a (.ins (He.ga K (S c)) dx [])) (gup G a (.ins c [])) ∧ Ext H G (upd (upd H dx (.own a)) a (.ins (He.ga K (S c)) dx [])) (gup G a (.ins c [])) := by
  obtain ⟨r1, x1⟩ := r.laid0 (u := .own a) h2
  have h1' : upd H dx (.own a) a = none := by rw [upd_ne ne.symm]; exact h1
  obtain ⟨r2, x2⟩ := r1.laid (u := .ins (He.ga K (S c)) dx []) (o := .ins c []) h1' ⟨ck, dx, [], upd_same, rfl⟩
  exact ⟨r2, x1.trans x2⟩
theorem eu_make (ck : ClsK X.K c) (kn : Known X.prog X.w X.K X.mg X.base d k sp) (hr : RoomU (k + 1) X.A) (hg : Gl X (S c)) (hm : X.mg (S c) = some (.ref (He.ga X.K (S c)))) (M : Mk X.K (He.ga X.K (S c)) (d.at_ X.K)) (hP : Plain d.params)
    (e : planOf (parN d.params) (parK d.params) n ks d.dfl.length (d.kwd.map (·.1)) = some pl) (hd : d.dfl.all plainD = true) (hk : d.kwd.all (fun q => plainD q.2) = true) (hT : Takes X W) (l3 : pl.length = (parN d.params ++ parK d.params).length)
    (ha : AU X W es ta) (hkw : KU X W kws tk) (hst : Unst X.env es ta) (hall : (backToKw pos (keywordEach kws X.env)).all (·.1.isSome) = true) (hks : (backToKw pos (keywordEach kws X.env)).filterMap (·.1) = ks)
    (hpl : ((backTo pos (starEach es X.env)).any (·.1) || (backToKw pos (keywordEach kws X.env)).any (·.1.isNone)) = false) (hdb : (S c == ("__debug__" : Str)) = false) :
    EU X W (.Call (.Name (S c) p) es kws pos) (tUMake c sp n ks.length pl (d.dfl.map uOf) (d.kwd.map fun q => uOf q.2) ta tk) := by
  have b := bind_u (n := n) (ks := ks) (pl := pl) kn.D hP (by
    unfold DD.dvs DD.kws
    rw [List.length_map, List.map_map]
    exact e)
  obtain ⟨dv, kv, rd, rk, bt⟩ := b.ex
  refine ⟨fun pins s σ H us G Q E I rs rp h hx => ?_⟩
  refine wpAny_Call_Name_kw (ld_glob I hg hm ?_ hdb)
  refine call_with (first := []) M.kp ha hkw hst hall hks hpl I rs rp h hx fun s2 H2 G2 vs zs vv zv vl zl I2 x2 rp2 rv rz ru ruz ⟨l1, l2, q⟩ => ?_
  have f1 : H2 (s2.heap.objs.size + 1) = none := I2.hok.fresh (Nat.le_succ _)
  have f2 : H2 s2.heap.objs.size = none := I2.hok.fresh (Nat.le_refl _)
  have ne : s2.heap.objs.size ≠ s2.heap.objs.size + 1 := Nat.ne_of_lt (Nat.lt_succ_self _)
  have q1 := q (s2.heap.objs.size + 1) (rp2.fresh f1)
  obtain ⟨rp3, x3⟩ := rep_made (c := c) ck rp2 f1 f2 ne
  have I3 := Inv.made (C := He.ga X.K (S c)) I2
  have ru3 := ru.ext x3 rp2
  have ruz3 := ruz.ext x3 rp2
  have rv3 : Vals (V.ref (s2.heap.objs.size + 1) :: vv) (Value.ref (s2.heap.objs.size + 1) :: vl) := .cons rfl rv
  have ru4 : RelUs X.K _ (U.ref (s2.heap.objs.size + 1) :: vs) (V.ref (s2.heap.objs.size + 1) :: vv) := ⟨_, _, rfl, rfl, ru3⟩
  refine wpAny_call (make_map (f := d.at_ X.K) I2.kIn M.makes M.init (beq_iff_eq.mp M.fn) (codeAny_mono (kn.F.run _ X.stack _ _ ⟨Value.ref (s2.heap.objs.size + 1) :: vl, ks.zip zl⟩ _ _ _ _ _ E (hr.make _ vl (ks.zip zl)) (I3.env0.make _ vl (ks.zip zl))
    (bt _ (Value.ref (s2.heap.objs.size + 1) :: vl) zl I3.kIn (by rw [List.length_cons, ← rv.length, ru.length, l1]) (by rw [← rz.length, ruz.length, l2])) (plan_vals rv3 rz rd rk pl) (plan_rel ru4 ruz3 (relUs_dv _ hd) (relUs_kd _ hk) pl) (by rw [List.length_map, l3]) rp3 q1) fun r s' hq => ?_))
  have xx := x2.trans x3
  cases r with
  | error er => exact hT er s' (XE.of_call I3 (fun c d H' z => hx c d H' (z.trans xx)) hq)
  | ok fl =>
    cases fl with
    | ret u =>
      obtain ⟨v, H', I4, rv', w, G', x4, rp4, rw_, ew, q4⟩ := I3.after hq
      subst ew
      have ev : v = .non := rw_
      subst ev
      exact ⟨rv', ⟨V.ref (s2.heap.objs.size + 1), H', I4, rfl, .ref (s2.heap.objs.size + 1), G', xx.trans x4, rp4, rfl, q4⟩⟩
    | next => exact False.elim hq
    | brk => exact False.elim hq
    | cont => exact False.elim hq
def strQ (Q : UK) : UK := fun u G => match u with
  | .str l => Q (.str l) G
  | _ => False
end
end UL
set_option maxHeartbeats 400000
namespace UL
open PySem PySem.Spec PyProof.Rows L2 PySem.W

inductive TD where | b (n : String) | o (c : String)
  deriving DecidableEq
def TD.v (K : PySem.W.Frag) : TD → Value
  | .b n => .type n
  | .o c => .ref (He.ga K (S c))
def tdOf (G : Gp) : U → Option TD
  | .non => some (.b "NoneType")
  | .bl _ => some (.b "bool")
  | .int _ => some (.b "int")
  | .str _ => some (.b "str")
  | .tup _ => some (.b "tuple")
  | .rol _ => some (.b "list")
  | .ref a => match G a with
    | some (.lst _) => some (.b "list")
    | some (.dct _) => some (.b "dict")
    | some (.dcr _ _ _) => some (.b "dict")
    | some (.ins c _) => some (.o c)
    | none => none
  | _ => none
def tdC : U → Option TD
  | .ty n => some (.b n)
  | .glo c => some (.o c)
  | _ => none
theorem tdC_of {K : PySem.W.Frag} {H : Hp} {c : U} {z : V} {t : TD} (h : tdC c = some t) (r : RelU K H c z) : ClsV z (t.v K) := by
  cases c <;> try cases h
  · rw [show z = .ty _ from r]
    exact .ty _
  · rw [show z = .ref _ from r]
    exact .own _
theorem ty_frz {K : PySem.W.Frag} {H : Hp} {a : Addr} {xs : List V} (h : RoL K H a xs) : TyX K H (.ref a) (.type "list") := by
  rcases h with ⟨o, h⟩ | ⟨o, its, n, h1, h2, _⟩
  · exact .base (.frz h)
  · exact .kList h1 h2
theorem ty_tup {K : PySem.W.Frag} {H : Hp} {a : Addr} {xs : List V} (h : SqT K H a xs) : TyX K H (.ref a) (.type "tuple") := by
  rcases h with h | ⟨o, its, n, h1, h2, _⟩
  · rcases h with h | ⟨o, h⟩
    · exact .base (.tup h)
    · exact .fTuple h
  · exact .kTuple h1 h2
theorem tdOf_of {K : PySem.W.Frag} {H : Hp} {G : Gp} {x : U} {z : V} {t : TD} (rp : Rep K H G) (h : tdOf G x = some t) (r : RelU K H x z) : TyX K H z (t.v K) := by
  cases x with
  | non => cases h; rw [show z = .non from r]; exact .base .non
  | bl b => cases h; rw [show z = .bl b from r]; exact .base (.bl b)
  | int b => cases h; rw [show z = .int b from r]; exact .base (.int b)
  | str b => cases h; rw [show z = .str ⟨b.toArray⟩ from r]; exact .base (.str _)
  | tup us =>
    cases h
    obtain ⟨a, vs, rfl, t, _⟩ := r.tup_of
    exact ty_tup t
  | rol us =>
    cases h
    obtain ⟨a, vs, rfl, t, _⟩ := r
    exact ty_frz t
  | ref a =>
    rw [show z = .ref a from r]
    unfold tdOf at h
    dsimp only at h
    split at h
    · rename_i g
      cases h
      obtain ⟨vs, e, _⟩ := rp.lst g
      exact .base (.lst e)
    · rename_i g
      cases h
      obtain ⟨vs, e, _⟩ := rp.dct g
      exact .base (.dK e)
    · rename_i g
      cases h
      obtain ⟨e, _⟩ := rp _ _ g
      exact .fDict e
    · rename_i c fs g
      cases h
      obtain ⟨dx, gs, e, _⟩ := rp.ins g
      have k := (rp.clsK g).all
      exact .base (.ins e (rp.clsK g).cls k.2.1.1 k.2.1.2.1 k.2.1.2.2.1 k.2.1.2.2.2)
    · cases h
  | ty n => cases h
  | glo c => cases h
  | exc => cases h
def isiF : TD → TD → Bool
  | .b t, .b c => decide (t = c) || (decide (t = "bool") && decide (c = "int"))
  | .o t, .o c => decide (t = c)
  | _, _ => false
/-- what may stand behind the comma: built-in types, classes of ds -/
def isiOk (ds : List String) : TD → Prop
  | .b c => c ∈ tyNames
  | .o c => c ∈ ds ∧ c ∈ clsNames
def isiK (ds : List String) (t c : Option TD) (Q : Bool → Prop) : Prop := match t, c with
  | some t, some d => isiOk ds d ∧ Q (isiF t d)
  | _, _ => False
def isiV (ds : List String) : U → U → Gp → UK → Prop := fun x c G Q => isiK ds (tdOf G x) (tdC c) fun b => Q (.bl b) G
/-- a class of the text as what isinstance asks for -/
def tgtB (d : String) (K : PySem.W.Frag) : Bool := presB d K && ((clsIn K (He.ga K (S d))).isSome && decide (typeIn K (.ref (He.ga K (S d))) = some (.type "type")))
theorem kit_bb {K : PySem.W.Frag} : ∀ t ∈ ["NoneType", "bool", "int", "str", "tuple", "list", "dict"], ∀ c ∈ tyNames, kitOne K (.type t) (.type c) = some (isiF (.b t) (.b c)) := by
  intro t ht c hc
  refine L2.kit_ty (K := K) (a := t) (b := c) ?_
  have h : (["NoneType", "bool", "int", "str", "tuple", "list", "dict"].all fun t => tyNames.all fun c => decide (L2.kitB t c = some (isiF (.b t) (.b c)))) = true := by decide +kernel
  exact of_decide_eq_true (List.all_eq_true.mp (List.all_eq_true.mp h t ht) c hc)
theorem kit_bo {K : PySem.W.Frag} {d : String} (h : tgtB d K = true) : ∀ t ∈ ["NoneType", "bool", "int", "str", "tuple", "list", "dict"], kitOne K (.type t) (.ref (He.ga K (S d))) = some false := by
  intro t ht
  unfold tgtB at h
  simp only [Bool.and_eq_true, decide_eq_true_eq] at h
  have e : (Value.type t == Value.ref (He.ga K (S d))) = false := beq_eq_false_iff_ne.mpr fun z => nomatch z
  unfold kitOne kitCls
  rw [e]
  simp only [Bool.false_eq_true, if_false]
  rw [h.2.1, h.2.2]
  simp only [beq_self_eq_true, Bool.and_self, if_true]
  unfold subIn
  dsimp only
  have h2 : (["NoneType", "bool", "int", "str", "tuple", "list", "dict"].all fun t => match PySem.fastBuiltinMro t with
      | some l => l.all fun v => match v with
        | .ref _ => false
        | _ => true
      | none => false) = true := by decide +kernel
  have h3 := List.all_eq_true.mp h2 t ht
  split at h3
  · rename_i l hl
    rw [hl]
    simp only [Option.map_some, Option.some.injEq]
    cases hc : l.contains (Value.ref (He.ga K (S d))) with
    | false => rfl
    | true =>
      have := List.all_eq_true.mp h3 _ (List.contains_iff_mem.mp hc)
      cases this
  · cases h3
theorem tdOf_b {G : Gp} {x : U} {n : String} (h : tdOf G x = some (.b n)) : n ∈ ["NoneType", "bool", "int", "str", "tuple", "list", "dict"] := by
  cases x with
  | ref a =>
    unfold tdOf at h
    dsimp only at h
    split at h <;> cases h <;> decide
  | non => cases h; decide
  | bl b => cases h; decide
  | int b => cases h; decide
  | str b => cases h; decide
  | tup b => cases h; decide
  | rol b => cases h; decide
  | ty n => cases h
  | glo n => cases h
  | exc => cases h
theorem tdOf_o {G : Gp} {x : U} {n : String} (h : tdOf G x = some (.o n)) : ∃ a fs, x = .ref a ∧ G a = some (.ins n fs) := by
  cases x with
  | ref a =>
    unfold tdOf at h
    dsimp only at h
    split at h <;> cases h
    rename_i fs g
    exact ⟨a, _, rfl, g⟩
  | _ => cases h
section
variable {X : Cx} {W : WX}
theorem cu_isi {ds : List String} (hd : ∀ d ∈ ds, tgtB d X.K = true) : CallU X W (.builtin "isinstance") (u2 (isiV ds)) := .of call_isi fun xs H as G Q E r rp h => by
  obtain ⟨u, w, rfl, q⟩ := u2_of h
  clear h
  obtain ⟨x, y, rfl, e, e'⟩ := relUs2 r
  unfold isiV isiK at q
  split at q
  · rename_i t d ht hd'
    obtain ⟨ok, q⟩ := q
    refine ⟨x, y, _, _, isiF t d, rfl, tdC_of hd' e', tdOf_of rp ht e, ?_, lv_bl rp q⟩
    cases t with
    | b n =>
      cases d with
      | b m => exact kit_bb n (tdOf_b ht) m ok
      | o c => exact kit_bo (hd c ok.1) n (tdOf_b ht)
    | o n =>
      obtain ⟨a, fs, rfl, g⟩ := tdOf_o ht
      have k := (rp.clsK g).all
      cases d with
      | b m => exact k.2.2.2.2.2.1 m ok
      | o c =>
        have hp := hd c ok.1
        unfold tgtB at hp
        rw [Bool.and_eq_true] at hp
        exact k.2.2.2.2.2.2 c ok.2 hp.1
  · exact q.elim
end

structure EqK (K : PySem.W.Frag) (C : Addr) : Prop where
  eq : findIn K (.ref C) "__eq__" = some (some (.builtin "object.__eq__"))
  ne : findIn K (.ref C) "__ne__" = some (some (.builtin "object.__ne__"))
  ob : mroIn K C (.type "object") = some true
theorem ClsK.eqK {K : PySem.W.Frag} {c : String} (h : ClsK K c) : EqK K (He.ga K (S c)) := ⟨h.all.2.2.1.1, h.all.2.2.1.2.1, h.all.2.1.2.2.2⟩
section
variable {prog : Program} {w : World} {A : Around} {E : Value → Shared → Prop} {s : Shared} {K : PySem.W.Frag} {x y C : Addr} {ox oy : Obj} {od : Option Obj}
theorem notTup (I : InstAt s.heap x ox C od) : ox.cls ≠ .type "tuple" := by
  rw [I.cls]
  intro e
  cases e
theorem askEq {Q : Option Value → Shared → Prop} (inK : K.In s.heap) (I : InstAt s.heap x ox C od) (hy : s.heap.get? y = some oy) (k : EqK K C) (q : Q (some (if x = y then .bool true else .notImplemented)) s) :
    wpAny (model prog w) A (callSpecialIfBound? (.ref x) "__eq__" [.ref y]) Q E s := by
  refine HN.ifBound_objEq inK I k.eq (wpAny_call (codeAny_call_builtin F.cmp_object.eq.plain F.cmpEntry_eq (check_slot F.cmpKind_eq F.cmpSplit_eq (I.type.andThen (looks_mroIn inK k.ob)) (F.cmpArgs_eq _ _) ?_)))
  by_cases e : x = y
  · subst e
    rw [if_pos rfl] at q
    exact objEq_entry_same q
  · rw [if_neg e] at q
    exact objEq_entry_other e I.at_ hy (notTup I) q
theorem askNe {Q : Option Value → Shared → Prop} (hu : A.units + 1 < cLine) (inK : K.In s.heap) (I : InstAt s.heap x ox C od) (hy : s.heap.get? y = some oy) (k : EqK K C) (q : Q (some (if x = y then .bool false else .notImplemented)) s) :
    wpAny (model prog w) A (callSpecialIfBound? (.ref x) "__ne__" [.ref y]) Q E s := by
  have body_ : wpAny (model prog w) A (call (.builtin "object.__ne__") [.ref x, .ref y]) (fun v => Q (some v)) E s := by
    refine wpAny_call (codeAny_call_builtin F.cmp_object.ne.plain F.cmpEntry_ne (check_slot F.cmpKind_ne F.cmpSplit_ne (I.type.andThen (looks_mroIn inK k.ob)) (F.cmpArgs_ne _ _) ?_))
    unfold Builtin.«object.__ne__»
    have step1 : ∀ {Q' : Option Value → Shared → Prop} {E' : Value → Shared → Prop}, Q' (some (if x = y then .bool true else .notImplemented)) s → wpAny (model prog w) A.in1 (callSpecialIfBound? (.ref x) "__eq__" [.ref y]) Q' E' s := fun q => askEq inK I hy k q
    refine wpAny_bind (m := slotArgs "__ne__" 1 _) (wpAny_pure ?_)
    refine wpAny_bind (wpAny_cRoomFor (by show A.units + 1 < cLine; exact hu) (wpAny_bind (step1 ?_)))
    by_cases e : x = y
    · rw [if_pos e] at q ⊢
      exact wpAny_bind (wpAny_truthy_bool (wpAny_pure q))
    · rw [if_neg e] at q ⊢
      exact wpAny_pure q
  simp only [callSpecialIfBound?, bindSpecialIfBound?]
  refine wpAny_holding (wpAny_bind (wpAny_bind (wpAny_bind (I.type.here ((looks_findIn inK k.ne).here ?_)))))
  refine wpAny_bind (wpAny_askSetting (wpAny_ite ?_))
  have last_ : wpAny (model prog w) A (call (.builtin "object.__ne__") ([.ref x] ++ [.ref y]) >>= fun v => pure (some v)) Q E s := wpAny_bind (wpAny_mono body_ (fun v s' q' => wpAny_pure q') fun _ _ q' => q')
  split
  · exact wpAny_bind (wpAny_of_eq (F.cmp_object.ne.bind _) (wpAny_pure (by exact last_)))
  · exact wpAny_tryCatch (wpAny_bind (wpAny_of_eq (F.cmp_object.ne.bind _) (wpAny_pure (by exact last_))))
theorem same_refs {R : Bool → Shared → Prop} (I : InstAt s.heap x ox C od) (hy : s.heap.get? y = some oy) (q : R (decide (x = y)) s) {M : Model} : wpAny M A (isSame (.ref x) (.ref y)) R E s := by
  by_cases e : x = y
  · subst e
    rw [decide_eq_true rfl] at q
    exact wpAny_isSame_ref_self q
  · rw [decide_eq_false e] at q
    exact wpAny_isSame_ref_other e I.at_ hy (notTup I) q
theorem cmp_same {op : CmpOp} (hop : op = .Eq ∨ op = .NotEq) {ody : Option Obj} {Q : Value → Shared → Prop} (hu : A.units + 1 < cLine) (inK : K.In s.heap) (I : InstAt s.heap x ox C od) (J : InstAt s.heap y oy C ody) (k : EqK K C)
    (q : Q (.bool (if op = .Eq then decide (x = y) else !decide (x = y))) s) : wpAny (model prog w) A (compareOp op (.ref x) (.ref y)) Q E s := by
  have hu0 : A.units < cLine := Nat.lt_of_succ_lt hu
  rcases hop with rfl | rfl
  · show wpAny _ _ (richCompare .Eq (.ref x) (.ref y)) _ _ _
    have q' : Q (.bool (decide (x = y))) s := q
    have first_ : ∀ {a b : Addr} {oa ob : Obj} {da : Option Obj} {Q' : Option Value → Shared → Prop}, InstAt s.heap a oa C da → s.heap.get? b = some ob → Q' (if a = b then some (.bool true) else none) s → wpAny (model prog w) A (tryCompare (.ref a) "__eq__" (.ref b)) Q' E s := by
      intro a b oa ob da Q' Ia hb z
      unfold tryCompare
      refine wpAny_bind (askEq inK Ia hb k ?_)
      by_cases e : a = b
      · rw [if_pos e] at z ⊢
        exact wpAny_pure z
      · rw [if_neg e] at z ⊢
        exact wpAny_pure z
    simp only [richCompare, cmpInfo_Eq, oneThing_ref]
    refine wpAny_holding (wpAny_bind (wpAny_cRoomFor hu0 ?_))
    refine wpAny_bind (I.type.here (wpAny_bind (J.type.here ?_)))
    simp only [bne_self_eq_false, Bool.false_eq_true, if_false]
    refine wpAny_bind (wpAny_pure ?_)
    simp only [Bool.false_eq_true, if_false, Bool.not_false, if_true]
    by_cases e : x = y
    · subst e
      refine wpAny_bind (first_ I I.at_ ?_)
      rw [if_pos rfl]
      rw [decide_eq_true rfl] at q'
      exact wpAny_pure q'
    · refine wpAny_bind (first_ I J.at_ ?_)
      rw [if_neg e]
      refine wpAny_bind (first_ J I.at_ ?_)
      rw [if_neg (Ne.symm e)]
      exact wpAny_bind (wpAny_rule (wpAny_bind (same_refs I J.at_ (wpAny_pure q'))))
  · show wpAny _ _ (richCompare .NotEq (.ref x) (.ref y)) _ _ _
    have q' : Q (.bool (!decide (x = y))) s := q
    have first_ : ∀ {a b : Addr} {oa ob : Obj} {da : Option Obj} {Q' : Option Value → Shared → Prop}, InstAt s.heap a oa C da → s.heap.get? b = some ob → Q' (if a = b then some (.bool false) else none) s → wpAny (model prog w) A (tryCompare (.ref a) "__ne__" (.ref b)) Q' E s := by
      intro a b oa ob da Q' Ia hb z
      unfold tryCompare
      refine wpAny_bind (askNe hu inK Ia hb k ?_)
      by_cases e : a = b
      · rw [if_pos e] at z ⊢
        exact wpAny_pure z
      · rw [if_neg e] at z ⊢
        exact wpAny_pure z
    simp only [richCompare, cmpInfo_NotEq, oneThing_ref]
    refine wpAny_holding (wpAny_bind (wpAny_cRoomFor hu0 ?_))
    refine wpAny_bind (I.type.here (wpAny_bind (J.type.here ?_)))
    simp only [bne_self_eq_false, Bool.false_eq_true, if_false]
    refine wpAny_bind (wpAny_pure ?_)
    simp only [Bool.false_eq_true, if_false, Bool.not_false, if_true]
    by_cases e : x = y
    · subst e
      refine wpAny_bind (first_ I I.at_ ?_)
      rw [if_pos rfl]
      rw [decide_eq_true rfl] at q'
      exact wpAny_pure q'
    · refine wpAny_bind (first_ I J.at_ ?_)
      rw [if_neg e]
      refine wpAny_bind (first_ J I.at_ ?_)
      rw [if_neg (Ne.symm e)]
      exact wpAny_bind (wpAny_rule (wpAny_bind (same_refs I J.at_ (wpAny_pure q'))))
end
section
variable {X : Cx} {W : WX}
/-- two instances of one class: the same object? -/
def orEq (neg : Bool) (r : UR2) : UR2 := fun x y G Q E => (isInsU x G = false ∧ r x y G Q E) ∨ ∃ a b c fs gs, x = .ref a ∧ y = .ref b ∧ G a = some (.ins c fs) ∧ G b = some (.ins c gs) ∧ Q (.bl (if neg then !decide (a = b) else decide (a = b))) G
theorem ou_eqOwn {r : UR2} (hu : X.A.units + 64 < cLine) (h0 : OpU X W (compareOp .Eq) r) : OpU X W (compareOp .Eq) (orEq false r) := by
  intro pins s σ H x y v u a b G Q E I rx ry ra rb rp h hx
  rcases h with ⟨_, h⟩ | ⟨p, q, c, fs, gs, rfl, rfl, g1, g2, h⟩
  · exact h0 pins s σ H x y v u a b G Q E I rx ry ra rb rp h hx
  · have ex : x = .ref p := ra
    have ey : y = .ref q := rb
    subst ex ey
    obtain rfl : v = Value.ref p := rx
    obtain rfl : u = Value.ref q := ry
    obtain ⟨ox, od, J⟩ := inst_at I rp g1
    obtain ⟨oy, od', J'⟩ := inst_at I rp g2
    exact cmp_same (op := .Eq) (.inl rfl) (by omega) I.kIn J J' (rp.clsK g1).eqK ⟨.bl (decide (p = q)), H, I, rfl, lv_bl rp h⟩
theorem ou_neOwn {r : UR2} (hu : X.A.units + 64 < cLine) (h0 : OpU X W (compareOp .NotEq) r) : OpU X W (compareOp .NotEq) (orEq true r) := by
  intro pins s σ H x y v u a b G Q E I rx ry ra rb rp h hx
  rcases h with ⟨_, h⟩ | ⟨p, q, c, fs, gs, rfl, rfl, g1, g2, h⟩
  · exact h0 pins s σ H x y v u a b G Q E I rx ry ra rb rp h hx
  · have ex : x = .ref p := ra
    have ey : y = .ref q := rb
    subst ex ey
    obtain rfl : v = Value.ref p := rx
    obtain rfl : u = Value.ref q := ry
    obtain ⟨ox, od, J⟩ := inst_at I rp g1
    obtain ⟨oy, od', J'⟩ := inst_at I rp g2
    exact cmp_same (op := .NotEq) (.inr rfl) (by omega) I.kIn J J' (rp.clsK g1).eqK ⟨.bl (!decide (p = q)), H, I, rfl, lv_bl rp h⟩
end
end UL
set_option maxHeartbeats 400000
namespace UL
open PySem PySem.Spec PyProof.Rows L2 PySem.W

def joinN (a : List Nat) : List (List Nat) → List Nat
  | [] => []
  | [x] => x
  | x :: y :: r => x ++ (a ++ joinN a (y :: r))
theorem joinN_nil : ∀ l : List (List Nat), joinN [] l = l.flatten
  | [] => rfl
  | [x] => by simp [joinN]
  | x :: y :: r => by
    rw [joinN, joinN_nil (y :: r)]
    rfl
def strsU : List U → Option (List (List Nat))
  | [] => some []
  | .str l :: r => (strsU r).map (l :: ·)
  | _ :: _ => none
/-- a.join(items) -/
def joinU : URM := fun x as G Q _ => match x, as with
  | .str a, [y] => (match seqOf G y with
    | some us => (match strsU us with
      | some ls => (ls.map List.length).sum + ls.length * a.length ≤ 1000000 ∧ Q (.str (joinN a ls)) G
      | none => False)
    | none => False)
  | _, _ => False
section
variable {X : Cx} {W : WX}
def strV : U → Gp → UK → Prop := fun u G Q => match u with
  | .str l => Q (.str l) G
  | .int i => i.natAbs.log2 < 1920 ∧ Q (.str (Str.ofString (toString i)).cps.toList) G
  | _ => False
def fmtV : U → Gp → UK → Prop := fun u G Q => match u with
  | .str l => l.length ≤ 1000000 ∧ Q (.str l) G
  | .int i => i.natAbs.log2 < 1920 ∧ Q (.str (Str.ofString (toString i)).cps.toList) G
  | _ => False
def tUFmt (te : UTE) : UTE := fun us G Q E => te us G (fun x G1 => fmtV x G1 Q) E
/-- the parts one behind the other -/
def tUJs : List UTE → List Nat → USt → Gp → UK → UX → Prop
  | [], acc, _, G, Q, _ => Q (.str acc) G
  | t :: ts, acc, us, G, Q, E => t us G (fun x G1 => match x with
    | .str l => acc.length + l.length ≤ 1000000 ∧ tUJs ts (acc ++ l) us G1 Q E
    | _ => False) E
end
end UL
set_option maxHeartbeats 4000000
namespace UL
open PySem PySem.Spec PyProof.Rows L2 PySem.W

structure OexG (K : PySem.W.Frag) (C : Addr) : Prop where
  cls : ∃ B newId initId bmB nm q N bs bm sn sub ab col dd k0 k1 k2 k3 k5, K.lookup C = some (excClassObj nm q C N bs bm true sn sub ab col dd k0 k1 k2 k3 k5 newId) ∧ excTail bmB bm = true ∧ ExcBaseFacts B newId initId bmB ∧ StoreFacts B bmB "object.__setattr__" "object"
  sa : PySem.W.findIn K (.ref C) "__setattr__" = some (some (.builtin "object.__setattr__"))
  exC : PySem.W.subIn K (.ref C) (.type "BaseException") = some true
  tyC : PySem.W.typeIn K (.ref C) = some (.type "type")
  kC : PySem.W.keepIn K (.ref C) = true

section
open PySem.Builtin PySem.Builtin.ObjectAttr
variable {prog : Program} {w : World} {A : Around} {E : Value → Shared → Prop} {R : Result → Shared → Prop} {hp : Heap} {g : Array GenState} {d : Drawn} {t : Nat} {os : OsState} {K : PySem.W.Frag} {name : Str} {tk : Tok} {v : Value} {x C : Addr} {fv : Array Value} {cd : ClassData} {B : String} {bmB : List Value}
theorem over_of {bm : List Value} (hcd : clsIn K C = some cd) (hm : cd.mro = .ref C :: bm) (ht : excTail bmB bm = true) : excOver K C bmB = true := by
  unfold excOver
  rw [hcd]
  show (match cd.mro with | .ref C' :: bm => C' == C && excTail bmB bm | _ => false) = true
  rw [hm]
  show (C == C && excTail bmB bm) = true
  rw [ht]
  simp
theorem taker_of (ha : findIn K (.ref C) name = some none) : takerIn K C name = some none := by
  unfold takerIn
  rw [ha]
  rfl
theorem osaG_new (SF : StoreFacts B bmB "object.__setattr__" "object") (X : K.In hp) (hx : hp.get? x = some { cls := .ref C, data := .fields fv }) (hcd : clsIn K C = some cd) (ho : excOver K C bmB = true) (hh : cd.hasDict = true) (ha : findIn K (.ref C) name = some none)
    (hq : ∀ h' tk' dx, (∀ b o, b ≠ x → hp.get? b = some o → h'.get? b = some o) → hp.objs.size ≤ dx → dx ≠ x → h'.get? x = some { cls := .ref C, dict := some dx, data := .fields fv } →
      h'.Ns1 dx (fun y => if y = name then some v else none) → R (.ok (.ret .none)) ⟨h', g, d, tk', os⟩) :
    codeAny (model prog w) A (.call (.builtin "object.__setattr__") ⟨[.ref x, .str name tk, v], []⟩) R ⟨hp, g, d, t, os⟩ := by
  have hxs : x ≠ hp.objs.size := Nat.ne_of_lt (Heap.lt_size hx)
  have hcls : Looks (model prog w) hp (classData C) cd := looks_clsIn X hcd
  refine osa_openX (s := ⟨hp, g, d, t, os⟩) (od := none) (r := none) SF X ⟨hx, rfl, rfl, trivial⟩ ho (taker_of ha) fun b => ?_
  show wpAny _ _ (storeInOwnDict (.ref x) (.ref C) (.str name tk) name v b) _ _ _
  obtain ⟨nm, bs, mro, ns, qn, hd, sn, sb, ab, col, del⟩ := cd
  dsimp only at hh
  subst hh
  unfold storeInOwnDict ownDictForStores
  repeat (first | with_reducible refine PySem.HandSPX.store_in_new ?_ ?_ | with_reducible refine wpAny_loadPart_at hx ?_ | with_reducible refine hcls.at ?_ | wp_step)
  · exact ⟨_, #[], _, (Heap.get?_update_ne _ _ _ _ hxs.symm).trans (Heap.get?_push_at rfl rfl), rfl, fun e he => absurd he (by simp), fun _ => rfl⟩
  · intro h' tk' hn' hs
    have hx₁ : (hp.push { cls := .type "dict", data := .dict #[] }).get? x = some { cls := .ref C, data := .fields fv } := Heap.get?_push_of_some _ hx
    refine hq h' tk' hp.objs.size (fun b o hb ho => ?_) (Nat.le_refl _) hxs.symm ?_ hn'
    · exact (hs.2 b (Nat.ne_of_lt (Heap.lt_size ho))).trans ((Heap.get?_update_ne _ _ _ _ hb).trans (Heap.get?_push_of_some _ ho))
    · exact (hs.2 x hxs).trans (Heap.get?_update_self _ hx₁ rfl)
theorem osaG_old {dx : Addr} {m0 : Str → Option Value} {nl : List Str} (SF : StoreFacts B bmB "object.__setattr__" "object")
    (X : K.In hp) (hx : hp.get? x = some { cls := .ref C, dict := some dx, data := .fields fv }) (hns : hp.Ns1 dx m0) (hw : Within m0 nl) (hz : nl.length ≤ 1000) (hcd : clsIn K C = some cd) (ho : excOver K C bmB = true) (hh : cd.hasDict = true)
    (ha : findIn K (.ref C) name = some none)
    (hq : ∀ h' tk', (∀ b o, b ≠ dx → hp.get? b = some o → h'.get? b = some o) → h'.Ns1 dx (fun y => if y = name then some v else m0 y) → R (.ok (.ret .none)) ⟨h', g, d, tk', os⟩) :
    codeAny (model prog w) A (.call (.builtin "object.__setattr__") ⟨[.ref x, .str name tk, v], []⟩) R ⟨hp, g, d, t, os⟩ := by
  obtain ⟨oD, esD, epD, hoD, hdD, _⟩ := hns.count hw
  have hcls : Looks (model prog w) hp (classData C) cd := looks_clsIn X hcd
  refine osa_openX (s := ⟨hp, g, d, t, os⟩) (od := some oD) (r := none) SF X ⟨hx, rfl, rfl, hoD⟩ ho (taker_of ha) fun b => ?_
  show wpAny _ _ (storeInOwnDict (.ref x) (.ref C) (.str name tk) name v b) _ _ _
  obtain ⟨nm, bs, mro, ns, qn, hd, sn, sb, ab, col, del⟩ := cd
  dsimp only at hh
  subst hh
  unfold storeInOwnDict ownDictForStores
  repeat (first | with_reducible refine PySem.OEX.store_in_old hns hw hz ?_ | with_reducible refine wpAny_loadPart_at hx ?_ | with_reducible refine hcls.at ?_ | wp_step)
  intro h' tk' hn' hs
  exact hq h' tk' (fun b o hb ho => (hs.2 b hb).trans ho) hn'
end

theorem OexG.cdata {K : PySem.W.Frag} {C : Addr} (T : OexG K C) : ∃ B bmB cd, StoreFacts B bmB "object.__setattr__" "object" ∧ clsIn K C = some cd ∧ excOver K C bmB = true ∧ cd.hasDict = true := by
  obtain ⟨B, newId, initId, bmB, nm, q, N, bs, bm, sn, sub, ab, col, dd, k0, k1, k2, k3, k5, hC, ht, FB, SF⟩ := T.cls
  have hcl : PySem.W.clsIn K C = some { name := nm, bases := bs, mro := .ref C :: bm, ns := N, qualname := q, hasDict := true, slotNames := sn, subclasses := sub, abstract := ab, collection := col, hasDel := false } := by unfold PySem.W.clsIn; rw [hC] <;> rfl
  exact ⟨B, bmB, _, SF, hcl, over_of hcl rfl ht, rfl⟩

section
variable {X : Cx} {pins : List (Addr × Obj)} {σ : L2.St} {H : Hp} {s : Shared} {a C dx : Addr} {f : Str} {y : V} {u : Value} {fs : List (Str × V)} {Q : Unit → Shared → Prop} {E : Value → Shared → Prop} {A : Around}
/-- self.f = y, the first one -/
theorem ostG_new (T : OexG X.K C) (I : Inv X pins σ H s) (e : H a = some (exo a C none)) (hno : PySem.W.findIn X.K (.ref C) f = some none) (ry : RelV y u)
    (h : ∀ dx s', H dx = none → dx ≠ a → Inv X pins σ (upd (upd H dx (exd dx [(f, y)])) a (exo a C (some dx))) s' → Q () s') : wpAny (model X.prog X.w) A (setAttr (.ref a) f u) Q E s := by
  obtain ⟨B, bmB, cd, SF, hcl, hov, hhd⟩ := T.cdata
  obtain ⟨t1, ho⟩ := exo_at I.hok e
  obtain ⟨hp, g, d, t, os⟩ := s
  refine PySem.W.set_plain I.kIn (ox := { cls := .ref C, dict := none, data := .fields #[.ref t1, .none, .none, .none, .bool false, .none] }) (od := none) ⟨ho, rfl, rfl, trivial⟩ T.sa ?_
  refine osaG_new SF I.kIn ho hcl hov hhd hno (fun h' tk' dx k dn dne hx hn => ?_)
  have hnd : H dx = none := I.hok.fresh dn
  have nd : ∀ {b : Addr} {o : Obj}, hp.get? b = some o → b ≠ dx := fun {b o} q => Nat.ne_of_lt (Nat.lt_of_lt_of_le (Heap.lt_size q) dn)
  have na : ∀ {b : Addr}, H b = none → b ≠ a := fun {b} n z => by
    rw [z, e] at n
    cases n
  have Un1 : Un X.fs [] H (upd (upd H dx (exd dx [(f, y)])) a (exo a C (some dx))) hp h' := {
    keep := fun b o q n _ _ => k b o (na n) q
    slot := fun b o q n _ _ => ⟨o.slots, k b o (na n) q⟩
    free := fun b o q n _ => by rw [upd_ne (na n), upd_ne (nd q)]; exact n
    there := fun b o q _ => by
      by_cases hb : b = a
      · exact ⟨_, by rw [hb]; exact hx⟩
      · exact ⟨o, k b o hb q⟩
    tups := fun b xs q => by rw [upd_ne (at_ne e q exo_tup), upd_ne (ne_of_none q hnd)]; exact q
    frzs := fun b o v q => by rw [upd_ne (at_ne e q exo_frz), upd_ne (ne_of_none q hnd)]; exact q
    tbls := fun b ps q => ⟨#[], by rw [upd_ne (at_ne e q exo_tbl), upd_ne (ne_of_none q hnd), q]; simp⟩ }
  refine h dx _ hnd dne (I.un (t' := tk') Un1 fun b o q => ?_)
  by_cases hb : b = a
  · subst hb
    rw [upd_same] at q
    cases q
    exact exo_ok hx
  · rw [upd_ne hb] at q
    by_cases hd : b = dx
    · subst hd
      rw [upd_same] at q
      cases q
      exact exd_ok hn (relO_put (fs := []) ry fun g => True.intro)
    · rw [upd_ne hd] at q
      exact (I.hok b o q).stay (fun c v hc z => k c v (by
          rcases hc with hc | hc
          · rw [hc]
            exact hb
          · exact at_ne e hc exo_own) z)
        (fun c hc => by rw [upd_ne (at_ne e hc exo_own), upd_ne (ne_of_none hc hnd)]; exact hc) (fun c xs hc => by rw [upd_ne (at_ne e hc exo_tup), upd_ne (ne_of_none hc hnd)]; exact hc)
/-- self.f = y, a further one -/
theorem ostG_old (T : OexG X.K C) (I : Inv X pins σ H s) (e : H a = some (exo a C (some dx))) (ed : H dx = some (exd dx fs)) (hl : fs.length ≤ 900) (hno : PySem.W.findIn X.K (.ref C) f = some none) (ry : RelV y u)
    (h : ∀ s', Inv X pins σ (upd H dx (exd dx ((f, y) :: fs))) s' → Q () s') : wpAny (model X.prog X.w) A (setAttr (.ref a) f u) Q E s := by
  obtain ⟨B, bmB, cd, SF, hcl, hov, hhd⟩ := T.cdata
  obtain ⟨t1, ho⟩ := exo_at I.hok e
  obtain ⟨mA, hns, rel⟩ := exd_at I.hok ed
  have hw := within_of rel
  obtain ⟨hp, g, d, t, os⟩ := s
  obtain ⟨oD, _, _, hoD, _, _⟩ := hns.count hw
  refine PySem.W.set_plain I.kIn (ox := { cls := .ref C, dict := some dx, data := .fields #[.ref t1, .none, .none, .none, .bool false, .none] }) (od := some oD) ⟨ho, rfl, rfl, hoD⟩ T.sa ?_
  refine osaG_old SF I.kIn ho hns hw (by rw [List.length_map]; omega) hcl hov hhd hno (fun h' tk' k hn => ?_)
  have hd : ∃ o, h'.get? dx = some o := by
    obtain ⟨o, _, _, e', _⟩ := hn
    exact ⟨o, e'⟩
  exact h _ (I.write (t' := tk') (x := dx) (e := dx) (o := exd dx ((f, y) :: fs)) (by rw [ed]; exact True.intro) (.inl rfl) k hd (exd_ok hn (relO_put ry rel)))
end

def tOstG (K : PySem.W.Frag) (f : Str) (to te : TE) : TS := fun D σ H => te σ H fun y H1 => to σ H1 fun x H2 => ∃ a C : Addr, x = .ref a ∧ OexG K C ∧ PySem.W.findIn K (.ref C) f = some none ∧
  ((H2 a = some (exo a C none) ∧ ∀ dx, H2 dx = none → dx ≠ a → D.nx σ (upd (upd H2 dx (exd dx [(f, y)])) a (exo a C (some dx)))) ∨
    ∃ (dx : Addr) (fs : List (Str × V)), H2 a = some (exo a C (some dx)) ∧ H2 dx = some (exd dx fs) ∧ fs.length ≤ 900 ∧ D.nx σ (upd H2 dx (exd dx ((f, y) :: fs))))
section
variable {X : Cx} {o e : Expr} {es : List Expr} {to te : TE} {ta : TA} {f : Str} {p p' p1 p2 pos : Pos}
theorem ps_ostG (ho : PE X o to) (he : PE X e te) (hs : swapsWith e (some (.Attribute o f p')) pos.line X.env = pure false := by rfl) : PS X (.Assign [.Attribute o f p'] e pos) (tOstG X.K f to te) := by
  refine ⟨fun pins s σ H D I h => ?_⟩
  refine plainObj_wpAny_Assign_Attribute (thn (he.run pins s σ H _ I h) fun v s1 ⟨y, H1, I1, r1, q1⟩ => thn (ho.run pins s1 σ H1 _ I1 q1) fun u s2 ⟨x, H2, I2, r2, a, C, ex, T, hno, q⟩ => ?_) hs
  subst ex
  obtain rfl : u = Value.ref a := r2
  rcases q with ⟨ea, q⟩ | ⟨dx, fs, ea, ed, hl, q⟩
  · exact ostG_new T I2 ea hno r1 fun dx s' n ne J => ⟨σ, _, J, q dx n ne⟩
  · exact ostG_old T I2 ea ed hl hno r1 fun s' J => ⟨σ, _, J, q⟩
theorem pmk_oexG {CX : CXT} {x : Str} {C fI : Addr} {k : Nat} {fd : FuncData} {ps : List Str} {sp : Sp} {ds : List Value} {dvs : List V} (T : OexG X.K C) (iC : PySem.W.findIn X.K (.ref C) "__init__" = some (some (.ref fI))) (tI : PySem.W.typeIn X.K (.ref fI) = some (.type "function"))
    (F1 : FnOk X.prog X.w X.K X.mg X.base CX k fI fd ps sp) (hr : Room (k + 1) X.A) (hb : Binds X.K fd ps ds) (hd : Vals dvs ds) (hx : Passes CX X (fun _ _ _ => False)) (hg : Gl X x) (hm : X.mg x = some (.ref C)) (ha : PA X (e :: es) ta)
    (hdb : (x == ("__debug__" : Str)) = false := by decide) (he : starEach (e :: es) X.env = (false, eval e X.env) :: starEach es X.env := by rfl) (hpl : (backTo pos (starEach es X.env)).any (·.1) = false := by rfl) :
    PMk X (.Call (.Name x p) (e :: es) [] pos) (tMkO C sp dvs ta) := by
  intro pins s σ H Q I h
  obtain ⟨B, newId, initId, bmB, nm, q, N, bs, bm, sn, sub, ab, col, dd, k0, k1, k2, k3, k5, hC, hbm, FB, SF⟩ := T.cls
  refine wpAny_Call_Name_kw (ld_glob I hg hm ?_ hdb)
  refine PySem.W.callWith_K (h₀ := X.base) I.ok.mod.kin T.kC (thn (ha.run pos pins s σ H _ I h) fun us s1 ⟨vs, H1, I1, r1, hz, q1⟩ => ⟨I1.kIn, ?_⟩) he hpl
  show wpAny _ _ (call (.ref C) us) _ _ _
  obtain ⟨hp, g, dr, tk, os⟩ := s1
  have hsz : hp.objs.size ≤ hp.objs.size + 1 := Nat.le_succ _
  have hn : H1 (hp.objs.size + 1) = none := I1.hok.fresh hsz
  have hq := q1 (hp.objs.size + 1) hn
  have kk : ∀ b o, hp.get? b = some o → ((hp.push (PySem.W.kdv_tup us)).push (PySem.HandSPX.excO C hp.objs.size)).get? b = some o := fun b o e => Heap.get?_push_of_some _ (Heap.get?_push_of_some _ e)
  have hget : ((hp.push (PySem.W.kdv_tup us)).push (PySem.HandSPX.excO C hp.objs.size)).get? (hp.objs.size + 1) = some (PySem.HandSPX.excO C hp.objs.size) := by heap_get
  have I2 : Inv X pins σ (upd H1 (hp.objs.size + 1) (exo (hp.objs.size + 1) C none)) ⟨(hp.push (PySem.W.kdv_tup us)).push (PySem.HandSPX.excO C hp.objs.size), g, dr, tk, os⟩ :=
    I1.laid (t' := tk) (a := hp.objs.size + 1) (o := exo (hp.objs.size + 1) C none) (h' := (hp.push (PySem.W.kdv_tup us)).push (PySem.HandSPX.excO C hp.objs.size)) kk hsz (exo_ok hget)
  have r2 : Vals (V.ref (hp.objs.size + 1) :: (vs ++ dvs)) (Value.ref (hp.objs.size + 1) :: (us ++ ds)) := .cons rfl (r1.append hd)
  have hl : (Value.ref (hp.objs.size + 1) :: us ++ ds).length = ps.length := by
    have e := r2.length
    rw [F1.len _ _ _ _ hq] at e
    exact e.symm
  have hus : us.length ≤ sizeLine := by
    rw [← Paired.length r1, sizeLine_eq]
    omega
  refine wpAny_call (PySem.HandSPX.call_own FB (fun Y => excTail_contains Y bm hbm) (I1.kIn _ _ hC) (PySem.W.looks_findIn I1.kIn iC) (fun self => PySem.W.bind_fn I1.kIn self tI) hus
    (codeAny_mono (F1.run _ X.stack _ _ ⟨Value.ref (hp.objs.size + 1) :: us, []⟩ (Value.ref (hp.objs.size + 1) :: (us ++ ds)) _ _ (fun _ _ _ => False) (hr.make C us []) (I2.env0.make C us []) (hb _ (Value.ref (hp.objs.size + 1) :: us) I2.kIn hl) r2 hq) fun r s' hq' => ?_))
  cases r with
  | error er => exact hx pins σ _ _ er s' I2 hq'
  | ok fl =>
    cases fl with
    | ret u =>
      obtain ⟨v, H2, os2, bare2, un2, hok2, rv, ev, d, fs, ea, ed, hd1, q2⟩ := hq'
      subst ev
      obtain ⟨h2, g2, d2, t2, os'⟩ := s'
      exact ⟨rv, mk_end (raises_own T.exC T.tyC) I1 hsz kk un2 hok2 os2 bare2 ea ed hd1 q2⟩
    | next => exact False.elim hq'
    | brk => exact False.elim hq'
    | cont => exact False.elim hq'
end
end UL
set_option maxHeartbeats 400000
namespace UL
open PySem PySem.Spec PyProof.Rows L2 PySem.W

def pairsF (fl : List String) (xs : List V) : List (Str × V) := (fl.map S).zip xs
def spIni (C : Addr) (fl : List String) : Sp := fun vs H Q _ => ∃ a xs, vs = .ref a :: xs ∧ xs.length = fl.length ∧ H a = some (exo a C none) ∧ ∀ dx, H dx = none → dx ≠ a → Q .non (upd (upd H dx (exd dx (pairsF fl xs).reverse)) a (exo a C (some dx)))
section
variable {P : Program} {w : World} {K : PySem.W.Frag} {mg : Str → Option Value} {base : Heap} {name qual : Str} {params : Arguments} {scope : Scope} {fa C : Addr} {fd : FuncData} {x0 x1 x2 x3 : Str} {f1 f2 f3 : String} {p1 p2 p3 p4 q1 q2 q3 q4 r1 r2 r3 r4 : Pos}
def okN (x : Str) : Prop := (x == ("__debug__" : Str)) = false ∧ (x == ("__classdict__" : Str)) = false
theorem vis_of {N ps : List Str} (Sc : FnScope N ps scope) {x : Str} (h : x ∈ ps) : Vis scope x := (Sc.par x h).imp id .inl
theorem ini1 (F : FunD K name qual params [.Assign [.Attribute (.Name x0 p1) (S f1) p2] (.Name x1 p3) p4] scope [] [] fa fd) (Sc : FnScope [x0, x1] [x0, x1] scope) (T : OexG K C) (n1 : findIn K (.ref C) (S f1) = some none) (o0 : okN x0) (o1 : okN x1) :
    FnOk P w K mg base L2.CX0 1 fa fd [x0, x1] (spIni C [f1]) := by
  refine F.ok Sc (fun vs H Q E ⟨a, xs, e, l, _⟩ => ?_) (fun cdv A outer s H vs Q E hr ⟨a, xs, e, l, ha, q⟩ => ⟨tOstG K (S f1) (tVar 0) (tVar 1), PSs.nox (pss_one (ps_ostG (pe_var rfl (vis_of Sc (by simp)) o0.1 o0.2) (pe_var rfl (vis_of Sc (by simp)) o1.1 o1.2) rfl)), ?_⟩)
  · subst e
    simp only [List.length_cons, l, List.length_nil]
  · subst e
    rcases xs with _ | ⟨y, _ | ⟨z, r⟩⟩
    · cases l
    · exact ⟨y, rfl, _, rfl, a, C, rfl, T, n1, .inl ⟨ha, fun dx h1 h2 => q dx h1 h2⟩⟩
    · cases l
end

theorem pairs_look {K : PySem.W.Frag} {H : Hp} {f : String} {u : U} : ∀ {fl : List String} {us : List U} {xs : List V}, RelUs K H us xs → us.length = fl.length → fget (fl.zip us) f = some u → ∃ v, (pairsF fl xs).lookup (S f) = some v ∧ RelU K H u v
  | [], _, _, _, _, h => by cases h
  | g :: fl, [], _, _, l, _ => by cases l
  | g :: fl, w :: us, _, ⟨v, ws, rfl, hv, t⟩, l, h => by
    rw [List.zip_cons_cons, fget] at h
    show ∃ v', List.lookup (S f) ((S g, v) :: pairsF fl ws) = some v' ∧ _
    rw [List.lookup_cons]
    by_cases e : g = f
    · subst e
      rw [if_pos rfl] at h
      cases h
      exact ⟨v, by simp, hv⟩
    · rw [if_neg e] at h
      rw [beq_eq_false_iff_ne.mpr fun z => e (S_inj z.symm)]
      exact pairs_look t (by simpa using l) h
theorem lookup_rev {f : Str} {v : V} : ∀ {l : List (Str × V)}, (l.map (·.1)).Nodup → l.lookup f = some v → l.reverse.lookup f = some v := by
  intro l nd h
  have mem : ∀ {l : List (Str × V)}, l.lookup f = some v → (f, v) ∈ l := by
    intro l
    induction l with
    | nil => intro h; cases h
    | cons q r ih =>
      obtain ⟨a, b⟩ := q
      intro h
      rw [List.lookup_cons] at h
      cases e : f == a with
      | true =>
        rw [e] at h
        cases h
        rw [beq_iff_eq.mp e]
        exact List.mem_cons_self
      | false =>
        rw [e] at h
        exact List.mem_cons_of_mem _ (ih h)
  have uniq : ∀ {l : List (Str × V)}, (l.map (·.1)).Nodup → (f, v) ∈ l → l.lookup f = some v := by
    intro l
    induction l with
    | nil => intro _ h; cases h
    | cons q r ih =>
      obtain ⟨a, b⟩ := q
      intro nd h
      rw [List.map_cons, List.nodup_cons] at nd
      rw [List.lookup_cons]
      rcases List.mem_cons.mp h with e | h
      · cases e
        simp
      · have ne : f ≠ a := fun e => nd.1 (by rw [← e]; exact List.mem_map.mpr ⟨_, h, rfl⟩)
        rw [beq_eq_false_iff_ne.mpr ne]
        exact ih nd.2 h
  exact uniq (by rw [List.map_reverse]; exact (List.reverse_perm _).nodup_iff.mpr nd) (List.mem_reverse.mpr (mem h))
theorem pairs_keys : ∀ {fl : List String} {xs : List V}, xs.length = fl.length → (pairsF fl xs).map (·.1) = fl.map S
  | [], _, _ => rfl
  | f :: fl, [], l => by cases l
  | f :: fl, x :: xs, l => by
    show S f :: (pairsF fl xs).map (·.1) = S f :: fl.map S
    rw [pairs_keys (by simpa using l)]
theorem nodup_S {fl : List String} (h : fl.Nodup) : (fl.map S).Nodup := by
  unfold List.Nodup at h ⊢
  rw [List.pairwise_map]
  exact h.imp fun ne z => ne (S_inj z)
def tURaise (c : String) (fl : List String) (t : UTA) : UTS := fun D us G => t us G (fun vs G1 => vs.length = fl.length ∧ D.ex ⟨c, fl.zip vs⟩ us G1) (fun x G1 => D.ex x us G1)
section
variable {X : Cx} {W : WX} {e : Expr} {es : List Expr} {ta : UTA} {p pos pos' : Pos} {k : Nat} {fd : FuncData} {ps : List Str} {c : String} {fl : List String} {fI : Addr}
theorem su_raise (hc : X.calm = true) (hT : Takes X W) (T : OexG X.K (He.ga X.K (S c))) (iC : findIn X.K (.ref (He.ga X.K (S c))) "__init__" = some (some (.ref fI))) (tI : typeIn X.K (.ref fI) = some (.type "function")) (F1 : FnOk X.prog X.w X.K X.mg X.base L2.CX0 k fI fd ps (spIni (He.ga X.K (S c)) fl))
    (hr : RoomU (k + 1) X.A) (hb : Binds X.K fd ps []) (hg : Gl X (S c)) (hm : X.mg (S c) = some (.ref (He.ga X.K (S c)))) (nd : fl.Nodup) (hl : fl.length ≤ 1000) (ha : AU X W (e :: es) ta)
    (hdb : (S c == ("__debug__" : Str)) = false) (he : starEach (e :: es) X.env = (false, eval e X.env) :: starEach es X.env) (hpl : (backTo pos (starEach es X.env)).any (·.1) = false) :
    SU X W (.Raise (some (.Call (.Name (S c) p) (e :: es) [] pos)) none pos') (tURaise c fl ta) := by
  refine .of (ps_raise hc hT (pmk_oexG T iC tI F1 hr.rm hb .nil (fun _ _ _ _ _ _ _ h => h.elim) hg hm ha.pa hdb he hpl)) fun σ H us G D rs rp h hx => ?_
  refine ⟨us, G, _, _, rs, rp, h, fun vs H1 ⟨ws, G1, x1, r1, rw_, l, q⟩ => ?_, fun cc d H' h' => hx cc d σ H' (LXS.of rs rp h')⟩
  have lv : vs.length = fl.length := by rw [rw_.length, l]
  refine ⟨by omega, fun a hn => ⟨a, vs ++ [], rfl, by rw [List.append_nil]; exact lv, upd_same, fun dx hd ne => ⟨rfl, dx, _, upd_same, by rw [upd_ne ne, upd_same], by rw [upd_ne ne] at hd; exact hd, ?_⟩⟩⟩
  have hd1 : H1 dx = none := by rw [upd_ne ne] at hd; exact hd
  refine hx _ _ σ _ ?_
  have at_ : ∀ b, b ≠ dx → b ≠ a → upd (del (upd (upd (upd H1 a (exo a (He.ga X.K (S c)) none)) dx (exd dx (pairsF fl (vs ++ [])).reverse)) a (exo a (He.ga X.K (S c)) (some dx))) a) dx (.xd (pairsF fl (vs ++ [])).reverse) b = H1 b := fun b h1 h2 => by
    rw [upd_ne h1, del_ne h2, upd_ne h2, upd_ne h1, upd_ne h2]
  have x2 : Ext H1 G1 (upd (del (upd (upd (upd H1 a (exo a (He.ga X.K (S c)) none)) dx (exd dx (pairsF fl (vs ++ [])).reverse)) a (exo a (He.ga X.K (S c)) (some dx))) a) dx (.xd (pairsF fl (vs ++ [])).reverse)) G1 := fun b o hb gb => by
    have h1 : b ≠ dx := fun z => by rw [z, hd1] at hb; cases hb
    have h2 : b ≠ a := fun z => by rw [z, hn] at hb; cases hb
    exact ⟨by rw [at_ b h1 h2]; exact hb, gb⟩
  have hT' : ∀ b xs, SqT X.K H1 b xs → SqT X.K _ b xs := fun b xs z => x2.sqT r1 z
  have r2 : Rep X.K (upd (del (upd (upd (upd H1 a (exo a (He.ga X.K (S c)) none)) dx (exd dx (pairsF fl (vs ++ [])).reverse)) a (exo a (He.ga X.K (S c)) (some dx))) a) dx (.xd (pairsF fl (vs ++ [])).reverse)) G1 := fun b o gb => by
    obtain ⟨u, hu⟩ := r1.there gb
    have h1 : b ≠ dx := fun z => by rw [z, hd1] at hu; cases hu
    have h2 : b ≠ a := fun z => by rw [z, hn] at hu; cases hu
    exact (r1 b o gb).move x2 r1 (at_ b h1 h2)
  refine ⟨⟨c, fl.zip ws⟩, us, G1, x1.trans x2, r2, (rs.ext x1 rp).ext x2 r1, ⟨rfl, .inr ⟨dx, _, rfl, upd_same, fun f u hf => ?_⟩⟩, q⟩
  obtain ⟨v, e1, e2⟩ := pairs_look (rw_.ext x2 r1) l hf
  refine ⟨v, ?_, e2⟩
  rw [List.append_nil]
  exact lookup_rev (by rw [pairs_keys lv]; exact nodup_S nd) e1
end
end UL
set_option maxHeartbeats 400000
namespace UL
open PySem PySem.Spec PyProof.Rows L2 PySem.W

abbrev AlX : Type := Bool × List He.FnW
def obsX (fx : List (PySem.W.Frag → Bool)) (fa : List He.Fa) (fn : List DD) (K : PySem.W.Frag) : AlX := (fx.all (fun f => f K) && (fa.all (fun f => f.ok K) && fn.all fun d => d.fit K), fn.map fun d => told K (d.at_ K))
structure SaysX (fx : List (PySem.W.Frag → Bool)) (fa : List He.Fa) (fn : List DD) (K : PySem.W.Frag) : Prop where
  all : (fx.all (fun f => f K) && (fa.all (fun f => f.ok K) && fn.all fun d => d.fit K)) = true
  code : (fn.map fun d => told K (d.at_ K)) = fn.map DD.due
section
variable {fx : List (PySem.W.Frag → Bool)} {fa : List He.Fa} {fn : List DD} {K : PySem.W.Frag}
theorem SaysX.fact (c : SaysX fx fa fn K) (i : Nat) {f : PySem.W.Frag → Bool} (h : fx[i]? = some f) : f K = true :=
  List.all_eq_true.mp (Bool.and_eq_true _ _ ▸ c.all).1 f (List.mem_of_getElem? h)
theorem SaysX.he (c : SaysX fx fa fn K) (i : Nat) {f : He.Fa} (h : fa[i]? = some f) : f.ok K = true := by
  have h1 := c.all
  rw [Bool.and_eq_true, Bool.and_eq_true] at h1
  exact List.all_eq_true.mp h1.2.1 f (List.mem_of_getElem? h)
theorem SaysX.def_ (c : SaysX fx fa fn K) (i : Nat) {d : DD} (h : fn[i]? = some d) : ∃ z, FunD K d.name d.qual d.params d.body d.scope (d.dvs K) (d.kws K) (d.at_ K) z := by
  have h1 := c.all
  rw [Bool.and_eq_true, Bool.and_eq_true] at h1
  refine DD.funD ?_ (List.all_eq_true.mp h1.2.2 d (List.mem_of_getElem? h))
  have e := congrArg (fun l => l[i]?) c.code
  simp only [List.getElem?_map, h, Option.map_some] at e
  exact Option.some.inj e
end
def bmVE : List Value := [.type "ValueError", .type "Exception", .type "BaseException", .type "object"]
def bmLE : List Value := [.type "LookupError", .type "Exception", .type "BaseException", .type "object"]
def bmRE : List Value := [.type "RuntimeError", .type "Exception", .type "BaseException", .type "object"]
def newB (n : String) (bm : List Value) : Bool := (n == "ValueError.__new__" && excTail bmVE bm) || ((n == "LookupError.__new__" && excTail bmLE bm) || (n == "RuntimeError.__new__" && excTail bmRE bm))
theorem newB_of {n : String} {bm : List Value} (h : newB n bm = true) : ∃ B initId bmB, excTail bmB bm = true ∧ ExcBaseFacts B n initId bmB ∧ StoreFacts B bmB "object.__setattr__" "object" := by
  unfold newB at h
  rw [Bool.or_eq_true, Bool.or_eq_true, Bool.and_eq_true, Bool.and_eq_true, Bool.and_eq_true] at h
  rcases h with ⟨e, q⟩ | ⟨e, q⟩ | ⟨e, q⟩
  · rw [beq_iff_eq.mp e]
    exact ⟨_, _, _, q, F.excBase_ValueError, F.store_ValueError⟩
  · rw [beq_iff_eq.mp e]
    exact ⟨_, _, _, q, F.excBase_LookupError, F.store_LookupError⟩
  · rw [beq_iff_eq.mp e]
    exact ⟨_, _, _, q, F.excBase_RuntimeError, F.store_RuntimeError⟩
def oexB (c : String) (K : PySem.W.Frag) : Bool := (match K.lookup (He.ga K (S c)) with
  | some ⟨.type t, _, .cls cd, sl⟩ => t == "type" && (cd.hasDict && (!cd.hasDel && ((match cd.mro, sl.toList with
    | .ref a :: bm, [_, _, _, _, some (.builtin n), _] => decide (a = He.ga K (S c)) && newB n bm
    | _, _ => false))))
  | _ => false) && (decide (findIn K (.ref (He.ga K (S c))) "__setattr__" = some (some (.builtin "object.__setattr__"))) && (decide (subIn K (.ref (He.ga K (S c))) (.type "BaseException") = some true) &&
    (decide (typeIn K (.ref (He.ga K (S c))) = some (.type "type")) && keepIn K (.ref (He.ga K (S c))))))
theorem oex_of {c : String} {K : PySem.W.Frag} (h : oexB c K = true) : OexG K (He.ga K (S c)) := by
  unfold oexB at h
  rw [Bool.and_eq_true] at h
  obtain ⟨h1, h2⟩ := h
  simp only [Bool.and_eq_true, decide_eq_true_eq] at h2
  obtain ⟨a1, a2, a3, a4⟩ := h2
  refine ⟨?_, a1, a2, a3, a4⟩
  split at h1
  · rename_i t dd cd sl lk
    obtain ⟨nm, bs, mro, N, q, hd, sn, sub, ab, col, dl⟩ := cd
    simp only [Bool.and_eq_true, Bool.not_eq_true'] at h1
    obtain ⟨e1, e2, e3, e4⟩ := h1
    split at e4
    · rename_i a bm k0 k1 k2 k3 n k5 es
      simp only [Bool.and_eq_true, decide_eq_true_eq] at e4
      obtain ⟨e4, e6⟩ := e4
      have e8 : t = "type" := beq_iff_eq.mp e1
      have e9 : sl = #[k0, k1, k2, k3, some (.builtin n), k5] := Array.toList_inj.mp es
      subst e8 e9 e4
      have e2' : hd = true := e2
      have e3' : dl = false := e3
      subst e2' e3'
      obtain ⟨B, initId, bmB, q1, q2, q3⟩ := newB_of e6
      exact ⟨B, n, initId, bmB, nm, q, N, bs, bm, sn, sub, ab, col, dd, k0, k1, k2, k3, k5, lk, q1, q2, q3⟩
    · cases e4
  · cases h1
theorem eu_strN {X : Cx} {W : WX} {s : String} {l : List Nat} {j : Nat} {pos : Pos} (h : (S s).cps.toList = l) : EU X W (.Constant (.str (S s)) j pos) (tUC (.str l)) := by
  rw [← h]
  exact eu_str
theorem eu_gstrN {X : Cx} {W : WX} {x z : Str} {l : List Nat} {pos : Pos} (hg : Gl X x) (hm : ∃ t, X.mg x = some (.str z t)) (hd : (x == ("__debug__" : Str)) = false) (h : z.cps.toList = l) : EU X W (.Name x pos) (tUC (.str l)) := by
  rw [← h]
  exact eu_gstr hg hm hd
def bodyOf : Stmt → List Stmt
  | .ClassDef (body := b) .. => b
  | _ => []
theorem mt0 {X : Cx} {W : WX} {m : Str} {n : Nat} {ks : List Str} {P : String → Prop} : ∀ c' ap', List.lookup c' ([] : List (String × MAp)) = some ap' → MCall X W m n ks c' ap' ∧ P c' := fun _ _ h => by cases h
theorem mtc {X : Cx} {W : WX} {m : Str} {n : Nat} {ks : List Str} {c : String} {ap : MAp} {r : List (String × MAp)} {P : String → Prop} (h : MCall X W m n ks c ap) (p : P c) (t : ∀ c' ap', List.lookup c' r = some ap' → MCall X W m n ks c' ap' ∧ P c') :
    ∀ c' ap', List.lookup c' ((c, ap) :: r) = some ap' → MCall X W m n ks c' ap' ∧ P c' := fun c' ap' e => by
  rw [List.lookup_cons] at e
  cases q : c' == c with
  | true =>
    rw [q] at e
    cases e
    rw [beq_iff_eq.mp q]
    exact ⟨h, p⟩
  | false =>
    rw [q] at e
    exact t c' ap' e
theorem mtl {X : Cx} {W : WX} {m : Str} {n : Nat} {ks : List Str} {r : List (String × MAp)} (t : ∀ c' ap', List.lookup c' r = some ap' → MCall X W m n ks c' ap' ∧ True) : ∀ c' ap', List.lookup c' r = some ap' → MCall X W m n ks c' ap' := fun c' ap' h => (t c' ap' h).1
theorem allc {P : String → Prop} {c : String} {r : List String} (h : P c) (t : ∀ c' ∈ r, P c') : ∀ c' ∈ c :: r, P c' := fun c' m => by
  rcases List.mem_cons.mp m with e | m
  · rw [e]
    exact h
  · exact t c' m
theorem all0 {α : Type} {P : α → Prop} : ∀ c' ∈ ([] : List α), P c' := fun _ m => by cases m
theorem allp {α : Type} {P : α → Prop} {c : α} {r : List α} (h : P c) (t : ∀ c' ∈ r, P c') : ∀ c' ∈ c :: r, P c' := fun c' m => by
  rcases List.mem_cons.mp m with e | m
  · rw [e]
    exact h
  · exact t c' m
end UL
set_option maxHeartbeats 1000000
namespace UL
open PySem PySem.Spec PyProof.Rows L2
def lvX (g : Addr → Option Obj) (as : List Addr) : List Addr := (as.flatMap fun a => match g a with
  | some o => He.refsD o
  | none => []).eraseDups
def asX (g : Addr → Option Obj) : Nat → List Addr → List Addr
  | 0, f => f
  | n + 1, f => f ++ asX g n (lvX g f)
def obsYG (n : Nat) (fx : List (PySem.W.Frag → Bool)) (fa : List He.Fa) (fn : List DD) (g : Addr → Option Obj) : AlX := obsX fx fa fn (He.frG g (asX g n [mainGlobals] ++ [cStatics]))
def hookY (n : Nat) (fx : List (PySem.W.Frag → Bool)) (fa : List He.Fa) (fn : List DD) : PySem.W.Hook where
  α := AlX
  obs := fun s => obsYG n fx fa fn s.heap.get?
  val := fun _ => (true, fn.map DD.due)
  says := fun _ h => ∃ K : PySem.W.Frag, K.In h ∧ SaysX fx fa fn K
  of := fun _ _ e => ⟨_, He.frG_in, congrArg Prod.fst e, congrArg Prod.snd e⟩
  keeps := fun _ _ _ ⟨K, hK, c⟩ k => ⟨K, PySem.W.Frag.In.keeps hK k, c⟩
theorem obsYG_eq {n : Nat} {fx : List (PySem.W.Frag → Bool)} {fa : List He.Fa} {fn : List DD} {g : Addr → Option Obj} {s : Shared} (h : ∀ a, g a = s.heap.get? a) : obsYG n fx fa fn g = (hookY n fx fa fn).obs s := by
  have e : g = s.heap.get? := funext h
  rw [e]
  rfl
def dues_ : List DD → List He.FnW
  | [] => []
  | d :: r => d.due :: dues_ r
theorem dues_eq : ∀ fn : List DD, dues_ fn = fn.map DD.due
  | [] => rfl
  | d :: r => congrArg (d.due :: ·) (dues_eq r)
end UL
set_option maxHeartbeats 2000000
namespace UL
open PySem PySem.Spec PyProof.Rows L2 PySem.W
def hitK (c' c : String) (b : Bool) (K : PySem.W.Frag) : Bool := decide (PySem.W.exmOne K (.ref (He.ga K (S c'))) (.ref (He.ga K (S c))) = some b)
def nsqB (c : String) (K : PySem.W.Frag) : Bool := PySem.W.noSeq K (He.ga K (S c)) && (match PySem.W.findIn K (.ref (He.ga K (S c))) "__getitem__" with
  | some (some (.ref f)) => PySem.W.fnIn K f
  | _ => false)
def statB (c m : String) (K : PySem.W.Frag) : Bool :=
  PySem.W.readsIn K (He.ga K (S c)) (.type "type") && (decide (PySem.W.specialIn K (.ref (He.ga K (S c))) "__getattribute__" = some (some (.builtin "type.__getattribute__"))) &&
    ((match PySem.W.findCls K (.ref (He.ga K (S c))) (.type "type") (S m) with
    | some (.get (.builtin n) (.ref p) .none (.ref C)) => n == "staticmethod.__get__" && (p == mAt c m K && C == He.ga K (S c))
    | _ => false) && (match PySem.W.recIn K (mAt c m K) "staticmethod" with
    | some (.ref _ :: _) => true
    | _ => false)))
def xfK (c : String) (f : String) (K : PySem.W.Frag) : Bool := xfB K (He.ga K (S c)) && decide (PySem.W.findIn K (.ref (He.ga K (S c))) (S f) = some none)
end UL
namespace K16
open PySem PySem.Spec PyProof.Rows L2 UL
def top (i : Nat) : Stmt := PySem.Challenge.pw_workerworlds_k16_worlds_of_contents.main.body.getD i (.Pass ⟨0, 0, 0, 0⟩)
def clsm (i j : Nat) : Stmt := (bodyOf (top i)).getD j (.Pass ⟨0, 0, 0, 0⟩)
def d_BadBox___init__ : DD := ⟨mAt "BadBox" "__init__", "__init__", "BadBox.__init__", defArgs (clsm 3 0), defBody (clsm 3 0), defScope (clsm 3 0), [], []⟩
def d_BadName___init__ : DD := ⟨mAt "BadName" "__init__", "__init__", "BadName.__init__", defArgs (clsm 4 0), defBody (clsm 4 0), defScope (clsm 4 0), [], []⟩
def d_NoName___init__ : DD := ⟨mAt "NoName" "__init__", "__init__", "NoName.__init__", defArgs (clsm 6 0), defBody (clsm 6 0), defScope (clsm 6 0), [], []⟩
def d_is_contents : DD := ⟨gAt "is_contents", "is_contents", "is_contents", defArgs (top 10), defBody (top 10), defScope (top 10), [], []⟩
def d_Box___init__ : DD := ⟨mAt "Box" "__init__", "__init__", "Box.__init__", defArgs (clsm 15 0), defBody (clsm 15 0), defScope (clsm 15 0), [.str ""], []⟩
def d_Box_become : DD := ⟨mAt "Box" "become", "become", "Box.become", defArgs (clsm 15 14), defBody (clsm 15 14), defScope (clsm 15 14), [], []⟩
def d_is_name : DD := ⟨gAt "is_name", "is_name", "is_name", defArgs (top 19), defBody (top 19), defScope (top 19), [], []⟩
def d_World___init__ : DD := ⟨mAt "World" "__init__", "__init__", "World.__init__", defArgs (clsm 21 0), defBody (clsm 21 0), defScope (clsm 21 0), [], []⟩
def d_World___getitem__ : DD := ⟨mAt "World" "__getitem__", "__getitem__", "World.__getitem__", defArgs (clsm 21 1), defBody (clsm 21 1), defScope (clsm 21 1), [], []⟩
def d_World___setitem__ : DD := ⟨mAt "World" "__setitem__", "__setitem__", "World.__setitem__", defArgs (clsm 21 3), defBody (clsm 21 3), defScope (clsm 21 3), [], []⟩
def d_World___contains__ : DD := ⟨mAt "World" "__contains__", "__contains__", "World.__contains__", defArgs (clsm 21 4), defBody (clsm 21 4), defScope (clsm 21 4), [], []⟩
def d_World_names : DD := ⟨mAt "World" "names", "names", "World.names", defArgs (clsm 21 8), defBody (clsm 21 8), defScope (clsm 21 8), [], []⟩
def d_World_sharing : DD := ⟨mAt "World" "sharing", "sharing", "World.sharing", defArgs (clsm 21 9), defBody (clsm 21 9), defScope (clsm 21 9), [], []⟩
def d_World_rows : DD := ⟨mAt "World" "rows", "rows", "World.rows", defArgs (clsm 21 13), defBody (clsm 21 13), defScope (clsm 21 13), [], []⟩
def d_World_of : DD := ⟨wAt "World" "of" "staticmethod", "of", "World.of", defArgs (clsm 21 14), defBody (clsm 21 14), defScope (clsm 21 14), [], []⟩
def d__law_bag : DD := ⟨gAt "_law_bag", "_law_bag", "_law_bag", defArgs (top 23), defBody (top 23), defScope (top 23), [], []⟩
def d__law_take : DD := ⟨gAt "_law_take", "_law_take", "_law_take", defArgs (top 24), defBody (top 24), defScope (top 24), [], []⟩
def d__law_of : DD := ⟨gAt "_law_of", "_law_of", "_law_of", defArgs (top 25), defBody (top 25), defScope (top 25), [], []⟩
def d__law_thing : DD := ⟨gAt "_law_thing", "_law_thing", "_law_thing", defArgs (top 26), defBody (top 26), defScope (top 26), [], []⟩
def d__law_is_contents : DD := ⟨gAt "_law_is_contents", "_law_is_contents", "_law_is_contents", defArgs (top 27), defBody (top 27), defScope (top 27), [], []⟩
def d__law_made : DD := ⟨gAt "_law_made", "_law_made", "_law_made", defArgs (top 28), defBody (top 28), defScope (top 28), [], []⟩
def d__law_pairs : DD := ⟨gAt "_law_pairs", "_law_pairs", "_law_pairs", defArgs (top 29), defBody (top 29), defScope (top 29), [], []⟩
def d__law_due : DD := ⟨gAt "_law_due", "_law_due", "_law_due", defArgs (top 30), defBody (top 30), defScope (top 30), [], []⟩
def d_law : DD := ⟨gAt "law", "law", "law", defArgs (top 31), defBody (top 31), defScope (top 31), [], []⟩
def fn : List DD := [d_BadBox___init__, d_BadName___init__, d_NoName___init__, d_is_contents, d_Box___init__, d_Box_become, d_is_name, d_World___init__, d_World___getitem__, d_World___setitem__, d_World___contains__, d_World_names, d_World_sharing, d_World_rows, d_World_of, d__law_bag, d__law_take, d__law_of, d__law_thing, d__law_is_contents, d__law_made, d__law_pairs, d__law_due, d_law]
def fa : List He.Fa := [.glo "is_contents", .glo "is_name", .glo "_law_bag", .glo "_law_take", .glo "_law_of", .glo "_law_thing", .glo "_law_is_contents", .glo "_law_made", .glo "_law_pairs", .glo "_law_due", .glo "law", .free "len", .free "min", .free "max", .free "range", .free "list", .free "isinstance", .free "repr", .free "str", .free "sorted", .free "tuple", .free "zip", .free "abs", .free "enumerate", .free "int", .str "MARKS" "ABCDEFGHIJKLMNOPQRSTUVWXYZabcdefghijklmnopqrstuvwxyz", .str "LETTERS" "abcdefghijklmnopqrstuvwxyz ", .int "LONGEST" 13, .glo "World", .glo "Box", .glo "BadBox", .glo "NoName", .glo "BadName", .mkr "World", .mkr "Box", .meth "World" "__init__", .meth "World" "__getitem__", .meth "World" "__setitem__", .meth "World" "__contains__", .meth "World" "names", .meth "World" "sharing", .meth "World" "rows", .meth "Box" "__init__", .meth "Box" "become", .meth "BadBox" "__init__", .meth "NoName" "__init__", .meth "BadName" "__init__", .glo "BadWorld", .noat "BadBox" "contents", .noat "NoName" "name", .noat "BadName" "name"]
def fx : List (PySem.W.Frag → Bool) := [clsB "World", clsB "Box", tgtB "World", tgtB "Box", nsqB "World", statB "World" "of", hitK "BadBox" "BadName" false, hitK "NoName" "BadName" false, hitK "BadName" "BadName" true, hitK "BadWorld" "BadName" false, hitK "BadBox" "BadBox" true, hitK "NoName" "BadBox" false, hitK "BadName" "BadBox" false, hitK "BadWorld" "BadBox" false, xfK "BadName" "name", xfK "BadBox" "contents", oexB "BadBox", oexB "NoName", oexB "BadName"]
abbrev R : PySem.W.OpenRow := PySem.W.OpenLaw.row PySem.Challenge.rw_workerworlds_k16_worlds_of_contents
abbrev hk : PySem.W.Hook := hookY 5 fx fa fn
def ob (s : PySem.W.SharedT) : AlX := obsYG 5 fx fa fn (HandSHeadRun.getT s)
theorem ob_eq (s : PySem.W.SharedT) : ob s = hk.obs s.abs := obsYG_eq (HandSHeadRun.getT_eq s)
def loose : List Str := (["_wall", "WorkerworldsError", "BadBox", "BadName", "BadWorld", "NoName", "PLAIN", "MARKS", "is_contents", "union", "shared_marks", "difference", "odd_marks", "Box", "LETTERS", "LONGEST", "is_name", "is_entry", "World", "_law_bag", "_law_take", "_law_of", "_law_thing", "_law_is_contents", "_law_made", "_law_pairs", "_law_due"] : List Str)
open HandSHeadRun PySem.W PySem.Calls in
theorem run_a (w : World) (os : OsState) : (endF (stepQ (denQ tabQ) R.prog w) 4000 R.prog w os).map (fun s => looksF R.prog (boot_heap w.params) s.abs) = some true := by
  kernel_rfl
open HandSHeadRun PySem.W PySem.Calls in
theorem run_b (w : World) (os : OsState) : (endF (stepQ (denQ tabQ) R.prog w) 4000 R.prog w os).map (fun s => seenQ (view R.prog [31]) loose (importedModules R.prog.main.body) (fun s => xlAt (view R.prog [31]) [] s && recOk R.toRowW.records s) s.abs) = some (openGood (view R.prog [31]) loose) := by
  kernel_rfl
def kOf_ (s : PySem.W.SharedT) : PySem.W.Frag := He.frG (HandSHeadRun.getT s) (asX (HandSHeadRun.getT s) 5 [mainGlobals] ++ [cStatics])
open HandSHeadRun PySem.W PySem.Calls in
theorem run_c1 (w : World) (os : OsState) : (endF (stepQ (denQ tabQ) R.prog w) 4000 R.prog w os).map (fun s => fx.all (fun f => f (kOf_ s))) = some true := by
  kernel_rfl
open HandSHeadRun PySem.W PySem.Calls in
theorem run_c2 (w : World) (os : OsState) : (endF (stepQ (denQ tabQ) R.prog w) 4000 R.prog w os).map (fun s => fa.all (fun f => f.ok (kOf_ s))) = some true := by
  kernel_rfl
theorem allJ_ {α β : Type} {X : Option α} {h : β → α → Bool} (n : Nat) (l : List β) (e1 : X.map (fun s => (l.take n).all (fun d => h d s)) = some true) (e2 : X.map (fun s => (l.drop n).all (fun d => h d s)) = some true) : X.map (fun s => l.all (fun d => h d s)) = some true := by
  cases X with
  | none => cases e1
  | some x =>
    show some (l.all fun d => h d x) = _
    have e3 : (l.take n).all (fun d => h d x) = true := Option.some.inj e1
    have e4 : (l.drop n).all (fun d => h d x) = true := Option.some.inj e2
    have e5 : ((l.take n ++ l.drop n).all fun d => h d x) = true := by rw [List.all_append, e3, e4]; rfl
    rw [List.take_append_drop] at e5
    rw [e5]
open HandSHeadRun PySem.W PySem.Calls in
theorem run_c31 (w : World) (os : OsState) : (endF (stepQ (denQ tabQ) R.prog w) 4000 R.prog w os).map (fun s => (fn.take 40).all (fun d => d.fit (kOf_ s))) = some true := by
  kernel_rfl
open HandSHeadRun PySem.W PySem.Calls in
theorem run_c32 (w : World) (os : OsState) : (endF (stepQ (denQ tabQ) R.prog w) 4000 R.prog w os).map (fun s => ((fn.drop 40).take 35).all (fun d => d.fit (kOf_ s))) = some true := by
  kernel_rfl
open HandSHeadRun PySem.W PySem.Calls in
theorem run_c33 (w : World) (os : OsState) : (endF (stepQ (denQ tabQ) R.prog w) 4000 R.prog w os).map (fun s => ((fn.drop 40).drop 35).all (fun d => d.fit (kOf_ s))) = some true := by
  kernel_rfl
open HandSHeadRun PySem.W PySem.Calls in
theorem run_c3 (w : World) (os : OsState) : (endF (stepQ (denQ tabQ) R.prog w) 4000 R.prog w os).map (fun s => fn.all (fun d => d.fit (kOf_ s))) = some true :=
  allJ_ (h := fun (d : DD) s => d.fit (kOf_ s)) 40 fn (run_c31 w os) (allJ_ (h := fun (d : DD) s => d.fit (kOf_ s)) 35 _ (run_c32 w os) (run_c33 w os))
open HandSHeadRun PySem.W PySem.Calls in
theorem run_c4 (w : World) (os : OsState) : (endF (stepQ (denQ tabQ) R.prog w) 4000 R.prog w os).map (fun s => fn.map (fun d => told (kOf_ s) (d.at_ (kOf_ s)))) = some (dues_ fn) := by
  kernel_rfl
theorem four_ {α δ : Type} {X : Option α} {f g h : α → Bool} {k : α → δ} {c : δ} (e1 : X.map f = some true) (e2 : X.map g = some true) (e3 : X.map h = some true) (e4 : X.map k = some c) : X.map (fun s => ((f s && (g s && h s)), k s)) = some (true, c) := by
  cases X with
  | none => cases e1
  | some x =>
    show some ((f x && (g x && h x)), k x) = _
    rw [show f x = true from Option.some.inj e1, show g x = true from Option.some.inj e2, show h x = true from Option.some.inj e3, show k x = c from Option.some.inj e4]
    rfl
open HandSHeadRun PySem.W PySem.Calls in
theorem run_c (w : World) (os : OsState) : (endF (stepQ (denQ tabQ) R.prog w) 4000 R.prog w os).map (fun s => ob s) = some (hk.val w) := by
  have e := four_ (run_c1 w os) (run_c2 w os) (run_c3 w os) (run_c4 w os)
  rw [dues_eq] at e
  exact e
theorem three_ {α β γ δ : Type} {X : Option α} {f : α → β} {g : α → γ} {h : α → δ} {a : β} {b : γ} {c : δ} (e1 : X.map f = some a) (e2 : X.map g = some b) (e3 : X.map h = some c) : X.map (fun s => (f s, g s, h s)) = some (a, b, c) := by
  cases X with
  | none => cases e1
  | some x =>
    rw [← Option.some.inj e1, ← Option.some.inj e2, ← Option.some.inj e3]
    rfl
theorem run_ (w : World) : HandSHeadRun.RunEq R (PySem.W.view R.prog [31]) hk ob 4000 loose w := by
  intro os
  exact three_ (run_a w os) (run_b w os) (run_c w os)
end K16
set_option maxHeartbeats 400000
namespace UL
open PySem PySem.Spec PyProof.Rows L2

/-- an argument that simp leaves as it is (a later one hangs on it) -/
abbrev Tag {α : Sort u} (_ : α) : Type := Unit
def condP (b : Bool) (x y : Prop) (_ : Tag x := ()) (_ : Tag y := ()) : Prop := bif b then x else y
def slotK (o : Option (Option U)) (Q : U → Prop) (_ : Tag Q := ()) : Prop := match o with
  | some (some u) => Q u
  | _ => False
def asBl (u : U) (Q : Bool → Prop) (_ : Tag Q := ()) : Prop := match u with
  | .bl b => Q b
  | _ => False
def asInt (u : U) (Q : Int → Prop) (_ : Tag Q := ()) : Prop := match u with
  | .int b => Q b
  | _ => False
def asStr (u : U) (Q : List Nat → Prop) (_ : Tag Q := ()) : Prop := match u with
  | .str b => Q b
  | _ => False
def asRef (u : U) (Q : Addr → Prop) (_ : Tag Q := ()) : Prop := match u with
  | .ref b => Q b
  | _ => False
def getLst (o : Option Ob) (Q : List U → Prop) (_ : Tag Q := ()) : Prop := match o with
  | some (.lst us) => Q us
  | _ => False
def getDct (o : Option Ob) (Q : List (U × U) → Prop) (_ : Tag Q := ()) : Prop := match o with
  | some (.dct us) => Q us
  | _ => False
def getIns (o : Option Ob) (Q : String → List (String × U) → Prop) (_ : Tag Q := ()) : Prop := match o with
  | some (.ins c fs) => Q c fs
  | _ => False
def getO (o : Option U) (Q : U → Prop) (_ : Tag Q := ()) : Prop := match o with
  | some u => Q u
  | none => False
def getOb (o : Option Ob) (Q : Ob → Prop) (_ : Tag Q := ()) : Prop := match o with
  | some u => Q u
  | none => False
def getUs (o : Option (List U)) (Q : List U → Prop) (_ : Tag Q := ()) : Prop := match o with
  | some u => Q u
  | none => False
def getN (o : Option Nat) (Q : Nat → Prop) (_ : Tag Q := ()) : Prop := match o with
  | some u => Q u
  | none => False
def getLs (o : Option (List (List Nat))) (Q : List (List Nat) → Prop) : Prop := match o with
  | some u => Q u
  | none => False
/-- a promise asked for -/
def Call (sp : USp) (as : List U) (G : Gp) (Q : UK) (E : UX) (_ : Tag Q := ()) (_ : Tag E := ()) : Prop := sp as G Q E
theorem e_condT {x y : Prop} : condP true x y = x := (rfl)
theorem e_condF {x y : Prop} : condP false x y = y := (rfl)
theorem slotK_s {u : U} {Q} : slotK (some (some u)) Q = Q u := (rfl)
theorem asBl_s {u : Bool} {Q} : asBl (.bl u) Q = Q u := (rfl)
theorem asInt_s {u : Int} {Q} : asInt (.int u) Q = Q u := (rfl)
theorem asStr_s {u : List Nat} {Q} : asStr (.str u) Q = Q u := (rfl)
theorem asRef_s {u : Addr} {Q} : asRef (.ref u) Q = Q u := (rfl)
theorem getLst_s {u} {Q} : getLst (some (.lst u)) Q = Q u := (rfl)
theorem getIns_s {c fs} {Q} : getIns (some (.ins c fs)) Q = Q c fs := (rfl)
theorem getOb_s {u} {Q} : getOb (some u) Q = Q u := (rfl)
theorem getO_s {u} {Q} : getO (some u) Q = Q u := (rfl)
theorem getUs_s {u} {Q} : getUs (some u) Q = Q u := (rfl)
theorem getN_s {u} {Q} : getN (some u) Q = Q u := (rfl)
theorem getLs_s {u} {Q} : getLs (some u) Q = Q u := (rfl)
def insEq (o1 o2 : Option Ob) (K : String → String → Prop) (R : Prop) (_ : Tag K := ()) (_ : Tag R := ()) : Prop := match o1, o2 with
  | some (.ins c _), some (.ins d _) => K c d
  | some (.ins _ _), _ => False
  | _, some (.ins _ _) => False
  | _, _ => R
def orEqI (neg : Bool) (r : UR2) : UR2 := fun x y G Q E => match x, y with
  | .ref p, .ref q => insEq (G p) (G q) (fun c d => c = d ∧ Q (.bl (if neg then !decide (p = q) else decide (p = q))) G) (r (.ref p) (.ref q) G Q E)
  | .ref p, y => isInsU (.ref p) G = false ∧ r (.ref p) y G Q E
  | x, y => r x y G Q E
theorem insEq_of {o1 o2 : Option Ob} {K : String → String → Prop} {R : Prop} (h : insEq o1 o2 K R) : (∃ c fs d gs, o1 = some (.ins c fs) ∧ o2 = some (.ins d gs) ∧ K c d) ∨ ((∀ c fs, o1 ≠ some (.ins c fs)) ∧ R) := by
  unfold insEq at h
  split at h
  · exact .inl ⟨_, _, _, _, rfl, rfl, h⟩
  · exact h.elim
  · exact h.elim
  · refine .inr ⟨fun c fs e => ?_, h⟩
    rename_i h1 h2 h3
    exact h1 _ _ e
theorem notIns {p : Addr} {G : Gp} (h : ∀ c fs, G p ≠ some (.ins c fs)) : isInsU (.ref p) G = false := by
  unfold isInsU
  dsimp only
  split
  · rename_i e
    exact absurd e (h _ _)
  · rfl
theorem orEqI_of {neg : Bool} {r : UR2} {x y : U} {G : Gp} {Q : UK} {E : UX} (h : orEqI neg r x y G Q E) : orEq neg r x y G Q E := by
  unfold orEqI at h
  split at h
  · rename_i p q
    rcases insEq_of h with ⟨c, fs, d, gs, h1, h2, rfl, k⟩ | ⟨n, k⟩
    · exact .inr ⟨p, q, c, fs, gs, rfl, rfl, h1, h2, k⟩
    · exact .inl ⟨notIns n, k⟩
  · exact .inl h
  · rename_i h1 h2
    refine .inl ⟨?_, h⟩
    cases x <;> first | rfl | exact (h2 _ _ rfl).elim | exact (h1 _ _ rfl).elim | exact (h2 _ rfl).elim | exact (h1 _ rfl).elim
theorem ou_eqI {X : Cx} {W : WX} {r : UR2} (hu : X.A.units + 64 < cLine) (h0 : OpU X W (compareOp .Eq) r) : OpU X W (compareOp .Eq) (orEqI false r) := (ou_eqOwn hu h0).imp fun _ _ _ _ _ h => orEqI_of h
theorem ou_neI {X : Cx} {W : WX} {r : UR2} (hu : X.A.units + 64 < cLine) (h0 : OpU X W (compareOp .NotEq) r) : OpU X W (compareOp .NotEq) (orEqI true r) := (ou_neOwn hu h0).imp fun _ _ _ _ _ h => orEqI_of h
section
variable {us : USt} {G : Gp} {Q : UK} {E : UX} {D : UEnds} {ta tb te to ti' : UTE} {r : UR2} {r1 : UR1} {t u : UTS} {tt tt' : UTT} {B : Bool → Gp → Prop} {tr tk : UTA} {L : List U → Gp → Prop} {g : UTG} {w z : U} {S0 : USt → Gp → Prop} {i : Nat} {sp : USp} {zs vs : List U} {pl : List Src} {f c m : String}
theorem x_var : tUVar i us G Q E = slotK us[i]? fun u => Q u G := (rfl)
theorem x_c : tUC w us G Q E = Q w G := (rfl)
theorem x_op : tUOp r ta tb us G Q E = ta us G (fun x G1 => tb us G1 (fun y G2 => r x y G2 Q E) E) E := (rfl)
theorem x_and : tUAnd ta tb us G Q E = ta us G (fun u G1 => asBl u fun b => condP b (tb us G1 Q E) (Q (.bl false) G1)) E := by
  unfold tUAnd
  congr 1
  funext u G1
  cases u <;> try rfl
  rename_i b
  cases b <;> rfl
theorem x_ifC : tUIfC tt ta tb us G Q E = tt us G (fun k G1 => CondE k (ta us G1) (tb us G1) Q E) E := (rfl)
theorem x_nil : tUNil us G L E = L [] G := (rfl)
theorem x_cons : tUCons ta tr us G L E = ta us G (fun u G1 => tr us G1 (fun ws G2 => L (u :: ws) G2) E) E := (rfl)
theorem x_tup : tUTup tr us G Q E = tr us G (fun ws G1 => ws.length ≤ 1000000 ∧ Q (.tup ws) G1) E := (rfl)
theorem x_lst : tULst tr us G Q E = tr us G (fun ws G1 => ws.length ≤ 1000000 ∧ ∀ p, G1 p = none → Q (.ref p) (gup G1 p (.lst ws))) E := (rfl)
theorem x_test : tUTest ta us G B E = ta us G (fun u G1 => asBl u fun b => B b G1) E := (rfl)
theorem x_not : tUNot tt us G B E = tt us G (fun b G1 => B (!b) G1) E := (rfl)
theorem x_bAnd : tBAnd tt tt' us G B E = tt us G (fun b G1 => condP b (tt' us G1 B E) (B false G1)) E := (rfl)
theorem x_bOr : tBOr tt tt' us G B E = tt us G (fun b G1 => condP b (B true G1) (tt' us G1 B E)) E := (rfl)
theorem x_tru {rr : U → Gp → (Bool → Gp → Prop) → UX → Prop} : tUTru rr ta us G B E = ta us G (fun u G1 => rr u G1 B E) E := (rfl)
theorem x_call {rc : URC} : tUCall rc tr us G Q E = tr us G (fun as G1 => rc as G1 Q E) E := (rfl)
theorem x_def {n m : Nat} {d k : List U} : tUDef sp n m pl d k tr tk us G Q E = tr us G (fun vs G1 => tk us G1 (fun zs G2 => vs.length = n ∧ zs.length = m ∧ Call sp (pl.map (Src.get .non vs zs d k)) G2 Q E) E) E := (rfl)
theorem x_bm {T : String} {rm : URM} : tUBM T rm to tr us G Q E = to us G (fun u G1 => tyU T u G1 ∧ tr us G1 (fun as G2 => rm u as G2 Q E) E) E := (rfl)
theorem x_u1 {f : U → Gp → UK → Prop} : u1 f [w] G Q E = f w G Q := (rfl)
theorem x_u2 {f : U → U → Gp → UK → Prop} : u2 f [w, z] G Q E = f w z G Q := (rfl)
theorem x_seq : tUSeq t u D us G = t { D with nx := u D } us G := (rfl)
theorem x_next : tUNext D us G = D.nx us G := (rfl)
theorem x_drop : tUDrop te D us G = te us G (fun _ G1 => D.nx us G1) (fun x G1 => D.ex x us G1) := (rfl)
theorem x_ret : tURet te D us G = te us G D.rt (fun x G1 => D.ex x us G1) := (rfl)
theorem x_ifSC : tUIfSC tt t u D us G = tt us G (fun k G1 => CondS k (fun D' => t D' us G1) (fun D' => u D' us G1) D) (fun x G1 => D.ex x us G1) := (rfl)
theorem x_asg : tUAsg te g D us G = te us G (fun x G1 => g x us G1 D.nx (fun x G1 => D.ex x us G1)) (fun x G1 => D.ex x us G1) := (rfl)
theorem x_par {is : List Nat} : tUPar is tr D us G = tr us G (fun ws G1 => ws.length = is.length ∧ D.nx (setAll us is.reverse ws.reverse) G1) (fun x G1 => D.ex x us G1) := (rfl)
theorem x_gname : gUName i w us G S0 E = S0 (us.set i (some w)) G := (rfl)
theorem x_gsub {st : U → U → U → Gp → (Gp → Prop) → UX → Prop} : gUSub to ti' st w us G S0 E = to us G (fun o G1 => ti' us G1 (fun i G2 => st o i w G2 (fun G3 => S0 us G3) E) E) E := (rfl)
theorem x_gtup {n : Nat} {ts : UTGs} {ws : List U} : gUTup n ts (.tup ws) us G S0 E = (ws.length = n ∧ ts ws us G S0 (fun _ _ => False)) := (rfl)
theorem x_gcons {ts : UTGs} {ws : List U} : gUCons g ts (w :: ws) us G S0 E = g w us G (fun us1 G1 => ts ws us1 G1 S0 E) E := (rfl)
theorem x_gnil {ws : List U} : gUNil ws us G S0 E = (ws = [] ∧ S0 us G) := (rfl)
theorem x_sl {tl th : UTO} : tUSl te tl th us G Q E = te us G (fun x G1 => tl us G1 (fun l G2 => th us G2 (fun h G3 => slU x l h G3 Q) E) E) E := (rfl)
theorem x_noPart {O : Option Int → Gp → Prop} : tUNoPart us G O E = O none G := (rfl)
theorem x_part {O : Option Int → Gp → Prop} : tUPart te us G O E = te us G (fun u G1 => asInt u fun i => O (some i) G1) E := by
  unfold tUPart
  congr 1
theorem x_for {ti : UTI} : tUFor ti g t D us G = ti us G (fun chk items G1 => forU g t chk items D us G1) (fun x G1 => D.ex x us G1) := (rfl)
theorem x_rng1 {R : UKI} : tIRng1 ta us G R E = ta us G (fun u G1 => rngA u G1 R) E := (rfl)
theorem x_any {R : UKI} : tIAny ta us G R E = ta us G (fun u G1 => iterU u G1 R) E := (rfl)
theorem x_lc {ti : UTI} {own : List Nat} : tULc ti g tt te own us G Q E = ti us G (fun chk items G1 => lcU g tt te chk (uwipe us own) (fun acc G2 => ∀ p, G2 p = none → Q (.ref p) (gup G2 p (.lst acc))) items [] G1) E := (rfl)
theorem x_fld : tUFld f te us G Q E = te us G (fun x G1 => fldU f x G1 Q) E := (rfl)
theorem x_fldU {a : Addr} : fldU f (.ref a) G Q = getIns (G a) fun _ fs => getO (fget fs f) fun u => Q u G := by
  unfold fldU getIns getO
  all_goals (try dsimp only)
  all_goals (cases G a with
    | none => rfl
    | some o => cases o <;> rfl)
theorem x_gfld : gUFld f to w us G S0 E = to us G (fun x G1 => setF f x w G1 fun G2 => S0 us G2) E := (rfl)
theorem x_setF {a : Addr} {Z : Gp → Prop} : setF f (.ref a) w G Z = getIns (G a) fun c fs => f ∈ fldsOf c ∧ fs.length < 100 ∧ Z (gup G a (.ins c (fput fs f w))) := by
  unfold setF getIns
  all_goals (try dsimp only)
  all_goals (cases G a with
    | none => rfl
    | some o => cases o <;> rfl)
theorem x_make {n nk : Nat} {ud uk : List U} : tUMake c sp n nk pl ud uk tr tk us G Q E = tr us G (fun vs G1 => tk us G1 (fun zs G2 => vs.length + 1 = n ∧ zs.length = nk ∧ ∀ a, G2 a = none → Call sp (pl.map (Src.get .non (.ref a :: vs) zs ud uk)) (gup G2 a (.ins c [])) (fun v G3 => v = .non ∧ Q (.ref a) G3) E) E) E := (rfl)
theorem x_raise {fl : List String} : tURaise c fl tr D us G = tr us G (fun vs G1 => vs.length = fl.length ∧ D.ex ⟨c, fl.zip vs⟩ us G1) (fun x G1 => D.ex x us G1) := (rfl)
/-- o.m(..), the receiver of class c -/
theorem x_meth {ud uk : List U} {n nk : Nat} : tUMeth [(c, apOf sp pl ud uk)] m n nk to tr tk us G Q E = to us G (fun x G0 => asRef x fun a => getIns (G0 a) fun c' fs => fget fs m = none ∧ c' = c ∧
    tr us G0 (fun vs G1 => tk us G1 (fun zs G2 => vs.length = n ∧ zs.length = nk ∧ Call sp (pl.map (Src.get .non (.ref a :: vs) zs ud uk)) G2 Q E) E) E) E := by
  unfold tUMeth
  congr 1
  funext x G0
  cases x <;> try rfl
  rename_i a
  unfold asRef getIns
  dsimp only
  cases G0 a with
  | none => rfl
  | some o =>
    cases o <;> try rfl
    rename_i c' fs
    dsimp only
    by_cases h : c' = c
    · subst h
      simp only [List.lookup_cons_self, true_and]
      rfl
    · have : List.lookup c' [(c, apOf sp pl ud uk)] = none := by
        rw [List.lookup_cons, beq_eq_false_iff_ne.mpr h]
        rfl
      rw [this]
      simp [h]
variable {a b i' j : Int} {x y : List Nat} {xs ys : List U} {p q : Addr} {R : UKI}
theorem x_addI : addU (.int a) (.int b) G Q E = Q (.int (a + b)) G := (rfl)
theorem x_addS : addU (.str x) (.str y) G Q E = (x.length + y.length ≤ 1000000 ∧ Q (.str (x ++ y)) G) := (rfl)
theorem lst_ex {P : List U → Prop} {o : Option Ob} : (∃ us, o = some (.lst us) ∧ P us) = getLst o P := by
  unfold getLst
  apply propext
  constructor
  · rintro ⟨us, rfl, h⟩
    exact h
  · intro h
    split at h
    · exact ⟨_, rfl, h⟩
    · exact h.elim
theorem x_subI : subU (.int a) (.int b) G Q E = Q (.int (a - b)) G := (rfl)
theorem x_mulI : mulU (.int a) (.int b) G Q E = (CMul a b ∧ Q (.int (a * b)) G) := (rfl)
theorem x_modI : modU (.int a) (.int b) G Q E = (0 < b ∧ Q (.int (a % b)) G) := (rfl)
theorem x_fdivI : fdivU (.int a) (.int b) G Q E = ((0 < b ∧ b < 1073741824) ∧ Q (.int (a / b)) G) := (rfl)
theorem x_powI : powU (.int a) (.int b) G Q E = (CPow a b ∧ Q (.int (a ^ b.toNat)) G) := (rfl)
theorem x_eqI : eqU (.int a) (.int b) G Q E = Q (.bl (decide (a = b))) G := (rfl)
theorem x_eqS : eqU (.str x) (.str y) G Q E = Q (.bl (decide (x = y))) G := (rfl)
theorem x_neS : neU (.str x) (.str y) G Q E = Q (.bl (!decide (x = y))) G := (rfl)
theorem x_ltI : ltU (.int a) (.int b) G Q E = Q (.bl (decide (a < b))) G := (rfl)
theorem x_leI : leU (.int a) (.int b) G Q E = Q (.bl (decide (a ≤ b))) G := (rfl)
theorem x_gtI : gtU (.int a) (.int b) G Q E = Q (.bl (decide (b < a))) G := (rfl)
theorem x_geI : geU (.int a) (.int b) G Q E = Q (.bl (decide (b ≤ a))) G := (rfl)
theorem x_leS : leU (.str x) (.str y) G Q E = Q (.bl (!decide (y < x))) G := (rfl)
theorem x_geS : geU (.str x) (.str y) G Q E = Q (.bl (!decide (x < y))) G := (rfl)
theorem x_inS : inU (.str x) (.str y) G Q E = ∃ k, x = [k] ∧ Q (.bl (decide (k ∈ y))) G := (rfl)
theorem x_notInS : notInU (.str x) (.str y) G Q E = ∃ k, x = [k] ∧ Q (.bl (!decide (k ∈ y))) G := (rfl)
theorem x_inS1 {c : Nat} : inU (.str [c]) (.str y) G Q E = Q (.bl (decide (c ∈ y))) G := by
  rw [x_inS]
  apply propext
  constructor
  · rintro ⟨k, e, h⟩
    cases e
    exact h
  · exact fun h => ⟨c, rfl, h⟩
theorem x_notInS1 {c : Nat} : notInU (.str [c]) (.str y) G Q E = Q (.bl (!decide (c ∈ y))) G := by
  rw [x_notInS]
  apply propext
  constructor
  · rintro ⟨k, e, h⟩
    cases e
    exact h
  · exact fun h => ⟨c, rfl, h⟩
theorem x_ixR : ixU0 (.rol xs) (.int a) G Q E = getO (atI xs a) fun u => Q u G := by
  show (∃ u, atI xs a = some u ∧ Q u G) = _
  apply propext
  cases atI xs a <;> simp [getO]
theorem x_ixT : ixU0 (.tup xs) (.int a) G Q E = getO (atI xs a) fun u => Q u G := by
  show (∃ u, atI xs a = some u ∧ Q u G) = _
  apply propext
  cases atI xs a <;> simp [getO]
theorem x_ixL : ixU0 (.ref p) (.int a) G Q E = getLst (G p) fun xs => getO (atI xs a) fun u => Q u G := by
  rw [← lst_ex]
  apply propext
  constructor
  · rintro ⟨us, u, h1, h2, h3⟩
    exact ⟨us, h1, by rw [h2]; exact h3⟩
  · rintro ⟨us, h1, h⟩
    cases e : atI us a with
    | none => rw [e] at h; exact h.elim
    | some u => rw [e] at h; exact ⟨us, u, h1, e, h⟩
theorem x_ixS : ixU0 (.str x) (.int a) G Q E = (x.length ≤ 1000000 ∧ getN (atI x a) fun c => Q (.str [c]) G) := by
  show (x.length ≤ 1000000 ∧ ∃ c, atI x a = some c ∧ Q (.str [c]) G) = _
  apply propext
  cases atI x a <;> simp [getN]
theorem x_setL {Z : Gp → Prop} : setU0 (.ref p) (.int a) w G Z E = getLst (G p) fun xs => getN (ixN xs.length a) fun j => Z (gup G p (.lst (xs.set j w))) := by
  rw [← lst_ex]
  apply propext
  constructor
  · rintro ⟨us, j, h1, h2, h3⟩
    exact ⟨us, h1, by rw [h2]; exact h3⟩
  · rintro ⟨us, h1, h⟩
    cases e : ixN us.length a with
    | none => rw [e] at h; exact h.elim
    | some j => rw [e] at h; exact ⟨us, j, h1, e, h⟩
theorem x_abs : absV (.int a) G Q = Q (.int (if a < 0 then -a else a)) G := (rfl)
theorem x_max : maxV (.int a) (.int b) G Q = Q (.int (if b > a then b else a)) G := (rfl)
theorem x_min : minV (.int a) (.int b) G Q = Q (.int (if b < a then b else a)) G := (rfl)
theorem x_int : intV (.int a) G Q = Q (.int a) G := (rfl)
theorem x_intB {k : Bool} : intV (.bl k) G Q = Q (.int (if k then 1 else 0)) G := (rfl)
theorem x_lenR : lenV (.rol xs) G Q = Q (.int xs.length) G := (rfl)
theorem x_lenT : lenV (.tup xs) G Q = Q (.int xs.length) G := (rfl)
theorem x_lenS : lenV (.str x) G Q = (x.length ≤ 1000000 ∧ Q (.int x.length) G) := (rfl)
def lenOb (o : Ob) (Q : Nat → Prop) (_ : Tag Q := ()) : Prop := match o with
  | .lst us => Q us.length
  | .dct us => Q us.length
  | _ => False
theorem lenOb_l {us : List U} {Q : Nat → Prop} : lenOb (.lst us) Q = Q us.length := (rfl)
theorem x_lenL : lenV (.ref p) G Q = getOb (G p) fun o => lenOb o fun n => Q (.int n) G := by
  unfold lenV getOb lenOb
  all_goals (try dsimp only)
  all_goals (cases G p with
    | none => rfl
    | some o => cases o <;> rfl)
theorem seq_t : seqOf G (.tup xs) = some xs := (rfl)
theorem x_tupleL : tupleV (.ref p) G Q = getLst (G p) fun us => Q (.tup us) G := by
  unfold tupleV seqOf getLst
  all_goals (try dsimp only)
  all_goals (cases G p with
    | none => rfl
    | some o => cases o <;> rfl)
theorem x_listL : listV (.ref p) G Q = getLst (G p) fun us => ∀ q, G q = none → Q (.ref q) (gup G q (.lst us)) := by
  unfold listV seqOf getLst
  all_goals (try dsimp only)
  all_goals (cases G p with
    | none => rfl
    | some o => cases o <;> rfl)
theorem x_slR {l h : Option Int} : slU (.rol xs) l h G Q = ∀ p, G p = none → Q (.ref p) (gup G p (.lst (cutU xs l h))) := (rfl)
theorem x_slS {l h : Option Int} : slU (.str x) l h G Q = (x.length ≤ 1000000 ∧ Q (.str (cutN x l h)) G) := (rfl)
/-- a number that a range bears -/
def Rg (a : Int) : Prop := -4611686018427387904 ≤ a ∧ a < 4611686018427387904
theorem x_rngA : rngA (.int a) G R = (Rg a ∧ R (fun _ => True) (rngs 0 a.toNat) G) := (rfl)
theorem x_iterT : iterU (.tup xs) G R = R (fun _ => True) xs G := (rfl)
theorem x_iterS : iterU (.str x) G R = R (fun _ => True) (sgs x) G := (rfl)
theorem x_iterL : iterU (.ref p) G R = getLst (G p) fun us => R (fun G => G p = some (.lst us)) us G := lst_ex
theorem x_append : onLst appendL (.ref p) [w] G Q E = getLst (G p) fun us => us.length < 1000000 ∧ Q .non (gup G p (.lst (us ++ [w]))) := by
  unfold onLst appendL getLst
  all_goals (try dsimp only)
  all_goals (cases G p with
    | none => rfl
    | some o => cases o <;> rfl)
theorem x_tyL : tyU "list" (.ref p) G = getLst (G p) fun _ => True := by
  unfold getLst
  apply propext
  constructor
  · rintro (⟨_, us, h⟩ | ⟨h, _⟩)
    · rw [h]
      trivial
    · exact absurd h (by decide)
  · intro h
    split at h
    · rename_i us e
      exact .inl ⟨rfl, us, e⟩
    · exact h.elim
theorem x_tyS : tyU "str" (.str x) G = True := by
  unfold tyU
  simp
theorem x_join : joinU (.str x) [w] G Q E = getUs (seqOf G w) fun us => getLs (strsU us) fun ls => (ls.map List.length).sum + ls.length * x.length ≤ 1000000 ∧ Q (.str (joinN x ls)) G := by
  unfold joinU getUs getLs
  all_goals (try dsimp only)
  all_goals (cases seqOf G w with
    | none => rfl
    | some us => cases h : strsU us <;> simp only [h])
theorem seq_l : seqOf G (.ref p) = (match G p with | some (.lst us) => some us | _ => none) := (rfl)
def lstO (o : Option Ob) : Option (List U) := match o with | some (.lst us) => some us | _ => none
theorem lstO_s {us : List U} : lstO (some (.lst us)) = some us := (rfl)
theorem x_strS : strV (.str x) G Q = Q (.str x) G := (rfl)
theorem x_fmtS : fmtV (.str x) G Q = (x.length ≤ 1000000 ∧ Q (.str x) G) := (rfl)
theorem x_fmt : tUFmt te us G Q E = te us G (fun x G1 => fmtV x G1 Q) E := (rfl)
theorem x_js0 {acc : List Nat} : tUJs [] acc us G Q E = Q (.str acc) G := (rfl)
theorem x_js {acc : List Nat} {t : UTE} {ts : List UTE} : tUJs (t :: ts) acc us G Q E = t us G (fun x G1 => asStr x fun l => acc.length + l.length ≤ 1000000 ∧ tUJs ts (acc ++ l) us G1 Q E) E := (rfl)
theorem x_truB {T : Bool → Gp → Prop} {k : Bool} : truU (.bl k) G T = T k G := (rfl)
theorem x_ap {ud uk : List U} : apOf sp pl ud uk w vs zs G Q E = Call sp (pl.map (Src.get .non (w :: vs) zs ud uk)) G Q E := (rfl)
theorem insEq_ll {us : List U} {vs : List U} {K : String → String → Prop} {R : Prop} : insEq (some (.lst us)) (some (.lst vs)) K R = R := (rfl)
theorem x_eqRR {neg : Bool} : orEqI neg r (.ref p) (.ref q) G Q E = insEq (G p) (G q) (fun c d => c = d ∧ Q (.bl (if neg then !decide (p = q) else decide (p = q))) G) (r (.ref p) (.ref q) G Q E) := (rfl)
theorem x_eqOS {neg : Bool} : orEqI neg r (.str x) z G Q E = r (.str x) z G Q E := (rfl)
def isiH (ds : List String) (t c : Option TD) (Q : Bool → Prop) (_ : Tag Q := ()) : Prop := isiK ds t c Q
theorem x_isi {ds : List String} {x y : U} : isiV ds x y G Q = isiH ds (tdOf G x) (tdC y) fun b => Q (.bl b) G := (rfl)
theorem isiK_s {ds : List String} {t d : TD} {Q : Bool → Prop} : isiH ds (some t) (some d) Q = (isiOk ds d ∧ Q (isiF t d)) := (rfl)
theorem isi_bb {t d : String} : isiF (.b t) (.b d) = (decide (t = d) || (decide (t = "bool") && decide (d = "int"))) := (rfl)
theorem isi_oo {t d : String} : isiF (.o t) (.o d) = decide (t = d) := (rfl)
theorem isiOk_b {ds : List String} {d : String} : isiOk ds (.b d) = (d ∈ tyNames) := (rfl)
theorem isiOk_o {ds : List String} {d : String} : isiOk ds (.o d) = (d ∈ ds ∧ d ∈ clsNames) := (rfl)
theorem td_S : tdOf G (.str x) = some (.b "str") := (rfl)
theorem td_T : tdOf G (.tup zs) = some (.b "tuple") := (rfl)
def tdOb (o : Option Ob) : Option TD := match o with | some (.lst _) => some (.b "list") | some (.dct _) => some (.b "dict") | some (.dcr _ _ _) => some (.b "dict") | some (.ins c _) => some (.o c) | none => none
theorem td_R : tdOf G (.ref p) = tdOb (G p) := (rfl)
theorem tdOb_l {us : List U} : tdOb (some (.lst us)) = some (.b "list") := (rfl)
theorem tdC_t : tdC (.ty f) = some (.b f) := (rfl)
theorem tdC_g : tdC (.glo f) = some (.o f) := (rfl)
theorem fget_nil : fget [] f = none := (rfl)
theorem fget_cons {g : String} {fs : List (String × U)} : fget ((g, w) :: fs) f = if g = f then some w else fget fs f := (rfl)
theorem fput_nil : fput [] f w = [(f, w)] := (rfl)
theorem fput_cons {g : String} {z : U} {fs : List (String × U)} : fput ((g, z) :: fs) f w = if g = f then (g, w) :: fs else (g, z) :: fput fs f w := (rfl)
theorem src_p {n : Nat} {z : U} {us ws dv kv : List U} : Src.get z us ws dv kv (.p n) = us.getD n z := (rfl)
theorem getD_0 {α : Type} {a z : α} {l : List α} : (a :: l).getD 0 z = a := (rfl)
theorem getD_s {α : Type} {a z : α} {l : List α} {n : Nat} : (a :: l).getD (n + 1) z = l.getD n z := (rfl)
theorem setAll_nil {us : USt} {ws : List U} : setAll us [] ws = us := by cases ws <;> rfl
theorem setAll_cons {us : USt} {i : Nat} {is : List Nat} {w : U} {ws : List U} : setAll us (i :: is) (w :: ws) = setAll (us.set i (some w)) is ws := (rfl)
theorem uwipe_nil {us : USt} : uwipe us [] = us := (rfl)
theorem uwipe_cons {us : USt} {i : Nat} {is : List Nat} : uwipe us (i :: is) = (uwipe us is).set i none := (rfl)
theorem len_cons {α : Type} {a : α} {l : List α} : (a :: l).length = l.length + 1 := (rfl)
end
theorem gup_gup {G : Gp} {a : Addr} {o u : Ob} : gup (gup G a o) a u = gup G a u := by
  funext b
  unfold gup
  split <;> rfl
theorem gup_none {G : Gp} {a b : Addr} {o : Ob} (h : gup G a o b = none) : b ≠ a ∧ G b = none := by
  by_cases e : b = a
  · subst e
    rw [gup_same] at h
    cases h
  · exact ⟨e, (gup_ne e).symm.trans h⟩
theorem ne_of_known {G : Gp} {a b : Addr} {u : Ob} (g : G b = some u) (h : G a = none) : b ≠ a := fun e => by
  rw [e, h] at g
  cases g

theorem Sub.drop {G : Gp} {a : Addr} {o : Ob} (h : G a = none) : Sub G (gup G a o) := fun b u g => by
  rw [gup_ne fun e => by rw [e, h] at g; cases g]
  exact g
theorem Sub.gup {G1 G2 : Gp} (x : Sub G1 G2) {a : Addr} {o : Ob} : Sub (UL.gup G1 a o) (UL.gup G2 a o) := fun b u g => by
  by_cases e : b = a
  · subst e
    rw [gup_same] at g ⊢
    exact g
  · rw [gup_ne e] at g ⊢
    exact x b u g
theorem Sub.dropO {G1 G2 : Gp} (x : Sub G1 G2) {a : Addr} {o : Ob} (h : G2 a = none) : Sub G1 (UL.gup G2 a o) := x.trans (Sub.drop h)
theorem for_ind {tg : UTG} {body : UTS} {chk : Gp → Prop} {D : UEnds} (I : List U → USt → Gp → Prop)
    (h : ∀ x xs us G N, (∀ us' G', I xs us' G' → N us' G') → I (x :: xs) us G → chk G ∧ tg x us G (fun us1 G1 => body { D with nx := N, ct := N, bk := D.nx } us1 G1) (fun x G1 => D.ex x us G1))
    (h0 : ∀ us G, I [] us G → chk G ∧ D.nx us G) : ∀ items us G, I items us G → forU tg body chk items D us G
  | [], us, G, i => h0 us G i
  | x :: xs, us, G, i => h x xs us G (forU tg body chk xs D) (fun us' G' z => for_ind I h h0 xs us' G' z) i
theorem rngs_cons {lo : Int} {n : Nat} : rngs lo (n + 1) = .int lo :: rngs (lo + 1) n := by
  unfold rngs
  rw [List.range_succ_eq_map, List.map_cons, List.map_map]
  congr 1
  · simp
  · apply List.map_congr_left
    intro i _
    simp only [Function.comp]
    congr 1
    omega
theorem rngs_zero {lo : Int} : rngs lo 0 = [] := (rfl)
theorem for_rng {tg : UTG} {body : UTS} {D : UEnds} {lo : Int} {n : Nat} (I : Nat → USt → Gp → Prop)
    (h : ∀ k us G N, k < n → (∀ us' G', I (k + 1) us' G' → N us' G') → I k us G → tg (.int (lo + k)) us G (fun us1 G1 => body { D with nx := N, ct := N, bk := D.nx } us1 G1) (fun x G1 => D.ex x us G1))
    (h0 : ∀ us G, I n us G → D.nx us G) {us : USt} {G : Gp} (hi : I 0 us G) : forU tg body (fun _ => True) (rngs lo n) D us G := by
  refine for_ind (fun items us G => ∃ k, k ≤ n ∧ items = rngs (lo + k) (n - k) ∧ I k us G) (fun x xs us G N hN ⟨k, hk, e, i⟩ => ?_) (fun us G ⟨k, hk, e, i⟩ => ?_) _ us G ⟨0, Nat.zero_le _, by simp, hi⟩
  · have hlt : k < n := by
      by_cases z : k < n
      · exact z
      · have e0 : n - k = 0 := by omega
        rw [e0, rngs_zero] at e
        cases e
    obtain ⟨m, em⟩ : ∃ m, n - k = m + 1 := ⟨n - k - 1, by omega⟩
    rw [em, rngs_cons] at e
    cases e
    refine ⟨True.intro, h k us G N hlt (fun us' G' i' => hN us' G' ⟨k + 1, hlt, ?_, i'⟩) i⟩
    rw [show n - (k + 1) = m by omega]
    congr 1
    omega
  · have e0 : k = n := by
      by_cases z : k < n
      · obtain ⟨m, em⟩ : ∃ m, n - k = m + 1 := ⟨n - k - 1, by omega⟩
        rw [em, rngs_cons] at e
        cases e
      · omega
    subst e0
    exact ⟨True.intro, h0 us G i⟩
theorem for_ix {tg : UTG} {body : UTS} {chk : Gp → Prop} {D : UEnds} {items : List U} (I : Nat → USt → Gp → Prop)
    (h : ∀ (k : Nat) (hk : k < items.length) us G N, (∀ us' G', I (k + 1) us' G' → N us' G') → I k us G → chk G ∧ tg items[k] us G (fun us1 G1 => body { D with nx := N, ct := N, bk := D.nx } us1 G1) (fun x G1 => D.ex x us G1))
    (h0 : ∀ us G, I items.length us G → chk G ∧ D.nx us G) {us : USt} {G : Gp} (hi : I 0 us G) : forU tg body chk items D us G := by
  refine for_ind (fun its us G => ∃ k, k ≤ items.length ∧ its = items.drop k ∧ I k us G) (fun x xs us G N hN ⟨k, hk, e, i⟩ => ?_) (fun us G ⟨k, hk, e, i⟩ => ?_) _ us G ⟨0, Nat.zero_le _, rfl, hi⟩
  · have hlt : k < items.length := by
      by_cases z : k < items.length
      · exact z
      · rw [List.drop_eq_nil_of_le (by omega)] at e
        cases e
    rw [List.drop_eq_getElem_cons hlt] at e
    cases e
    exact h k hlt us G N (fun us' G' i' => hN us' G' ⟨k + 1, hlt, rfl, i'⟩) i
  · have e0 : k = items.length := by
      by_cases z : k < items.length
      · rw [List.drop_eq_getElem_cons z] at e
        cases e
      · omega
    subst e0
    exact h0 us G i
theorem for_sgs {tg : UTG} {body : UTS} {D : UEnds} {l : List Nat} (I : Nat → USt → Gp → Prop)
    (h : ∀ (k : Nat) (hk : k < l.length) us G N, (∀ us' G', I (k + 1) us' G' → N us' G') → I k us G → tg (.str [l[k]]) us G (fun us1 G1 => body { D with nx := N, ct := N, bk := D.nx } us1 G1) (fun x G1 => D.ex x us G1))
    (h0 : ∀ us G, I l.length us G → D.nx us G) {us : USt} {G : Gp} (hi : I 0 us G) : forU tg body (fun _ => True) (sgs l) D us G := by
  have e : (sgs l).length = l.length := List.length_map _
  refine for_ix I (fun k hk us G N hN i => ⟨True.intro, ?_⟩) (fun us G i => ⟨True.intro, h0 us G (e ▸ i)⟩) hi
  have e2 : (sgs l)[k] = .str [l[k]'(e ▸ hk)] := by simp [sgs]
  rw [e2]
  exact h k (e ▸ hk) us G N hN i
theorem lc_ind {tg : UTG} {tt : UTT} {te : UTE} {chk : Gp → Prop} {us : USt} {Q : List U → Gp → Prop} (I : List U → List U → Gp → Prop)
    (h : ∀ x xs acc G (N : List U → Gp → Prop), (∀ acc' G', I xs acc' G' → N acc' G') → I (x :: xs) acc G → chk G ∧ tg x us G (fun us1 G1 => tt us1 G1 (fun b G2 => bif b then te us1 G2 (fun y G3 => acc.length < 1000000 ∧ N (acc ++ [y]) G3) F0 else N acc G2) F0) F0)
    (h0 : ∀ acc G, I [] acc G → chk G ∧ Q acc G) : ∀ items acc G, I items acc G → lcU tg tt te chk us Q items acc G
  | [], acc, G, i => h0 acc G i
  | x :: xs, acc, G, i => h x xs acc G (lcU tg tt te chk us Q xs) (fun acc' G' z => lc_ind I h h0 xs acc' G' z) i
theorem ixN_nn {n : Nat} {i : Int} (h0 : 0 ≤ i) (h1 : i < n) : ixN n i = some i.toNat := by
  unfold ixN
  rw [if_pos h0, if_pos h1]
theorem atI_nn {α : Type} {xs : List α} {i : Int} (h0 : 0 ≤ i) (h1 : i < xs.length) : atI xs i = xs[i.toNat]? := by
  unfold atI
  rw [ixN_nn h0 h1]
  rfl
theorem atI_0 {α : Type} {x : α} {xs : List α} : atI (x :: xs) 0 = some x := by
  rw [atI_nn (by omega) (by simp)]
  rfl
theorem atI_1 {α : Type} {x y : α} {xs : List α} : atI (x :: y :: xs) 1 = some y := by
  rw [atI_nn (by omega) (by simp; omega)]
  rfl
theorem atI_2 {α : Type} {x y z : α} {xs : List α} : atI (x :: y :: z :: xs) 2 = some z := by
  rw [atI_nn (by omega) (by simp; omega)]
  rfl
theorem atI_3 {α : Type} {x y z w : α} {xs : List α} : atI (x :: y :: z :: w :: xs) 3 = some w := by
  rw [atI_nn (by omega) (by simp; omega)]
  rfl
theorem cmul_l {i j : Int} (h : -(2 ^ 64) < i ∧ i < 2 ^ 64) : CMul i j := .inl h
theorem cmul_r {i j : Int} (h : -(2 ^ 64) < j ∧ j < 2 ^ 64) : CMul i j := .inr h
theorem rg_of {a : Int} (h1 : -1000000000000 ≤ a) (h2 : a ≤ 1000000000000) : Rg a := ⟨by omega, by omega⟩
theorem intU_len (ns : List Int) : (IntU ns).length = ns.length := List.length_map _
theorem intU_at {ns : List Int} {i : Int} (h0 : 0 ≤ i) (h1 : i < ns.length) : ∃ z, z ∈ ns ∧ atI (IntU ns) i = some (.int z) := by
  rw [atI_nn h0 (by rw [intU_len]; exact h1)]
  have hl : i.toNat < ns.length := by omega
  refine ⟨ns[i.toNat], List.getElem_mem hl, ?_⟩
  unfold IntU
  rw [List.getElem?_map, List.getElem?_eq_getElem hl]
  rfl
theorem cutU_ints (ns : List Int) (l h : Option Int) : ∃ ms, cutU (IntU ns) l h = IntU ms := by
  unfold cutU IntU
  exact ⟨(ns.drop (HT.sIx (ns.map U.int).length 0 l)).take (HT.sIx (ns.map U.int).length (ns.map U.int).length h - HT.sIx (ns.map U.int).length 0 l), by rw [List.map_take, List.map_drop]⟩
theorem dats_ints {G : Gp} : ∀ ns : List Int, Dats G (IntU ns) (ns.map PyData.int)
  | [] => .nil
  | n :: ns => .cons (.int n) (dats_ints ns)
theorem canLay_ints : ∀ ns : List Int, PyData.canLayAll0 (ns.map PyData.int) = true
  | [] => by simp [PyData.canLayAll0]
  | n :: ns => by simp [PyData.canLayAll0, PyData.canLay0, canLay_ints ns]
theorem depth_ints : ∀ ns : List Int, PyData.depthAll (ns.map PyData.int) ≤ 0
  | [] => by simp [PyData.depthAll]
  | n :: ns => by simp [PyData.depthAll, PyData.depth]; exact Nat.le_zero.mp (depth_ints ns)
theorem shaped_lst (ns : List Int) : SeqAt.shaped (.list (ns.map PyData.int)) = true := by
  have := depth_ints ns
  simp [SeqAt.shaped, PyData.canLay0, canLay_ints, PyData.depth]
  omega
theorem eqv_ints : ∀ ns ms : List Int, PyData.eqvAll (ns.map PyData.int) (ms.map PyData.int) = decide (ns = ms)
  | [], [] => by simp [PyData.eqvAll]
  | [], _ :: _ => by simp [PyData.eqvAll]
  | _ :: _, [] => by simp [PyData.eqvAll]
  | n :: ns, m :: ms => by
    simp [PyData.eqvAll, PyData.eqv, eqv_ints ns ms]
    rw [Bool.eq_iff_iff]
    simp
theorem ne_lists {G : Gp} {p q : Addr} {ns ms : List Int} {Q : UK} {E : UX} (h1 : G p = some (.lst (IntU ns))) (h2 : G q = some (.lst (IntU ms))) (h : Q (.bl (!decide (ns = ms))) G) : neU (.ref p) (.ref q) G Q E := by
  refine ⟨_, _, .lst h1 (dats_ints ns), .lst h2 (dats_ints ms), shaped_lst ns, shaped_lst ms, ?_⟩
  simp only [PyData.eqv, eqv_ints]
  exact h
theorem lim_line' {n : Nat} (h : n ≤ 16000000) : n ≤ sizeLine := by rw [sizeLine_eq]; omega
theorem e_strsOnes : ∀ l : List Nat, strsU (sgs l) = some (l.map fun c => [c])
  | [] => rfl
  | c :: l => by
    show (strsU (sgs l)).map (_ :: ·) = _
    rw [e_strsOnes l]
    rfl
theorem e_joinOnes {l : List Nat} : joinN [] (l.map fun c => [c]) = l := by
  rw [joinN_nil]
  induction l with
  | nil => rfl
  | cons c l ih => rw [List.map_cons, List.flatten_cons, ih]; rfl
theorem e_sumOnes {l : List Nat} : ((l.map fun c => [c]).map List.length).sum = l.length := by
  induction l with
  | nil => rfl
  | cons c l ih =>
    rw [List.map_cons, List.map_cons, List.sum_cons, ih]
    simp; omega
def C26 : List Nat := (List.range 26).map (· + 97)
def B26 : List Nat := (List.range 26).map (· + 65)
def M52 : List Nat := B26 ++ C26
def C27 : List Nat := C26 ++ [32]
theorem gup_neS {G : Gp} {a b : Addr} {o : Ob} (h : a ≠ b) : gup G a o b = G b := gup_ne h.symm
theorem gup_nN {G : Gp} {a b : Addr} {o : Ob} (h : ¬b = a) : gup G a o b = G b := gup_ne h
theorem gup_nNS {G : Gp} {a b : Addr} {o : Ob} (h : ¬a = b) : gup G a o b = G b := gup_ne fun e => h e.symm
theorem KF.drop {Q : UK} {u : U} {G : Gp} {a : Addr} {o : Ob} (h : G a = none) (k : KF Q u G) : KF Q u (gup G a o) := by
  obtain ⟨G2, s, q⟩ := k
  exact ⟨G2, s.trans (Sub.drop h), q⟩
theorem KS.drop {Q : USt → Gp → Prop} {u : USt} {G : Gp} {a : Addr} {o : Ob} (h : G a = none) (k : KS Q u G) : KS Q u (gup G a o) := by
  obtain ⟨G2, s, q⟩ := k
  exact ⟨G2, s.trans (Sub.drop h), q⟩
theorem KX.drop {E : UX} {x : UExc} {G : Gp} {a : Addr} {o : Ob} (h : G a = none) (k : KX E x G) : KX E x (gup G a o) := by
  obtain ⟨G2, s, q⟩ := k
  exact ⟨G2, s.trans (Sub.drop h), q⟩
theorem KF.of {Q : UK} {u : U} {G G2 : Gp} (s : Sub G2 G) (q : Q u G2) : KF Q u G := ⟨G2, s, q⟩
theorem KS.of {Q : USt → Gp → Prop} {u : USt} {G G2 : Gp} (s : Sub G2 G) (q : Q u G2) : KS Q u G := ⟨G2, s, q⟩
theorem Sub.up {G1 G2 : Gp} (x : Sub G1 G2) {a : Addr} {o : Ob} (h : G2 a = some o) : Sub (UL.gup G1 a o) G2 := fun b u g => by
  by_cases e : b = a
  · subst e
    rw [gup_same] at g
    rw [h]
    exact g
  · rw [gup_ne e] at g
    exact x b u g
/-- all that A knows beyond S is known to B -/
def SubE (S : Addr → Prop) (A B : Gp) : Prop := ∀ x o, ¬S x → A x = some o → B x = some o
theorem SubE.refl {S : Addr → Prop} {A : Gp} : SubE S A A := fun _ _ _ h => h
theorem Sub.ofE {A B : Gp} (h : SubE (fun _ => False) A B) : Sub A B := fun x o g => h x o id g
theorem SubE.left {S : Addr → Prop} {A B : Gp} {p : Addr} {o : Ob} (h : SubE (fun x => x = p ∨ S x) A B) (hb : S p ∨ B p = some o) : SubE S (UL.gup A p o) B := fun x u hs g => by
  by_cases e : x = p
  · subst e
    rw [gup_same] at g
    rcases hb with z | z
    · exact absurd z hs
    · rw [z]; exact g
  · rw [gup_ne e] at g
    exact h x u (fun z => z.elim e hs) g
theorem SubE.put {S : Addr → Prop} {A B : Gp} {a : Addr} {o : Ob} (h : SubE S A B) (ha : S a ∨ A a = none ∨ A a = some o) : SubE S A (UL.gup B a o) := fun x u hs g => by
  by_cases e : x = a
  · subst e
    rw [gup_same]
    rcases ha with z | z | z
    · exact absurd z hs
    · rw [z] at g; cases g
    · exact z.symm.trans g
  · rw [gup_ne e]
    exact h x u hs g
theorem SubE.drop {S : Addr → Prop} {A B : Gp} {a : Addr} {o : Ob} (h : SubE S A B) (ha : B a = none) (hA : SubE S A B → A a = none ∨ S a) : SubE S A (UL.gup B a o) := h.put ((hA h).elim (fun z => .inr (.inl z)) .inl)
theorem dcond {p : Prop} [Decidable p] {X Y : Prop} (h1 : p → X) (h2 : ¬p → Y) : condP (decide p) X Y := by
  unfold condP
  by_cases h : p
  · rw [decide_eq_true h]; exact h1 h
  · rw [decide_eq_false h]; exact h2 h
theorem bcond {b : Bool} {X Y : Prop} (h1 : b = true → X) (h2 : b = false → Y) : condP b X Y := by
  unfold condP
  cases b with
  | true => exact h1 rfl
  | false => exact h2 rfl
end UL
set_option maxHeartbeats 400000
namespace UL
open PySem PySem.Spec PyProof.Rows L2

section
variable {X : Cx} {W : WX} {pos : Pos}
end
end UL
set_option maxHeartbeats 400000
namespace UL
open PySem PySem.Spec PyProof.Rows L2

section
variable {X : Cx} {W : WX} {es : List Expr} {kws : List Keyword} {e o : Expr} {to te : UTE} {tk ta : UTA} {pos p apos : Pos} {k n : Nat} {ks : List Str} {sp : USp} {pl : List Src} {d : DD} {c m : String}
theorem stat_of {c m : String} {K : PySem.W.Frag} (h : statB c m K = true) : PySem.W.readsIn K (He.ga K (S c)) (.type "type") = true ∧ PySem.W.specialIn K (.ref (He.ga K (S c))) "__getattribute__" = some (some (.builtin "type.__getattribute__")) ∧
    PySem.W.findCls K (.ref (He.ga K (S c))) (.type "type") (S m) = some (.get (.builtin "staticmethod.__get__") (.ref (mAt c m K)) .none (.ref (He.ga K (S c)))) ∧ ∃ rest, PySem.W.recIn K (mAt c m K) "staticmethod" = some (.ref (wAt c m "staticmethod" K) :: rest) := by
  unfold statB at h
  simp only [Bool.and_eq_true, decide_eq_true_eq] at h
  obtain ⟨h1, h2, h3, h4⟩ := h
  refine ⟨h1, h2, ?_, ?_⟩
  · split at h3
    · rename_i n p C e
      simp only [Bool.and_eq_true, beq_iff_eq] at h3
      obtain ⟨rfl, rfl, rfl⟩ := h3
      exact e
    · cases h3
  · unfold wAt
    split at h4
    · rename_i g r e
      exact ⟨r, by rw [e]⟩
    · cases h4
end
end UL
set_option maxHeartbeats 400000
namespace UL
open PySem PySem.Spec PyProof.Rows L2
def insOr (o : Option Ob) (K : String → Prop) (R : Prop) (_ : Tag K := ()) (_ : Tag R := ()) : Prop := match o with
  | some (.ins c _) => K c
  | _ => R
def orInI (neg : Bool) (r : UR2) (c : String) (e : MAp) : UR2 := fun x y G Q E => match y with
  | .ref p => insOr (G p) (fun d => d = c ∧ e (.ref p) [x] [] G (truQ neg Q) E) (r x (.ref p) G Q E)
  | y => r x y G Q E
def orCI (r : URC) (c : String) (e : MAp) (f : UK → UK) : URC := fun as G Q E => match as with
  | [.ref p] => insOr (G p) (fun d => d = c ∧ e (.ref p) [] [] G (f Q) E) (r [.ref p] G Q E)
  | [x] => r [x] G Q E
  | _ => False
theorem insOr_of {o : Option Ob} {K : String → Prop} {R : Prop} (h : insOr o K R) : (∃ c fs, o = some (.ins c fs) ∧ K c) ∨ ((∀ c fs, o ≠ some (.ins c fs)) ∧ R) := by
  unfold insOr at h
  split at h
  · exact .inl ⟨_, _, rfl, h⟩
  · rename_i hn
    exact .inr ⟨fun c fs e => hn _ _ e, h⟩
theorem ownU_one {c m : String} {e : MAp} {p : Addr} {fs : List (String × U)} {ys : List U} {G : Gp} {Q : UK} {E : UX} (g : G p = some (.ins c fs)) (h : e (.ref p) ys [] G Q E) : ownU [(c, e)] m (.ref p) ys G Q E := by
  unfold ownU
  dsimp only
  rw [g]
  dsimp only
  rw [List.lookup_cons_self]
  exact h
theorem orInI_of {neg : Bool} {r : UR2} {c : String} {e : MAp} {x y : U} {G : Gp} {Q : UK} {E : UX} (h : orInI neg r c e x y G Q E) : orIn neg r [(c, e)] x y G Q E := by
  unfold orInI at h
  split at h
  · rename_i p
    rcases insOr_of h with ⟨d, fs, g, rfl, k⟩ | ⟨n, k⟩
    · exact .inr (ownU_one g k)
    · exact .inl ⟨notIns n, k⟩
  · rename_i hn
    refine .inl ⟨?_, h⟩
    cases y <;> first | rfl | exact (hn _ rfl).elim
theorem CallU.imp {X : Cx} {W : WX} {f : Value} {r r' : URC} (h : CallU X W f r) (k : ∀ as G Q E, r' as G Q E → r as G Q E) : CallU X W f r' :=
  fun pins s σ H xs us as G Q E I rx ra rp hr hx => h pins s σ H xs us as G Q E I rx ra rp (k _ _ _ _ hr) hx
section
variable {X : Cx} {W : WX} {c : String} {e : MAp}
theorem ou_notInI {r : UR2} (h0 : OpU X W (compareOp .NotIn) r) (hm : ∀ c' ap, ([(c, e)] : List (String × MAp)).lookup c' = some ap → MCall X W (S "__contains__") 1 [] c' ap) : OpU X W (compareOp .NotIn) (orInI true r c e) := (ou_notInOwn h0 hm).imp fun _ _ _ _ _ h => orInI_of h
end
section
variable {us : USt} {G : Gp} {Q : UK} {E : UX} {r : UR2} {rc : URC} {c : String} {e : MAp} {f : UK → UK} {x : U} {p : Addr} {neg b : Bool} {l : List Nat} {xs : List U} {i : Int}
theorem x_inRI : orInI neg r c e x (.ref p) G Q E = insOr (G p) (fun d => d = c ∧ e (.ref p) [x] [] G (truQ neg Q) E) (r x (.ref p) G Q E) := (rfl)
theorem x_cRI : orCI rc c e f [.ref p] G Q E = insOr (G p) (fun d => d = c ∧ e (.ref p) [] [] G (f Q) E) (rc [.ref p] G Q E) := (rfl)
theorem x_truQB : truQ neg Q (.bl b) G = Q (.bl (if neg then !b else b)) G := (rfl)
theorem x_strQ : strQ Q (.str l) G = Q (.str l) G := (rfl)
end
theorem dats_sgs {G : Gp} : ∀ l : List Nat, Dats G (sgs l) (l.map fun c => PyData.str ⟨#[c]⟩)
  | [] => .nil
  | c :: l => .cons (.str [c]) (dats_sgs l)
theorem lay_sgs : ∀ l : List Nat, (∀ c ∈ l, c < 1114112) → PyData.canLayAll0 (l.map fun c => PyData.str ⟨#[c]⟩) = true ∧ PyData.depthAll (l.map fun c => PyData.str ⟨#[c]⟩) ≤ 0
  | [], _ => by simp [PyData.canLayAll0, PyData.depthAll]
  | c :: l, h => by
    obtain ⟨h1, h2⟩ := lay_sgs l fun d hd => h d (List.mem_cons_of_mem _ hd)
    have h3 := h c List.mem_cons_self
    have h4 : PyData.strOk ⟨#[c]⟩ = true := by simp [PyData.strOk, h3]
    refine ⟨?_, ?_⟩
    · simp [PyData.canLayAll0, PyData.canLay0, h1, h4]
    · simp [PyData.depthAll, PyData.depth]
      omega
theorem shaped_sgs {l : List Nat} (h : ∀ c ∈ l, c < 1114112) : SeqAt.shaped (.list (l.map fun c => PyData.str ⟨#[c]⟩)) = true := by
  obtain ⟨h1, h2⟩ := lay_sgs l h
  simp [SeqAt.shaped, PyData.canLay0, h1, PyData.depth]
  omega
theorem eqv_sgs : ∀ l m : List Nat, PyData.eqvAll (l.map fun c => PyData.str ⟨#[c]⟩) (m.map fun c => PyData.str ⟨#[c]⟩) = decide (l = m)
  | [], [] => by simp [PyData.eqvAll]
  | [], _ :: _ => by simp [PyData.eqvAll]
  | _ :: _, [] => by simp [PyData.eqvAll]
  | n :: ns, m :: ms => by
    simp [PyData.eqvAll, PyData.eqv, eqv_sgs ns ms]
    have e : (({ cps := #[n] } : Str) == { cps := #[m] }) = decide (n = m) := by
      rw [Bool.eq_iff_iff, beq_iff_eq]
      simp
    all_goals (try rw [e])
    all_goals (try (by_cases h : n = m <;> simp [h]))
end UL
set_option maxHeartbeats 400000
namespace UL
open PySem PySem.Spec PyProof.Rows L2
section
variable {G : Gp} {Q : UK} {E : UX} {a b : Bool} {i : Int} {l : List Nat}
end
end UL
set_option maxHeartbeats 400000
namespace UL
open PySem PySem.Spec PyProof.Rows L2
/-- a list that stays as it is while chk holds -/
def ListAt (K : PySem.W.Frag) (H0 : Hp) (G0 : Gp) (a : Addr) (us : List U) (chk : Gp → Prop) : Prop := ∀ H G, Ext H0 G0 H G → Rep K H G → chk G → ∃ vs, SqL K H a vs ∧ RelUs K H us vs
section
variable {K : PySem.W.Frag} {H0 : Hp} {G0 : Gp} {a b : Addr} {us ws : List U}
theorem listAt_ref : ListAt K H0 G0 a us (fun G => G a = some (.lst us)) := fun H G _ r g => by
  obtain ⟨vs, e, rv⟩ := r.lst g
  exact ⟨vs, .of e, rv⟩
theorem listAt_rol {vs : List V} (h : RoL K H0 a vs) (rv : RelUs K H0 us vs) (r0 : Rep K H0 G0) : ListAt K H0 G0 a us (fun _ => True) := fun H G x r _ => ⟨vs, (x.roL r0 h).sq, rv.ext x r0⟩
theorem itu_enumA {c : Gp → Prop} (h : ListAt K H0 G0 a us c) : ItU K (Ite K a) c (enumU 0 us) H0 G0 := by
  refine ⟨fun i H G x r g hi => ?_, fun H G x r g => ?_⟩
  · rw [enumU_len] at hi
    obtain ⟨vs, e, rv⟩ := h H G x r g
    obtain ⟨v, ev, ru⟩ := rv.get (List.getElem?_eq_getElem hi)
    refine ⟨⟨vs, v, e, ev⟩, fun y H' ⟨T, z, ey, hT, eH, hz⟩ => ?_⟩
    subst eH ey
    have := hz vs e
    rw [ev] at this
    cases this
    obtain ⟨x1, r1⟩ := ext_tup r hT (xs := [.int (i : Nat), v])
    refine ⟨_, enumU_get 0 us i _ (List.getElem?_eq_getElem hi), x1, r1, T, _, rfl, .of upd_same, .int (i : Nat), [v], rfl, ?_, v, [], rfl, ru.ext x1 r, rfl⟩
    show V.int (i : Nat) = V.int ((0 + i : Nat))
    rw [Nat.zero_add]
  · obtain ⟨vs, e, rv⟩ := h H G x r g
    exact ⟨vs, e, by rw [rv.length, enumU_len]; exact Nat.le_refl _⟩
def zipU : List U → List U → List U
  | u :: us, w :: ws => .tup [u, w] :: zipU us ws
  | _, _ => []
theorem zipU_len : ∀ us ws : List U, (zipU us ws).length = min us.length ws.length
  | u :: us, w :: ws => by rw [zipU, List.length_cons, zipU_len, List.length_cons, List.length_cons]; omega
  | [], ws => by simp [zipU]
  | u :: us, [] => by simp [zipU]
theorem zipU_get : ∀ (us ws : List U) (i : Nat) (u w : U), us[i]? = some u → ws[i]? = some w → (zipU us ws)[i]? = some (.tup [u, w])
  | [], _, _, _, _, h, _ => by cases h
  | _ :: _, [], _, _, _, _, h => by cases h
  | u :: us, w :: ws, 0, _, _, h, k => by cases h; cases k; rfl
  | u :: us, w :: ws, i + 1, x, y, h, k => by
    rw [zipU, List.getElem?_cons_succ]
    exact zipU_get us ws i x y (by simpa using h) (by simpa using k)
theorem itu_zip {c d : Gp → Prop} (h1 : ListAt K H0 G0 a us c) (h2 : ListAt K H0 G0 b ws d) : ItU K (Itz K a b) (fun G => c G ∧ d G) (zipU us ws) H0 G0 := by
  refine ⟨fun i H G x r g hi => ?_, fun H G x r g => ?_⟩
  · rw [zipU_len] at hi
    obtain ⟨vs, e, rv⟩ := h1 H G x r g.1
    obtain ⟨vs2, e2, rv2⟩ := h2 H G x r g.2
    have l1 : i < us.length := by omega
    have l2 : i < ws.length := by omega
    obtain ⟨v, ev, ru⟩ := rv.get (List.getElem?_eq_getElem l1)
    obtain ⟨v2, ev2, ru2⟩ := rv2.get (List.getElem?_eq_getElem l2)
    refine ⟨⟨vs, vs2, v, v2, e, e2, ev, ev2⟩, fun y H' ⟨T, z, z2, ey, hT, eH, hz, hz2⟩ => ?_⟩
    subst eH ey
    have := hz vs e
    rw [ev] at this
    cases this
    have := hz2 vs2 e2
    rw [ev2] at this
    cases this
    obtain ⟨x1, r1⟩ := ext_tup r hT (xs := [v, v2])
    exact ⟨_, zipU_get us ws i _ _ (List.getElem?_eq_getElem l1) (List.getElem?_eq_getElem l2), x1, r1, T, _, rfl, .of upd_same, v, [v2], rfl, ru.ext x1 r, v2, [], rfl, ru2.ext x1 r, rfl⟩
  · obtain ⟨vs, e, rv⟩ := h1 H G x r g.1
    obtain ⟨vs2, e2, rv2⟩ := h2 H G x r g.2
    refine ⟨vs, vs2, e, e2, ?_⟩
    rw [zipU_len, rv.length, rv2.length]
    omega
end
def lstU (u : U) (G : Gp) (k : List U → (Gp → Prop) → Prop) : Prop := match u with
  | .ref a => ∃ us, G a = some (.lst us) ∧ k us (fun G => G a = some (.lst us))
  | .rol us => k us (fun _ => True)
  | _ => False
theorem lstU_of {K : PySem.W.Frag} {H : Hp} {G : Gp} {u : U} {v : V} {k : List U → (Gp → Prop) → Prop} (rp : Rep K H G) (ru : RelU K H u v) (h : lstU u G k) : ∃ a us c vs, v = .ref a ∧ SqL K H a vs ∧ ListAt K H G a us c ∧ k us c := by
  cases u <;> try exact h.elim
  · rename_i a
    obtain ⟨us, g, q⟩ := h
    obtain ⟨vs, e, r⟩ := rp.lst g
    exact ⟨a, us, _, vs, ru, .of e, listAt_ref, q⟩
  · rename_i us
    obtain ⟨a, vs, rfl, t, r⟩ := (show ∃ a vs, v = .ref a ∧ RoL K H a vs ∧ RelUs K H us vs from ru)
    exact ⟨a, us, _, vs, rfl, t.sq, listAt_rol t r rp, h⟩
def enumI (u : U) (G : Gp) (Q : UKI) : Prop := lstU u G fun us c => Q c (enumU 0 us) G
def zipI (u w : U) (G : Gp) (Q : UKI) : Prop := lstU u G fun us c => lstU w G fun ws d => Q (fun G => c G ∧ d G) (zipU us ws) G
def zipQ (Q : UKI) (ws : List U) (G : Gp) : Prop := match ws with
  | [u, w] => zipI u w G Q
  | _ => False
def tIZip (ta tb : UTE) : UTI := fun us G Q E => ta us G (fun u G1 => tb us G1 (fun w G2 => zipI u w G2 Q) E) E
section
variable {X : Cx} {W : WX} {te tb : UTE} {p pos tpos : Pos} {elts : List Expr} {kk : Nat}
theorem iu_zip {a b : Expr} (hg : Gl X "zip") (hm : X.mg "zip" = none) (ha : EU X W a te) (hb : EU X W b tb) (hs : starEach [a, b] X.env = (false, eval a X.env) :: starEach [b] X.env) (hs2 : starEach [b] X.env = (false, eval b X.env) :: starEach [] X.env) :
    IU X W (.Tuple elts kk tpos) (.Call (.Name "zip" p) [a, b] [] pos) (tIZip te tb) := by
  refine ⟨fun pins s σ H us G Q E I rs rp h hx => ?_⟩
  refine Call_ (ld_blt I hg hm PyProof.Rows.boot_zip (PyProof.Rows.callWith_type1 (thn ((au_cons ha (au_cons hb au_nil hs2) hs).run pos pins s σ H us G (zipQ Q) E I rs rp h hx) fun vals s1 ⟨vs, H1, I1, r1, ws, G1, x1, rp1, ru, q1⟩ => ?_) hs (by rw [hs2]; rfl)))
  cases ws with
  | nil => exact q1.elim
  | cons u r =>
    cases r with
    | nil => exact q1.elim
    | cons u2 r =>
      cases r with
      | cons _ _ => exact q1.elim
      | nil =>
        obtain ⟨v, vr, e1, ev, v2, vr2, e3, ev2, e4⟩ := ru
        have e4' : vr2 = [] := e4
        subst e1 e3 e4'
        obtain ⟨a, us1, c, vs1, rfl, hqx, hl, q⟩ := lstU_of rp1 ev (show lstU u G1 fun us c => lstU u2 G1 fun ws d => Q (fun G => c G ∧ d G) (zipU us ws) G1 from q1)
        obtain ⟨b, us2, d, vs2, rfl, hqy, hl2, q⟩ := lstU_of rp1 ev2 q
        cases r1 with
        | cons r rr =>
          cases rr with
          | cons r' rr =>
            cases rr
            cases r
            cases r'
            obtain ⟨its, rv, p1, _⟩ := I1.list hqx
            obtain ⟨its2, rv2, p2, _⟩ := I1.list hqy
            have la : a < s1.heap.objs.size := p1.lt
            have lb : b < s1.heap.objs.size := p2.lt
            refine call_zip_2 p1.isList p2.isList fun h' hz hTI hTO h1 h2 hsz hk => wpAny_pyIter_zip hz ?_
            have I2 : Inv X pins σ H1 { s1 with heap := h' } := I1.kept (t' := s1.toks) hk
            refine ⟨s1.heap.objs.size + 4, [s1.heap.objs.size + 4, s1.heap.objs.size + 2, s1.heap.objs.size + 3, s1.heap.objs.size, s1.heap.objs.size + 1], _, _, H1, rfl, I2, turn_zip (PySem.W.ktu_apart s1.heap.objs.size a b la lb), ⟨hz, hTI, ⟨_, _, hTO⟩, h1, h2⟩, fun c hcm => ?_, ⟨_, _, G1, x1, rp1, itu_zip hl hl2, q⟩⟩
            have e' : c = s1.heap.objs.size + 4 ∨ c = s1.heap.objs.size + 2 ∨ c = s1.heap.objs.size + 3 ∨ c = s1.heap.objs.size ∨ c = s1.heap.objs.size + 1 := by simpa using hcm
            have hle : s1.heap.objs.size ≤ c := by
              rcases e' with z | z | z | z | z
              · rw [z]; exact Nat.le_add_right _ _
              · rw [z]; exact Nat.le_add_right _ _
              · rw [z]; exact Nat.le_add_right _ _
              · rw [z]; exact Nat.le_refl _
              · rw [z]; exact Nat.le_add_right _ _
            exact I1.fpOk hle (I1.hok.fresh hle)
end
section
variable {us : USt} {G : Gp} {E : UX} {R : UKI} {ta tb : UTE} {p q : Addr} {xs ys : List U}
theorem x_iZip : tIZip ta tb us G R E = ta us G (fun u G1 => tb us G1 (fun w G2 => zipI u w G2 R) E) E := (rfl)
theorem x_zipLL : zipI (.ref p) (.ref q) G R = getLst (G p) fun us => getLst (G q) fun ws => R (fun G => G p = some (.lst us) ∧ G q = some (.lst ws)) (zipU us ws) G := by
  rw [← lst_ex]
  refine propext (exists_congr fun us => and_congr_right fun _ => ?_)
  show (∃ ws, _ ∧ _) ↔ _
  rw [lst_ex]
end
end UL
set_option maxHeartbeats 400000
namespace UL
open PySem PySem.Spec PyProof.Rows L2
theorem RelS.unset {K : PySem.W.Frag} {H : Hp} : ∀ {us : USt} {vs : L2.St} (i : Nat), RelS K H us vs → RelS K H (us.set i none) (vs.set i none)
  | [], _, _, e => by
    have e' : _ = ([] : L2.St) := e
    subst e'
    rfl
  | none :: us, _, 0, ⟨w, ws, rfl, t⟩ => ⟨none, ws, rfl, t⟩
  | some _ :: us, _, 0, ⟨w, ws, rfl, _, t⟩ => ⟨none, ws, rfl, t⟩
  | none :: us, _, i + 1, ⟨w, ws, rfl, t⟩ => ⟨w, ws.set i none, rfl, RelS.unset i t⟩
  | some _ :: us, _, i + 1, ⟨w, ws, rfl, h, t⟩ => ⟨w, ws.set i none, rfl, h, RelS.unset i t⟩
/-- what a caught exception's dict says -/
theorem relE_of {K : PySem.W.Frag} {H : Hp} {gs : List (Str × V)} : ∀ {fs : List (String × U)}, (fs.map (·.1)).Nodup → (∀ f u, fget fs f = some u → ∃ v, gs.lookup (S f) = some v ∧ RelU K H u v) → RelE K H gs (fs.map (·.1)) (fs.map (·.2))
  | [], _, _ => True.intro
  | (f, u) :: fs, hn, h => by
    rw [List.map_cons, List.nodup_cons] at hn
    refine ⟨h f u (by unfold fget; rw [if_pos rfl]), relE_of hn.2 fun g w e => h g w ?_⟩
    have ne : f ≠ g := fun z => hn.1 (by
      subst z
      have : ∀ {l : List (String × U)}, fget l f = some w → f ∈ l.map (·.1) := fun {l} => by
        induction l with
        | nil => intro h; cases h
        | cons p l ih =>
          obtain ⟨k, y⟩ := p
          intro h
          unfold fget at h
          split at h
          · rename_i q
            rw [q]
            exact List.mem_cons_self
          · exact List.mem_cons_of_mem _ (ih h)
      exact this e)
    unfold fget
    rw [if_neg ne]
    exact e
theorem relE_get {K : PySem.W.Frag} {H : Hp} {gs : List (Str × V)} {f : String} {u : U} : ∀ {fl : List String} {us : List U}, RelE K H gs fl us → fget (fl.zip us) f = some u → ∃ v, gs.lookup (S f) = some v ∧ RelU K H u v
  | [], [], _, h => by cases h
  | [], _ :: _, h, _ => h.elim
  | _ :: _, [], _, h => by cases h
  | g :: fl, w :: us, ⟨h1, h2⟩, h => by
    rw [List.zip_cons_cons] at h
    unfold fget at h
    split at h
    · rename_i e
      cases h
      rw [← e]
      exact h1
    · exact relE_get h2 h
def tUXf (cs : List String) (a : Addr) (d : Option Addr) (c : String) (f : String) (te : UTE) : UTE := fun us G Q E => te us G (fun u G1 => match u with
  | .exc a' d' c' fl vs => a' = a ∧ d' = d ∧ c' = c ∧ c ∈ cs ∧ (match fget (fl.zip vs) f with
    | some v => Q v G1
    | none => False)
  | _ => False) E
theorem eu_xf {X : Cx} {W : WX} {a : Addr} {oe : Obj} {d : Option Addr} {c f : String} {cs : List String} {pn : List (Addr × Obj)} {e : Expr} {te : UTE} {pos : Pos} (T : ∀ c ∈ cs, xfK c f X.K = true)
    (hz : Zc (.ref (He.ga X.K (S c))) d oe) (hf : ∃ vs, oe.data = .fields vs) (he : EU (X.suite a ((a, oe) :: pn)) W e te) (hb : attributeBase e (S f) X.env (eval e X.env) = eval e X.env) :
    EU (X.suite a ((a, oe) :: pn)) W (.Attribute e (S f) pos) (tUXf cs a d c f te) := by
  refine ⟨fun pins s σ H us G Q E I rs rp h hx => ?_⟩
  refine attr_of hb (thn (he.run pins s σ H us G _ E I rs rp h hx) fun u s1 ⟨x, H1, I1, rx, w, G1, x1, rp1, ru, q⟩ => ?_)
  cases w <;> try exact q.elim
  rename_i a' d' c' fl vs
  obtain ⟨rfl, rfl, rfl, hc, q⟩ := q
  split at q
  case h_2 => exact q.elim
  rename_i w hw
  obtain ⟨rfl, hfl⟩ := ru
  obtain rfl : u = Value.ref a' := rx
  rcases hfl with rfl | ⟨dd, gs, rfl, ea, hr⟩
  · cases hw
  obtain ⟨v, hl0, rv⟩ := relE_get hr hw
  have T1 := T _ hc
  unfold xfK at T1
  rw [Bool.and_eq_true, decide_eq_true_eq] at T1
  obtain ⟨T1, hno⟩ := T1
  have T := xfB_ok T1
  obtain ⟨ha, _⟩ := I1.pin (a', oe) (List.mem_append_left _ List.mem_cons_self)
  obtain ⟨vs', hd⟩ := hf
  have hx : ObjOk X.prog X.w H1 s1.heap dd (.xd gs) := I1.hok dd _ ea
  obtain ⟨mA, hns, hr'⟩ := hx
  obtain ⟨od, ho, hl⟩ := lookIn_ns hns
  obtain ⟨u, hu, ru⟩ := RelO.some_of (v := v) (o := mA (S f)) (by rw [← hl0]; exact hr' (S f))
  have J : PySem.W.InstAt s1.heap a' oe (He.ga X.K (S c')) (some od) := ⟨ha, hz.1, by unfold PySem.W.notCls; rw [hd] <;> rfl, by rw [hz.2]; exact ho⟩
  exact HandSPX.exc_get I1.kIn J T.ga T.gg T.exC (PySem.W.findObj_own T.hdC hno rfl (by rw [hl, hu])) (handed_of ru) ⟨v, H1, I1.tok _, ru, _, G1, x1, rp1, rv, q⟩
def catchK (o : Option Bool) (x y : Prop) : Prop := match o with
  | some true => x
  | some false => y
  | none => False
def sufD (i : Nat) (D : UEnds) : UEnds := { nx := fun us' G' => D.nx (us'.set i none) G', rt := D.rt, bk := fun us' G' => D.bk (us'.set i none) G', ct := fun us' G' => D.ct (us'.set i none) G', ex := fun _ _ _ => False }
theorem mem_lk {α β : Type} [BEq α] [LawfulBEq α] {a : α} {b : β} : ∀ {l : List (α × β)}, l.lookup a = some b → (a, b) ∈ l
  | [], h => by cases h
  | (k, v) :: l, h => by
    rw [List.lookup_cons] at h
    split at h
    · rename_i e
      rw [beq_iff_eq] at e
      cases h
      rw [e]
      exact List.mem_cons_self
    · exact List.mem_cons_of_mem _ (mem_lk h)
def asExc (u : U) (Q : Addr → Option Addr → String → List String → List U → Prop) (_ : Tag Q := ()) : Prop := match u with
  | .exc a d c fl us => Q a d c fl us
  | _ => False
section
variable {us : USt} {G : Gp} {Q : UK} {E : UX} {D : UEnds} {hits : List (String × Bool)} {i : Nat} {tb : UTS} {ts : Addr → Option Addr → String → UTS} {c k f : String} {fs : List (String × U)} {a : Addr} {d : Option Addr} {te : UTE} {cs fl : List String} {ws : List U} {P R : Prop} {b : Bool} {l : List (String × Bool)} {u : U}
theorem e_catchT : catchK (some true) P R = P := (rfl)
theorem e_catchF : catchK (some false) P R = R := (rfl)
theorem e_lkB : List.lookup c ((k, b) :: l) = if c = k then some b else List.lookup c l := by
  rw [List.lookup_cons]
  by_cases h : c = k
  · subst h; simp
  · rw [beq_eq_false_iff_ne.mpr h, if_neg h]
theorem e_sufRt : (sufD i D).rt = D.rt := (rfl)
theorem asExc_s {Q} : asExc (.exc a d c fl ws) Q = Q a d c fl ws := (rfl)
theorem x_xf : tUXf cs a d c f te us G Q E = te us G (fun u G1 => asExc u fun a' d' c' fl vs => a' = a ∧ d' = d ∧ c' = c ∧ c ∈ cs ∧ getO (fget (fl.zip vs) f) fun v => Q v G1) E := (rfl)
theorem e_nodup1 {x : String} : [x].Nodup = True := eq_true (by simp)
end
end UL
set_option maxHeartbeats 400000
namespace UL
open PySem PySem.Spec PyProof.Rows L2
def IteS (x : Str) : It := ⟨fun i _ => i < x.cps.size, fun i H v H' => ∃ T c, v = .ref T ∧ H T = none ∧ H' = upd H T (.tup [.int (i : Nat), .str ⟨#[c]⟩]) ∧ x.cps[i]? = some c, fun i _ => i = x.cps.size⟩
theorem turn_enumS {P : Program} {w : World} {K : PySem.W.Frag} {elts : List Expr} {kk : Nat} {tpos : Pos} (x : Str) (t : Tok) (ty : String) (hty : ty = "str_ascii_iterator" ∨ ty = "str_iterator") (e it : Addr) :
    Turn P w K (.Tuple elts kk tpos) (IteS x) [e, it] e (fun i h => (∃ old, IsEnum h e it ((i : Nat) : Int) old) ∧ h.IsStrIter it ty x t i ∧ e ≠ it) where
  mem := by simp
  obj := fun i h st b hb => by
    obtain ⟨⟨old, he⟩, ⟨o, ho, hc, hd⟩, _⟩ := st
    have e' : b = e ∨ b = it := by simpa using hb
    rcases e' with z | z
    · rw [z]; exact ⟨_, he, fun v q => nomatch q⟩
    · rw [z]; exact ⟨o, ho, fun v q => by rw [hd] at q; cases q⟩
  keep := fun i h h' st k => let ⟨⟨old, he⟩, ⟨o, ho, r⟩, hne⟩ := st; ⟨⟨old, k e (by simp) _ he⟩, ⟨o, k it (by simp) o ho, r⟩, hne⟩
  item := by
    intro X hP hw hK hc i pins s σ H E I hf st hg
    subst hP hw hK
    obtain ⟨⟨old, he⟩, hit, hne⟩ := st
    have D : Draws X.prog X.w X.A.in1 it [it] x.cps.size (fun i v => ∃ c u, x.cps[i]? = some c ∧ v = .str ⟨#[c]⟩ u) (fun i h => h.IsStrIter it ty x t i) := by
      rcases hty with e | e
      · rw [e]; exact Draws.strAscii (A := X.A.in1) (show X.A.in1.handled = none from I.ok.hd hc) it x t
      · rw [e]; exact Draws.strWide (A := X.A.in1) (show X.A.in1.handled = none from I.ok.hd hc) it x t
    have hel : e < s.heap.objs.size := Heap.lt_size he
    have hil : it < s.heap.objs.size := by obtain ⟨_, q, _⟩ := hit; exact Heap.lt_size q
    refine wpAny_pyNext_enum_itemD D he hit hg hne (by simpa using hne) fun v h' tk hv ho hit' hT hsz hk => ?_
    obtain ⟨c, u, hcx, rfl⟩ := hv
    refine ⟨_, rfl, wpAny_letOwnedTupleGo_enum (s := { s with heap := h', toks := tk + 1 }) ho fun h'' he' sb => ?_⟩
    have hT2 : h''.get? s.heap.objs.size = some { cls := .type "tuple", data := .seq #[.int i tk, .str ⟨#[c]⟩ u] } := (sb.2 _ (Nat.ne_of_gt hel)).trans hT
    have new : ObjOk X.prog X.w (upd H s.heap.objs.size (.tup [.int (i : Nat), .str ⟨#[c]⟩])) h'' s.heap.objs.size (.tup [.int (i : Nat), .str ⟨#[c]⟩]) :=
      ⟨by show 2 ≤ sizeLine; decide, [.int i tk, .str ⟨#[c]⟩ u], .cons ⟨_, rfl⟩ (.cons ⟨_, rfl⟩ .nil), ⟨_, hT2, rfl, _, rfl⟩⟩
    have I1 : Inv X pins σ (upd H s.heap.objs.size (.tup [.int (i : Nat), .str ⟨#[c]⟩])) { s with heap := h'', toks := tk + 1 } :=
      I.turnedNew (ch := [e, it]) (fun b ob hb q => (sb.2 b (fun z => hb (by simp [z]))).trans (hk b ob (fun z => hb (by simp [z])) (fun z => hb (by simp [z])) q)) hf (Nat.le_refl _) new
    refine ⟨.ref s.heap.objs.size, _, I1, rfl, ⟨_, c, rfl, I.hok.fresh (Nat.le_refl _), rfl, hcx⟩, ⟨⟨.str ⟨#[c]⟩ u, ?_⟩, hit'.extBut sb.extBut (Ne.symm hne), hne⟩, fun b hb => ?_⟩
    · have e1 : ((i + 1 : Nat) : Int) = (i : Int) + 1 := by omega
      rw [e1]; exact he'
    · have hb' : b < s.heap.objs.size := by
        have e' : b = e ∨ b = it := by simpa using hb
        rcases e' with z | z
        · rw [z]; exact hel
        · rw [z]; exact hil
      rw [upd_ne (Nat.ne_of_lt hb')]
      exact (hf b hb).1
  done := by
    intro X hP hw hK hc i pins s σ H E I hf st hg
    subst hP hw hK
    obtain ⟨⟨old, he⟩, hit, hne⟩ := st
    have D : Draws X.prog X.w X.A.in1 it [it] x.cps.size (fun i v => ∃ c u, x.cps[i]? = some c ∧ v = .str ⟨#[c]⟩ u) (fun i h => h.IsStrIter it ty x t i) := by
      rcases hty with e | e
      · rw [e]; exact Draws.strAscii (A := X.A.in1) (show X.A.in1.handled = none from I.ok.hd hc) it x t
      · rw [e]; exact Draws.strWide (A := X.A.in1) (show X.A.in1.handled = none from I.ok.hd hc) it x t
    have hg' : i = x.cps.size := hg
    subst hg'
    obtain ⟨f0, f1, f2, f3, f4, f5⟩ := hf it (by simp)
    exact wpAny_pyNext_enum_endD D he hit fun h' eb => ⟨rfl, I.turned (t' := s.toks) (fun b o hb q => eb b o hb q) f0 f1 f3 f4 f5⟩
  self := fun A i s Q E st h => let ⟨⟨_, he⟩, _⟩ := st; wpAny_pyIter_enum he h
theorem itu_enumS {K : PySem.W.Frag} {H0 : Hp} {G0 : Gp} {l : List Nat} : ItU K (IteS ⟨l.toArray⟩) (fun _ => True) (enumU 0 (sgs l)) H0 G0 := by
  have sz : (sgs l).length = l.length := List.length_map _
  refine ⟨fun i H G x r _ hi => ?_, fun H G x r _ => ?_⟩
  · rw [enumU_len] at hi
    refine ⟨show i < l.toArray.size by rw [List.size_toArray]; omega, fun y H' ⟨T, c, ey, hT, eH, hc⟩ => ?_⟩
    subst eH ey
    have hc' : l[i]? = some c := by simpa using hc
    obtain ⟨x1, r1⟩ := ext_tup r hT (xs := [.int (i : Nat), .str ⟨#[c]⟩])
    refine ⟨_, enumU_get 0 (sgs l) i (.str [c]) (by unfold sgs; rw [List.getElem?_map, hc']; rfl), x1, r1, T, _, rfl, .of upd_same, .int (i : Nat), [.str ⟨#[c]⟩], rfl, ?_, .str ⟨#[c]⟩, [], rfl, rfl, rfl⟩
    show V.int (i : Nat) = V.int ((0 + i : Nat))
    rw [Nat.zero_add]
  · show (enumU 0 (sgs l)).length = l.toArray.size
    rw [enumU_len, sz, List.size_toArray]
def enumA (u : U) (G : Gp) (Q : UKI) : Prop := match u with
  | .str l => Q (fun _ => True) (enumU 0 (sgs l)) G
  | u => enumI u G Q
section
variable {us : USt} {G : Gp} {E : UX} {R : UKI} {ta : UTE} {p : Addr} {xs : List U} {l : List Nat}
end
end UL
set_option maxHeartbeats 400000
namespace UL
open PySem PySem.Spec PyProof.Rows L2
def reprA : U → Gp → UK → Prop := fun u G Q => ∃ d, Shows G u d ∧ Q (.str d.shown.cps.toList) G
theorem cu_reprA {X : Cx} {W : WX} (hu : X.A.units + 64 < cLine) (hg : X.A.guards = some []) : CallU X W (.builtin "repr") (u1 reprA) := by
  intro pins s σ H xs us as G Q E I rx ra rp hr hx
  obtain ⟨u, rfl, d, ⟨hd, hs, hdp, hz⟩, q⟩ := u1_of hr
  obtain ⟨x, rfl, rux⟩ := relUs1 ra
  obtain ⟨v, rfl, rv⟩ := vals1 rx
  have dp := hd.dp rp d u x rux
  obtain ⟨as', rd⟩ := Dp.reads I d x v dp rv
  have fin : ∀ {t : Tok} {h' : Heap} {tk : Tok}, (∀ b o, s.heap.get? b = some o → h'.get? b = some o) → EP X pins σ (LV X.K H G Q) (.str d.shown t) { s with heap := h', toks := tk } := fun {t h' tk} hk => ⟨.str d.shown, H, I.kept hk, ⟨t, rfl⟩, lv_str (l := d.shown.cps.toList) rp q⟩
  have big : ∀ a, v = .ref a → wpAny (model X.prog X.w) X.A (call (.builtin "repr") [v]) (EP X pins σ (LV X.K H G Q)) X.xe s := by
    rintro a rfl
    exact PySem.repr_of_reads' rd hs (PyData.noDict_hsm (Dp.noDict d x dp)) hg (by omega) (fun _ _ e => e) (fun h' t tk hk => fin hk) hz
  cases hd with
  | non =>
    have e : x = .non := rux
    subst e
    obtain rfl : v = Value.none := rv
    exact PySem.P.repr_of_none (fin fun _ _ z => z)
  | bl b =>
    have e : x = .bl b := rux
    subst e
    obtain rfl : v = Value.bool b := rv
    exact PySem.P.repr_of_bool (fin fun _ _ z => z)
  | int i =>
    have e : x = .int i := rux
    subst e
    obtain ⟨t, rfl⟩ := rv
    exact PySem.P.repr_of_int (by simpa [PyData.showable] using hs) (fin fun _ _ z => z)
  | str l =>
    have e : x = .str ⟨l.toArray⟩ := rux
    subst e
    obtain ⟨t, rfl⟩ := rv
    exact PySem.P.repr_of_str (fin fun _ _ z => z) hz
  | tup _ =>
    obtain ⟨a, vs, rfl, _⟩ := rux.tup_of
    exact big a rv
  | lst _ _ =>
    rename_i a us ds _ _
    have e : x = .ref a := rux
    subst e
    exact big a rv
end UL
set_option maxHeartbeats 400000
namespace UL
open PySem PySem.Spec PyProof.Rows L2
section
variable {G : Gp} {Q : UK} {u w : U} {a : Addr} {d : Option Addr} {c c' : String} {t t' : TD} {v : Bool} {tab : List (String × TD × Bool)} {fl : List String} {vs : List U}
end
end UL
set_option maxHeartbeats 400000
namespace UL
open PySem PySem.Spec PyProof.Rows L2
def asBlK (u : U) (t f : Prop) (_ : Tag t := ()) (_ : Tag f := ()) : Prop := match u with
  | .bl true => t
  | .bl false => f
  | _ => False
def tUChain (r r' : UR2) (ta tb tc : UTE) : UTE := fun us G Q E => ta us G (fun x G1 => tb us G1 (fun y G2 => r x y G2 (fun k G3 => asBlK k (tc us G3 (fun z G4 => r' y z G4 Q E) E) (Q (.bl false) G3)) E) E) E
section
variable {X : Cx} {W : WX} {a b c : Expr} {ta tb tc : UTE} {op op' : CmpOp} {r r' : UR2} {pos : Pos}
theorem tu_chain (ho : OpU X W (compareOp op) r) (ho' : OpU X W (compareOp op') r') (ha : EU X W a ta) (hb : EU X W b tb) (hc : EU X W c tc) (hm : lastMarks [op, op'] [b, c] = false) : TU X W (.Compare a [op, op'] [b, c] pos) (fun us G Q E => tUChain r r' ta tb tc us G (kBl Q) E) := by
  refine ⟨fun pins s σ H us G Q E I rs rp h hx => ?_⟩
  refine isTrue_chain (thn (ha.run pins s σ H us G _ E I rs rp h hx) fun v s1 ⟨x, H1, I1, r1, p, G1, x1, rp1, rp', q1⟩ => test_link (thn (hb.run pins s1 σ H1 us G1 _ E I1 (rs.ext x1 rp) rp1 q1 fun c d H' h => hx c d H' (h.trans x1)) fun u s2 ⟨y, H2, I2, r2, q, G2, x2, rp2, rq, q2⟩ =>
    thn (ho pins s2 σ H2 x y v u p q G2 _ E I2 r1 r2 (rp'.ext x2 rp1) rq rp2 q2 fun c d H' h => hx c d H' (h.trans (x1.trans x2))) fun d s3 ⟨z, H3, I3, r3, w, G3, x3, rp3, rw_, q3⟩ => ?_)) hm
  cases w <;> try exact q3.elim
  rename_i k
  obtain rfl : z = V.bl k := rw_
  cases r3
  refine wpAny_truthy_bool ?_
  have xx := (x1.trans x2).trans x3
  cases k with
  | false => exact ite_ff ⟨H3, I3, G3, xx, rp3, q3⟩
  | true =>
    refine ite_tt (test_last (thn (hc.run pins s3 σ H3 us G3 _ E I3 (((rs.ext x1 rp).ext x2 rp1).ext x3 rp2) rp3 q3 fun c d H' h => hx c d H' (h.trans xx)) fun w' s4 ⟨z', H4, I4, r4, q', G4, x4, rp4, rq', q4⟩ =>
      thn (ho' pins s4 σ H4 y z' u w' q q' G4 _ E I4 r2 r4 ((rq.ext x3 rp2).ext x4 rp3) rq' rp4 q4 fun c d H' h => hx c d H' (h.trans (xx.trans x4))) fun d' s5 ⟨z2, H5, I5, r5, w2, G5, x5, rp5, rw2, q5⟩ => ?_))
    cases w2 <;> try exact q5.elim
    rename_i k2
    obtain rfl : z2 = V.bl k2 := rw2
    cases r5
    exact wpAny_truthy_bool ⟨H5, I5, G5, (xx.trans x4).trans x5, rp5, q5⟩
end
section
variable {us : USt} {G : Gp} {Q : UK} {E : UX} {ta tb tc : UTE} {r r' : UR2} {t f : Prop}
theorem x_chain : tUChain r r' ta tb tc us G Q E = ta us G (fun x G1 => tb us G1 (fun y G2 => r x y G2 (fun k G3 => asBlK k (tc us G3 (fun z G4 => r' y z G4 Q E) E) (Q (.bl false) G3)) E) E) E := (rfl)
def tChT (r r' : UR2) (ta tb tc : UTE) : UTT := fun us G B E => tUChain r r' ta tb tc us G (kBl B) E
theorem x_chT {B : Bool → Gp → Prop} : tChT r r' ta tb tc us G B E = tUChain r r' ta tb tc us G (kBl B) E := (rfl)
theorem x_kBl {b : Bool} {B : Bool → Gp → Prop} : kBl B (.bl b) G = B b G := (rfl)
theorem e_asBlK {b : Bool} : asBlK (.bl b) t f = condP b t f := by cases b <;> rfl
end
end UL
set_option maxHeartbeats 400000
namespace UL
open PySem PySem.Spec PyProof.Rows L2
def isKeyS (l : List Nat) (p : U × U) : Bool := match p.1 with
  | .str m => decide (m = l)
  | _ => false
def dgetS (l : List Nat) : List (U × U) → Option U
  | [] => none
  | p :: r => if isKeyS l p = true then some p.2 else dgetS l r
def dputS (l : List Nat) (u : U) (kvs : List (U × U)) : List (U × U) := if kvs.any (isKeyS l) = true then kvs.map (fun p => if isKeyS l p = true then (p.1, u) else p) else kvs ++ [(.str l, u)]
def ddelS (l : List Nat) (kvs : List (U × U)) : List (U × U) := kvs.filter fun p => !isKeyS l p
abbrev kS (l : List Nat) : Key := .inr ⟨l.toArray⟩
theorem isKey_rel {k : U} {kk : Key} {l : List Nat} {u : U} (h : KeyR k kk) : isKeyS l (k, u) = decide (kk = kS l) := by
  cases k <;> try exact h.elim
  · rename_i i
    have e : kk = .inl i := h
    subst e
    simp [isKeyS]
  · rename_i m
    have e : kk = .inr ⟨m.toArray⟩ := h
    subst e
    simp [isKeyS]
section
variable {K : PySem.W.Frag} {H : Hp} {l : List Nat}
theorem dget_rel : ∀ {kvs : List (U × U)} {gs : List (Key × V)}, RelKV K H kvs gs → match dgetS l kvs with
    | some u => ∃ v, valV gs (kS l) = some v ∧ RelU K H u v
    | none => valV gs (kS l) = none
  | [], _, h => by
    have e : _ = ([] : List (Key × V)) := h
    subst e
    rfl
  | (k, u) :: r, _, ⟨kk, v, ws, rfl, hk, hu, t⟩ => by
    have ih := dget_rel t
    have e := isKey_rel (l := l) (u := u) hk
    unfold dgetS
    rw [e]
    by_cases q : kk = kS l
    · rw [decide_eq_true q, if_pos rfl]
      exact ⟨v, valV_pos q, hu⟩
    · rw [decide_eq_false q, if_neg Bool.false_ne_true, valV_neg q]
      exact ih
theorem any_rel : ∀ {kvs : List (U × U)} {gs : List (Key × V)}, RelKV K H kvs gs → (gs.any fun p => decide (p.1 = kS l)) = kvs.any (isKeyS l)
  | [], _, h => by
    have e : _ = ([] : List (Key × V)) := h
    subst e
    rfl
  | (k, u) :: r, _, ⟨kk, v, ws, rfl, hk, hu, t⟩ => by rw [List.any_cons, List.any_cons, any_rel t, isKey_rel hk]
theorem map_rel {u : U} {v : V} (hv : RelU K H u v) : ∀ {kvs : List (U × U)} {gs : List (Key × V)}, RelKV K H kvs gs → RelKV K H (kvs.map fun p => if isKeyS l p = true then (p.1, u) else p) (gs.map fun p => if p.1 = kS l then (p.1, v) else p)
  | [], _, h => by
    have e : _ = ([] : List (Key × V)) := h
    subst e
    rfl
  | (k, w) :: r, _, ⟨kk, z, ws, rfl, hk, hu, t⟩ => by
    rw [List.map_cons, List.map_cons, isKey_rel hk]
    by_cases q : kk = kS l
    · rw [decide_eq_true q, if_pos rfl, if_pos q]
      exact ⟨kk, v, _, rfl, hk, hv, map_rel hv t⟩
    · rw [decide_eq_false q, if_neg Bool.false_ne_true, if_neg q]
      exact ⟨kk, z, _, rfl, hk, hu, map_rel hv t⟩
theorem snoc_rel {u : U} {v : V} (hv : RelU K H u v) : ∀ {kvs : List (U × U)} {gs : List (Key × V)}, RelKV K H kvs gs → RelKV K H (kvs ++ [(.str l, u)]) (gs ++ [(kS l, v)])
  | [], _, h => by
    have e : _ = ([] : List (Key × V)) := h
    subst e
    exact ⟨kS l, v, [], rfl, rfl, hv, rfl⟩
  | (k, w) :: r, _, ⟨kk, z, ws, rfl, hk, hu, t⟩ => ⟨kk, z, _, rfl, hk, hu, snoc_rel hv t⟩
theorem dput_rel {u : U} {v : V} (hv : RelU K H u v) {kvs : List (U × U)} {gs : List (Key × V)} (h : RelKV K H kvs gs) : RelKV K H (dputS l u kvs) (putK gs (kS l) v) := by
  unfold dputS putK
  rw [any_rel h]
  split
  · exact map_rel hv h
  · exact snoc_rel hv h
end
/-- a dict, iterated over or not -/
def getDR (o : Option Ob) (Q : List (U × U) → Prop) (_ : Tag Q := ()) : Prop := match o with
  | some (.dct kvs) => Q kvs
  | some (.dcr _ _ kvs) => Q kvs
  | _ => False
def isDR (o : Option Ob) (kvs : List (U × U)) : Prop := o = some (.dct kvs) ∨ ∃ od gs, o = some (.dcr od gs kvs)
theorem getDR_of {o : Option Ob} {Q : List (U × U) → Prop} (h : getDR o Q) : ∃ kvs, isDR o kvs ∧ Q kvs := by
  unfold getDR at h
  split at h
  · exact ⟨_, .inl rfl, h⟩
  · exact ⟨_, .inr ⟨_, _, rfl⟩, h⟩
  · exact h.elim
theorem Rep.dR {K : PySem.W.Frag} {H : Hp} {G : Gp} {a : Addr} {kvs : List (U × U)} (rp : Rep K H G) (g : isDR (G a) kvs) : ∃ gs, Rd H a (.dK gs) ∧ RelKV K H kvs gs := by
  rcases g with g | ⟨od, gs, g⟩
  · obtain ⟨gs, e, r⟩ := rp.dct g
    exact ⟨gs, .inl e, r⟩
  · obtain ⟨e, r⟩ := rp _ _ g
    exact ⟨gs, .inr ⟨od, e⟩, r⟩
def ixD : UR2 := fun x y G Q E => match x, y with
  | .ref a, .str l => getDR (G a) fun kvs => getO (dgetS l kvs) fun u => Q u G
  | x, y => ixU0 x y G Q E
def setD (o i v : U) (G : Gp) (Q : Gp → Prop) (E : UX) : Prop := match o, i with
  | .ref a, .str l => getDct (G a) fun kvs => kvs.length < 1000000 ∧ Q (gup G a (.dct (dputS l v kvs)))
  | o, i => setU0 o i v G Q E
theorem getDct_of {o : Option Ob} {Q : List (U × U) → Prop} (h : getDct o Q) : ∃ kvs, o = some (.dct kvs) ∧ Q kvs := by
  unfold getDct at h
  split at h
  · exact ⟨_, rfl, h⟩
  · exact h.elim
theorem getO_of {o : Option U} {Q : U → Prop} (h : getO o Q) : ∃ u, o = some u ∧ Q u := by
  unfold getO at h
  split at h
  · exact ⟨_, rfl, h⟩
  · exact h.elim
section
variable {X : Cx} {W : WX}
theorem stuD (hu : X.A.units + 1 < cLine) : StU X W setD := by
  intro pins s σ H o i v ov iv u a b c G Q E I ro ri rv ra rb rc rp h hx
  unfold setD at h
  split at h
  · rename_i p l
    obtain ⟨kvs, g, hl, q⟩ := getDct_of h
    obtain ⟨gs, e, r⟩ := rp.dct g
    have eo : o = .ref p := ra
    have ei : i = .str ⟨l.toArray⟩ := rb
    subst eo ei
    obtain rfl : ov = Value.ref p := ro
    have hlen : gs.length < sizeLine := by rw [relKV_length r]; exact Nat.lt_of_lt_of_le hl (by rw [sizeLine_eq]; omega)
    refine d_setItem hu I (DPut.k (k := kS l) (v := v) e hlen) ri rv fun s' I' => ?_
    have ne : ∀ b, G b = none → b ≠ p := fun b g' z => by rw [z, g] at g'; cases g'
    have x0 : Ext H G (upd H p (.dK (putK gs (kS l) v))) (gup G p (.dct (dputS l c kvs))) := fun b w h g' => ⟨by rw [upd_ne (ne b g')]; exact h, by rw [gup_ne (ne b g')]; exact g'⟩
    obtain ⟨r1, x1⟩ := rp.write (u := .dK (putK gs (kS l) v)) (o := .dct (dputS l c kvs)) g ⟨_, upd_same, (dput_rel rc r).ext x0 rp⟩
    exact ⟨_, _, I', x1, r1, q⟩
  · exact stu0 pins s σ H o i v ov iv u a b c G Q E I ro ri rv ra rb rc rp h hx
end
def dctOr (o : Option Ob) (K : List (U × U) → Prop) (R : Prop) (_ : Tag K := ()) (_ : Tag R := ()) : Prop := match o with
  | some (.dct kvs) => K kvs
  | some (.dcr _ _ kvs) => K kvs
  | _ => R
def inD : UR2 := fun x y G Q E => match x, y with
  | .str l, .ref a => dctOr (G a) (fun kvs => Q (.bl (dgetS l kvs).isSome) G) (inU (.str l) (.ref a) G Q E)
  | x, y => inU x y G Q E
def notInD : UR2 := fun x y G Q E => match x, y with
  | .str l, .ref a => dctOr (G a) (fun kvs => Q (.bl (!(dgetS l kvs).isSome)) G) (notInU (.str l) (.ref a) G Q E)
  | x, y => notInU x y G Q E
theorem dctOr_of {o : Option Ob} {K : List (U × U) → Prop} {R : Prop} (h : dctOr o K R) : (∃ kvs, isDR o kvs ∧ K kvs) ∨ R := by
  unfold dctOr at h
  split at h
  · exact .inl ⟨_, .inl rfl, h⟩
  · exact .inl ⟨_, .inr ⟨_, _, rfl⟩, h⟩
  · exact .inr h
theorem dget_of {K : PySem.W.Frag} {H : Hp} {p : Addr} {l : List Nat} {kvs : List (U × U)} {gs : List (Key × V)} (e : Rd H p (.dK gs)) (r : RelKV K H kvs gs) : ∃ o, DGet H p (.str ⟨l.toArray⟩) o ∧ o.isSome = (dgetS l kvs).isSome ∧ ∀ u, dgetS l kvs = some u → ∃ v, o = some v ∧ RelU K H u v := by
  refine ⟨valV gs (kS l), .inl ⟨gs, kS l, e, rfl, rfl⟩, ?_, fun u hu => ?_⟩
  · have d := dget_rel (l := l) r
    split at d
    · rename_i u hu
      obtain ⟨v, hv, _⟩ := d
      rw [hv, hu]
      rfl
    · rename_i hu
      rw [d, hu]
      rfl
  · have d := dget_rel (l := l) r
    rw [hu] at d
    exact d
section
variable {X : Cx} {W : WX}
theorem ou_inD (hu : X.A.units + 1 < cLine) : OpU X W (compareOp .In) inD := by
  intro pins s σ H x y v u a b G Q E I rx ry ra rb rp h hx
  unfold inD at h
  split at h
  · rename_i l p
    rcases dctOr_of h with ⟨kvs, g, q⟩ | h
    · obtain ⟨gs, e, r⟩ := rp.dR g
      have ex : x = .str ⟨l.toArray⟩ := ra
      have ey : y = .ref p := rb
      subst ex ey
      obtain rfl : u = Value.ref p := ry
      obtain ⟨o, dg, ho, _⟩ := dget_of (l := l) e r
      refine d_in hu I dg rx fun s' I' => ⟨.bl o.isSome, H, I', rfl, ?_⟩
      rw [ho]
      exact lv_bl rp q
    · exact ou_in pins s σ H x y v u _ _ G Q E I rx ry ra rb rp h hx
  · exact ou_in pins s σ H x y v u _ _ G Q E I rx ry ra rb rp h hx
theorem ou_notInD (hu : X.A.units + 1 < cLine) : OpU X W (compareOp .NotIn) notInD := by
  intro pins s σ H x y v u a b G Q E I rx ry ra rb rp h hx
  unfold notInD at h
  split at h
  · rename_i l p
    rcases dctOr_of h with ⟨kvs, g, q⟩ | h
    · obtain ⟨gs, e, r⟩ := rp.dR g
      have ex : x = .str ⟨l.toArray⟩ := ra
      have ey : y = .ref p := rb
      subst ex ey
      obtain rfl : u = Value.ref p := ry
      obtain ⟨o, dg, ho, _⟩ := dget_of (l := l) e r
      refine d_notIn hu I dg rx fun s' I' => ⟨.bl (!o.isSome), H, I', rfl, ?_⟩
      rw [ho]
      exact lv_bl rp q
    · exact ou_notIn pins s σ H x y v u _ _ G Q E I rx ry ra rb rp h hx
  · exact ou_notIn pins s σ H x y v u _ _ G Q E I rx ry ra rb rp h hx
theorem iuD (hu : X.A.units + 1 < cLine) : IxU X W ixD := by
  intro value slice pins s σ H x y v u a b G Q E I rx ry ra rb rp h hx hs
  unfold ixD at h
  split at h
  · rename_i p l
    obtain ⟨kvs, g, h⟩ := getDR_of h
    obtain ⟨w, hw, q⟩ := getO_of h
    obtain ⟨gs, e, r⟩ := rp.dR g
    have ex : x = .ref p := ra
    have ey : y = .str ⟨l.toArray⟩ := rb
    subst ex ey
    obtain rfl : v = Value.ref p := rx
    obtain ⟨o, dg, _, ho⟩ := dget_of (l := l) e r
    obtain ⟨z, rfl, rz⟩ := ho _ hw
    have hT := dict_typeIs I dg
    have fin : wpAny (model X.prog X.w) X.A (subscripted slice false (.ref p) u) (fun r s₃ => wpAny (model X.prog X.w) X.A (letTemporaryGo value (.ref p) r >>= fun _ => pure r) (EP X pins σ (LV X.K H G Q)) X.xe s₃) X.xe s := by
      rw [hs]
      exact wpAny_operating (d_getItem hu I dg ry fun w' s3 I3 rw' => wpAny_bind (wpAny_letTemporaryGo (wpAny_pure ⟨z, H, I3, rw', w, G, .refl _ _, rp, rz, q⟩)))
    unfold subscriptTail
    refine wpAny_bind ?_
    rw [getitemInPython_of_ne hT.not_modules]
    refine wpAny_bind (wpAny_specialOf hT PySem.F.slot_dict_getitem.lookup ?_)
    first
      | exact wpAny_pure (wpAny_bind fin)
      | exact wpAny_bind (wpAny_pure (wpAny_bind fin))
      | exact wpAny_bind fin
  · exact iu0 value slice pins s σ H x y v u _ _ G Q E I rx ry ra rb rp h hx hs
end
theorem lt64 {n : Nat} (h : n + 64 < cLine) : n + 1 < cLine := by omega
def tUDict0 : UTE := fun _ G Q _ => ∀ p, G p = none → Q (.ref p) (gup G p (.dct []))
theorem eu_dict0 {X : Cx} {W : WX} {pos : Pos} : EU X W (.Dict [] [] pos) tUDict0 :=
  .of pe_dnewK fun σ H us G Q E rs rp q _ => fun p hp => by
    obtain ⟨r1, x1⟩ := rp.laid (u := .dK []) (o := .dct []) hp ⟨[], upd_same, rfl⟩
    exact ⟨.ref p, _, x1, r1, rfl, q p (rp.fresh hp)⟩
def tUDel (to ti : UTE) : UTS := fun D us G => to us G (fun o G1 => ti us G1 (fun i G2 => asRef o fun a => asStr i fun l => getDct (G2 a) fun kvs => (dgetS l kvs).isSome = true ∧ D.nx us (gup G2 a (.dct (ddelS l kvs)))) (fun x G1 => D.ex x us G1)) (fun x G1 => D.ex x us G1)
section
variable {us : USt} {G : Gp} {Q : UK} {E : UX} {D : UEnds} {p : Addr} {l m : List Nat} {a : Int} {xs : List U} {w : U} {Z : Gp → Prop} {to ti : UTE} {kvs : List (U × U)} {k u : U} {K : List (U × U) → Prop} {R : Prop}
theorem x_ixDs : ixD (.ref p) (.str l) G Q E = getDR (G p) fun kvs => getO (dgetS l kvs) fun u => Q u G := (rfl)
theorem x_ixDi : ixD (.ref p) (.int a) G Q E = ixU0 (.ref p) (.int a) G Q E := (rfl)
theorem x_ixDt : ixD (.tup xs) (.int a) G Q E = ixU0 (.tup xs) (.int a) G Q E := (rfl)
theorem x_setDs : setD (.ref p) (.str l) w G Z E = getDct (G p) fun kvs => kvs.length < 1000000 ∧ Z (gup G p (.dct (dputS l w kvs))) := (rfl)
theorem x_inDs : inD (.str l) (.ref p) G Q E = dctOr (G p) (fun kvs => Q (.bl (dgetS l kvs).isSome) G) (inU (.str l) (.ref p) G Q E) := (rfl)
theorem x_dict0 : tUDict0 us G Q E = ∀ p, G p = none → Q (.ref p) (gup G p (.dct [])) := (rfl)
theorem x_del : tUDel to ti D us G = to us G (fun o G1 => ti us G1 (fun i G2 => asRef o fun a => asStr i fun l => getDct (G2 a) fun kvs => (dgetS l kvs).isSome = true ∧ D.nx us (gup G2 a (.dct (ddelS l kvs)))) (fun x G1 => D.ex x us G1)) (fun x G1 => D.ex x us G1) := (rfl)
end
end UL
set_option maxHeartbeats 400000
namespace UL
open PySem PySem.Spec PyProof.Rows L2
theorem keys_rel {K : PySem.W.Frag} {H : Hp} : ∀ {kvs : List (U × U)} {gs : List (Key × V)}, RelKV K H kvs gs → RelUs K H (kvs.map (·.1)) (gs.map fun kv => kV kv.1)
  | [], _, h => by
    have e : _ = ([] : List (Key × V)) := h
    subst e
    rfl
  | (k, u) :: r, _, ⟨kk, v, ws, rfl, hk, hu, t⟩ => by
    refine ⟨kV kk, _, rfl, ?_, keys_rel t⟩
    cases k <;> try exact hk.elim
    · rename_i i
      have e : kk = .inl i := hk
      subst e
      rfl
    · rename_i l
      have e : kk = .inr ⟨l.toArray⟩ := hk
      subst e
      rfl
def listA : U → Gp → UK → Prop := fun u G Q => match u with
  | .ref a => dctOr (G a) (fun kvs => ∀ p, G p = none → Q (.ref p) (gup G p (.lst (kvs.map (·.1))))) (listV (.ref a) G Q)
  | u => listV u G Q
theorem cu_listA {X : Cx} {W : WX} (hc : X.calm = true) : CallU X W (.type "list") (u1 listA) := by
  intro pins s σ H xs us as G Q E I rx ra rp h hx
  obtain ⟨u, rfl, q⟩ := u1_of h
  have old : listV u G Q → wpAny (model X.prog X.w) X.A (call (.type "list") us) (EP X pins σ (LV X.K H G Q)) X.xe s := fun q => cu_list (W := W) pins s σ H xs us [u] G Q E I rx ra rp q hx
  unfold listA at q
  split at q
  · rename_i a
    rcases dctOr_of q with ⟨kvs, g, q⟩ | q
    · obtain ⟨x, rfl, e⟩ := relUs1 ra
      obtain ⟨gs, e1, r⟩ := rp.dR g
      have ex : x = .ref a := e
      subst ex
      exact (call_listD hc) pins s σ H _ us _ I rx ⟨a, gs, rfl, e1, fun p hp => lv_lst rp (keys_rel r) hp (q p (rp.fresh hp))⟩
    · exact old q
  · exact old q
def strOf : List Nat → Str := fun l => ⟨l.toArray⟩
def sortedN (ls : List (List Nat)) : Bool := sortedS (ls.map strOf)
theorem strs_rel {K : PySem.W.Frag} {H : Hp} : ∀ {us : List U} {ls : List (List Nat)} {vs : List V}, strsU us = some ls → RelUs K H us vs → vs = (ls.map strOf).map V.str
  | [], ls, vs, h, r => by
    have e : vs = [] := r
    cases h
    subst e
    rfl
  | u :: us, ls, vs, h, r => by
    obtain ⟨v, ws, rfl, hv, t⟩ := r
    cases u <;> try cases h
    rename_i l
    have h' : (strsU us).map (l :: ·) = some ls := h
    cases hs : strsU us with
    | none => rw [hs] at h'; cases h'
    | some ms =>
      rw [hs] at h'
      cases h'
      rw [strs_rel hs t, show v = .str ⟨l.toArray⟩ from hv]
      rfl
theorem strs_back {K : PySem.W.Frag} {H : Hp} : ∀ ls : List (List Nat), RelUs K H (ls.map U.str) ((ls.map strOf).map V.str)
  | [] => rfl
  | l :: ls => ⟨_, _, rfl, rfl, strs_back ls⟩
theorem perm_strs {ys : List Str} {ls : List (List Nat)} (h : ys.Perm (ls.map strOf)) : ∃ ms : List (List Nat), ys = ms.map strOf ∧ ms.Perm ls := by
  refine ⟨ys.map fun y => y.cps.toList, ?_, ?_⟩
  · rw [List.map_map]
    conv => lhs; rw [← List.map_id ys]
    apply List.map_congr_left
    intro y _
    simp [strOf]
  · have := h.map fun y : Str => y.cps.toList
    rw [List.map_map] at this
    have e : ls.map ((fun y : Str => y.cps.toList) ∘ strOf) = ls := by
      conv => rhs; rw [← List.map_id ls]
      apply List.map_congr_left
      intro l _
      simp [strOf]
    rw [e] at this
    exact this
def sortedV : U → Gp → UK → Prop := fun u G Q => lstU u G fun us _ => getLs (strsU us) fun ls => ls.length < 64 ∧ ∀ ys p, ys.Perm ls → sortedN ys = true → G p = none → Q (.ref p) (gup G p (.lst (ys.map U.str)))
theorem lstU_seq {K : PySem.W.Frag} {H : Hp} {G : Gp} {u : U} {v : V} {k : List U → (Gp → Prop) → Prop} (rp : Rep K H G) (ru : RelU K H u v) (h : lstU u G k) : ∃ a us vs c, v = .ref a ∧ SqL K H a vs ∧ RelUs K H us vs ∧ k us c := by
  cases u <;> try exact h.elim
  · rename_i a
    obtain ⟨us, g, q⟩ := h
    obtain ⟨vs, e, r⟩ := rp.lst g
    exact ⟨a, us, vs, _, ru, .of e, r, q⟩
  · rename_i us
    obtain ⟨a, vs, rfl, t, r⟩ := (show ∃ a vs, v = .ref a ∧ RoL K H a vs ∧ RelUs K H us vs from ru)
    exact ⟨a, us, vs, _, rfl, t.sq, r, h⟩
theorem cu_sorted {X : Cx} {W : WX} : CallU X W (.builtin "sorted") (u1 sortedV) := by
  intro pins s σ H xs us as G Q E I rx ra rp h hx
  obtain ⟨u, rfl, q⟩ := u1_of h
  obtain ⟨x, rfl, e⟩ := relUs1 ra
  obtain ⟨a, us', vs, c, rfl, hq, r, q⟩ := lstU_seq rp e q
  unfold getLs at q
  split at q
  · rename_i ls hs
    obtain ⟨h64, q⟩ := q
    have ev := strs_rel hs r
    subst ev
    refine cr_sortedS pins s σ H _ us _ I rx ⟨a, ls.map strOf, rfl, hq, by rw [List.length_map]; exact h64, fun ys p hp hso hf => ?_⟩
    obtain ⟨ms, rfl, hm⟩ := perm_strs hp
    exact lv_lst rp (strs_back ms) hf (q ms p hm hso (rp.fresh hf))
  · exact q.elim
section
variable {G : Gp} {Q : UK} {p : Addr} {xs : List U} {l : List Nat}
theorem x_listAr : listA (.ref p) G Q = dctOr (G p) (fun kvs => ∀ p, G p = none → Q (.ref p) (gup G p (.lst (kvs.map (·.1))))) (listV (.ref p) G Q) := (rfl)
end
end UL
set_option maxHeartbeats 400000
namespace UL
open PySem PySem.Spec PyProof.Rows L2
structure FnStU (P : Program) (w : World) (K : PySem.W.Frag) (mg : Str → Option Value) (base : Heap) (k : Nat) (f : Addr) (sp : USp) : Prop where
  run : ∀ (A : Around) (outer : List Env) (s : Shared) (H : Hp) (us : List Value) (vs : List V) (ws : List U) (G : Gp) (Q : UK) (E : UX), RoomU k A → Env0 P w K mg base A outer s H →
    Vals vs us → RelUs K H ws vs → Rep K H G → ws.length ≤ 1000000 → sp [.tup ws] G Q E → codeAny (model P w) A (.call (.ref f) ⟨us, []⟩) (CR (L2.CX P w) outer P w H s (LV K H G Q) (LX K H G E)) s
theorem FnStU.mono {P : Program} {w : World} {K : PySem.W.Frag} {mg : Str → Option Value} {base : Heap} {j k : Nat} {f : Addr} {sp : USp} (F : FnStU P w K mg base j f sp) (h : j ≤ k) : FnStU P w K mg base k f sp :=
  ⟨fun A outer s H us vs ws G Q E hr => F.run A outer s H us vs ws G Q E (hr.mono h)⟩
section
variable {X : Cx} {W : WX} {es : List Expr} {o : Expr} {to : UTE} {ta : UTA} {pos apos : Pos} {k : Nat} {sp : USp} {d : DD} {c m : String}
end
end UL
set_option maxHeartbeats 400000
namespace UL
open PySem PySem.Spec PyProof.Rows L2 PySem.W
theorem nsq_1 {c : String} {K : PySem.W.Frag} (h : nsqB c K = true) : PySem.W.noSeq K (He.ga K (S c)) = true := (Bool.and_eq_true_iff.mp h).1
theorem nsq_2 {c : String} {K : PySem.W.Frag} {f : Addr} (h : nsqB c K = true) (e : PySem.W.findIn K (.ref (He.ga K (S c))) "__getitem__" = some (some (.ref f))) : PySem.W.fnIn K f = true := by
  have := (Bool.and_eq_true_iff.mp h).2
  rw [e] at this
  exact this
def ixI (r : UR2) (c : String) (e : MAp) : UR2 := fun x y G Q E => match x with
  | .ref p => insOr (G p) (fun d => d = c ∧ e (.ref p) [y] [] G Q E) (r (.ref p) y G Q E)
  | x => r x y G Q E
def dropQ (Z : Gp → Prop) : UK := fun _ G => Z G
abbrev US3 := U → U → U → Gp → (Gp → Prop) → UX → Prop
def setI (r : US3) (c : String) (e : MAp) : US3 := fun x y z G Z E => match x with
  | .ref p => insOr (G p) (fun d => d = c ∧ e (.ref p) [y, z] [] G (dropQ Z) E) (r (.ref p) y z G Z E)
  | x => r x y z G Z E
def IxU' (X : Cx) (W : WX) (r : UR2) : Prop :=
  ∀ (value slice : Expr) (pins : List (Addr × Obj)) (s : Shared) (σ : L2.St) (H : Hp) (x y : V) (v u : Value) (a b : U) (G : Gp) (Q : UK) (E : UX), Inv X pins σ H s → RelV x v → RelV y u → RelU X.K H a x → RelU X.K H b y → Rep X.K H G → r a b G Q E →
    (∀ c d H', LX X.K H G E c d H' → W c d σ H') → subscripted slice false v u = operate [v, u] (getItem v u) → subscripted slice true v u = runValue (.builtin "lifetime.subscript" ⟨[v, u], []⟩) →
    wpAny (model X.prog X.w) X.A (subscriptTail value slice v u) (EP X pins σ (LV X.K H G Q)) X.xe s
section
variable {X : Cx} {W : WX} {c : String} {e : MAp} {r : UR2} {a b : Expr} {ta tb : UTE} {pos : Pos}
theorem eu_ixI (hr : IxU' X W r) (ha : EU X W a ta) (hb : EU X W b tb) (hs : PlainIx b) (hs2 : ∀ v u, subscripted b true v u = runValue (.builtin "lifetime.subscript" ⟨[v, u], []⟩)) : EU X W (.Subscript a b pos) (tUOp r ta tb) := by
  refine ⟨fun pins s σ H us G Q E I rs rp h hx => ?_⟩
  exact Subscript_ (bin2 ha hb I rs rp h hx fun v u s2 x y H2 p q G2 I2 r1 r2 ex rp2 rs2 rp' rq hq hx2 => thn (hr a b pins s2 σ H2 x y v u p q G2 Q E I2 r1 r2 rp' rq rp2 hq hx2 (hs _ _) (hs2 _ _)) fun _ _ h => lv_pins ex h)
theorem iuI (h0 : IxU X W r) (hq : nsqB c X.K = true) (hm : MCall X W (S "__getitem__") 1 [] c e) : IxU' X W (ixI r c e) := by
  intro value slice pins s σ H x y v u a b G Q E I rx ry ra rb rp h hx hs hs2
  unfold ixI at h
  split at h
  · rename_i p
    rcases insOr_of h with ⟨d, fs, g, rfl, h2⟩ | ⟨_, h2⟩
    · obtain ⟨cl, f, mt, go⟩ := hm
      have ex : x = .ref p := ra
      subst ex
      obtain rfl : v = Value.ref p := rx
      obtain ⟨ox, od, J⟩ := inst_at I rp g
      obtain ⟨mm, F⟩ := I.fr
      exact PySem.W.sub_K F I.mod.kin J mt.at_ (nsq_2 hq mt.at_) mt.fn (go X.A.in1 (.inr (.inl rfl)) pins s σ H H G G Q E p [b] [] [y] [] [u] [] I (.refl _ _) rp (.cons ry .nil) .nil (.one rb) rfl rfl rfl h2 hx) hs2
    · exact h0 value slice pins s σ H x y v u _ b G Q E I rx ry ra rb rp h2 hx hs
  · exact h0 value slice pins s σ H x y v u _ b G Q E I rx ry ra rb rp h hx hs
theorem stuI {r : US3} (h0 : StU X W r) (hq : nsqB c X.K = true) (hm : MCall X W (S "__setitem__") 2 [] c e) : StU X W (setI r c e) := by
  intro pins s σ H o i v ov iv u a b z G Q E I ro ri rv ra rb rc rp h hx
  unfold setI at h
  split at h
  · rename_i p
    rcases insOr_of h with ⟨d, fs, g, rfl, h2⟩ | ⟨_, h2⟩
    · obtain ⟨cl, f, mt, go⟩ := hm
      have ex : o = .ref p := ra
      subst ex
      obtain rfl : ov = Value.ref p := ro
      obtain ⟨ox, od, J⟩ := inst_at I rp g
      obtain ⟨mm, F⟩ := I.fr
      exact PySem.W.ksp_setItem F I.mod.kin J (nsq_1 hq) mt.at_ mt.fn (thn (go X.A (.inl rfl) pins s σ H H G G _ E p [b, z] [] [i, v] [] [iv, u] [] I (.refl _ _) rp (.cons ri (.cons rv .nil)) .nil ⟨_, _, rfl, rb, _, _, rfl, rc, rfl⟩ rfl rfl rfl h2 hx) fun _ s' ⟨_, H', I', _, _, G', x1, r1, _, q1⟩ => ⟨H', G', I', x1, r1, q1⟩)
    · exact h0 pins s σ H o i v ov iv u _ b z G Q E I ro ri rv ra rb rc rp h2 hx
  · exact h0 pins s σ H o i v ov iv u _ b z G Q E I ro ri rv ra rb rc rp h hx
end
section
variable {G : Gp} {Q : UK} {E : UX} {r : UR2} {r3 : US3} {c : String} {e : MAp} {x y z : U} {p : Addr} {l : List Nat} {xs : List U} {Z : Gp → Prop}
theorem x_ixIr : ixI r c e (.ref p) y G Q E = insOr (G p) (fun d => d = c ∧ e (.ref p) [y] [] G Q E) (r (.ref p) y G Q E) := (rfl)
theorem x_setIr : setI r3 c e (.ref p) y z G Z E = insOr (G p) (fun d => d = c ∧ e (.ref p) [y, z] [] G (dropQ Z) E) (r3 (.ref p) y z G Z E) := (rfl)
theorem x_dropQ : dropQ Z x G = Z G := (rfl)
end
end UL
set_option maxHeartbeats 400000
namespace UL
open PySem PySem.Spec PyProof.Rows L2
def leN (a b : List Nat) : Bool := !decide (b < a)
theorem leN_trans (a b c : List Nat) (h1 : leN a b = true) (h2 : leN b c = true) : leN a c = true := by
  simp only [leN, Bool.not_eq_true', decide_eq_false_iff_not] at *
  exact fun h => by
    have h3 : a ≤ b := h1
    have h4 : b ≤ c := h2
    exact absurd h (List.le_trans h3 h4)
theorem leN_total (a b : List Nat) : (leN a b || leN b a) = true := by
  rcases List.le_total a b with h | h
  · have : ¬ b < a := h
    simp [leN, this]
  · have : ¬ a < b := h
    simp [leN, this]
theorem leN_antisymm (a b : List Nat) (h1 : leN a b = true) (h2 : leN b a = true) : a = b := by
  simp only [leN, Bool.not_eq_true', decide_eq_false_iff_not] at *
  exact List.le_antisymm (show a ≤ b from h1) h2
def srtN (ls : List (List Nat)) : List (List Nat) := ls.mergeSort leN
theorem srtN_perm (ls : List (List Nat)) : (srtN ls).Perm ls := List.mergeSort_perm ls leN
theorem srtN_pw (ls : List (List Nat)) : (srtN ls).Pairwise fun a b => leN a b = true := List.pairwise_mergeSort leN_trans leN_total ls
theorem ltCps_leN (a b : List Nat) : (!ltCps b a) = leN a b := by
  unfold leN
  rw [ltCps_eq]
theorem rising_pw : ∀ (ls : List (List Nat)) (p : List Nat), risingS (strOf p) (ls.map strOf) = true → (p :: ls).Pairwise fun a b => leN a b = true
  | [], p, _ => List.pairwise_singleton _ _
  | x :: r, p, h => by
    have h' : (!ltCps x p && risingS (strOf x) (r.map strOf)) = true := h
    rw [Bool.and_eq_true, ltCps_leN] at h'
    have ih := rising_pw r x h'.2
    rw [List.pairwise_cons]
    refine ⟨fun b hb => ?_, ih⟩
    rcases List.mem_cons.mp hb with rfl | hb
    · exact h'.1
    · exact leN_trans _ _ _ h'.1 ((List.pairwise_cons.mp ih).1 b hb)
theorem sorted_pw : ∀ ls : List (List Nat), sortedN ls = true → ls.Pairwise fun a b => leN a b = true
  | [], _ => List.Pairwise.nil
  | x :: r, h => rising_pw r x h
theorem srt_eq {ys ls : List (List Nat)} (hp : ys.Perm ls) (hs : sortedN ys = true) : ys = srtN ls :=
  List.Perm.eq_of_pairwise (le := fun a b => leN a b = true) (fun a b _ _ => leN_antisymm a b) (sorted_pw ys hs) (srtN_pw ls) (hp.trans (srtN_perm ls).symm)
theorem srtN_len (ls : List (List Nat)) : (srtN ls).length = ls.length := (srtN_perm ls).length_eq
theorem srtN_mem {ls : List (List Nat)} {a : List Nat} : a ∈ srtN ls ↔ a ∈ ls := (srtN_perm ls).mem_iff
theorem srtN_nd {ls : List (List Nat)} (h : ls.Nodup) : (srtN ls).Nodup := (srtN_perm ls).nodup_iff.mpr h
theorem srtN_lt {ls : List (List Nat)} (h : ls.Nodup) : (srtN ls).Pairwise (· < ·) := by
  refine (List.Pairwise.and (srtN_pw ls) (srtN_nd h)).imp fun {a b} ⟨h1, h2⟩ => ?_
  simp only [leN, Bool.not_eq_true', decide_eq_false_iff_not] at h1
  rcases List.le_iff_lt_or_eq.mp (show a ≤ b from h1) with h | h
  · exact h
  · exact absurd h h2
def sortedW : U → Gp → UK → Prop := fun u G Q => lstU u G fun us _ => getLs (strsU us) fun ls => ls.length < 64 ∧ ∀ p, G p = none → Q (.ref p) (gup G p (.lst ((srtN ls).map U.str)))
theorem lstU_imp {u : U} {G : Gp} {k k' : List U → (Gp → Prop) → Prop} (h : ∀ us c, k us c → k' us c) (q : lstU u G k) : lstU u G k' := by
  cases u <;> try exact q.elim
  · obtain ⟨us, g, q⟩ := q
    exact ⟨us, g, h _ _ q⟩
  · exact h _ _ q
theorem cu_sortedN {X : Cx} {W : WX} : CallU X W (.builtin "sorted") (u1 sortedW) := cu_sorted.imp fun as G Q E h => by
  obtain ⟨u, rfl, q⟩ := u1_of h
  refine (show sortedV u G Q from lstU_imp (fun us c z => ?_) q)
  unfold getLs at z ⊢
  split at z
  · exact ⟨z.1, fun ys p hp hs hf => by rw [srt_eq hp hs]; exact z.2 p hf⟩
  · exact z.elim
section
variable {G : Gp} {Q : UK} {p : Addr} {us : List U} {ls : List (List Nat)}
theorem x_sortedWL : sortedW (.ref p) G Q = getLst (G p) fun us => getLs (strsU us) fun ls => ls.length < 64 ∧ ∀ p, G p = none → Q (.ref p) (gup G p (.lst ((srtN ls).map U.str))) := lst_ex
theorem e_strsU_map : ∀ {ls : List (List Nat)}, strsU (ls.map U.str) = some ls
  | [] => rfl
  | l :: ls => by
    show (strsU (ls.map U.str)).map (l :: ·) = _
    rw [e_strsU_map]
    rfl
theorem x_notInDi {a : Int} {w : U} {E : UX} : notInD (.int a) w G Q E = notInU (.int a) w G Q E := by cases w <;> rfl
theorem e_osome_n {α : Type} : (none : Option α).isSome = false := (rfl)
theorem e_osome_map {α β : Type} {f : α → β} {o : Option α} : (o.map f).isSome = o.isSome := Option.isSome_map
end
section
variable {X : Cx} {W : WX}
end
section
variable {G : Gp} {Q : UK} {E : UX} {p : Addr} {l : List Nat} {w : U} {i : Int}
end
end UL
set_option maxHeartbeats 400000
namespace UL
open PySem PySem.Spec PyProof.Rows L2
section
variable {G : Gp} {Q : UK} {E : UX} {p q : Addr} {xs : List U} {l m : List Nat}
theorem ne_sgs (h1 : G p = some (.lst (sgs l))) (h2 : G q = some (.lst (sgs m))) (hl : ∀ c ∈ l, c < 1114112) (hm : ∀ c ∈ m, c < 1114112) (h : Q (.bl (!decide (l = m))) G) : neU (.ref p) (.ref q) G Q E := by
  refine ⟨_, _, .lst h1 (dats_sgs l), .lst h2 (dats_sgs m), shaped_sgs hl, shaped_sgs hm, ?_⟩
  simp only [PyData.eqv, eqv_sgs]
  exact h
end
end UL
set_option maxHeartbeats 400000
namespace UL
open PySem PySem.Spec PyProof.Rows L2
section
abbrev Clause := Value × Option (Str × Nat) × (Addr → Value → Option Addr → TS)
/-- behind a named suite its name is unbound -/
def offD : Option (Str × Nat) → Ends → Ends
  | none, D => D
  | some (_, i), D => { nx := fun σ H => D.nx (σ.set i none) H, rt := D.rt, bk := fun σ H => D.bk (σ.set i none) H, ct := fun σ H => D.ct (σ.set i none) H }
def onS : Option (Str × Nat) → Addr → L2.St → L2.St
  | none, _, σ => σ
  | some (_, i), a, σ => σ.set i (some (.ref a))
def wCl (K : PySem.W.Frag) (W0 : WX) (D : Ends) : List Clause → WX
  | [] => W0
  | (c, o, ts) :: r => fun cls d σ H => ∃ b, PySem.W.exmOne K cls c = some b ∧ (b = true → ∀ a, H a = none → ts a cls d (offD o D) (onS o a σ) H) ∧ (b = false → wCl K W0 D r cls d σ H)
inductive ClOk (X : Cx) : List ExceptHandler → List Clause → Prop
  | nil : ClOk X [] []
  | cons {x : Str} {c : Value} {o : Option (Str × Nat)} {ts : Addr → Value → Option Addr → TS} {b₀ : Stmt} {suite : List Stmt} {np p : Pos} {hds : List ExceptHandler} {l : List Clause} (hc : Names X x c)
      (ho : ∀ n i, o = some (n, i) → X.N[i]? = some n ∧ X.env.kindOf n = some .local)
      (hsu : ∀ (a : Addr) (oe : Obj) (cls : Value) (d : Option Addr) (pn : List (Addr × Obj)), Zc cls d oe → (∃ vs, oe.data = .fields vs) → PSs (X.suite a ((a, oe) :: pn)) (b₀ :: suite) (ts a cls d)) (r : ClOk X hds l) :
      ClOk X (.ExceptHandler (some (.Name x np)) (o.map (·.1)) (b₀ :: suite) p :: hds) ((c, o, ts) :: l)
variable {X : Cx} {body : List Stmt} {h₀ : ExceptHandler} {hds : List ExceptHandler} {l : List Clause} {pos : Pos} {tb : WX → TS} {Wout : WX}
theorem ps_tryC (hs : X.stack = X.env :: X.outer) (hf : X.env.frame = some X.env.locals) (hN : X.N.Nodup) (tk : Takes X Wout)
    (hb : ∀ (W : WX) (pn : List (Addr × Obj)) (xe : Value → Shared → Prop), Takes (X.tr pn xe) W → PassesOwn (model X.prog X.w) X.A X.env xe → PSs (X.tr pn xe) body (tb W))
    (hh : ClOk X (h₀ :: hds) l) : PS X (.Try body (h₀ :: hds) [] [] pos) (fun D σ H => tb (wCl X.K Wout D l) D σ H) := by
  refine ⟨fun pins s σ H D I h => wpAny_Try_except ?_⟩
  have ok := I.ok
  have hfr : X.A.frames = some (X.env :: X.outer) := ok.frames.trans (by rw [hs])
  refine wpAny_mono ((hb (wCl X.K Wout D l) (X.pn ++ pins) (fun e s₁ => wpAny (model X.prog X.w) X.A (noteFrame e X.env) (fun _ s₂ => wpAny (model X.prog X.w) X.A (setFlight e none) (fun _ s₃ =>
    wpAny (model X.prog X.w) X.A (handleBy e X.env (h₀ :: hds)) (SP X pins D) X.xe s₃) X.xe s₂) X.xe s₁) ?caught PassesOwn.looking).run [] s σ H D (I.toTry _) h) ?over (fun _ _ z => z)
  case over =>
    intro f s1 q
    cases f with
    | next => obtain ⟨σ', H', J, q⟩ := q; exact wpAny_execs_nil ⟨σ', H', J.ofTry ok, q⟩
    | brk => obtain ⟨σ', H', J, q⟩ := q; exact ⟨σ', H', J.ofTry ok, q⟩
    | cont => obtain ⟨σ', H', J, q⟩ := q; exact ⟨σ', H', J.ofTry ok, q⟩
    | ret u => obtain ⟨v, σ', H', J, r, q⟩ := q; exact ⟨v, σ', H', J.ofTry ok, r, q⟩
  case caught =>
    rintro u s' ⟨a, B, sI, pins', σ', H', cls, d, rfl, J', nb, up, sky, na, os, ag, w⟩
    have J := J'.ofTry ok
    rw [hs] at sky
    refine Sky.land Zc.steady hfr hf sky fun h3 fl3 up3 => ?_
    have upAll := up.trans up3
    obtain ⟨oe3, vs3, he3, hz3, hd3⟩ := fl3.there
    have off : a ∉ frs (X.env :: X.outer) := fun hm => by
      obtain ⟨_, o', e', hnf⟩ := fl3.2.2.1.mem hm
      rw [he3] at e'
      cases e'
      exact hnf _ hd3
    have nL : a ≠ X.env.locals := fun z => off (List.mem_filterMap.mpr ⟨X.env, List.mem_cons_self, by rw [hf, z]⟩)
    have nF : a ∉ X.fs := fun hm => by
      obtain ⟨e, he, q⟩ := List.mem_filterMap.mp hm
      exact off (List.mem_filterMap.mpr ⟨e, List.mem_cons_of_mem _ he, q⟩)
    have S3 := (J.landed nb fl3.1 upAll os ag : Inv X pins σ' H' { s' with heap := h3 }).suite he3 hd3 na nL nF
    have K3 : Inv X pins σ' H' { s' with heap := h3 } := J.landed nb fl3.1 upAll os ag
    -- one clause after the other
    suffices go : ∀ {hds' : List ExceptHandler} {l' : List Clause}, ClOk X hds' l' → wCl X.K Wout D l' cls d σ' H' → wpAny (model X.prog X.w) X.A (handleBy (.ref a) X.env hds') (SP X pins D) X.xe { s' with heap := h3 } from go hh w
    intro hds' l' hk
    induction hk with
    | nil =>
      intro w
      refine wpAny_handleBy_nil ?_
      obtain ⟨_, _, _, oe, vs, T, oT, ts', he, hz, hd, h1, hr⟩ := id fl3
      unfold PySem.passOn
      refine wpAny_bind (wpAny_field he hd h1 ?_)
      rw [if_neg (show ¬ ((Value.ref T == Value.none) = true) by simp)]
      have out : wpAny (model X.prog X.w) X.A (setFlight (.ref a) X.env.frame) (fun _ s4 => wpAny (model X.prog X.w) X.A (throw (.ref a) : Sem Flow) (SP X pins D) X.xe s4) X.xe { s' with heap := h3 } := by
        rw [hf]
        refine HandSPX.setFlight_upZ fl3 fun h4 hh4 up4 => wpAny_throw (tk _ _ ⟨a, B, sI, pins, σ', H', cls, d, rfl, J, nb, upAll.trans up4, .inr (.inr (by rw [hs]; exact hh4)), na, os, ag, w⟩)
      first
        | exact wpAny_bind (wpAny_pure (wpAny_bind out))
        | exact wpAny_bind out
    | @cons x c o ts b₀ suite np p hds2 l2 hc ho hsu r ih =>
      rintro ⟨b, hb1, hyes, hno⟩
      refine wpAny_handleBy_cons (codeAny_handlers_test ?_) (by intro q; cases q)
      have looks : PySem.W.Looks (model X.prog X.w) h3 (typeOf (.ref a)) cls := fun A Q E s k q => wpAny_typeOf_ref (k _ _ he3) (by rw [hz3.1]; exact q)
      have test : ∀ {Q : Value → Shared → Prop} {E : Value → Shared → Prop}, Q c { s' with heap := h3 } → wpAny (model X.prog X.w) (X.A.mark (some (.ref a))) (eval (.Name x np) X.env) Q E { s' with heap := h3 } := fun {Q E} q => by
        obtain ⟨hg, hdbg, hm | ⟨hm, hv, hnn⟩⟩ := hc
        · exact ld_glob (X := X.suite a ((a, oe3) :: (X.pn ++ pins))) S3 hg hm q hdbg
        · exact ld_blt (X := X.suite a ((a, oe3) :: (X.pn ++ pins))) S3 hg hm hv q hnn hdbg
      refine test ((PySem.W.exm_one (M := model X.prog X.w) K3.kIn looks hb1).here ?_)
      cases b with
      | false => exact ih (hno rfl)
      | true =>
        cases o with
        | none =>
          refine codeAny_handlers_suite ?_
          refine HandSPX.lands_againZ fl3 fun h4 fl4 up4 => ?_
          obtain ⟨oe4, vs4, he4, hz4, hd4⟩ := fl4.there
          have S4 := (J.landed nb fl4.1 (upAll.trans up4) os ag : Inv X pins σ' H' { s' with heap := h4 }).suite he4 hd4 na nL nF
          refine wpAny_mono ((hsu a oe4 cls d (X.pn ++ pins) hz4 ⟨_, hd4⟩).run [] _ _ H' _ S4 (hyes rfl a na)) (fun f s6 q => ?_) (fun _ _ z => z.elim)
          cases f with
          | next => obtain ⟨σ6, H6, S6, q6⟩ := q; exact ⟨_, _, S6.unsuite ok, q6⟩
          | brk => obtain ⟨σ6, H6, S6, q6⟩ := q; exact ⟨_, _, S6.unsuite ok, q6⟩
          | cont => obtain ⟨σ6, H6, S6, q6⟩ := q; exact ⟨_, _, S6.unsuite ok, q6⟩
          | ret u => obtain ⟨v6, σ6, H6, S6, r6, q6⟩ := q; exact ⟨_, _, _, S6.unsuite ok, r6, q6⟩
        | some ni =>
          obtain ⟨n, i⟩ := ni
          obtain ⟨hi, hln⟩ := ho n i rfl
          refine codeAny_handlers_suite_as ?_
          refine HandSPX.lands_againZ fl3 fun h4 fl4 up4 => ?_
          obtain ⟨oe4, vs4, he4, hz4, hd4⟩ := fl4.there
          have S4 := (J.landed nb fl4.1 (upAll.trans up4) os ag : Inv X pins σ' H' { s' with heap := h4 }).suite he4 hd4 na nL nF
          refine store_ok (X := X.suite a ((a, oe4) :: (X.pn ++ pins))) (v := .ref a) S4 hN hi (.inl hln) rfl (fun s5 S5 => ?_) (.inr hln)
          refine wpAny_mono ((hsu a oe4 cls d (X.pn ++ pins) hz4 ⟨_, hd4⟩).run [] s5 _ H' _ S5 (hyes rfl a na)) (fun f s6 q => ?_) (fun _ _ z => z.elim)
          have off6 : ∀ {σ6 : L2.St} {H6 : Hp} {Q : Shared → Prop}, Inv (X.suite a ((a, oe4) :: (X.pn ++ pins))) [] σ6 H6 s6 → (∀ s7, Inv X pins (σ6.set i none) H6 s7 → Q s7) →
              wpAny (model X.prog X.w) X.A (do bindName X.env n .none; unbindBehindTheSuite X.env n p) (fun _ s7 => Q s7) X.xe s6 := fun S6 hq => gone_ok (S6.unsuite ok) hN hi hln hq
          cases f with
          | next => obtain ⟨σ6, H6, S6, q6⟩ := q; exact off6 S6 fun s7 J7 => ⟨_, _, J7, q6⟩
          | brk => obtain ⟨σ6, H6, S6, q6⟩ := q; exact off6 S6 fun s7 J7 => ⟨_, _, J7, q6⟩
          | cont => obtain ⟨σ6, H6, S6, q6⟩ := q; exact off6 S6 fun s7 J7 => ⟨_, _, J7, q6⟩
          | ret u => obtain ⟨v6, σ6, H6, S6, r6, q6⟩ := q; exact off6 S6 fun s7 J7 => ⟨_, _, _, J7, r6, q6⟩
end
abbrev UClause := List (String × Bool) × Option Nat × (Addr → Option Addr → String → UTS)
def sufDO : Option Nat → UEnds → UEnds
  | none, D => { D with ex := fun _ _ _ => False }
  | some i, D => sufD i D
def setUO : Option Nat → U → USt → USt
  | none, _, us => us
  | some i, u, us => us.set i (some u)
def tryXM (D : UEnds) : List UClause → UExc → USt → Gp → Prop
  | [] => D.ex
  | (hits, o, ts) :: r => fun x us1 G1 => catchK (hits.lookup x.cls) ((x.fs.map (·.1)).Nodup ∧ ∀ a d, G1 a = none → ts a d x.cls (sufDO o D) (setUO o (.exc a d x.cls (x.fs.map (·.1)) (x.fs.map (·.2))) us1) G1) (tryXM D r x us1 G1)
def tUTryM (cs : List UClause) (tb : UTS) : UTS := fun D us G => tb { D with ex := tryXM D cs } us G
inductive UClOk (X : Cx) : List ExceptHandler → List UClause → List Clause → Prop
  | nil : UClOk X [] [] []
  | cons {x : Str} {c : String} {no : Option (Str × Nat)} {ts : Addr → Option Addr → String → UTS} {hits : List (String × Bool)} {b₀ : Stmt} {suite : List Stmt} {np p : Pos} {hds : List ExceptHandler} {l : List UClause} {l2 : List Clause} (hc : Names X x (.ref (He.ga X.K (S c))))
      (ho : ∀ n i, no = some (n, i) → X.N[i]? = some n ∧ X.env.kindOf n = some .local) (hh : ∀ p ∈ hits, hitK p.1 c p.2 X.K = true)
      (hsu : ∀ (a : Addr) (oe : Obj) (c : String) (d : Option Addr) (pn : List (Addr × Obj)), Zc (.ref (He.ga X.K (S c))) d oe → (∃ vs, oe.data = .fields vs) → SsU (X.suite a ((a, oe) :: pn)) W0 (b₀ :: suite) (ts a d c))
      (r : UClOk X hds l l2) : UClOk X (.ExceptHandler (some (.Name x np)) (no.map (·.1)) (b₀ :: suite) p :: hds) ((hits, no.map (·.2), ts) :: l)
        ((.ref (He.ga X.K (S c)), no, fun a cls d D' σ' H' => ∃ c', cls = .ref (He.ga X.K (S c')) ∧ lS X.K W0 (ts a d c') D' σ' H') :: l2)
theorem UClOk.cl {X : Cx} {hds : List ExceptHandler} {l : List UClause} {l2 : List Clause} (h : UClOk X hds l l2) : ClOk X hds l2 := by
  induction h with
  | nil => exact .nil
  | cons hc ho hh hsu r ih =>
    refine .cons hc ho (fun a oe cls d pn hz hv => ⟨fun pins s σ H D I ⟨c', e, l⟩ => ?_⟩) ih
    subst e
    exact (hsu a oe c' d pn hz hv).pss.run pins s σ H D I l
theorem su_tryM {X : Cx} {W : WX} {body : List Stmt} {h₀ : ExceptHandler} {hds : List ExceptHandler} {pos : Pos} {tb : UTS} {cs : List UClause} {l2 : List Clause}
    (hs : X.stack = X.env :: X.outer) (hf : X.env.frame = some X.env.locals) (hN : X.N.Nodup) (tk : Takes X W)
    (hb : ∀ (W : WX) (pn : List (Addr × Obj)) (xe : Value → Shared → Prop), Takes (X.tr pn xe) W → SsU (X.tr pn xe) W body tb)
    (hc : UClOk X (h₀ :: hds) cs l2) :
    SU X W (.Try body (h₀ :: hds) [] [] pos) (tUTryM cs tb) := by
  refine ⟨fun pins s σ H us G D I rs rp h hx => ?_⟩
  have P := ps_tryC (pos := pos) (Wout := W) (tb := fun W' => lS X.K W' tb) hs hf hN tk (fun W' pn xe tk' _ => (hb W' pn xe tk').pss) hc.cl
  refine P.run pins s σ H (lD X.K H G D) I ⟨us, G, { D with ex := tryXM D cs }, rs, rp, h, fun _ _ z => z, fun _ _ z => z, fun _ _ z => z, fun _ _ z => z, ?_⟩
  rintro cls d σ1 H1 ⟨y, us1, G1, x1, rp1, rs1, ⟨rfl, hfs⟩, q⟩
  replace q : tryXM D cs y us1 G1 := q
  clear P h hb
  revert q
  generalize h₀ :: hds = hl at hc
  induction hc with
  | nil => exact fun q => hx _ _ _ _ ⟨y, us1, G1, x1, rp1, rs1, ⟨rfl, hfs⟩, q⟩
  | @cons x c no ts hits b₀ suite np p hds l l2 hc ho hh hsu r ih =>
    intro q
    replace q : catchK (hits.lookup y.cls) ((y.fs.map (·.1)).Nodup ∧ ∀ a d, G1 a = none → ts a d y.cls (sufDO (no.map (·.2)) D) (setUO (no.map (·.2)) (.exc a d y.cls (y.fs.map (·.1)) (y.fs.map (·.2))) us1) G1) (tryXM D l y us1 G1) := q
    unfold catchK at q
    split at q
    · rename_i hl
      obtain ⟨hnd, q⟩ := q
      have k := hh (y.cls, true) (mem_lk hl)
      refine ⟨true, of_decide_eq_true k, fun _ a ha => ?_, fun z => nomatch z⟩
      have ru : RelU X.K H1 (.exc a d y.cls (y.fs.map (·.1)) (y.fs.map (·.2))) (.ref a) := by
        refine ⟨rfl, ?_⟩
        rcases hfs with ⟨e, _⟩ | ⟨dx, gs, e, g, hg⟩
        · left; rw [e]; rfl
        · exact .inr ⟨dx, gs, e, g, relE_of hnd hg⟩
      have q' := q a d (rp1.fresh ha)
      cases no with
      | none =>
        refine ⟨y.cls, rfl, _, G1, _, rs1, rp1, q', ?_, ?_, ?_, ?_, ?_⟩
        · exact fun σ' H' ⟨us', G', xx, r, rs', qq⟩ => ⟨us', G', x1.trans xx, r, rs', qq⟩
        · exact fun v H' z => z.trans x1
        · exact fun σ' H' ⟨us', G', xx, r, rs', qq⟩ => ⟨us', G', x1.trans xx, r, rs', qq⟩
        · exact fun σ' H' ⟨us', G', xx, r, rs', qq⟩ => ⟨us', G', x1.trans xx, r, rs', qq⟩
        · exact fun _ _ _ _ ⟨_, _, _, _, _, _, _, z⟩ => z.elim
      | some ni =>
        obtain ⟨n, i⟩ := ni
        refine ⟨y.cls, rfl, _, G1, sufD i D, RelS.set ru i rs1, rp1, q', ?_, ?_, ?_, ?_, ?_⟩
        · exact fun σ' H' ⟨us', G', xx, r, rs', qq⟩ => ⟨us'.set i none, G', x1.trans xx, r, rs'.unset i, qq⟩
        · exact fun v H' z => z.trans x1
        · exact fun σ' H' ⟨us', G', xx, r, rs', qq⟩ => ⟨us'.set i none, G', x1.trans xx, r, rs'.unset i, qq⟩
        · exact fun σ' H' ⟨us', G', xx, r, rs', qq⟩ => ⟨us'.set i none, G', x1.trans xx, r, rs'.unset i, qq⟩
        · exact fun _ _ _ _ ⟨_, _, _, _, _, _, _, z⟩ => z.elim
    · rename_i hl
      have k := hh (y.cls, false) (mem_lk hl)
      exact ⟨false, of_decide_eq_true k, fun z => (nomatch z), fun _ => ih q⟩
    · exact q.elim
section
variable {D : UEnds} {us : USt} {G : Gp} {tb : UTS} {cs : List UClause} {hits : List (String × Bool)} {o : Option Nat} {ts : Addr → Option Addr → String → UTS} {c : String} {fs : List (String × U)} {i : Nat} {u : U}
theorem x_tryM : tUTryM cs tb D us G = tb { D with ex := tryXM D cs } us G := (rfl)
theorem x_sufDO1 : sufDO (some i) D = sufD i D := (rfl)
theorem x_setUO1 : setUO (some i) u us = us.set i (some u) := (rfl)
end
end UL
set_option maxHeartbeats 400000
namespace UL
open PySem PySem.Spec PyProof.Rows L2
section
variable {us : USt} {G : Gp} {Q : UK} {E : UX} {ta : UTE} {p b : Addr} {a c n : Int} {ws : List U}
end
end UL
set_option maxHeartbeats 400000
namespace UL
open PySem PySem.Spec PyProof.Rows L2
theorem relKV_get {K : PySem.W.Frag} {H : Hp} : ∀ {kvs : List (U × U)} {gs : List (Key × V)} {i : Nat} {k : Key} {v : V}, RelKV K H kvs gs → gs[i]? = some (k, v) → ∃ a u, kvs[i]? = some (a, u) ∧ KeyR a k ∧ RelU K H u v
  | [], gs, i, k, v, h, e => by
    have z : gs = [] := h
    subst z
    cases e
  | (a, u) :: r, _, 0, k, v, ⟨kk, w, ws, rfl, h1, h2, t⟩, e => by
    cases e
    exact ⟨a, u, rfl, h1, h2⟩
  | (a, u) :: r, _, i + 1, k, v, ⟨kk, w, ws, rfl, h1, h2, t⟩, e => by
    have e' : ws[i]? = some (k, v) := e
    obtain ⟨b, z, eb, h⟩ := relKV_get t e'
    exact ⟨b, z, eb, h⟩
theorem keyR_rel {K : PySem.W.Frag} {H : Hp} {a : U} {k : Key} (h : KeyR a k) : RelU K H a (kV k) := by
  cases a <;> try exact h.elim
  all_goals
    subst h
    rfl
section
variable {K : PySem.W.Frag} {H0 : Hp} {G0 : Gp} {d : Addr} {od : Obj} {gs : List (Key × V)} {kvs : List (U × U)}
theorem itu_items : ItU K (Iti d od gs) (fun G => G d = some (.dcr od gs kvs)) (kvs.map fun p => .tup [p.1, p.2]) H0 G0 := by
  refine ⟨fun i H G x r g hi => ?_, fun H G x r g => ?_⟩
  · obtain ⟨e, rel⟩ := r _ _ g
    rw [List.length_map] at hi
    refine ⟨⟨e, by rw [relKV_length rel]; exact hi⟩, ?_⟩
    rintro y _ ⟨T, k, v, ek, rfl, hT, rfl⟩
    obtain ⟨a, u, ea, hk, hu⟩ := relKV_get rel ek
    obtain ⟨x1, r1⟩ := ext_tup r hT (xs := [kV k, v])
    refine ⟨.tup [a, u], by rw [List.getElem?_map, ea]; rfl, x1, r1, T, _, rfl, .of upd_same, kV k, [v], rfl, (keyR_rel hk), v, [], rfl, hu.ext x1 r, rfl⟩
  · obtain ⟨e, rel⟩ := r _ _ g
    exact ⟨e, by rw [List.length_map, relKV_length rel]; exact Nat.le_refl _⟩
end
def itemsD (u : U) (G : Gp) (Q : UKI) : Prop := match u with
  | .ref d => match G d with
    | some (.dcr od gs kvs) => Q (fun G => G d = some (.dcr od gs kvs)) (kvs.map fun p => .tup [p.1, p.2]) G
    | _ => False
  | _ => False
theorem itemsD_of {u : U} {G : Gp} {Q : UKI} (h : itemsD u G Q) : ∃ d od gs kvs, u = .ref d ∧ G d = some (.dcr od gs kvs) ∧ Q (fun G => G d = some (.dcr od gs kvs)) (kvs.map fun p => .tup [p.1, p.2]) G := by
  unfold itemsD at h
  split at h
  · split at h
    · exact ⟨_, _, _, _, rfl, by assumption, h⟩
    · exact h.elim
  · exact h.elim
def tIItems (te : UTE) : UTI := fun us G Q E => te us G (fun u G1 => itemsD u G1 Q) E
section
variable {X : Cx} {W : WX} {tg e : Expr} {te : UTE}
theorem iu_items {elts : List Expr} {kk : Nat} {tpos apos cpos : Pos} (he : EU X W e te) (hbase : attributeBase e "items" X.env (eval e X.env) = eval e X.env) (hline : (apos.endLine == cpos.line) = true) :
    IU X W (.Tuple elts kk tpos) (.Call (.Attribute e "items" apos) [] [] cpos) (tIItems te) := by
  refine ⟨fun pins s σ H us G Q E I rs rp h hx => (pi_items he.pe hbase hline).run pins s σ H (RI X.K H G Q) I ⟨us, G, _, E, rs, rp, h, fun v H1 ⟨u, G1, x1, rp1, ru, q⟩ => ?_, hx⟩⟩
  obtain ⟨d, od, gs, kvs, rfl, g, q⟩ := itemsD_of q
  obtain ⟨e, rel⟩ := rp1 _ _ g
  exact ⟨d, od, gs, ru, e, _, _, G1, x1, rp1, itu_items, q⟩
theorem lock_on {K : PySem.W.Frag} {H : Hp} {G : Gp} {d : Addr} {kvs : List (U × U)} (rp : Rep K H G) (g : G d = some (.dct kvs)) : ∃ gs, H d = some (.dK gs) ∧ ∀ od, Rep K (upd H d (.frz od (.dK gs))) (gup G d (.dcr od gs kvs)) ∧ Ext H G (upd H d (.frz od (.dK gs))) (gup G d (.dcr od gs kvs)) := by
  obtain ⟨gs, e, rel⟩ := rp.dct g
  refine ⟨gs, e, fun od => ?_⟩
  have ne : ∀ b, G b = none → b ≠ d := fun b g' z => by rw [z, g] at g'; cases g'
  have x0 : Ext H G (upd H d (.frz od (.dK gs))) (gup G d (.dcr od gs kvs)) := fun b w h g' => ⟨by rw [upd_ne (ne b g')]; exact h, by rw [gup_ne (ne b g')]; exact g'⟩
  exact rp.write (u := .frz od (.dK gs)) (o := .dcr od gs kvs) g ⟨upd_same, rel.ext x0 rp⟩
theorem lock_off {K : PySem.W.Frag} {H : Hp} {G : Gp} {d : Addr} {od : Obj} {gs : List (Key × V)} {kvs : List (U × U)} (rp : Rep K H G) (g : G d = some (.dcr od gs kvs)) : H d = some (.frz od (.dK gs)) ∧ Rep K (upd H d (.dK gs)) (gup G d (.dct kvs)) ∧ Ext H G (upd H d (.dK gs)) (gup G d (.dct kvs)) := by
  obtain ⟨e, rel⟩ := rp _ _ g
  have ne : ∀ b, G b = none → b ≠ d := fun b g' z => by rw [z, g] at g'; cases g'
  have x0 : Ext H G (upd H d (.dK gs)) (gup G d (.dct kvs)) := fun b w h g' => ⟨by rw [upd_ne (ne b g')]; exact h, by rw [gup_ne (ne b g')]; exact g'⟩
  exact ⟨e, rp.write (u := .dK gs) (o := .dct kvs) g ⟨gs, upd_same, rel.ext x0 rp⟩⟩
end
def getDcr (o : Option Ob) (Q : Obj → List (Key × V) → List (U × U) → Prop) (_ : Tag Q := ()) : Prop := match o with
  | some (.dcr od gs kvs) => Q od gs kvs
  | _ => False
section
variable {us : USt} {G : Gp} {Q : UK} {R : UKI} {E : UX} {D : UEnds} {p : Addr} {kvs : List (U × U)} {te : UTE} {t : UTE} {ts : UTS} {od : Obj} {gs : List (Key × V)} {Z : Obj → List (Key × V) → List (U × U) → Prop}
theorem e_getDcr : getDcr (some (.dcr od gs kvs)) Z = Z od gs kvs := (rfl)
theorem x_iItems : tIItems te us G R E = te us G (fun u G1 => itemsD u G1 R) E := (rfl)
theorem x_itemsD : itemsD (.ref p) G R = getDcr (G p) fun od gs kvs => R (fun G => G p = some (.dcr od gs kvs)) (kvs.map fun p => .tup [p.1, p.2]) G := by
  unfold itemsD getDcr
  all_goals (try dsimp only)
  all_goals (cases G p with
  | none => rfl
  | some o => cases o <;> rfl)
end
end UL
set_option maxHeartbeats 400000
namespace UL
open PySem PySem.Spec PyProof.Rows L2 PySem.W

end UL
set_option maxHeartbeats 400000
namespace UL
open PySem PySem.Spec PyProof.Rows L2 PySem.W

section
variable {X : Cx} {W : WX}
end
def sgD (l : List Nat) : PyData := .str ⟨l.toArray⟩
def sgsD (ls : List (List Nat)) : PyData := .tuple (ls.map sgD)
theorem alike_sgsAll : ∀ {ls ms : List (List Nat)}, alikeAll (ls.map sgD) (ms.map sgD) = true
  | [], _ => by unfold alikeAll; rfl
  | _ :: _, [] => by unfold alikeAll; rfl
  | l :: ls, m :: ms => by
    rw [List.map_cons, List.map_cons, alikeAll, alike_sgsAll]
    rfl
theorem alike_sgs {ls ms : List (List Nat)} : alike (sgsD ls) (sgsD ms) = true := by
  unfold sgsD
  rw [alike]
  exact alike_sgsAll
/-- names, one row behind another -/
def strsLt (ls ms : List (List Nat)) : Bool := dataLt (sgsD ls) (sgsD ms)
theorem sg_inj {a b : List Nat} (h : (⟨a.toArray⟩ : Str) = ⟨b.toArray⟩) : a = b := by
  have e' : a.toArray = b.toArray := congrArg Str.cps h
  simpa using e'
theorem strsLt_lt {l m : List Nat} {ls ms : List (List Nat)} (h : l < m) : strsLt (l :: ls) (m :: ms) = true := by
  unfold strsLt sgsD
  rw [dataLt_tuple, List.map_cons, List.map_cons, dataLt_all_no (by simp [sgD, alike])]
  · unfold sgD
    rw [dataLt_str]
    simpa using h
  · unfold sgD
    rw [PyData.eqv]
    refine beq_eq_false_iff_ne.mpr fun e => ?_
    rw [sg_inj e] at h
    exact List.lt_irrefl _ h
end UL
set_option maxHeartbeats 1000000
namespace PySem
open Sem (wp)
set_option maxHeartbeats 1000000 in
theorem meets_enumerate_newB1 {v : Value} {o : Obj} {H : Heap → Prop} (B : Begins v o H) :
    Meets (Builtin.«enumerate.__new__» ⟨[.type "enumerate", v], []⟩) (fun _ R s => H s.heap ∧
      R (.ok (.ret (.ref (s.heap.push o).objs.size))) { s with heap := (s.heap.push o).push { cls := .type "enumerate", data := .fields #[.none, .bool false, .ref s.heap.objs.size, rawInt 0, .none, .none] } }) :=
  .of_wp fun prog w A R s h => by
    obtain ⟨hp, g, d, tk, os⟩ := s; obtain ⟨h1, h⟩ := h
    have hsub := sub_enumerate
    have q1 : ∀ {A' : Around} {E : Value → Shared → Prop} {Q : Value → Shared → Prop}, Q (.ref hp.objs.size) ⟨hp.push o, g, d, tk, os⟩ → wpAny (model prog w) A' (pyIter v) Q E ⟨hp, g, d, tk, os⟩ :=
      fun q => B.iter prog w _ _ ⟨hp, g, d, tk, os⟩ _ h1 q
    wp_walk using q1
    refine wpAny_stack_any fun st => wpAny_pure ?_
    split
    · rename_i c _ _ _ _ _
      cases (c == Value.type "enumerate")
      · wp_walk using q1
        exact ⟨_, rfl, h⟩
      · wp_walk using q1
        exact ⟨_, rfl, h⟩
    · wp_walk using q1
      exact ⟨_, rfl, h⟩
section
variable {prog : Program} {w : World} {A : Around} {E : Value → Shared → Prop} {s : Shared}
theorem enum_begins1 {v : Value} {o : Obj} {H : Heap → Prop} {Q : Value → Shared → Prop} (B : Begins v o H) (h1 : H s.heap)
    (h : ∀ h', IsEnum h' (s.heap.objs.size + 1) s.heap.objs.size 0 .none → h'.get? s.heap.objs.size = some o → h'.objs.size = s.heap.objs.size + 2 →
      (∀ b o, s.heap.get? b = some o → h'.get? b = some o) → Q (.ref (s.heap.objs.size + 1)) { s with heap := h' }) :
    wpAny (model prog w) A (call (.type "enumerate") [v]) Q E s := by
  refine callType_new F.called_enumerate (by decide) (F.typeCall_enumerate_1 _) (F.newCall_enumerate_1 _) (fun obj => F.args_object_init_2 obj _) F.entry_enumerate_new
    (meets_enumerate_newB1 B) ⟨h1, ?_⟩
  have hz : (s.heap.push o).objs.size = s.heap.objs.size + 1 := Heap.size_push ..
  show _ ∧ _
  rw [hz]
  have he : IsEnum ((s.heap.push o).push { cls := .type "enumerate", data := .fields #[.none, .bool false, .ref s.heap.objs.size, rawInt 0, .none, .none] }) (s.heap.objs.size + 1) s.heap.objs.size 0 .none := by
    have := Heap.get?_push_size (s.heap.push o) (o := { cls := .type "enumerate", data := .fields #[.none, .bool false, .ref s.heap.objs.size, rawInt 0, .none, .none] }) rfl
    rw [hz] at this; exact this
  refine ⟨⟨_, he, rfl⟩, h _ he (Heap.get?_push_of_some _ (Heap.get?_push_size _ B.free)) (by rw [Heap.size_push, hz]) fun b o x => Heap.get?_push_of_some _ (Heap.get?_push_of_some _ x)⟩
end
end PySem
namespace UL
open PySem PySem.Spec PyProof.Rows L2
def IteT (K : PySem.W.Frag) (a : Addr) (vs : List V) : It :=
  ⟨fun i H => SqT K H a vs ∧ i < vs.length, fun i H v H' => ∃ T x, v = .ref T ∧ H T = none ∧ H' = upd H T (.tup [.int (i : Nat), x]) ∧ vs[i]? = some x, fun i H => SqT K H a vs ∧ i = vs.length⟩
theorem enum_apart {h : Heap} {e it a : Addr} {items : Array Value} {i : Int} {old : Value} {n : Nat} (he : IsEnum h e it i old) (hit : h.IsTupleIter it a n) (ht : h.IsTuple a items) : e ≠ a ∧ it ≠ a := by
  obtain ⟨o, ho, hc, _⟩ := ht
  obtain ⟨o2, ho2, hc2, _⟩ := hit
  refine ⟨fun z => ?_, fun z => ?_⟩
  · subst z
    have h1 : h.get? e = some _ := he
    rw [ho] at h1
    have e := Option.some.inj h1
    subst e
    injection hc with e2
    exact absurd e2 (by decide)
  · subst z
    rw [ho] at ho2
    have e := Option.some.inj ho2
    subst e
    rw [hc] at hc2
    injection hc2 with e2
    exact absurd e2 (by decide)
theorem turn_enumT {P : Program} {w : World} {K : PySem.W.Frag} {elts : List Expr} {kk : Nat} {tpos : Pos} (a : Addr) (vs : List V) (e it : Addr) :
    Turn P w K (.Tuple elts kk tpos) (IteT K a vs) [e, it] e (fun i h => (∃ old, IsEnum h e it ((i : Nat) : Int) old) ∧ h.IsTupleIter it a i ∧ e ≠ it) where
  mem := by simp
  obj := fun i h st b hb => by
    obtain ⟨⟨old, he⟩, ⟨o, ho, hc, hd⟩, _⟩ := st
    have e' : b = e ∨ b = it := by simpa using hb
    rcases e' with z | z
    · rw [z]; exact ⟨_, he, fun v q => nomatch q⟩
    · rw [z]; exact ⟨o, ho, fun v q => by rw [hd] at q; cases q⟩
  keep := fun i h h' st k => let ⟨⟨old, he⟩, hi, hne⟩ := st; ⟨⟨old, k e (by simp) _ he⟩, hi.at fun o q => k it (by simp) o q, hne⟩
  item := by
    intro X hP hw hK hc i pins s σ H E I hf st hg
    subst hP hw hK
    obtain ⟨⟨old, he⟩, hit, hne⟩ := st
    obtain ⟨hq, hi⟩ := hg
    obtain ⟨its, rv, p, hz⟩ := I.tuple hq
    obtain ⟨n1, n2⟩ := enum_apart he hit p
    have hsz : its.toArray.size = vs.length := by rw [List.size_toArray]; exact rv.length.symm
    have D : Draws X.prog X.w X.A.in1 it [it, a] its.toArray.size (fun i v => its.toArray[i]? = some v) (fun i h => h.IsTupleIter it a i ∧ h.IsTuple a its.toArray) := Draws.tuple (A := X.A.in1) (show X.A.in1.handled = none from I.ok.hd hc) it a (Ne.symm n2) its.toArray
    have hel : e < s.heap.objs.size := Heap.lt_size he
    have hil : it < s.heap.objs.size := by obtain ⟨_, q, _⟩ := hit; exact Heap.lt_size q
    refine wpAny_pyNext_enum_itemD D he ⟨hit, p⟩ (by rw [hsz]; exact hi) hne (by simp [hne, n1]) fun v h' tk hv ho hit' hT hsz2 hk => ?_
    obtain ⟨x, hx, rx⟩ : ∃ x, vs[i]? = some x ∧ RelV x v := by
      obtain ⟨u, hu, ru⟩ := rv.get (List.getElem?_eq_getElem hi)
      have hv' : its[i]? = some v := by simpa using hv
      have e : u = v := Option.some.inj (hu.symm.trans hv')
      exact ⟨_, List.getElem?_eq_getElem hi, e ▸ ru⟩
    refine ⟨_, rfl, wpAny_letOwnedTupleGo_enum (s := { s with heap := h', toks := tk + 1 }) ho fun h'' he' sb => ?_⟩
    have hT2 : h''.get? s.heap.objs.size = some { cls := .type "tuple", data := .seq #[.int i tk, v] } := (sb.2 _ (Nat.ne_of_gt hel)).trans hT
    have new : ObjOk X.prog X.w (upd H s.heap.objs.size (.tup [.int (i : Nat), x])) h'' s.heap.objs.size (.tup [.int (i : Nat), x]) :=
      ⟨by show 2 ≤ sizeLine; decide, [.int i tk, v], .cons ⟨_, rfl⟩ (.cons rx .nil), ⟨_, hT2, rfl, _, rfl⟩⟩
    have I1 : Inv X pins σ (upd H s.heap.objs.size (.tup [.int (i : Nat), x])) { s with heap := h'', toks := tk + 1 } :=
      I.turnedNew (ch := [e, it]) (fun b ob hb q => (sb.2 b (fun z => hb (by simp [z]))).trans (hk b ob (fun z => hb (by simp [z])) (fun z => hb (by simp [z])) q)) hf (Nat.le_refl _) new
    refine ⟨.ref s.heap.objs.size, _, I1, rfl, ⟨_, x, rfl, I.hok.fresh (Nat.le_refl _), rfl, hx⟩, ⟨⟨v, ?_⟩, hit'.1.extBut sb.extBut (Ne.symm hne), hne⟩, fun b hb => ?_⟩
    · have e1 : ((i + 1 : Nat) : Int) = (i : Int) + 1 := by omega
      rw [e1]; exact he'
    · have hb' : b < s.heap.objs.size := by
        have e' : b = e ∨ b = it := by simpa using hb
        rcases e' with z | z
        · rw [z]; exact hel
        · rw [z]; exact hil
      rw [upd_ne (Nat.ne_of_lt hb')]
      exact (hf b hb).1
  done := by
    intro X hP hw hK hc i pins s σ H E I hf st hg
    subst hP hw hK
    obtain ⟨⟨old, he⟩, hit, hne⟩ := st
    obtain ⟨hq, hi⟩ := hg
    obtain ⟨its, rv, p, hz⟩ := I.tuple hq
    obtain ⟨n1, n2⟩ := enum_apart he hit p
    have hsz : its.toArray.size = vs.length := by rw [List.size_toArray]; exact rv.length.symm
    have D : Draws X.prog X.w X.A.in1 it [it, a] its.toArray.size (fun i v => its.toArray[i]? = some v) (fun i h => h.IsTupleIter it a i ∧ h.IsTuple a its.toArray) := Draws.tuple (A := X.A.in1) (show X.A.in1.handled = none from I.ok.hd hc) it a (Ne.symm n2) its.toArray
    obtain ⟨f0, f1, f2, f3, f4, f5⟩ := hf it (by simp)
    rw [hi, ← hsz] at hit
    exact wpAny_pyNext_enum_endD D he ⟨hit, p⟩ fun h' eb => ⟨rfl, I.turned (t' := s.toks) (fun b o hb q => eb b o hb q) f0 f1 f3 f4 f5⟩
  self := fun A i s Q E st h => let ⟨⟨_, he⟩, _⟩ := st; wpAny_pyIter_enum he h
theorem itu_enumT {K : PySem.W.Frag} {H0 : Hp} {G0 : Gp} {a : Addr} {us : List U} {vs : List V} (hq : SqT K H0 a vs) (rv : RelUs K H0 us vs) (r0 : Rep K H0 G0) : ItU K (IteT K a vs) (fun _ => True) (enumU 0 us) H0 G0 := by
  refine ⟨fun i H G x r g hi => ?_, fun H G x r g => ?_⟩
  · rw [enumU_len] at hi
    have rv' := rv.ext x r0
    refine ⟨⟨x.sqT r0 hq, by rw [rv.length]; exact hi⟩, fun y H' ⟨T, z, ey, hT, eH, hz⟩ => ?_⟩
    subst eH ey
    obtain ⟨v, ev, ru⟩ := rv'.get (List.getElem?_eq_getElem hi)
    have e : v = z := Option.some.inj (ev.symm.trans hz)
    subst e
    obtain ⟨x1, r1⟩ := ext_tup r hT (xs := [.int (i : Nat), v])
    refine ⟨_, enumU_get 0 us i _ (List.getElem?_eq_getElem hi), x1, r1, T, _, rfl, .of upd_same, .int (i : Nat), [v], rfl, ?_, v, [], rfl, ru.ext x1 r, rfl⟩
    show V.int (i : Nat) = V.int ((0 + i : Nat))
    rw [Nat.zero_add]
  · exact ⟨x.sqT r0 hq, by rw [rv.length, enumU_len]⟩
def enumT (u : U) (G : Gp) (Q : UKI) : Prop := match u with
  | .tup us => Q (fun _ => True) (enumU 0 us) G
  | u => enumA u G Q
def enumTQ (Q : UKI) (ws : List U) (G : Gp) : Prop := match ws with
  | [u] => enumT u G Q
  | _ => False
def tIEnumT (ta : UTE) : UTI := fun us G Q E => ta us G (fun u G1 => enumT u G1 Q) E
theorem iu_enumT {X : Cx} {W : WX} {te : UTE} {p pos tpos : Pos} {elts : List Expr} {kk : Nat} {a : Expr} (hg : Gl X "enumerate") (hm : X.mg "enumerate" = none) (ha : EU X W a te) (hs : starEach [a] X.env = (false, eval a X.env) :: starEach [] X.env) : IU X W (.Tuple elts kk tpos) (.Call (.Name "enumerate" p) [a] [] pos) (tIEnumT te) := by
  refine ⟨fun pins s σ H us G Q E I rs rp h hx => ?_⟩
  refine Call_ (ld_blt I hg hm boot_enumerate (PyProof.Rows.callWith_type1 (thn ((au_cons ha au_nil hs).run pos pins s σ H us G (enumTQ Q) E I rs rp h hx) fun vals s1 ⟨vs, H1, I1, r1, w, G1, x1, rp1, ru, q1⟩ => ?_) hs rfl))
  cases w with
  | nil => exact q1.elim
  | cons u r =>
    cases r with
    | cons _ _ => exact q1.elim
    | nil =>
      obtain ⟨v, vr, e1, ev, e2⟩ := ru
      have e2' : vr = [] := e2
      subst e1 e2'
      have fin : ∀ {h' : Heap} {b : Addr}, s1.heap.objs.size ≤ b → FpOk X pins H1 b := fun hle => I1.fpOk hle (I1.hok.fresh hle)
      have q1 : enumT u G1 Q := q1
      cases u with
      | tup ws =>
        obtain ⟨a, zs, rfl, hq, rv⟩ := ev
        cases r1 with
        | cons r rr =>
          cases rr
          cases r
          obtain ⟨its, rvv, p', hz⟩ := I1.tuple hq
          refine enum_begins1 (begins_tuple a its.toArray) p' fun h' he hit hsz hk => wpAny_pyIter_enum he ?_
          have I2 : Inv X pins σ H1 { s1 with heap := h' } := I1.kept (t' := s1.toks) hk
          refine ⟨s1.heap.objs.size + 1, [s1.heap.objs.size + 1, s1.heap.objs.size], _, _, H1, rfl, I2, turn_enumT a zs (s1.heap.objs.size + 1) s1.heap.objs.size, ⟨⟨.none, he⟩, ⟨_, hit, rfl, rfl⟩, Nat.succ_ne_self _⟩, fun b hb => ?_, ⟨_, _, G1, x1, rp1, itu_enumT hq rv rp1, q1⟩⟩
          have e' : b = s1.heap.objs.size + 1 ∨ b = s1.heap.objs.size := by simpa using hb
          exact fin (h' := h') (by rcases e' with z | z <;> rw [z] <;> omega)
      | str l =>
        rw [show v = .str ⟨l.toArray⟩ from ev] at r1
        cases r1 with
        | cons r rr =>
          cases rr
          obtain ⟨t, rfl⟩ := r
          refine call_enumerate_str fun h' he hit hsz hk => wpAny_pyIter_enum he ?_
          have I2 : Inv X pins σ H1 { s1 with heap := h' } := I1.kept (t' := s1.toks) hk
          refine ⟨s1.heap.objs.size + 1, [s1.heap.objs.size + 1, s1.heap.objs.size], _, _, H1, rfl, I2, turn_enumS ⟨l.toArray⟩ t (strIterType ⟨l.toArray⟩) (by unfold strIterType; split <;> simp) (s1.heap.objs.size + 1) s1.heap.objs.size, ⟨⟨.none, he⟩, hit, Nat.succ_ne_self _⟩, fun b hb => ?_, ⟨_, _, G1, x1, rp1, itu_enumS, q1⟩⟩
          have e' : b = s1.heap.objs.size + 1 ∨ b = s1.heap.objs.size := by simpa using hb
          exact fin (h' := h') (by rcases e' with z | z <;> rw [z] <;> omega)
      | _ =>
        obtain ⟨a, us', c, vs', rfl, hq, hl, q⟩ := lstU_of rp1 ev (show lstU _ G1 fun us c => Q c (enumU 0 us) G1 from q1)
        cases r1 with
        | cons r rr =>
          cases rr
          cases r
          obtain ⟨its, rv, p', hz⟩ := I1.list hq
          refine call_enumerate_list p'.isList fun h' he hit hsz hk => wpAny_pyIter_enum he ?_
          have I2 : Inv X pins σ H1 { s1 with heap := h' } := I1.kept (t' := s1.toks) hk
          refine ⟨s1.heap.objs.size + 1, [s1.heap.objs.size + 1, s1.heap.objs.size], _, _, H1, rfl, I2, turn_enum a (s1.heap.objs.size + 1) s1.heap.objs.size, ⟨⟨.none, he⟩, hit, Nat.succ_ne_self _⟩, fun b hb => ?_, ⟨_, _, G1, x1, rp1, itu_enumA hl, q⟩⟩
          have e' : b = s1.heap.objs.size + 1 ∨ b = s1.heap.objs.size := by simpa using hb
          exact fin (h' := h') (by rcases e' with z | z <;> rw [z] <;> omega)
section
variable {us : USt} {G : Gp} {E : UX} {R : UKI} {ta : UTE} {p : Addr} {xs : List U} {l : List Nat}
theorem x_iEnumT : tIEnumT ta us G R E = ta us G (fun u G1 => enumT u G1 R) E := (rfl)
theorem x_enumTS : enumT (.str l) G R = R (fun _ => True) (enumU 0 (sgs l)) G := (rfl)
end
end UL
set_option maxHeartbeats 1000000
namespace UL
open PySem PySem.Spec PyProof.Rows L2 HT

section
variable {prog : Program} {w : World} {A : Around} {E : Value → Shared → Prop} {s : Shared}
end
end UL
set_option maxHeartbeats 400000
namespace UL
open PySem PySem.Spec PyProof.Rows L2 PySem.W

end UL
set_option maxHeartbeats 400000
namespace UL
open PySem PySem.Spec PyProof.Rows L2

section
variable {X : Cx} {W : WX}
end
section
variable {G : Gp} {Q : UK} {E : UX} {p : Addr} {l m : List Nat} {bs : List Bool}
end
end UL
set_option maxHeartbeats 400000
namespace UL
open PySem PySem.Spec PyProof.Rows L2

section
variable {G : Gp} {Q : UK} {E : UX} {x : List Nat} {ls : List (List Nat)}
end
end UL
set_option maxHeartbeats 400000
namespace UL
open PySem PySem.Spec PyProof.Rows L2

section
variable {G : Gp} {Q : UK} {E : UX} {x : List Nat} {l : List Nat} {ls : List (List Nat)} {p q : Addr} {K : Bool → Prop}
end
section
variable {X : Cx} {W : WX}
end
section
variable {G : Gp} {Q : UK} {E : UX} {p q : Addr} {x y : List Nat} {xs ys : List U} {a b : Int} {z w : U} {k : Bool}
end
def strP (l : List Nat) : PyData := .str ⟨l.toArray⟩
theorem dats_strs {G : Gp} : ∀ ls : List (List Nat), Dats G (ls.map U.str) (ls.map strP)
  | [] => .nil
  | l :: ls => .cons (.str l) (dats_strs ls)
section
variable {G : Gp} {K : Bool → Prop} {as bs : List (List Nat)} {l : List Nat} {ks : List Bool}
end
section
variable {X : Cx} {W : WX}
end
section
variable {X : Cx} {W : WX}
end
section
variable {G : Gp} {Q : UK} {E : UX} {p : Addr} {i : Int}
end
end UL
set_option maxHeartbeats 400000
namespace UL
open PySem PySem.Spec PyProof.Rows L2

section
variable {prog : Program} {w : World} {A : Around} {E : Value → Shared → Prop} {s : Shared}
end
section
variable {X : Cx} {W : WX} {pos : Pos}
end
section
variable {us : USt} {G : Gp} {E : UX} {S0 : USt → Gp → Prop} {n : Nat} {ts : UTGs} {ws : List U} {p : Addr}
end
end UL
set_option maxHeartbeats 400000
namespace UL
open PySem PySem.Spec PyProof.Rows L2

def u3 (f : U → U → U → Gp → UK → Prop) : URC := fun as G Q _ => match as with
  | [a, b, c] => f a b c G Q
  | _ => False
section
variable {X : Cx} {W : WX}
end
section
variable {G : Gp} {Q : UK} {E : UX} {i j k : Int} {f : U → U → U → Gp → UK → Prop} {a b c : U}
end
end UL
set_option maxHeartbeats 400000
namespace UL
open PySem PySem.Spec PyProof.Rows L2

section
variable {X : Cx} {W : WX}
end
section
variable {G : Gp} {Q : UK} {E : UX} {p : Addr} {k : List Nat}
end
section
variable {X : Cx} {W : WX} {e : Expr} {es : List Expr} {te : UTE} {tr : UTA} {p : Pos}
end
section
variable {G : Gp} {us : USt} {L : List U → Gp → Prop} {E : UX} {te : UTE} {tr : UTA}
end
end UL
set_option maxHeartbeats 4000000
namespace UL
open PySem PySem.Spec PyProof.Rows L2
def keyS (e : Int × Value) : Str := match e.2 with | .str k _ => k | _ => ⟨#[]⟩
def GoodS (w : World) (e : Int × Value) : Prop := ∃ k tk, e.2 = Value.str k tk ∧ e.1 = hashStr w k
def SetS (w : World) (h : Heap) (a : Addr) (S : Str → Bool) (n : Nat) : Prop :=
  ∃ o es ep t, h.get? a = some o ∧ o.ExactSet ∧ o.data = .set es ep t ∧ (∀ e ∈ es.toList, GoodS w e) ∧ (es.toList.map keyS).Nodup ∧ (∀ k, S k = true ↔ k ∈ es.toList.map keyS) ∧
    es.size < scanBound ∧ t.fits es.size = true ∧ es.size = n ∧ Ris t.place.toList ∧ (w.params.followText "set-order" = true ∨ t.led = true)
section
variable {P : Program} {w : World} {h h' : Heap} {a : Addr} {S : Str → Bool} {n : Nat}
theorem SetS.at (R : SetS w h a S n) (k : ∀ o, h.get? a = some o → h'.get? a = some o) : SetS w h' a S n := by
  obtain ⟨o, es, ep, t, ho, r⟩ := R
  exact ⟨o, es, ep, t, k o ho, r⟩
theorem SetS.congr {S' : Str → Bool} (R : SetS w h a S n) (e : ∀ k, S' k = S k) : SetS w h a S' n := by
  have q : S' = S := funext e
  rw [q]; exact R
end
section
variable {P : Program} {w : World} {A : Around} {E : Value → Shared → Prop} {s : Shared} {a : Addr} {S : Str → Bool} {n : Nat}
end
section
variable {P : Program} {w : World} {A : Around} {E : Value → Shared → Prop} {s : Shared}
end
end UL
namespace UL
open PySem PySem.Spec PyProof.Rows L2
section
variable {us : USt} {G : Gp} {Q : UK} {E : UX} {t : UTE} {l : List Nat}
end
end UL
set_option maxHeartbeats 1000000
namespace UL
open PySem PySem.Spec PyProof.Rows L2 HT
end UL
set_option maxHeartbeats 1000000
namespace UL
open PySem PySem.Spec PyProof.Rows L2
section
variable {G : Gp} {Q : UK} {u w : U} {a : Addr} {d : Option Addr} {c c' : String} {t t' : TD} {v : Bool} {tab : List (String × TD × Bool)} {fl : List String} {ws vs : List U} {P P' : Prop}
end
end UL
set_option maxHeartbeats 400000
namespace UL
open PySem PySem.Spec PyProof.Rows L2
section
variable {K : PySem.W.Frag} {H : Hp} {l : Int}
end
section
variable {X : Cx} {W : WX}
end
def tUPairs : List (List Nat × UTE) → USt → Gp → (List (U × U) → Gp → Prop) → UX → Prop
  | [], _, G, Q, _ => Q [] G
  | (l, t) :: r, us, G, Q, E => t us G (fun u G1 => tUPairs r us G1 (fun kvs G2 => Q ((.str l, u) :: kvs) G2) E) E
inductive PPu (X : Cx) (W : WX) : List (Option Expr) → List Expr → List (List Nat × UTE) → Prop where
  | nil : PPu X W [] [] []
  | cons {k v : Expr} {ks : List (Option Expr)} {vs : List Expr} {l : List Nat} {t : UTE} {r : List (List Nat × UTE)} : EU X W k (tUC (.str l)) → EU X W v t → PPu X W ks vs r → PPu X W (some k :: ks) (v :: vs) ((l, t) :: r)
section
variable {X : Cx} {W : WX} {pos : Pos}
/-- what the pairs give: keys by texts, values as known -/
def KVs (K : PySem.W.Frag) (H : Hp) : List (U × U) → List (V × V) → Prop
  | [], ps => ps = []
  | (k, u) :: r, ps => ∃ l v ws, k = .str l ∧ ps = (.str ⟨l.toArray⟩, v) :: ws ∧ RelU K H u v ∧ KVs K H r ws
theorem KVs.ext {K : PySem.W.Frag} {H H' : Hp} {G G' : Gp} (x : Ext H G H' G') (rp : Rep K H G) : ∀ {r : List (U × U)} {ps : List (V × V)}, KVs K H r ps → KVs K H' r ps
  | [], _, h => h
  | (k, u) :: r, _, ⟨l, v, ws, e1, e2, h1, h2⟩ => ⟨l, v, ws, e1, e2, h1.ext x rp, h2.ext x rp⟩
theorem KVs.to {K : PySem.W.Frag} {H : Hp} : ∀ {r : List (U × U)} {ps : List (V × V)}, KVs K H r ps → ∃ gs : List (Key × V), ps = gs.map (fun kv => (kV kv.1, kv.2)) ∧ RelKV K H r gs ∧ gs.length = r.length ∧ ∀ ls : List (List Nat), r.map (·.1) = ls.map U.str → gs.map (·.1) = ls.map kS
  | [], _, h => ⟨[], h, rfl, rfl, fun ls e => by cases ls with | nil => rfl | cons _ _ => cases e⟩
  | (k, u) :: r, _, ⟨l, v, ws, e1, e2, h1, h2⟩ => by
    obtain ⟨gs, e, rk, ln, kk⟩ := KVs.to h2
    refine ⟨(kS l, v) :: gs, by rw [e2, e]; rfl, ⟨kS l, v, gs, rfl, by rw [e1]; rfl, h1, rk⟩, by simp [ln], fun ls eq => ?_⟩
    cases ls with
    | nil => cases eq
    | cons m ls =>
      rw [List.map_cons, List.map_cons] at eq
      injection eq with a b
      have a : k = .str m := a
      rw [e1] at a
      injection a with a
      rw [List.map_cons, List.map_cons, kk ls b, a]
theorem PPu.run {keys : List (Option Expr)} {values : List Expr} {ts : List (List Nat × UTE)} (h : PPu X W keys values ts) : ∃ trs : List (TE × TE), PPs X pos keys values trs ∧ keys.all (·.isSome) = true ∧ keys.length = values.length ∧ keys.length = ts.length ∧
    ∀ (σ : L2.St) (H : Hp) (us : USt) (G : Gp) (Q : List (U × U) → Gp → Prop) (E : UX) (R : List (V × V) → Hp → Prop), RelS X.K H us σ → Rep X.K H G → tUPairs ts us G Q E → (∀ c d H', LX X.K H G E c d H' → W c d σ H') →
      (∀ ps H', (∃ kvs G', Ext H G H' G' ∧ Rep X.K H' G' ∧ KVs X.K H' kvs ps ∧ kvs.map (·.1) = ts.map (fun p => U.str p.1) ∧ Q kvs G') → R ps H') → tPairs trs σ H R := by
  induction h with
  | nil => exact ⟨[], pps_nil, rfl, rfl, rfl, fun σ H us G Q E R rs rp q hx k => k [] H ⟨[], G, .refl _ _, rp, rfl, rfl, q⟩⟩
  | @cons k v ks vs l t r hk hv _ ih =>
    obtain ⟨trs, hp, ha, hl, hl2, go⟩ := ih
    refine ⟨(lE X.K W (tUC (.str l)), lE X.K W t) :: trs, pps_cons hk.pe hv.pe hp, by simpa using ha, by simp [hl], by simp [hl2], fun σ H us G Q E R rs rp q hx kk => ?_⟩
    refine ⟨us, G, _, E, rs, rp, (show tUC (.str l) us G (fun u G1 => u = .str l ∧ G1 = G) E from ⟨rfl, rfl⟩), fun x H1 ⟨u, G1, x1, rp1, ru, eu, eG⟩ => ?_, hx⟩
    subst eu eG
    have ex : x = .str ⟨l.toArray⟩ := ru
    subst ex
    refine ⟨us, G1, _, E, rs.ext x1 rp, rp1, q, fun y H2 ⟨w, G2, x2, rp2, rw_, q2⟩ => ?_, fun c d H' z => hx c d H' (z.trans x1)⟩
    refine go σ H2 us G2 _ E _ ((rs.ext x1 rp).ext x2 rp1) rp2 q2 (fun c d H' z => hx c d H' ((z.trans x2).trans x1)) fun ps H3 ⟨kvs, G3, x3, rp3, rk, ek, q3⟩ => ?_
    exact kk _ H3 ⟨(.str l, w) :: kvs, G3, (x1.trans x2).trans x3, rp3, ⟨l, y, ps, rfl, rfl, rw_.ext x3 rp2, rk⟩, by rw [List.map_cons, List.map_cons, ek], q3⟩
end
section
variable {us : USt} {G : Gp} {Q : UK} {E : UX} {p a : Addr} {l : Int} {m : List Nat} {xs : List U} {w u : U} {Z : Gp → Prop} {kvs : List (U × U)} {K : List (U × U) → Prop} {R : Prop} {t : UTE} {ps : List (List Nat × UTE)} {KQ : List (U × U) → Gp → Prop}
end
end UL
set_option maxHeartbeats 400000
namespace UL
open PySem PySem.Spec PyProof.Rows L2 PySem.W
section
variable {X : Cx} {W : WX} {es : List Expr} {e o fe : Expr} {tf : UTE} {ta : UTA} {pos p apos : Pos} {k n : Nat} {sp : USp} {pl : List Src} {d : DD} {c : String} {ap : MAp}
end
end UL
set_option maxHeartbeats 4000000
namespace UL
open PySem PySem.Spec PyProof.Rows L2
def M2 (m : Nat) : Prop := m = 7 ∨ m = 15 ∨ m = 31
/-- the places where a search begins a run -/
def Runs0 (m : Nat) : Nat → Nat → Nat → Nat
  | 0, i, _ => i
  | n + 1, i, b => Runs0 m n (SetTable.leap m i b).1 (SetTable.leap m i b).2
abbrev ownAt (o : Array (Option Nat)) (j : Nat) : Option Nat := o.getD j (some 0)
theorem free_ok (m : Nat) (o : Array (Option Nat)) (hs : o.size = m + 1) : ∀ (fuel i b n : Nat), n < fuel → ownAt o (Runs0 m n i b) = none → ∃ j, SetTable.layClean.free m o fuel i b = some j ∧ ownAt o j = none
  | 0, _, _, _, h, _ => absurd h (Nat.not_lt_zero _)
  | fuel + 1, i, b, n, h, e => by
    unfold SetTable.layClean.free
    cases f : (List.range (SetTable.runEnd m i + 1 - i)).find? fun k => (o.getD (i + k) (some 0)).isNone with
    | some k =>
      have := List.find?_some f
      exact ⟨i + k, rfl, Option.isNone_iff_eq_none.mp this⟩
    | none =>
      cases n with
      | zero =>
        exfalso
        have h0 := List.find?_eq_none.mp f 0 (List.mem_range.mpr (by unfold SetTable.runEnd; split <;> omega))
        have e0 : ownAt o i = none := e
        rw [Nat.add_zero] at h0
        rw [show o.getD i (some 0) = none from e0] at h0
        exact h0 rfl
      | succ n => exact free_ok m o hs fuel _ _ n (by omega) e
end UL
set_option maxHeartbeats 4000000
namespace UL
open PySem PySem.Spec PyProof.Rows L2
/-- a set's own object -/
def SetD (w : World) (h : Heap) (a : Addr) (S : Str → Bool) (n : Nat) (o : Obj) (es : Array (Int × Value)) (ep : Nat) (t : SetTable) : Prop :=
  h.get? a = some o ∧ o.ExactSet ∧ o.data = .set es ep t ∧ (∀ e ∈ es.toList, GoodS w e) ∧ (es.toList.map keyS).Nodup ∧ (∀ k, S k = true ↔ k ∈ es.toList.map keyS) ∧
    es.size < scanBound ∧ t.fits es.size = true ∧ es.size = n ∧ Ris t.place.toList ∧ (w.params.followText "set-order" = true ∨ t.led = true)
theorem SetD.s {w : World} {h : Heap} {a : Addr} {S : Str → Bool} {n : Nat} {o : Obj} {es : Array (Int × Value)} {ep : Nat} {t : SetTable} (D : SetD w h a S n o es ep t) : SetS w h a S n := ⟨o, es, ep, t, D⟩
section
variable {P : Program} {w : World} {A : Around} {E : Value → Shared → Prop} {s : Shared} {a b : Addr} {S S2 : Str → Bool} {n m : Nat} {o : Obj} {es : Array (Int × Value)} {ep : Nat} {t : SetTable}
theorem SetD.at (D : SetD w s.heap a S n o es ep t) {h' : Heap} (k : h'.get? a = some o) : SetD w h' a S n o es ep t := ⟨k, D.2⟩
theorem SetS.other {h h' : Heap} (R : SetS w h b S n) (hne : b ≠ a) (x : Heap.SameBut a h h') : SetS w h' b S n := R.at fun o ho => by rw [x.2 b hne]; exact ho
end
end UL
set_option maxHeartbeats 4000000
namespace UL
open PySem PySem.Spec PyProof.Rows L2
end UL
set_option maxHeartbeats 4000000
namespace UL
open PySem PySem.Spec PyProof.Rows L2
section
variable {P : Program} {w : World} {A : Around} {E : Value → Shared → Prop} {s : Shared} {a b : Addr} {S S2 : Str → Bool} {n m : Nat}
theorem SetS.ty (R : SetS w s.heap a S n) : s.TypeIs (.ref a) "set" := by
  obtain ⟨o, es, ep, t, ho, hex, _⟩ := R
  exact ⟨o, ho, hex.1⟩
end
end UL
set_option maxHeartbeats 4000000
namespace UL
open PySem PySem.Spec PyProof.Rows L2
end UL
set_option maxHeartbeats 4000000
namespace UL
open PySem PySem.Spec PyProof.Rows L2
section
variable {P : Program} {w : World} {A : Around} {E : Value → Shared → Prop} {s : Shared}
end
theorem vals_ints : ∀ {ns : List Int} {its : List Value}, IntsAre its ns → Vals (ns.map V.int) its
  | _, _, .nil => .nil
  | _, _, .cons n t h => .cons ⟨t, rfl⟩ (vals_ints h)
theorem asRef_ex {u : U} {K : Addr → Prop} (h : asRef u K) : ∃ l, u = .ref l ∧ K l := by
  cases u <;> first | exact ⟨_, rfl, h⟩ | exact False.elim h
theorem getLst_ex {o : Option Ob} {K : List U → Prop} (h : getLst o K) : ∃ l, o = some (.lst l) ∧ K l := by
  unfold getLst at h
  split at h
  · exact ⟨_, rfl, h⟩
  · exact h.elim
section
variable {us : USt} {G : Gp} {Q : UK} {E : UX} {t : UTE}
end
end UL
set_option maxHeartbeats 4000000
namespace UL
open PySem PySem.Spec PyProof.Rows L2
abbrev UD := U × PyData
def sortedR : U → Gp → UK → Prop := fun u G Q => asRef u fun a => getLst (G a) fun us => ∃ zs out : List UD, us = zs.map (·.1) ∧ (∀ z ∈ zs, Dat G z.1 z.2) ∧ PySem.W.AllAlike (zs.map (·.2)) ∧ (∀ z ∈ zs, (∃ x r, z.2 = .tuple (x :: r)) ∧ z.2.depth ≤ 60) ∧
  zs.length ≤ 1000 ∧ out.Perm zs ∧ out.Pairwise (fun a b => PySem.W.dataLt a.2 b.2 = true) ∧ ∀ p, G p = none → Q (.ref p) (gup G p (.lst (out.map (·.1))))
def REach (K : PySem.W.Frag) (H : Hp) (v : Value) (z : UD) : Prop := ∃ x, RelV x v ∧ RelU K H z.1 x
theorem each_in {K : PySem.W.Frag} {H : Hp} : ∀ {zs : List UD} {xs : List V} {vs : List Value}, RelUs K H (zs.map (·.1)) xs → Vals xs vs → PySem.W.EachIs (REach K H) vs zs
  | [], xs, vs, r, h => by
    have e : xs = [] := r
    subst e
    cases h
    exact .nil
  | z :: zs, _, _, ⟨v, ws, rfl, hv, t⟩, h => by
    cases h with
    | cons a b => exact .cons ⟨v, a, hv⟩ (each_in t b)
theorem each_out {K : PySem.W.Frag} {H : Hp} : ∀ {zs : List UD} {vs : List Value}, PySem.W.EachIs (REach K H) vs zs → ∃ xs, RelUs K H (zs.map (·.1)) xs ∧ Vals xs vs
  | _, _, .nil => ⟨[], rfl, .nil⟩
  | _, _, .cons ⟨v, a, b⟩ t => by
    obtain ⟨xs, r, h⟩ := each_out t
    exact ⟨v :: xs, ⟨v, xs, rfl, b, r⟩, .cons a h⟩
theorem merge_out {zs out : List UD} (hp : out.Perm zs) (hs : out.Pairwise fun a b => PySem.W.dataLt a.2 b.2 = true) : zs.mergeSort (PySem.W.dataLe false fun z : UD => z.2) = out := by
  have T := PySem.W.sortLe_total (listOrd itemOrd) false (fun z : UD => PySem.W.keyToks z.2)
  have lt_asym : ∀ a b : UD, PySem.W.dataLt a.2 b.2 = true → PySem.W.dataLt b.2 a.2 = false := fun a b h => by
    cases h2 : PySem.W.dataLt b.2 a.2 with
    | false => rfl
    | true =>
      have := PyProof.Rows.lex_trans (O := itemOrd) _ _ _ h h2
      rw [PyProof.Rows.lex_irrefl] at this
      cases this
  have pw : out.Pairwise fun a b => PySem.W.dataLe false (fun z : UD => z.2) a b = true := hs.imp fun {a b} h => by
    show (!PySem.W.dataLt b.2 a.2) = true
    rw [lt_asym a b h]
    rfl
  refine List.Perm.eq_of_pairwise (le := fun a b => PySem.W.dataLe false (fun z : UD => z.2) a b = true) (fun a b ha hb h1 h2 => ?_) (List.pairwise_mergeSort T.trans (fun a b => by rw [Bool.or_eq_true]; exact T.total a b) zs) pw ((List.mergeSort_perm zs _).trans hp.symm)
  have ha' : a ∈ out := hp.mem_iff.mpr ((List.mergeSort_perm zs _).mem_iff.mp ha)
  have h1' : PySem.W.dataLt b.2 a.2 = false := by
    have : (!PySem.W.dataLt b.2 a.2) = true := h1
    simpa using this
  have h2' : PySem.W.dataLt a.2 b.2 = false := by
    have : (!PySem.W.dataLt a.2 b.2) = true := h2
    simpa using this
  by_cases e : a = b
  · exact e
  · exfalso
    rcases (List.pairwise_iff_getElem.mp hs) with k
    obtain ⟨i, hi, rfl⟩ := List.getElem_of_mem ha'
    obtain ⟨j, hj, rfl⟩ := List.getElem_of_mem hb
    rcases Nat.lt_trichotomy i j with h | h | h
    · rw [k i j hi hj h] at h2'
      cases h2'
    · subst h
      exact e rfl
    · rw [k j i hj hi h] at h1'
      cases h1'
theorem cu_sortedR {X : Cx} {W : WX} (hu : X.A.units + 64 < cLine) : CallU X W (.builtin "sorted") (u1 sortedR) := by
  intro pins s σ H xs us as G Q E I rx ra rp h hx
  obtain ⟨u, rfl, q⟩ := u1_of h
  obtain ⟨a, rfl, q⟩ := asRef_ex q
  obtain ⟨l, g, q⟩ := getLst_ex q
  obtain ⟨zs, out, rfl, hd, hal, ht, hL, hp, hs, q⟩ := q
  obtain ⟨x, rfl, e⟩ := relUs1 ra
  obtain ⟨ws, e1, r⟩ := rp.lst g
  have ex : x = .ref a := e
  subst ex
  obtain ⟨u, rfl, rx'⟩ := vals1 rx
  cases rx'
  obtain ⟨z, its, n, rv, hl, ho⟩ := I.lstM e1
  have E1 := each_in r rv
  have E2 : PySem.W.EachIs (fun v (z : UD) => ∃ as, Reads s.heap v z.2 as) its zs := (PySem.W.each_mem E1).mono fun v z ⟨⟨x, h1, h2⟩, hz⟩ => Dp.reads I _ x v ((hd z hz).dp rp _ _ _ h2) h1
  refine PySem.W.sorted_data (β := UD) (enc := fun z => z.2) (R := REach X.K H) (vs := its) (bs := zs) ⟨_, ho, rfl, n, rfl⟩ E1 E2 hal (.inl fun d hd' => ?_) (by rw [sizeLine_eq]; omega) (fun b hb => ?_) fun ov hlen E3 => ?_
  · obtain ⟨z, hz, rfl⟩ := List.mem_map.mp hd'
    exact (ht z hz).1
  · have := (ht b hb).2
    omega
  rw [merge_out hp hs] at E3
  obtain ⟨ys, ry, vy⟩ := each_out E3
  obtain ⟨c, hc⟩ := PyProof.Rows.sortedAll_at s.heap its (List.toArray ov)
  have hn : H (s.heap.objs.size + 1) = none := I.hok.fresh (Nat.le_succ _)
  have hy : ys.length ≤ sizeLine := by
    have := vy.length
    rw [sizeLine_eq]
    omega
  exact ⟨.ref _, _, I.laid (t' := s.toks) (fun b o e => PyProof.Rows.sortedAll_old e) (Nat.le_succ _) (show ObjOk X.prog X.w _ _ _ (.lst ys) from ⟨hy, ov, c, vy, hc⟩), rfl, lv_lst rp ry hn (q _ (rp.fresh hn))⟩
section
variable {G : Gp} {Q : UK} {p : Addr}
theorem x_sortedR : sortedR (.ref p) G Q = getLst (G p) fun us => ∃ zs out : List UD, us = zs.map (·.1) ∧ (∀ z ∈ zs, Dat G z.1 z.2) ∧ PySem.W.AllAlike (zs.map (·.2)) ∧ (∀ z ∈ zs, (∃ x r, z.2 = .tuple (x :: r)) ∧ z.2.depth ≤ 60) ∧
  zs.length ≤ 1000 ∧ out.Perm zs ∧ out.Pairwise (fun a b => PySem.W.dataLt a.2 b.2 = true) ∧ ∀ p, G p = none → Q (.ref p) (gup G p (.lst (out.map (·.1)))) := (rfl)
end
end UL
set_option maxHeartbeats 1000000
namespace UL
open PySem PySem.Spec PyProof.Rows L2
section
variable {G : Gp} {Q : UK} {p : Addr}
end
end UL
set_option maxHeartbeats 1000000
namespace UL
open PySem PySem.Spec PyProof.Rows L2 HT
end UL
set_option maxHeartbeats 1000000
namespace UL
open PySem PySem.Spec PyProof.Rows L2
structure KwP (p : Arguments) (pd : Str) : Prop where
  po : p.posonlyargs = []
  ar : p.args = []
  va : p.vararg = none
  ko : p.kwonlyargs = []
  kw : p.kwarg.map (·.arg) = some pd
/-- the dict of the keywords, filled -/
def fillD (d : Addr) (kw : List (Str × Value)) : Sem PUnit := forIn kw PUnit.unit fun x _ => (do nsSet d x.1 x.2; pure (ForInStep.yield PUnit.unit))
theorem bind_kw {name qual : Str} {params : Arguments} {body : List Stmt} {scope : Scope} {kV doc pm cdv ct : Value} {an : Option Addr} {pd : Str} (hp : KwP params pd) (kw : List (Str × Value)) (h3 : kw.length ≤ 3) :
    bindArgs (PySem.W.fnOf name qual params body scope .none kV doc pm an cdv ct) ⟨[], kw⟩ = ((alloc ({ cls := .type "dict", data := .dict #[] } : Obj) : Sem Addr) >>= fun d => fillD d kw >>= fun _ => pure [(pd, Value.ref d)]) := by
  obtain ⟨po, ar, va, ko, kd, kwa, df⟩ := params
  obtain ⟨h1, h2, h3', h4, h5⟩ := hp
  dsimp only at h1 h2 h3' h4 h5
  subst h1 h2 h3' h4
  cases kwa with
  | none => cases h5
  | some a =>
    cases h5
    match kw, h3 with
    | [], _ => rfl
    | [x], _ => rfl
    | [x, y], _ => rfl
    | [x, y, z], _ => rfl
section
variable {P : Program} {w : World} {A : Around} {E : Value → Shared → Prop} {s : Shared} {d : Addr}
theorem pairs_app {kn : PySem.KeyKind P w Key} : ∀ {es : List DictEntry} {kvs : List (Key × Value)} {es2 : List DictEntry} {kvs2 : List (Key × Value)}, Pairs kn es kvs → Pairs kn es2 kvs2 → Pairs kn (es ++ es2) (kvs ++ kvs2)
  | _, _, _, _, .nil, h => h
  | _, _, _, _, .cons a b t, h => .cons a b (pairs_app t h)
theorem pairs_mem {kn : PySem.KeyKind P w Key} : ∀ {es : List DictEntry} {kvs : List (Key × Value)}, Pairs kn es kvs → ∀ e ∈ es, ∃ kv ∈ kvs, kn.is kv.1 e.key = true
  | _, _, .nil, _, h => by cases h
  | _, _, .cons (kv := kv) a _ t, e, h => by
    rcases List.mem_cons.mp h with rfl | h
    · exact ⟨kv, List.mem_cons_self, a⟩
    · obtain ⟨kv', m, q⟩ := pairs_mem t e h
      exact ⟨kv', List.mem_cons_of_mem _ m, q⟩
/-- a text's entry put behind a dict that has it not -/
theorem ns_dict {kvs : List (Key × Value)} {k : Str} {v : Value} {Q : Unit → Shared → Prop} (hd : s.heap.DictOf (mixKind P w) d kvs) (hn : ∀ kv ∈ kvs, kv.1 ≠ .inr k)
    (h : ∀ h', Heap.SameBut d s.heap h' → h'.DictOf (mixKind P w) d (kvs ++ [(.inr k, v)]) → Q () { s with heap := h', toks := s.toks + 1 }) : wpAny (model P w) A (nsSet d k v) Q E s := by
  obtain ⟨o, es, ep, ho, hex, hdat, hk, hp, hnd⟩ := hd
  have no : ∀ e ∈ es.toList, e.key.isStr k = false ∧ e.refKey = false := fun e he => by
    obtain ⟨kv, hm, q⟩ := pairs_mem hp e he
    rw [mixKind_is] at q
    rcases keyIs_shape q with ⟨i, t, e1, e2⟩ | ⟨x, t, e1, e2⟩
    · rw [DictEntry.refKey, e2]
      exact ⟨rfl, rfl⟩
    · rw [DictEntry.refKey, e2]
      refine ⟨?_, rfl⟩
      show (x == k) = false
      exact beq_eq_false_iff_ne.mpr fun z => hn kv hm (by rw [e1, z])
  have n1 : es.any (fun e => e.key.isStr k) = false := by
    rw [← Array.any_toList, List.any_eq_false]
    exact fun e he => by rw [(no e he).1]; exact Bool.false_ne_true
  have n2 : es.any (fun e => e.refKey) = false := by
    rw [← Array.any_toList, List.any_eq_false]
    exact fun e he => by rw [(no e he).2]; exact Bool.false_ne_true
  unfold nsSet
  refine wpAny_bind (wpAny_bind (wpAny_askSetting (wpAny_pure (wpAny_bind (wpAny_mkText (wpAny_bind (wpAny_loadPart ho ?_)))))))
  rw [hdat]
  dsimp only
  rw [aRefKeyMayBeTheName_at, n1, n2]
  refine wp_if_neg (by decide) ?_
  try refine wpAny_bind (wpAny_pure ?_)
  refine wpAny_updatePart ho (h _ (Heap.SameBut.update ..) ?_)
  have e : Obj.putName k (hashStr w k) (.str k s.toks) v o = { o with data := .dict (es.push ⟨hashStr w k, .str k s.toks, v⟩) (ep + 1) } := by
    rw [Obj.putName_eq]
    obtain ⟨c, dd, dt, sl⟩ := o
    dsimp only at hdat
    subst hdat
    unfold Obj.putNameByArray
    have fi : es.findIdx? (fun e => e.key.isStr k) = none := by
      rw [Array.findIdx?_eq_none_iff]
      exact fun e he => (no e (Array.mem_toList_iff.mpr he)).1
    dsimp only
    rw [fi]
  refine ⟨_, es.push ⟨hashStr w k, .str k s.toks, v⟩, ep + 1, (Heap.get?_update_self _ ho (by show Obj.isFreed (Obj.putName k (hashStr w k) (.str k s.toks) v o) = false; rw [e]; rfl)).trans (congrArg some e), hex, rfl, fun e he => ?_, ?_, ?_⟩
  · rcases Array.mem_push.mp he with he | rfl
    · exact hk e he
    · exact ⟨.inr k, mixKind_str P w k s.toks, rfl⟩
  · rw [Array.toList_push]
    exact pairs_app hp (.cons (mixKind_str P w k s.toks) rfl .nil)
  · rw [List.map_append, List.nodup_append]
    refine ⟨hnd, by simp, fun a ha b hb z => ?_⟩
    obtain ⟨kv, hm, rfl⟩ := List.mem_map.mp ha
    have : b = .inr k := by simpa using hb
    exact hn kv hm (z.trans this)
/-- the keywords' dict is filled -/
theorem fill_dict {Q : PUnit → Shared → Prop} : ∀ (kw : List (Str × Value)) (s : Shared) (kvs : List (Key × Value)), s.heap.DictOf (mixKind P w) d kvs → (∀ kv ∈ kvs, ∀ x ∈ kw, kv.1 ≠ .inr x.1) → (kw.map (·.1)).Nodup →
    (∀ h' t', Heap.SameBut d s.heap h' → h'.DictOf (mixKind P w) d (kvs ++ kw.map fun x => (.inr x.1, x.2)) → Q ⟨⟩ { s with heap := h', toks := t' }) → wpAny (model P w) A (fillD d kw) Q E s
  | [], s, kvs, hd, _, _, h => by
    unfold fillD
    rw [List.forIn_nil]
    exact wpAny_pure (h s.heap s.toks (Heap.SameBut.refl ..) (by rw [List.map_nil, List.append_nil]; exact hd))
  | x :: r, s, kvs, hd, hn, nd, h => by
    rw [List.map_cons, List.nodup_cons] at nd
    unfold fillD
    rw [List.forIn_cons]
    refine wpAny_bind (wpAny_bind (ns_dict hd (fun kv m => hn kv m x List.mem_cons_self) fun h1 sb1 d1 => wpAny_pure ?_))
    show wpAny _ _ (fillD d r) _ _ _
    refine fill_dict r { s with heap := h1, toks := s.toks + 1 } _ d1 (fun kv m y hy => ?_) nd.2 fun h2 t2 sb2 d2 => ?_
    · rcases List.mem_append.mp m with m | m
      · exact hn kv m y (List.mem_cons_of_mem _ hy)
      · rw [List.mem_singleton.mp m]
        intro z
        injection z with z
        exact nd.1 (by rw [z]; exact List.mem_map_of_mem hy)
    · refine h h2 t2 (sb1.trans sb2) ?_
      rw [List.map_cons, show kvs ++ (Sum.inr x.1, x.2) :: r.map (fun x => ((Sum.inr x.1 : Key), x.2)) = (kvs ++ [(Sum.inr x.1, x.2)]) ++ r.map (fun x => ((Sum.inr x.1 : Key), x.2)) by simp]
      exact d2
end
/-- the names of a call's keywords, as a dict's keys -/
def kwU (ks : List Str) (zs : List U) : List (U × U) := (ks.map fun k => U.str k.cps.toList).zip zs
structure FnKwU (P : Program) (w : World) (K : PySem.W.Frag) (mg : Str → Option Value) (base : Heap) (k : Nat) (f : Addr) (sp : USp) : Prop where
  run : ∀ (A : Around) (outer : List Env) (s : Shared) (H : Hp) (ks : List Str) (zl : List Value) (zv : List V) (zs : List U) (G : Gp) (Q : UK) (E : UX), RoomU k A → Env0 P w K mg base A outer s H →
    Vals zv zl → RelUs K H zs zv → Rep K H G → zs.length = ks.length → ks.length ≤ 3 → ks.Nodup → (∀ d, G d = none → sp [.ref d] (gup G d (.dct (kwU ks zs))) Q E) → codeAny (model P w) A (.call (.ref f) ⟨[], ks.zip zl⟩) (CR (L2.CX P w) outer P w H s (LV K H G Q) (LX K H G E)) s
theorem FnKwU.mono {P : Program} {w : World} {K : PySem.W.Frag} {mg : Str → Option Value} {base : Heap} {j k : Nat} {f : Addr} {sp : USp} (F : FnKwU P w K mg base j f sp) (h : j ≤ k) : FnKwU P w K mg base k f sp :=
  ⟨fun A outer s H ks zl zv zs G Q E hr => F.run A outer s H ks zl zv zs G Q E (hr.mono h)⟩
theorem kw_rel {K : PySem.W.Frag} {H : Hp} : ∀ {ks : List Str} {zs : List U} {zv : List V}, RelUs K H zs zv → zs.length = ks.length → RelKV K H (kwU ks zs) ((ks.map fun k => (Sum.inr k : Key)).zip zv)
  | [], [], _, e, _ => by cases e; rfl
  | k :: ks, z :: zs, _, ⟨v, vs, rfl, r, t⟩, l => ⟨.inr k, v, _, rfl, (by show (Sum.inr k : Key) = .inr ⟨k.cps.toList.toArray⟩; rfl), r, kw_rel t (by simpa using l)⟩
theorem kw_kv : ∀ {ks : List Str} {zv : List V} {zl : List Value}, Vals zv zl → KV ((ks.map fun k => (Sum.inr k : Key)).zip zv) ((ks.zip zl).map fun x => (Sum.inr x.1, x.2))
  | [], _, _, _ => .nil
  | k :: ks, _, _, .nil => .nil
  | k :: ks, _, _, .cons r t => .cons ⟨rfl, r⟩ (kw_kv t)
theorem fn_uK {P : Program} {w : World} {K : PySem.W.Frag} {mg : Str → Option Value} {base : Heap} {k n : Nat} {f : Addr} {fd : FuncData} {name qual : Str} {params : Arguments} {body : List Stmt} {scope : Scope} {N : List Str} {pd : Str} {sp : USp} {t : UTS}
    (F : FunD K name qual params body scope [] [] f fd) (S : FnScope N [pd] scope) (hn : N.length = n) (hp : KwP params pd)
    (hb : ∀ (cdv : Value) (A : Around) (outer : List Env) (s : Shared) (H : Hp) (G : Gp) (E : UX), RoomU k (A.deeper (envOfC qual scope s.heap.objs.size f cdv)) →
      SsU (cxU P w K mg base N qual scope f cdv A outer s H (LX K H G E)) (wOf K H G E) body t)
    (hsp : ∀ us G Q E, sp us G Q E → t (endsU Q E) (ustart n us) G) : FnKwU P w K mg base (k + 1) f sp := by
  obtain ⟨oc, od, dV, kV, doc, pm, an, cdv, ct, osl, rfl, lk, hcd, hD, _⟩ := F.ex
  obtain rfl : dV = .none := by
    rcases hD with ⟨_, e⟩ | ⟨e, _⟩
    · exact e
    · exact absurd rfl e
  refine ⟨fun A outer s H ks zl zv zs G Q E room at0 rz ruz rp hlz h3 nd want => ?_⟩
  have inK : K.In s.heap := at0.mod.kin.keeps fun b o e => (at0.bs b o e).1
  have hn0 : H s.heap.objs.size = Option.none := at0.hok.fresh (Nat.le_refl _)
  have lzl : zl.length = ks.length := by rw [← rz.length, ruz.length, hlz]
  refine codeAny_call_function room.rm.depth (inK _ _ lk) rfl S.co S.gen rfl (PySem.W.codeRec_of inK hcd) ?_
  rw [bind_kw hp (ks.zip zl) (by rw [List.length_zip]; omega)]
  refine wpAny_bind (wpAny_alloc ?_)
  have hk1 : (ks.zip zl).map (·.1) = ks := by rw [List.map_fst_zip]; omega
  refine wpAny_bind (fill_dict (P := P) (w := w) (d := s.heap.objs.size) (ks.zip zl) { s with heap := s.heap.push ({ cls := .type "dict", data := .dict #[] } : Obj) } [] (Heap.DictOf.new s.heap) (fun _ h => by cases h) (by rw [hk1]; exact nd) fun h' t' sb hdict => wpAny_pure ?_)
  have keep : ∀ b o, s.heap.get? b = some o → h'.get? b = some o := fun b o e => by rw [sb.2 b (Nat.ne_of_lt (Heap.lt_size e))]; exact Heap.get?_push_of_some _ e
  have hl2 : ((ks.map fun k => (Sum.inr k : Key)).zip zv).length ≤ sizeLine := by rw [List.length_zip, List.length_map, sizeLine_eq]; omega
  have new : ObjOk P w (upd H s.heap.objs.size (.dK ((ks.map fun k => (Sum.inr k : Key)).zip zv))) h' s.heap.objs.size (.dK ((ks.map fun k => (Sum.inr k : Key)).zip zv)) :=
    ⟨hl2, beq_eq_false_iff_ne.mpr (Ne.symm (Nat.ne_of_lt (StX.env0_big at0))), _, kw_kv rz, by rw [List.nil_append] at hdict; exact hdict⟩
  have un : Un (frs outer) [] H (upd H s.heap.objs.size (.dK ((ks.map fun k => (Sum.inr k : Key)).zip zv))) s.heap ({ s with heap := h', toks := t' } : Shared).heap := Un.laid keep (Nat.le_refl _) hn0
  obtain ⟨rp2, x2⟩ := rp.laid (u := .dK ((ks.map fun k => (Sum.inr k : Key)).zip zv)) (o := .dct (kwU ks zs)) hn0 ⟨_, upd_same, (kw_rel ruz hlz).ext (fun b v e g => ⟨by rw [upd_ne (ne_of_none e hn0)]; exact e, g⟩) rp⟩
  have e2 : Env0 P w K mg base A outer { s with heap := h', toks := t' } (upd H s.heap.objs.size (.dK ((ks.map fun k => (Sum.inr k : Key)).zip zv))) := by
    refine ⟨at0.frames, at0.mod, fun b x e => ⟨keep b x (at0.bs b x e).1, ?_⟩, ?_, Heap.FunFrames.of_keeps (fun b x e _ => ⟨x, keep b x e, rfl⟩) at0.funs, fun b hb => ?_, at0.hok.laid keep (Nat.le_refl _) new, at0.bare⟩
    · rw [upd_ne (Nat.ne_of_lt (Heap.lt_size (at0.bs b x e).1))]; exact (at0.bs b x e).2
    · have lt := new.lt
      exact Nat.le_trans at0.bsz (Nat.le_of_lt lt)
    · obtain ⟨_, x, hx, _⟩ := at0.funs.mem hb
      rw [upd_ne (Nat.ne_of_lt (Heap.lt_size hx))]
      exact at0.frf b hb
  have hw := want _ (rp.fresh hn0)
  have hx : ∀ e s', L2.CX P w outer (upd H s.heap.objs.size (.dK ((ks.map fun k => (Sum.inr k : Key)).zip zv))) { s with heap := h', toks := t' } (LX K (upd H s.heap.objs.size (.dK ((ks.map fun k => (Sum.inr k : Key)).zip zv))) (gup G s.heap.objs.size (.dct (kwU ks zs))) E) e s' → L2.CX P w outer H s (LX K H G E) e s' := fun e s' q => by
    obtain ⟨a, B, H', cls, d, ea, fl, hok, ub, na, os, ag, he⟩ := StX.cxUp outer s H { s with heap := h', toks := t' } (upd H s.heap.objs.size (.dK ((ks.map fun k => (Sum.inr k : Key)).zip zv))) _ e s' un keep rfl q
    exact ⟨a, B, H', cls, d, ea, fl, hok, ub, na, os, ag, he.trans x2⟩
  revert x2 rp2 hx un e2 hw
  clear new hdict keep sb
  have os2' : ({ s with heap := h', toks := t' } : Shared).os = s.os := rfl
  revert os2'
  generalize ({ s with heap := h', toks := t' } : Shared) = s2
  generalize gup G s.heap.objs.size (.dct (kwU ks zs)) = G2
  generalize upd H s.heap.objs.size (.dK ((ks.map fun k => (Sum.inr k : Key)).zip zv)) = H2
  generalize s.heap.objs.size = pt
  intro os2 un rp2 x2 e2 hw hx
  have lim : s2.heap.NoLimit := at0.mod.nolimit.keeps fun b o e => (e2.bs b o e).1
  refine wpAny_newFunctionEnv_cells (s := s2) S.kind (fun q hq => ?_) fun env he s1 x => ?_
  · rcases S.par q.1 (by have := List.of_mem_zip (show (q.1, q.2) ∈ [pd].zip [Value.ref pt] from hq); exact this.1) with z | z
    · exact .inl z
    · exact .inr ⟨z, PySem.W.cellsFrom_some _ _ _ (.inl z)⟩
  subst he
  refine ⟨lim.keeps x.toInCall.keep, codeAny_func ?_⟩
  have I0 : Inv (cxU P w K mg base N qual scope f cdv A outer s2 H2 (LX K H2 G2 E)) [] (L2.start N [V.ref pt]) H2 s1 := inv_start S room.rm.hd e2 rfl (.cons rfl .nil) x
  have hT : RelUs K H2 [.ref pt] [V.ref pt] := ⟨_, _, rfl, rfl, rfl⟩
  have body_ := (hb cdv A outer s2 H2 G2 E (room.deeper _)).run [] s1 (L2.start N [V.ref pt]) H2 (ustart n [.ref pt]) G2 (endsU Q E) I0 (relS_start hn hT) rp2 (hsp _ G2 Q E hw)
    fun c d σ' H' ⟨y, us', G', x1, rp', _, q, G3, sb, z⟩ => ⟨y, G3, sb.ext x1, sb.rep rp', q, z⟩
  have done_ : ∀ {σ' : L2.St} {H' : Hp} {v : V} {u : Value} {s' : Shared}, Inv (cxU P w K mg base N qual scope f cdv A outer s2 H2 (LX K H2 G2 E)) [] σ' H' s' → RelV v u → LV K H2 G2 (KF Q) v H' → L2.CE outer P w H s (LV K H G Q) u s' :=
    fun {σ' H' v u s'} J r q => ⟨v, H', J.os.trans os2, J.bare, un.trans J.base, J.hok, r, (lv_forget q).trans x2⟩
  refine wpAny_mono body_ (fun fl s' hs => ?_) fun e s' hs => wpAny_mono hs (fun _ s'' z => hx e s'' z) fun e' s'' z => hx e' s'' z
  cases fl with
  | next =>
    obtain ⟨σ', H', J, us', G', x1, rp', _, q⟩ := hs
    exact done_ (v := V.non) (u := Value.none) J rfl ⟨.non, G', x1, rp', rfl, q⟩
  | ret u =>
    obtain ⟨v, σ', H', J, r, q⟩ := hs
    exact done_ J r q
  | brk =>
    obtain ⟨_, _, _, _, _, _, _, _, q⟩ := hs
    exact q.elim
  | cont =>
    obtain ⟨_, _, _, _, _, _, _, _, q⟩ := hs
    exact q.elim
structure KnownK (P : Program) (w : World) (K : PySem.W.Frag) (mg : Str → Option Value) (base : Heap) (d : DD) (k : Nat) (sp : USp) : Prop where
  F : FnKwU P w K mg base k (d.at_ K) sp
  D : FunD K d.name d.qual d.params d.body d.scope (d.dvs K) (d.kws K) (d.at_ K) (fdOf K (d.at_ K))
/-- C.m(k=.., ..), m a static method f(**d) of C -/
def tUStatK (c : String) (sp : USp) (ks : List Str) (to : UTE) (tk : UTA) : UTE := fun us G Q E => to us G (fun x G0 => x = .glo c ∧ tk us G0 (fun zs G1 => zs.length = ks.length ∧ ∀ d, G1 d = none → sp [.ref d] (gup G1 d (.dct (kwU ks zs))) Q E) E) E
section
variable {X : Cx} {W : WX} {o : Expr} {kws : List Keyword} {to : UTE} {tk : UTA} {pos apos : Pos} {k : Nat} {ks : List Str} {sp : USp} {d : DD} {c m : String}
theorem eu_statK {pls : Sem Bool} (kn : KnownK X.prog X.w X.K X.mg X.base d k sp) (hr : RoomU k X.A) (hs : statB c m X.K = true) (hat : d.at_ X.K = wAt c m "staticmethod" X.K) (hT : Takes X W)
    (ho : EU X W o to) (hkw : KU X W kws tk) (h3 : ks.length ≤ 3) (nd : ks.Nodup)
    (hall : (backToKw pos (keywordEach kws X.env)).all (·.1.isSome) = true) (hks : (backToKw pos (keywordEach kws X.env)).filterMap (·.1) = ks)
    (hpl : ((backTo pos (starEach [] X.env)).any (·.1) || (backToKw pos (keywordEach kws X.env)).any (·.1.isNone)) = false)
    (ht : eval (.Call (.Attribute o (S m) apos) [] kws pos) X.env = (do
      let ov ← eval o X.env
      standAt apos.atName
      let (f, first) ← holding [ov] (getMethod ov (S m) pls)
      callWith pos f first (backTo pos (starEach [] X.env)) (backToKw pos (keywordEach kws X.env)))) :
    EU X W (.Call (.Attribute o (S m) apos) [] kws pos) (tUStatK c sp ks to tk) := by
  obtain ⟨r1, r2, r3, rest, r4⟩ := stat_of hs
  refine ⟨fun pins s σ H us G Q E I rs rp h hx => ?_⟩
  refine PySem.W.methodCall_KW (pl := pls) (thn (ho.run pins s σ H us G _ E I rs rp h hx) fun u s1 ⟨x, H1, I1, rx, w, G1, x1, rp1, rw_, q⟩ => ?_) ht
  obtain ⟨rfl, q⟩ := q
  have ex : x = .ref (He.ga X.K (S c)) := rw_
  subst ex
  obtain rfl : u = Value.ref (He.ga X.K (S c)) := rx
  have hx1 : ∀ c d H', LX X.K H1 G1 E c d H' → W c d σ H' := fun c d H' z => hx c d H' (z.trans x1)
  refine PySem.W.method_cls I1.kIn r2 (PySem.W.cls_bind I1.kIn r1 r3 (wpAny_call (PySem.W.sm_get (s := { s1 with toks := s1.toks + 1 }) I1.kIn r4 (PySem.W.handed_on rfl ?_))))
  rw [← hat]
  have I2 := I1.tok (s1.toks + 1)
  refine call_with (first := []) (ta := tUNil) (ks := ks) (R := fun vs zs G2 => match vs with | [] => zs.length = ks.length ∧ ∀ d, G2 d = none → sp [.ref d] (gup G2 d (.dct (kwU ks zs))) Q E | _ => False) kn.D.kp au_nil hkw unst_nil hall hks hpl I2 (rs.ext x1 rp) rp1 q hx1 fun s2 H2 G2 vs zs vv zv vl zl I3 x2 rp2 rv rz ru ruz q2 => ?_
  cases vs with
  | cons y ys => exact q2.elim
  | nil =>
    obtain ⟨l1, q2⟩ := q2
    obtain rfl : vv = [] := ru
    cases rv
    refine wpAny_call (codeAny_mono (kn.F.run X.A X.stack s2 H2 ks zl zv zs G2 Q E hr ⟨I3.ok.frames, I3.env0.mod, I3.env0.bs, I3.env0.bsz, I3.env0.funs, I3.env0.frf, I3.env0.hok, I3.env0.bare⟩ rz ruz rp2 l1 h3 nd q2) fun r s' hq => ?_)
    cases r with
    | error e => exact hT e s' (XE.of_call I3 (fun c d H' z => hx1 c d H' (z.trans x2)) hq)
    | ok fl =>
      cases fl with
      | ret u => exact ep_imp (fun v H' q => (q.trans x2).trans x1) (I3.after hq)
      | next => exact False.elim hq
      | brk => exact False.elim hq
      | cont => exact False.elim hq
theorem x_statK {us : USt} {G : Gp} {Q : UK} {E : UX} : tUStatK c sp ks to tk us G Q E = to us G (fun x G0 => x = .glo c ∧ tk us G0 (fun zs G1 => zs.length = ks.length ∧ ∀ d, G1 d = none → Call sp [.ref d] (gup G1 d (.dct (kwU ks zs))) Q E) E) E := (rfl)
theorem e_kwU {k : Str} {z : U} {zs : List U} {ks : List Str} : kwU (k :: ks) (z :: zs) = (.str k.cps.toList, z) :: kwU ks zs := (rfl)
theorem e_kwU0 : kwU [] [] = [] := (rfl)
end
def tULockX (t : UTS) : UTS := fun D us G => ∃ d kvs, G d = some (.dct kvs) ∧ ∀ od gs, t { nx := fun us' G' => G' d = some (.dcr od gs kvs) ∧ D.nx us' (gup G' d (.dct kvs)), rt := fun u G' => G' d = some (.dcr od gs kvs) ∧ D.rt u (gup G' d (.dct kvs)), bk := fun us' G' => G' d = some (.dcr od gs kvs) ∧ D.bk us' (gup G' d (.dct kvs)), ct := fun us' G' => G' d = some (.dcr od gs kvs) ∧ D.ct us' (gup G' d (.dct kvs)), ex := D.ex } us (gup G d (.dcr od gs kvs))
theorem su_lockX {X : Cx} {W : WX} {st : Stmt} {t : UTS} (h : SU X W st t) : SU X W st (tULockX t) := by
  have P : PS X st (lS X.K W t) := ⟨fun pins s σ H D I ⟨us, G, Du, rs, rp, ht, h1, h2, h3, h4, h5⟩ => thn (h.run pins s σ H us G Du I rs rp ht h5) fun f s' q => sp_imp h1 h2 h3 h4 q⟩
  refine ⟨fun pins s σ H us G D I rs rp ⟨d, kvs, g, q⟩ hx => (ps_lock P).run pins s σ H (lD X.K H G D) I ?_⟩
  obtain ⟨gs, e, on⟩ := lock_on rp g
  refine ⟨d, .dK gs, e, True.intro, fun od => ?_⟩
  obtain ⟨rp1, x1⟩ := on od
  have one : ∀ {P : USt → Gp → Prop} {σ' : L2.St} {H' : Hp}, LS X.K (upd H d (.frz od (.dK gs))) (gup G d (.dcr od gs kvs)) (fun us' G' => G' d = some (.dcr od gs kvs) ∧ P us' (gup G' d (.dct kvs))) σ' H' → H' d = some (.frz od (.dK gs)) ∧ LS X.K H G P σ' (upd H' d (.dK gs)) := by
    rintro P σ' H' ⟨us', G', x2, rp2, rs2, g2, q2⟩
    obtain ⟨e2, rp3, x3⟩ := lock_off rp2 g2
    exact ⟨e2, us', _, (x1.trans x2).trans x3, rp3, rs2.ext x3 rp2, q2⟩
  refine ⟨us, _, _, rs.ext x1 rp, rp1, q od gs, fun σ' H' z => one z, fun v H' ⟨u, G', x2, rp2, ru, g2, q2⟩ => ?_, fun σ' H' z => one z, fun σ' H' z => one z, fun c d σ' H' z => hx c d σ' H' (z.trans x1)⟩
  obtain ⟨e2, rp3, x3⟩ := lock_off rp2 g2
  exact ⟨e2, u, _, (x1.trans x2).trans x3, rp3, ru.ext x3 rp2, q2⟩
theorem lockX {t : UTS} {D : UEnds} {us : USt} {G : Gp} {d : Addr} {kvs : List (U × U)} (g : G d = some (.dct kvs)) (h : ∀ od gs, t { nx := fun us' G' => G' d = some (.dcr od gs kvs) ∧ D.nx us' (gup G' d (.dct kvs)), rt := fun u G' => G' d = some (.dcr od gs kvs) ∧ D.rt u (gup G' d (.dct kvs)), bk := fun us' G' => G' d = some (.dcr od gs kvs) ∧ D.bk us' (gup G' d (.dct kvs)), ct := fun us' G' => G' d = some (.dcr od gs kvs) ∧ D.ct us' (gup G' d (.dct kvs)), ex := D.ex } us (gup G d (.dcr od gs kvs))) : tULockX t D us G := ⟨d, kvs, g, h⟩
end UL
set_option maxHeartbeats 1000000
namespace WW
open PySem PySem.Spec PyProof.Rows L2 UL
local macro_rules | `(tactic| simp_arith! [$ls,*]) => `(tactic| (try (simp (discharger := assumption) only [↓x_var, ↓x_c, ↓x_op, ↓x_and, ↓x_nil, ↓x_cons, ↓x_test, ↓x_not, ↓x_bOr, ↓x_tru, ↓x_call, ↓x_def, ↓x_bm, ↓x_u1, ↓x_u2, ↓x_seq, ↓x_next, ↓x_ret, ↓x_ifSC, ↓x_asg, ↓x_gname, ↓x_for, ↓x_any, ↓x_lc, ↓x_fld, ↓x_fldU, ↓x_gfld, ↓x_setF, ↓x_make, ↓x_raise, ↓x_eqI, ↓x_eqS, ↓x_leS, ↓x_inS1, ↓x_notInS1, ↓x_lenS, ↓x_iterT, ↓x_iterS, ↓x_tyS, ↓x_join, ↓x_strS, ↓x_fmtS, ↓x_fmt, ↓x_js0, ↓x_js, ↓x_truB, ↓x_isi, e_condT, e_condF, slotK_s, asBl_s, asStr_s, getIns_s, getO_s, getUs_s, getLs_s, seq_l, isiK_s, isi_bb, isiOk_b, td_S, tdC_t, fget_nil, fget_cons, fput_nil, fput_cons, src_p, getD_0, getD_s, uwipe_nil, uwipe_cons, len_cons, e_strsOnes, e_joinOnes, e_sumOnes, List.getElem?_cons_zero, List.getElem?_cons_succ, List.set_cons_zero, List.set_cons_succ, List.map_cons, List.map_nil, List.length_nil, List.length_cons, true_and, and_true, endsU, ustart, List.replicate, List.cons_append, List.nil_append, List.append_nil, List.unzip_cons, List.unzip_nil, Bool.not_true, Bool.not_false, decide_true, decide_false, tyNames, fldsOf, List.mem_cons, gup_gup, gup_same, if_true, List.zip_cons_cons, List.zip_nil_left, Bool.and_true, Bool.true_and, Bool.and_false, Bool.false_and, Bool.or_false, Bool.or_true, Bool.true_or, Bool.false_or, Nat.reduceAdd, Nat.reduceSub, String.reduceEq, Nat.reduceLeDiff, or_true, true_or, false_or, or_false, not_false_eq_true, Nat.mul_zero, Nat.add_zero, Nat.zero_add, Option.isSome_some, Nat.reduceLT, List.not_mem_nil, Int.reduceEq, and_self, Int.cast_ofNat_Int, Int.reduceLT, Int.reduceAdd, Int.reduceSub, $ls,*])))
local macro_rules | `(tactic| simp_arith [$ls,*]) => `(tactic| (simp_arith! [$ls,*]; (repeat ((first | with_reducible refine scondT ?_ | with_reducible refine scondF ?_ | with_reducible refine condT ?_ | with_reducible refine condF ?_); simp_arith! [$ls,*]))))
local macro_rules | `(tactic| walk_at "usub") => `(tactic| (refine Sub.ofE ?_; (repeat (refine SubE.left ?_ (Or.inr (by first | assumption | simp (discharger := assumption) only [gup_same, gup_ne, gup_neS, gup_nN, gup_nNS, *])))); (repeat (refine SubE.put ?_ (by first | exact Or.inr (Or.inl (by assumption)) | exact Or.inr (Or.inr (by assumption)) | exact Or.inl (by simp) | exact Or.inr (Or.inr (by simp (discharger := assumption) only [gup_same, gup_ne, gup_neS, gup_nN, gup_nNS, *]))))); exact SubE.refl))
/-- strictly ascending behind o, of letters -/
def ascB : List Nat → List Nat → Bool
  | _, [] => true
  | o, c :: l => decide (c ∈ M52) && (decide (o < [c]) && ascB [c] l)
def conB (l : List Nat) : Bool := ascB [] l
def conU : U → Bool
  | .str l => conB l
  | _ => false
theorem M52_len : M52.length = 52 := by decide
theorem M52_pw : M52.Pairwise (· < ·) := by decide
theorem lt1 {p c : Nat} : ([p] < [c]) ↔ p < c := by
  simp [List.cons_lt_cons_iff]
theorem asc_iff : ∀ (l : List Nat) (p : Nat), ascB [p] l = true ↔ ((∀ c ∈ l, p < c) ∧ l.Pairwise (· < ·) ∧ ∀ c ∈ l, c ∈ M52)
  | [], o => by simp [ascB]
  | c :: l, p => by
    unfold ascB
    rw [Bool.and_eq_true, Bool.and_eq_true, decide_eq_true_eq, decide_eq_true_eq, asc_iff l c, lt1]
    simp
    constructor
    · rintro ⟨h1, h0, h2, h3, h4⟩
      exact ⟨⟨h0, fun a ha => Nat.lt_trans h0 (h2 a ha)⟩, ⟨h2, h3⟩, h1, h4⟩
    · rintro ⟨⟨h0, h5⟩, ⟨h2, h3⟩, h1, h4⟩
      exact ⟨h1, h0, h2, h3, h4⟩
theorem con_iff {l : List Nat} : conB l = true ↔ l.Pairwise (· < ·) ∧ ∀ c ∈ l, c ∈ M52 := by
  unfold conB
  cases l with
  | nil => simp [ascB]
  | cons c l =>
    unfold ascB
    rw [Bool.and_eq_true, Bool.and_eq_true, decide_eq_true_eq, asc_iff l c]
    simp
    constructor
    · rintro ⟨h1, h2, h3, h4⟩
      exact ⟨⟨h2, h3⟩, h1, h4⟩
    · rintro ⟨⟨h2, h3⟩, h1, h4⟩
      exact ⟨h1, h2, h3, h4⟩
theorem sorted_ext : ∀ {l m : List Nat}, l.Pairwise (· < ·) → m.Pairwise (· < ·) → (∀ c, c ∈ l ↔ c ∈ m) → l = m
  | [], [], _, _, _ => rfl
  | [], c :: m, _, _, h => absurd ((h c).mpr List.mem_cons_self) (by simp)
  | c :: l, [], _, _, h => absurd ((h c).mp List.mem_cons_self) (by simp)
  | c :: l, d :: m, h1, h2, h => by
    rw [List.pairwise_cons] at h1 h2
    have e : c = d := by
      rcases List.mem_cons.mp ((h c).mp List.mem_cons_self) with z | z
      · exact z
      · rcases List.mem_cons.mp ((h d).mpr List.mem_cons_self) with y | y
        · exact y.symm
        · have := h1.1 d y
          have := h2.1 c z
          omega
    subst e
    rw [sorted_ext h1.2 h2.2 fun a => ?_]
    constructor
    · intro ha
      have := h1.1 a ha
      rcases List.mem_cons.mp ((h a).mp (List.mem_cons_of_mem _ ha)) with z | z
      · omega
      · exact z
    · intro ha
      have := h2.1 a ha
      rcases List.mem_cons.mp ((h a).mpr (List.mem_cons_of_mem _ ha)) with z | z
      · omega
      · exact z
/-- contents are what they hold -/
theorem con_filter {l : List Nat} (h : conB l = true) (p : Nat → Bool) : l.filter p = M52.filter fun k => decide (k ∈ l) && p k := by
  obtain ⟨h1, h2⟩ := con_iff.mp h
  refine sorted_ext (h1.sublist List.filter_sublist) (M52_pw.sublist List.filter_sublist) fun c => ?_
  simp only [List.mem_filter, Bool.and_eq_true, decide_eq_true_eq]
  exact ⟨fun ⟨a, b⟩ => ⟨h2 c a, a, b⟩, fun ⟨_, a, b⟩ => ⟨a, b⟩⟩
theorem con_self {l : List Nat} (h : conB l = true) : l = M52.filter fun k => decide (k ∈ l) := by
  have := con_filter h fun _ => true
  rw [List.filter_eq_self.mpr fun _ _ => rfl] at this
  simpa using this
theorem con_M (p : Nat → Bool) : conB (M52.filter p) = true := con_iff.mpr ⟨M52_pw.sublist List.filter_sublist, fun c hc => (List.mem_filter.mp hc).1⟩
theorem con_len {l : List Nat} (h : conB l = true) : l.length ≤ 52 := by
  rw [con_self h]
  exact Nat.le_trans (List.length_filter_le _ _) (by decide)
theorem con_big {l : List Nat} (h : conB l = true) : l.length ≤ 1000000 := by
  have := con_len h
  omega
theorem con_mem {l : List Nat} {c : Nat} (h : conB l = true) (hc : c ∈ l) : c ∈ M52 := (con_iff.mp h).2 c hc
def unionL (a b : List Nat) : List Nat := M52.filter fun k => decide (k ∈ a) || decide (k ∈ b)
def sharedL (a b : List Nat) : List Nat := a.filter fun k => decide (k ∈ b)
def diffL (a b : List Nat) : List Nat := a.filter fun k => !decide (k ∈ b)
def oddL (a b : List Nat) : List Nat := unionL (diffL a b) (diffL b a)
def sp_is_contents : USp := fun us G Q _ => match us with
  | [u] => (tdOf G u).isSome = true ∧ Q (.bl (conU u)) G
  | _ => False
def sp_contents_cross : USp := fun us G Q _ => match us with
  | [.str l] => Q (.bl (l.all fun k => decide (k ∈ C26))) G
  | _ => False
def sp2 (f : List Nat → List Nat → List Nat) : USp := fun us G Q _ => match us with
  | [.str a, .str b] => a.length ≤ 1000 ∧ b.length ≤ 1000 ∧ Q (.str (f a b)) G
  | _ => False
def sp_union : USp := sp2 unionL
def sp_shared_marks : USp := sp2 sharedL
def sp_difference : USp := sp2 diffL
def sp_odd_marks : USp := sp2 oddL
section
variable {G : Gp} {Q : UK} {E : UX} {u : U} {l a b : List Nat}
theorem x_is_contents : Call sp_is_contents [u] G Q E = ((tdOf G u).isSome = true ∧ Q (.bl (conU u)) G) := rfl
theorem x_contents_cross : Call sp_contents_cross [.str l] G Q E = Q (.bl (l.all fun k => decide (k ∈ C26))) G := rfl
theorem x_union : Call sp_union [.str a, .str b] G Q E = (a.length ≤ 1000 ∧ b.length ≤ 1000 ∧ Q (.str (unionL a b)) G) := rfl
theorem x_shared : Call sp_shared_marks [.str a, .str b] G Q E = (a.length ≤ 1000 ∧ b.length ≤ 1000 ∧ Q (.str (sharedL a b)) G) := rfl
theorem x_diff : Call sp_difference [.str a, .str b] G Q E = (a.length ≤ 1000 ∧ b.length ≤ 1000 ∧ Q (.str (diffL a b)) G) := rfl
theorem x_odd : Call sp_odd_marks [.str a, .str b] G Q E = (a.length ≤ 1000 ∧ b.length ≤ 1000 ∧ Q (.str (oddL a b)) G) := rfl
end
def t_is_contents : UTS := (tUSeq (tUIfSC (tUNot (tUTru (fun u G Q _ => truU u G Q) (tUCall (u2 (isiV [])) (tUCons (tUVar 0) (tUCons (tUC (.ty "str")) tUNil))))) (tUSeq (tURet (tUC (.bl false)))
    tUNext) tUNext)
    (tUSeq (tUAsg (tUC (.str [])) (gUName 1))
    (tUSeq (tUFor (tIAny (tUVar 0)) (gUName 2) (tUSeq (tUIfSC (tBOr (tUTest (tUOp notInU (tUVar 2) (tUC (.str M52)))) (tUTest (tUOp leU (tUVar 2) (tUVar 1)))) (tUSeq (tURet (tUC (.bl false)))
    tUNext) tUNext)
    (tUSeq (tUAsg (tUVar 2) (gUName 1))
    tUNext)))
    (tUSeq (tURet (tUC (.bl true)))
    tUNext))))
/- slots ['contents', 'mark'] -/
theorem law_is_contents (us : List U) (G : Gp) (Q : UK) (E : UX) (h : sp_is_contents us G Q E) : t_is_contents (endsU Q E) (ustart 3 us) G := by
  unfold sp_is_contents at h
  split at h
  · rename_i u
    obtain ⟨ht, q⟩ := h
    obtain ⟨t, ht⟩ := Option.isSome_iff_exists.mp ht
    simp_arith [t_is_contents, ht]
    cases u with
    | str l =>
      cases ht
      simp_arith []
      refine for_ind (fun items us' G' => ∃ (o : List Nat) (l' : List Nat) (v : Option U), items = sgs l' ∧ us' = [some (.str l), some (.str o), v] ∧ G' = G ∧ conB l = ascB o l') ?_ ?_ _ _ _ ⟨[], l, none, rfl, rfl, rfl, rfl⟩
      · rintro x xs us' G' N hN ⟨o, l', v, e1, rfl, rfl, e⟩
        cases l' with
        | nil => cases e1
        | cons c l' =>
          cases e1
          refine ⟨True.intro, ?_⟩
          have q' : conB l = false → KF Q (.bl false) G' := fun z => .now (z ▸ q)
          simp_arith []
          refine bcond (fun h => ?_) fun h => ?_
          · simp_arith []
            exact q' (by rw [e]; simp only [ascB]; rw [Bool.not_eq_true'] at h; rw [h]; rfl)
          · simp_arith []
            refine scond2 (fun h2 => ?_) fun h2 => ?_
            · simp_arith []
              exact q' (by rw [e]; simp only [ascB]; rw [Bool.not_eq_true'] at h2; rw [h2]; simp)
            · simp_arith []
              rw [Bool.not_eq_false'] at h h2
              exact hN _ _ ⟨_, _, _, rfl, rfl, rfl, by rw [e]; simp only [ascB]; rw [h, h2]; rfl⟩
      · rintro us' G' ⟨o, l', v, e1, rfl, rfl, e⟩
        cases l' with
        | cons c l' => cases e1
        | nil =>
          refine ⟨True.intro, ?_⟩
          simp_arith []
          refine .now ?_
          rw [show conU (.str l) = conB l from rfl, e] at q
          exact q
    | ref a =>
      have q' : Q (.bl false) G := q
      have e : isiF t (.b "str") = false := by
        rcases h : G a with _ | o
        · rw [td_R, h] at ht; cases ht
        · rw [td_R, h] at ht
          cases o <;> cases ht <;> rfl
      simp_arith [e]
      exact .now q'
    | ty _ => cases ht
    | glo _ => cases ht
    | exc => cases ht
    | _ =>
      cases ht
      simp_arith []
      exact .now q
  · exact h.elim
def boxO (l : List Nat) : Ob := .ins "Box" [("contents", .str l)]
def getBox (o : Option Ob) (Q : List Nat → Prop) (_ : Tag Q := ()) : Prop := ∃ l, o = some (boxO l) ∧ Q l
theorem e_box {l : List Nat} : Ob.ins "Box" [("contents", .str l)] = boxO l := (rfl)
theorem e_getIns_box {l : List Nat} {Q} : getIns (some (boxO l)) Q = Q "Box" [("contents", .str l)] := (rfl)
theorem e_tdOb_box {l : List Nat} : tdOb (some (boxO l)) = some (.o "Box") := (rfl)
theorem e_getBox {l : List Nat} {Q} : getBox (some (boxO l)) Q = Q l := by
  unfold getBox
  apply propext
  constructor
  · rintro ⟨m, e, h⟩
    cases e
    exact h
  · exact fun h => ⟨l, rfl, h⟩
theorem e_insEq_box {a b : List Nat} {K R} : insEq (some (boxO a)) (some (boxO b)) K R = K "Box" "Box" := (rfl)
theorem e_conS {l : List Nat} : conU (.str l) = conB l := (rfl)
def badBox (u : U) : UExc := ⟨"BadBox", [("contents", u)]⟩
theorem e_badBox {u : U} : (⟨"BadBox", [("contents", u)]⟩ : UExc) = badBox u := (rfl)
def sp_Box___init__ : USp := fun us G Q E => match us with
  | [.ref p, u] => getIns (G p) fun c fs => c = "Box" ∧ fs = [] ∧ (tdOf G u).isSome = true ∧ condP (conU u) (Q .non (gup G p (.ins "Box" [("contents", u)]))) (E (badBox u) G)
  | _ => False
def sp_Box_become : USp := fun us G Q E => match us with
  | [.ref p, u] => getBox (G p) fun _ => (tdOf G u).isSome = true ∧ condP (conU u) (Q .non (gup G p (.ins "Box" [("contents", u)]))) (E (badBox u) G)
  | _ => False
def smallU : U → Prop
  | .str l => l.length ≤ 1000000
  | _ => True
section
variable {G : Gp} {Q : UK} {E : UX} {u : U} {p q : Addr} {f : List Nat → List Nat → List Nat}
theorem x_Box_init : Call sp_Box___init__ [.ref p, u] G Q E = getIns (G p) fun c fs => c = "Box" ∧ fs = [] ∧ (tdOf G u).isSome = true ∧ condP (conU u) (Q .non (gup G p (.ins "Box" [("contents", u)]))) (E (badBox u) G) := (rfl)
theorem x_Box_become : Call sp_Box_become [.ref p, u] G Q E = getBox (G p) fun _ => (tdOf G u).isSome = true ∧ condP (conU u) (Q .non (gup G p (.ins "Box" [("contents", u)]))) (E (badBox u) G) := (rfl)
end
local macro_rules | `(tactic| simp_arith! [$ls,*]) => `(tactic| (try (simp (discharger := assumption) only [↓x_var, ↓x_c, ↓x_op, ↓x_and, ↓x_nil, ↓x_cons, ↓x_test, ↓x_not, ↓x_bOr, ↓x_tru, ↓x_call, ↓x_def, ↓x_bm, ↓x_u1, ↓x_u2, ↓x_seq, ↓x_next, ↓x_ret, ↓x_ifSC, ↓x_asg, ↓x_gname, ↓x_for, ↓x_any, ↓x_lc, ↓x_fld, ↓x_fldU, ↓x_gfld, ↓x_setF, ↓x_make, ↓x_raise, ↓x_eqI, ↓x_eqS, ↓x_leS, ↓x_inS1, ↓x_notInS1, ↓x_lenS, ↓x_iterT, ↓x_iterS, ↓x_tyS, ↓x_join, ↓x_strS, ↓x_fmtS, ↓x_fmt, ↓x_js0, ↓x_js, ↓x_truB, ↓x_isi, e_condT, e_condF, slotK_s, asBl_s, asStr_s, getIns_s, getO_s, getUs_s, getLs_s, seq_l, isiK_s, isi_bb, isiOk_b, td_S, tdC_t, fget_nil, fget_cons, fput_nil, fput_cons, src_p, getD_0, getD_s, uwipe_nil, uwipe_cons, len_cons, e_strsOnes, e_joinOnes, e_sumOnes, x_is_contents, x_contents_cross, x_union, x_shared, x_diff, x_odd, e_box, e_getIns_box, e_conS, e_badBox, x_Box_init, List.getElem?_cons_zero, List.getElem?_cons_succ, List.set_cons_zero, List.set_cons_succ, List.map_cons, List.map_nil, List.length_nil, List.length_cons, true_and, and_true, endsU, ustart, List.replicate, List.cons_append, List.nil_append, List.append_nil, List.unzip_cons, List.unzip_nil, Bool.not_true, Bool.not_false, decide_true, decide_false, tyNames, fldsOf, List.mem_cons, gup_gup, gup_same, if_true, List.zip_cons_cons, List.zip_nil_left, Bool.and_true, Bool.true_and, Bool.and_false, Bool.false_and, Bool.or_false, Bool.or_true, Bool.true_or, Bool.false_or, Nat.reduceAdd, Nat.reduceSub, String.reduceEq, Nat.reduceLeDiff, or_true, true_or, false_or, or_false, not_false_eq_true, Nat.mul_zero, Nat.add_zero, Nat.zero_add, Option.isSome_some, Nat.reduceLT, List.not_mem_nil, Int.reduceEq, and_self, Int.cast_ofNat_Int, Int.reduceLT, Int.reduceAdd, Int.reduceSub, $ls,*])))
local macro_rules | `(tactic| simp_arith [$ls,*]) => `(tactic| (simp_arith! [$ls,*]; (repeat ((first | with_reducible refine scondT ?_ | with_reducible refine scondF ?_ | with_reducible refine condT ?_ | with_reducible refine condF ?_); simp_arith! [$ls,*]))))
local macro_rules | `(tactic| walk_at "usub") => `(tactic| (refine Sub.ofE ?_; (repeat (refine SubE.left ?_ (Or.inr (by first | assumption | simp (discharger := assumption) only [gup_same, gup_ne, gup_neS, gup_nN, gup_nNS, *])))); (repeat (refine SubE.put ?_ (by first | exact Or.inr (Or.inl (by assumption)) | exact Or.inr (Or.inr (by assumption)) | exact Or.inl (by simp) | exact Or.inr (Or.inr (by simp (discharger := assumption) only [gup_same, gup_ne, gup_neS, gup_nN, gup_nNS, *]))))); exact SubE.refl))
/- slots ['self', 'contents'] -/
def t_Box___init__ : UTS := (tUSeq (tUIfSC (tUNot (tUTru (fun u G Q _ => truU u G Q) (tUDef sp_is_contents 1 0 [.p 0] [] [] (tUCons (tUVar 1) tUNil) tUNil))) (tUSeq (tURaise "BadBox" ["contents"] (tUCons (tUVar 1) tUNil))
    tUNext) tUNext)
    (tUSeq (tUAsg (tUVar 1) (gUFld "contents" (tUVar 0)))
    tUNext))
/- slots ['self', 'other'] -/
def t_Box_become : UTS := (tUSeq (tUIfSC (tUNot (tUTru (fun u G Q _ => truU u G Q) (tUDef sp_is_contents 1 0 [.p 0] [] [] (tUCons (tUVar 1) tUNil) tUNil))) (tUSeq (tURaise "BadBox" ["contents"] (tUCons (tUVar 1) tUNil))
    tUNext) tUNext)
    (tUSeq (tUAsg (tUVar 1) (gUFld "contents" (tUVar 0)))
    tUNext))
/- slots ['self', 'other'] -/
theorem law_Box___init__ (us : List U) (G : Gp) (Q : UK) (E : UX) (h : sp_Box___init__ us G Q E) : t_Box___init__ (endsU Q E) (ustart 2 us) G := by
  unfold sp_Box___init__ at h
  split at h
  · rename_i p u
    cases hp : G p with
    | none => rw [hp] at h; exact h.elim
    | some o =>
      rw [hp] at h
      cases o <;> try exact False.elim h
      obtain ⟨rfl, rfl, ht, q⟩ := (show _ ∧ _ ∧ _ ∧ _ from h)
      simp_arith [t_Box___init__, ht, hp]
      refine scond2 (fun h2 => ?_) fun h2 => ?_
      · rw [Bool.not_eq_true'] at h2
        rw [h2] at q
        simp_arith []
        exact .now q
      · rw [Bool.not_eq_false'] at h2
        rw [h2] at q
        simp_arith [hp]
        exact .now q
  · exact h.elim
theorem law_Box_become (us : List U) (G : Gp) (Q : UK) (E : UX) (h : sp_Box_become us G Q E) : t_Box_become (endsU Q E) (ustart 2 us) G := by
  unfold sp_Box_become at h
  split at h
  · rename_i p u
    obtain ⟨l, hp, ht, q⟩ := h
    simp_arith [t_Box_become, ht, hp]
    refine scond2 (fun h2 => ?_) fun h2 => ?_
    · rw [Bool.not_eq_true'] at h2
      rw [h2] at q
      simp_arith []
      exact .now q
    · rw [Bool.not_eq_false'] at h2
      rw [h2] at q
      simp_arith [hp]
      exact .now q
  · exact h.elim
end WW
set_option maxHeartbeats 1000000
namespace LL
open PySem PySem.Spec PyProof.Rows L2 UL WW
def bagO (c a n : Int) (q : Addr) : Ob := .lst [.int c, .int a, .int n, .ref q]
def getBag (o : Option Ob) (Q : Addr → Prop) (_ : Tag Q := ()) : Prop := ∃ c a n q, o = some (bagO c a n q) ∧ Q q
def IntsU (us : List U) : Prop := ∃ ns, us = IntU ns
theorem e_bag {c a n : Int} {q : Addr} : Ob.lst [.int c, .int a, .int n, .ref q] = bagO c a n q := (rfl)
theorem e_getLst_bag {c a n : Int} {q : Addr} {Q} : getLst (some (bagO c a n q)) Q = Q [.int c, .int a, .int n, .ref q] := (rfl)
theorem e_getBag {c a n : Int} {q : Addr} {Q} : getBag (some (bagO c a n q)) Q = Q q := by
  unfold getBag
  apply propext
  constructor
  · rintro ⟨c', a', n', q', e, h⟩
    cases e
    exact h
  · exact fun h => ⟨c, a, n, q, rfl, h⟩
theorem e_IntsU {ns : List Int} : IntsU (IntU ns) = True := eq_true ⟨ns, rfl⟩
def seqS (G : Gp) : U → Option (List U)
  | .str l => some (sgs l)
  | x => seqOf G x
theorem e_seqS_s {G : Gp} {l : List Nat} : seqS G (.str l) = some (sgs l) := (rfl)
theorem e_seqS_r {G : Gp} {p : Addr} : seqS G (.ref p) = lstO (G p) := (rfl)
def sp_bag : USp := fun us G Q _ => match us with
  | [.rol ns, .int k] => IntsU ns ∧ 0 ≤ k ∧ ∀ c a n p q ms, G p = none → G q = none → q ≠ p → Q (.ref p) (gup (gup G q (.lst (IntU ms))) p (bagO c a n q))
  | _ => False
def sp_take : USp := fun us G Q _ => match us with
  | [.ref p, .int m] => (0 < m ∧ m < 1073741824) ∧ getBag (G p) fun q => getLst (G q) fun ms => IntsU ms ∧ q ≠ p ∧ ∀ r c a n, 0 ≤ r → r < m → Q (.int r) (gup G p (bagO c a n q))
  | _ => False
def sp_of : USp := fun us G Q _ => match us with
  | [.ref p, x] => x ≠ .ref p ∧ getUs (seqS G x) fun xs => 0 < xs.length ∧ xs.length ≤ 1000000 ∧ getBag (G p) fun q => getLst (G q) fun ms => IntsU ms ∧ q ≠ p ∧ ∀ u c a n, u ∈ xs → Q u (gup G p (bagO c a n q))
  | _ => False
section
variable {G : Gp} {Q : UK} {E : UX} {x : U} {p q : Addr} {k m : Int} {ns : List U}
theorem x_bag : Call sp_bag [.rol ns, .int k] G Q E = (IntsU ns ∧ 0 ≤ k ∧ ∀ c a n p q ms, G p = none → G q = none → q ≠ p → Q (.ref p) (gup (gup G q (.lst (IntU ms))) p (bagO c a n q))) := (rfl)
theorem x_take : Call sp_take [.ref p, .int m] G Q E = ((0 < m ∧ m < 1073741824) ∧ getBag (G p) fun q => getLst (G q) fun ms => IntsU ms ∧ q ≠ p ∧ ∀ r c a n, 0 ≤ r → r < m → Q (.int r) (gup G p (bagO c a n q))) := (rfl)
theorem x_of : Call sp_of [.ref p, x] G Q E = (x ≠ .ref p ∧ getUs (seqS G x) fun xs => 0 < xs.length ∧ xs.length ≤ 1000000 ∧ getBag (G p) fun q => getLst (G q) fun ms => IntsU ms ∧ q ≠ p ∧ ∀ u c a n, u ∈ xs → Q u (gup G p (bagO c a n q))) := (rfl)
end
local macro_rules | `(tactic| simp_arith! [$ls,*]) => `(tactic| (try (simp (discharger := assumption) only [↓x_var, ↓x_c, ↓x_op, ↓x_ifC, ↓x_nil, ↓x_cons, ↓x_lst, ↓x_test, ↓x_bAnd, ↓x_bOr, ↓x_call, ↓x_def, ↓x_u1, ↓x_seq, ↓x_next, ↓x_ret, ↓x_ifSC, ↓x_asg, ↓x_par, ↓x_gname, ↓x_gsub, ↓x_sl, ↓x_noPart, ↓x_part, ↓x_for, ↓x_any, ↓x_addI, ↓x_addS, ↓x_mulI, ↓x_modI, ↓x_fdivI, ↓x_powI, ↓x_eqI, ↓x_eqS, ↓x_ltI, ↓x_gtI, ↓x_geI, ↓x_inS1, ↓x_notInS1, ↓x_ixR, ↓x_ixT, ↓x_ixL, ↓x_ixS, ↓x_setL, ↓x_abs, ↓x_int, ↓x_intB, ↓x_lenR, ↓x_lenT, ↓x_lenS, ↓x_lenL, ↓x_listL, ↓x_slR, ↓x_iterS, e_condT, e_condF, slotK_s, asBl_s, asInt_s, getLst_s, getOb_s, getO_s, getUs_s, getN_s, lenOb_l, lstO_s, src_p, getD_0, getD_s, setAll_nil, setAll_cons, len_cons, e_bag, e_getLst_bag, e_getBag, e_IntsU, e_seqS_r, x_take, x_of, List.getElem?_cons_zero, List.getElem?_cons_succ, List.set_cons_zero, List.set_cons_succ, List.map_cons, List.map_nil, List.length_nil, List.length_cons, true_and, and_true, endsU, ustart, List.replicate, List.cons_append, List.nil_append, List.append_nil, Bool.not_true, Bool.not_false, decide_true, decide_false, List.mem_cons, List.reverse_cons, List.reverse_nil, gup_gup, gup_same, if_true, if_false, reduceIte, Bool.and_true, Bool.true_and, Bool.and_false, Bool.false_and, Bool.or_false, Bool.or_true, Bool.true_or, Bool.false_or, Nat.reduceAdd, Nat.reduceSub, String.reduceEq, Nat.reduceLeDiff, Nat.reduceEqDiff, atI_0, atI_1, atI_2, atI_3, gup_ne, gup_neS, or_true, true_or, false_or, or_false, ne_eq, not_false_eq_true, not_true_eq_false, reduceCtorEq, Nat.zero_add, U.ref.injEq, U.int.injEq, U.str.injEq, U.bl.injEq, Nat.reduceLT, List.not_mem_nil, Int.reduceEq, List.cons.injEq, and_self, Int.cast_ofNat_Int, Int.reduceToNat, Int.reduceLT, Int.reduceLE, Int.reduceNeg, Int.reduceAdd, Int.reduceSub, $ls,*])))
local macro_rules | `(tactic| simp_arith [$ls,*]) => `(tactic| (simp_arith! [$ls,*]; (repeat ((first | with_reducible refine scondT ?_ | with_reducible refine scondF ?_ | with_reducible refine condT ?_ | with_reducible refine condF ?_); simp_arith! [$ls,*]))))
local macro_rules | `(tactic| walk_at "usub") => `(tactic| (refine Sub.ofE ?_; (repeat (refine SubE.left ?_ (Or.inr (by first | assumption | simp (discharger := assumption) only [gup_same, gup_ne, gup_neS, gup_nN, gup_nNS, *])))); (repeat (refine SubE.put ?_ (by first | exact Or.inr (Or.inl (by assumption)) | exact Or.inr (Or.inr (by assumption)) | exact Or.inl (by simp) | exact Or.inr (Or.inr (by simp (discharger := assumption) only [gup_same, gup_ne, gup_neS, gup_nN, gup_nNS, *]))))); exact SubE.refl))
/- k02 _law_bag: slots ['_law_script', '_law_at', '_law_cell'] -/
def t_bag (c0 c1 : Int) : UTS := (tUSeq (tUAsg (tUIfC (tUTest (tUOp ltU (tUVar 1) (tUCall (u1 lenV) (tUCons (tUVar 0) tUNil)))) (tUCall (u1 absV) (tUCons (tUOp ixU0 (tUVar 0) (tUVar 1)) tUNil)) (tUC (.int 0))) (gUName 2))
    (tUSeq (tURet (tULst (tUCons (tUIfC (tUTest (tUOp geU (tUVar 2) (tUOp powU (tUC (.int 10)) (tUC (.int 18))))) (tUVar 2) (tUC (.int 0))) (tUCons (tUOp addU (tUC (.int c0)) (tUOp mulU (tUC (.int c1)) (tUVar 1))) (tUCons (tUVar 1) (tUCons (tUCall (u1 listV) (tUCons (tUSl (tUVar 0) tUNoPart (tUPart (tUC (.int 63)))) tUNil)) tUNil))))))
    tUNext))
/- k02 _law_take: slots ['_law_bag_here', '_law_many', '_law_cell', '_law_added', '_law_digit'] -/
def t_take (c0 c1 c2 c3 c4 c5 c6 c7 c8 : Int) : UTS := (tUSeq (tUIfSC (tUTest (tUOp gtU (tUOp ixU0 (tUVar 0) (tUC (.int 0))) (tUC (.int 0)))) (tUSeq (tUAsg (tUOp modU (tUCall (u1 intV) (tUCons (tUOp ixU0 (tUVar 0) (tUC (.int 0))) tUNil)) (tUVar 1)) (gUName 4))
    (tUSeq (tUAsg (tUOp fdivU (tUOp ixU0 (tUVar 0) (tUC (.int 0))) (tUVar 1)) (gUSub (tUVar 0) (tUC (.int 0)) setU0))
    (tUSeq (tURet (tUVar 4))
    tUNext))) tUNext)
    (tUSeq (tUAsg (tUOp addU (tUOp ixU0 (tUVar 0) (tUC (.int 2))) (tUC (.int 1))) (gUSub (tUVar 0) (tUC (.int 2)) setU0))
    (tUSeq (tUAsg (tUIfC (tUTest (tUOp neU (tUOp ixU0 (tUVar 0) (tUC (.int 3))) (tULst tUNil))) (tUOp ixU0 (tUOp ixU0 (tUVar 0) (tUC (.int 3))) (tUOp modU (tUOp ixU0 (tUVar 0) (tUC (.int 2))) (tUCall (u1 lenV) (tUCons (tUOp ixU0 (tUVar 0) (tUC (.int 3))) tUNil)))) (tUC (.int 0))) (gUName 2))
    (tUSeq (tUAsg (tUOp modU (tUCall (u1 intV) (tUCons (tUVar 2) tUNil)) (tUC (.int c0))) (gUName 3))
    (tUSeq (tUAsg (tUOp modU (tUCall (u1 intV) (tUCons (tUOp addU (tUOp addU (tUOp addU (tUOp mulU (tUOp ixU0 (tUVar 0) (tUC (.int 1))) (tUC (.int c7))) (tUVar 3)) (tUOp mulU (tUC (.int c5)) (tUOp ixU0 (tUVar 0) (tUC (.int 2))))) (tUC (.int c3))) tUNil)) (tUC (.int c1))) (gUSub (tUVar 0) (tUC (.int 1)) setU0))
    (tUSeq (tURet (tUOp modU (tUOp fdivU (tUOp modU (tUCall (u1 intV) (tUCons (tUOp mulU (tUOp fdivU (tUOp ixU0 (tUVar 0) (tUC (.int 1))) (tUC (.int c8))) (tUC (.int c6))) tUNil)) (tUC (.int c4))) (tUC (.int c2))) (tUVar 1)))
    tUNext))))))
/- k02 _law_of: slots ['_law_bag_here', '_law_some'] -/
def t_of : UTS := (tUSeq (tURet (tUOp ixU0 (tUVar 1) (tUDef sp_take 2 0 [.p 0, .p 1] [] [] (tUCons (tUVar 0) (tUCons (tUCall (u1 lenV) (tUCons (tUVar 1) tUNil)) tUNil)) tUNil)))
    tUNext)
theorem law_bag (c0 c1 : Int) (h01 : -(2 ^ 64) < c1 ∧ c1 < 2 ^ 64) (us : List U) (G : Gp) (Q : UK) (E : UX) (h : sp_bag us G Q E) : t_bag c0 c1 (endsU Q E) (ustart 3 us) G := by
  unfold sp_bag at h
  split at h
  · rename_i us' k
    obtain ⟨⟨ns, rfl⟩, hk, q⟩ := h
    have cp : CPow 10 18 := ⟨by decide, by decide, by decide⟩
    obtain ⟨ms, hms⟩ := cutU_ints ns none (some 63)
    simp_arith [t_bag]
    refine condM (fun u G' => G' = G ∧ ∃ z, u = .int z) (fun h => ?_) (fun h => ?_) ?_
    · have hlt := of_decide_eq_true h
      rw [intU_len] at hlt
      obtain ⟨z, _, hz⟩ := intU_at hk hlt
      simp_arith [hz]
      exact .now ⟨rfl, _, rfl⟩
    · simp_arith []
      exact .now ⟨rfl, _, rfl⟩
    · rintro u G' ⟨rfl, z, rfl⟩
      simp_arith [cp]
      refine condM (fun u G2 => G2 = G' ∧ ∃ z, u = .int z) (fun h => ?_) (fun h => ?_) ?_
      · simp_arith []
        exact .now ⟨rfl, _, rfl⟩
      · simp_arith []
        exact .now ⟨rfl, _, rfl⟩
      · rintro u G2 ⟨rfl, c, rfl⟩
        simp_arith [hms, cmul_l h01]
        intro p hp r hr z hz
        obtain ⟨r1, r2⟩ := gup_none hr
        obtain ⟨z1, z2⟩ := gup_none hz
        obtain ⟨z3, z4⟩ := gup_none z2
        exact KF.of (Sub.drop hp).gup.gup (q c (c0 + c1 * k) k z r ms z4 r2 (Ne.symm z1))
  · exact h.elim
theorem law_take (c0 c1 c2 c3 c4 c5 c6 c7 c8 : Int) (hc : 0 < c0 ∧ 0 < c1 ∧ (0 < c2 ∧ c2 < 1073741824) ∧ 0 < c4 ∧ (-(2 ^ 64) < c5 ∧ c5 < 2 ^ 64) ∧ (-(2 ^ 64) < c6 ∧ c6 < 2 ^ 64) ∧ (-(2 ^ 64) < c7 ∧ c7 < 2 ^ 64) ∧ 0 < c8 ∧ c8 < 1073741824)
    (us : List U) (G : Gp) (Q : UK) (E : UX) (h : sp_take us G Q E) : t_take c0 c1 c2 c3 c4 c5 c6 c7 c8 (endsU Q E) (ustart 5 us) G := by
  unfold sp_take at h
  split at h
  · rename_i p m
    obtain ⟨⟨m0, m1⟩, c, a, n, q, hp, h⟩ := h
    rw [← lst_ex] at h
    obtain ⟨_, hq, ⟨ms, rfl⟩, hne, q'⟩ := h
    obtain ⟨h0, h1, ⟨h2, h2'⟩, h4, h5, h6, h7, h8, h8'⟩ := hc
    have em : ∀ i : Int, 0 ≤ i % m := fun i => Int.emod_nonneg i (by omega)
    have lm : ∀ i : Int, i % m < m := fun i => Int.emod_lt_of_pos i m0
    simp_arith [t_take, hp, m0, m1]
    refine scond2 (fun h => ?_) fun h => ?_
    · simp_arith [hp, m0, m1, ixN]
      exact .now (q' _ _ _ _ (em _) (lm _))
    · simp_arith [hp, hq, ixN]
      intro r hr
      obtain ⟨r1, r2⟩ := gup_none hr
      have hqr : q ≠ r := ne_of_known hq r2
      have hpr : p ≠ r := Ne.symm r1
      refine ne_lists (ns := ms) (ms := []) (by simp_arith [hq]) (by simp_arith []; rfl) ?_
      simp_arith []
      refine condM (fun u G' => G' = gup G p (bagO c a (n + 1) q) ∧ ∃ z, u = .int z) (fun h => ?_) (fun h => ?_) ?_
      · have hl : (0 : Int) < (IntU ms).length := by
          rw [intU_len]
          have : ms ≠ [] := by simpa using h
          have := List.length_pos_iff.mpr this
          omega
        obtain ⟨z, _, hz⟩ := intU_at (ns := ms) (i := (n + 1) % ((IntU ms).length : Int)) (Int.emod_nonneg _ (by omega)) (by rw [← intU_len]; exact Int.emod_lt_of_pos _ hl)
        simp_arith [hq, hl, hz]
        exact ⟨_, Sub.drop hr, rfl, _, rfl⟩
      · simp_arith []
        exact ⟨_, Sub.drop hr, rfl, _, rfl⟩
      · rintro u G' ⟨rfl, z, rfl⟩
        simp_arith [ixN, h0, h1, h2, h2', h4, cmul_l h5, cmul_r h6, cmul_r h7, h8, h8', m0]
        exact .now (q' _ _ _ _ (em _) (lm _))
  · exact h.elim
theorem of_any {α : Type} {l : List α} {i : Int} (h0 : 0 ≤ i) (h1 : i < l.length) : ∃ c, c ∈ l ∧ atI l i = some c := by
  rw [atI_nn h0 h1]
  have : i.toNat < l.length := by omega
  exact ⟨l[i.toNat], List.getElem_mem this, List.getElem?_eq_getElem this⟩
theorem law_of (us : List U) (G : Gp) (Q : UK) (E : UX) (h : sp_of us G Q E) : t_of (endsU Q E) (ustart 2 us) G := by
  unfold sp_of at h
  split at h
  · rename_i p x
    obtain ⟨hx, h⟩ := h
    have h' : ∃ xs, seqS G x = some xs ∧ 0 < xs.length ∧ xs.length ≤ 1000000 ∧ ∃ c a n q ms, G p = some (bagO c a n q) ∧ G q = some (.lst (IntU ms)) ∧ q ≠ p ∧ ∀ u c a n, u ∈ xs → Q u (gup G p (bagO c a n q)) := by
      cases e : seqS G x with
      | none => rw [e] at h; exact h.elim
      | some xs =>
        rw [e] at h
        obtain ⟨l0, l1, c, a, n, q, hp, h⟩ := h
        rw [← lst_ex] at h
        obtain ⟨_, hq, ⟨ms, rfl⟩, hne, q'⟩ := h
        exact ⟨xs, rfl, l0, l1, c, a, n, q, ms, hp, hq, hne, q'⟩
    clear h
    obtain ⟨xs, e, l0, l1, c, a, n, q, ms, hp, hq, hne, q'⟩ := h'
    have b0 : (0 : Int) < (xs.length : Int) := by omega
    have b1 : (xs.length : Int) < 1073741824 := by omega
    cases x with
    | str l =>
      cases e
      have el : (sgs l).length = l.length := List.length_map _
      rw [el] at b0 b1 l0 l1
      simp_arith [t_of, l1, b0, b1, hp, hq, hne]
      intro r c' a' n' h0 h1
      obtain ⟨ch, hm, hat⟩ := of_any (l := l) h0 h1
      simp_arith [hat, l1]
      exact .now (q' _ _ _ _ (List.mem_map_of_mem hm))
    | tup ys =>
      cases e
      simp_arith [t_of, l1, b0, b1, hp, hq, hne]
      intro r c' a' n' h0 h1
      obtain ⟨u, hm, hat⟩ := of_any (l := xs) h0 h1
      simp_arith [hat]
      exact .now (q' _ _ _ _ hm)
    | rol ys =>
      cases e
      simp_arith [t_of, l1, b0, b1, hp, hq, hne]
      intro r c' a' n' h0 h1
      obtain ⟨u, hm, hat⟩ := of_any (l := xs) h0 h1
      simp_arith [hat]
      exact .now (q' _ _ _ _ hm)
    | ref b =>
      have hb : b ≠ p := fun z => hx (by rw [z])
      have hg : G b = some (.lst xs) := by
        have e' : lstO (G b) = some xs := e
        cases g : G b with
        | none => rw [g] at e'; cases e'
        | some o =>
          rw [g] at e'
          cases o <;> cases e'
          rfl
      simp_arith [t_of, l1, b0, b1, hp, hq, hne, hg]
      intro r c' a' n' h0 h1
      obtain ⟨u, hm, hat⟩ := of_any (l := xs) h0 h1
      simp_arith [hat, hg]
      exact .now (q' _ _ _ _ hm)
    | _ => cases e
  · exact h.elim
theorem bag_of {G : Gp} {p : Addr} {P : Addr → Prop} (h : getBag (G p) fun q => getLst (G q) fun ms => IntsU ms ∧ q ≠ p ∧ P q) : ∃ c a n q ms, G p = some (bagO c a n q) ∧ G q = some (.lst (IntU ms)) ∧ q ≠ p ∧ P q := by
  obtain ⟨c, a, n, q, hp, h⟩ := h
  rw [← lst_ex] at h
  obtain ⟨_, hq, ⟨ms, rfl⟩, hne, q'⟩ := h
  exact ⟨c, a, n, q, ms, hp, hq, hne, q'⟩
/-- marks taken from a part of the letters, in order -/
theorem con_snoc {l : List Nat} {i : Nat} (h : ∃ p : Nat → Bool, l = (M52.take i).filter p) (hi : i < 52) (b : Bool) : ∃ p : Nat → Bool, (if b then l ++ [M52[i]'(by rw [M52_len]; exact hi)] else l) = (M52.take (i + 1)).filter p := by
  obtain ⟨p, rfl⟩ := h
  have hi' : i < M52.length := by rw [M52_len]; exact hi
  have hn : M52[i] ∉ M52.take i := fun hm => by
    obtain ⟨j, hj, e⟩ := List.mem_take_iff_getElem.mp hm
    have hj' : j < i := by omega
    have := List.pairwise_iff_getElem.mp M52_pw j i (by omega) hi' hj'
    omega
  refine ⟨fun k => if k = M52[i] then b else p k, ?_⟩
  have e1 : (M52.take i).filter (fun k => if k = M52[i] then b else p k) = (M52.take i).filter p := by
    apply List.filter_congr
    intro k hk
    rw [if_neg fun z => hn (by rw [← z]; exact hk)]
  rw [List.take_succ_eq_append_getElem hi', List.filter_append, e1]
  cases b <;> simp
/- k02 _law_contents: slots ['_law_bag_here', '_law_mark', '_law_share', '_law_found'] -/
/-- boxes in a row, all different -/
def bx (G : Gp) : List Addr → List (List Nat) → Prop
  | [], [] => True
  | b :: bs, t :: ts => G b = some (boxO t) ∧ b ∉ bs ∧ bx G bs ts
  | _, _ => False
theorem bx_mem {G : Gp} : ∀ {bs : List Addr} {ts : List (List Nat)} {b : Addr}, bx G bs ts → b ∈ bs → ∃ t, G b = some (boxO t)
  | [], _, b, _, h => by cases h
  | b' :: bs, [], b, x, h => x.elim
  | b' :: bs, t :: ts, b, ⟨x1, x2, x3⟩, h => by
    rcases List.mem_cons.mp h with rfl | h
    · exact ⟨_, x1⟩
    · exact bx_mem x3 h
theorem bx_same {G G2 : Gp} : ∀ {bs : List Addr} {ts : List (List Nat)}, bx G bs ts → (∀ b ∈ bs, ∀ t, G b = some (boxO t) → G2 b = G b) → bx G2 bs ts
  | [], [], _, _ => True.intro
  | [], _ :: _, x, _ => x.elim
  | _ :: _, [], x, _ => x.elim
  | b :: bs, t :: ts, ⟨x1, x2, x3⟩, h => ⟨(h b List.mem_cons_self _ x1).trans x1, x2, bx_same x3 fun b hb => h b (List.mem_cons_of_mem _ hb)⟩
theorem bx_gup {G : Gp} {bs : List Addr} {ts : List (List Nat)} {p : Addr} {o : Ob} (x : bx G bs ts) (h : ∀ t, G p ≠ some (boxO t)) : bx (gup G p o) bs ts :=
  bx_same x fun b hb t e => gup_ne fun z => h t (by rw [← z]; exact e)
theorem bx_snoc {G : Gp} {r : Addr} {t : List Nat} (hr : G r = none) : ∀ {bs : List Addr} {ts : List (List Nat)}, bx G bs ts → bx (gup G r (boxO t)) (bs ++ [r]) (ts ++ [t])
  | [], [], _ => ⟨gup_same, by simp, True.intro⟩
  | [], _ :: _, x => x.elim
  | _ :: _, [], x => x.elim
  | b :: bs, t' :: ts, ⟨x1, x2, x3⟩ => by
    have e : b ≠ r := fun z => by rw [z, hr] at x1; cases x1
    exact ⟨by rw [gup_ne e]; exact x1, by simp [x2, e], bx_snoc hr x3⟩
theorem bx_len {G : Gp} : ∀ {bs : List Addr} {ts : List (List Nat)}, bx G bs ts → bs.length = ts.length
  | [], [], _ => rfl
  | [], _ :: _, x => x.elim
  | _ :: _, [], x => x.elim
  | b :: bs, t' :: ts, ⟨_, _, x3⟩ => congrArg (· + 1) (bx_len x3)
theorem bx_get {G : Gp} : ∀ {bs : List Addr} {ts : List (List Nat)} {i : Nat}, bx G bs ts → i < ts.length → ∃ b t, bs[i]? = some b ∧ ts[i]? = some t ∧ t ∈ ts ∧ G b = some (boxO t)
  | [], [], i, _, h => by cases h
  | [], _ :: _, _, x, _ => x.elim
  | _ :: _, [], _, x, _ => x.elim
  | b :: bs, t :: ts, 0, ⟨x1, _, _⟩, _ => ⟨b, t, rfl, rfl, List.mem_cons_self, x1⟩
  | b :: bs, t :: ts, i + 1, ⟨_, _, x3⟩, h => by
    obtain ⟨b', t', h1, h2, h3, h4⟩ := bx_get (i := i) x3 (by simpa using h)
    exact ⟨b', t', h1, h2, List.mem_cons_of_mem _ h3, h4⟩
theorem bx_put {G : Gp} {b : Addr} {t' : List Nat} : ∀ {bs : List Addr} {ts : List (List Nat)} {i : Nat}, bx G bs ts → bs[i]? = some b → bx (gup G b (boxO t')) bs (ts.set i t')
  | [], [], i, _, h => by cases h
  | [], _ :: _, _, x, _ => x.elim
  | _ :: _, [], _, x, _ => x.elim
  | b1 :: bs, t :: ts, 0, ⟨x1, x2, x3⟩, h => by
    cases h
    exact ⟨gup_same, x2, bx_same x3 fun c hc _ _ => gup_ne fun z => x2 (z ▸ hc)⟩
  | b1 :: bs, t :: ts, i + 1, ⟨x1, x2, x3⟩, h => by
    have hb : b ∈ bs := List.mem_of_getElem? h
    have e : b1 ≠ b := fun z => x2 (z ▸ hb)
    exact ⟨(gup_ne e).trans x1, x2, bx_put x3 h⟩
def strL (ts : List (List Nat)) : List U := ts.map U.str
def refL (bs : List Addr) : List U := bs.map U.ref
theorem strL_len {ts : List (List Nat)} : (strL ts).length = ts.length := List.length_map _
theorem bx_at {G : Gp} {bs : List Addr} {ts : List (List Nat)} {i : Int} (x : bx G bs ts) (h0 : 0 ≤ i) (h1 : i < ts.length) : ∃ b t, bs[i.toNat]? = some b ∧ atI (refL bs) i = some (.ref b) ∧ atI (strL ts) i = some (.str t) ∧ t ∈ ts ∧ G b = some (boxO t) := by
  obtain ⟨b, t, e1, e2, e3, e4⟩ := bx_get (i := i.toNat) x (by omega)
  have hl := bx_len x
  refine ⟨b, t, e1, ?_, ?_, e3, e4⟩
  · rw [atI_nn h0 (by unfold refL; rw [List.length_map]; omega)]
    unfold refL
    rw [List.getElem?_map, e1]
    rfl
  · rw [atI_nn h0 (by unfold strL; rw [List.length_map]; omega)]
    unfold strL
    rw [List.getElem?_map, e2]
    rfl
def Keep (p : Addr) (G G2 : Gp) : Prop := ∀ a o, a ≠ p → G a = some o → G2 a = some o
theorem Keep.refl {p : Addr} {G : Gp} : Keep p G G := fun _ _ _ h => h
theorem Keep.self {p : Addr} {G G2 : Gp} {o : Ob} (h : Keep p G G2) : Keep p G (gup G2 p o) := fun a u hn g => (gup_ne hn).trans (h a u hn g)
theorem Keep.new {p z : Addr} {G G2 : Gp} {o : Ob} (h : Keep p G G2) (hz : G2 z = none) : Keep p G (gup G2 z o) := fun a u hn g => by
  have e := h a u hn g
  rw [gup_ne fun x => by rw [x, hz] at e; cases e]
  exact e
theorem Keep.trans {p : Addr} {G G2 G3 : Gp} (h : Keep p G G2) (k : Keep p G2 G3) : Keep p G G3 := fun a u hn g => k a u hn (h a u hn g)
def okL (n : Nat) (l : List Nat) : Prop := l.length ≤ n ∧ ∀ c ∈ l, c < 1114112
theorem okL_cut {n : Nat} {l : List Nat} {a b : Option Int} (h : okL n l) : okL n (cutN l a b) := by
  unfold cutN
  exact ⟨Nat.le_trans (List.length_take_le' _ _) (by rw [List.length_drop]; have := h.1; omega), fun c hc => h.2 c (List.mem_of_mem_drop (List.mem_of_mem_take hc))⟩
theorem okL_app {n m : Nat} {a b : List Nat} (h : okL n a) (k : okL m b) : okL (n + m) (a ++ b) := by
  refine ⟨by rw [List.length_append]; exact Nat.add_le_add h.1 k.1, fun c hc => ?_⟩
  rcases List.mem_append.mp hc with z | z
  · exact h.2 c z
  · exact k.2 c z
theorem okL_add {n m : Nat} {a b : List Nat} (h : okL n a) (k : okL m b) (e : n + m ≤ 1000000) : a.length + b.length ≤ 1000000 := Nat.le_trans (Nat.add_le_add h.1 k.1) e
theorem okL_con {l : List Nat} (h : conB l = true) : okL 52 l := ⟨con_len h, fun c hc => (show ∀ c ∈ M52, c < 1114112 by decide) c (con_mem h hc)⟩
theorem shows_small {G : Gp} {u : U} {d : PyData} (h : Dat G u d) (h1 : d.showable = true) (h2 : d.depth ≤ 40) (h3 : d.leavesShort 60 = true) (h4 : d.weight ≤ 100000) : Shows G u d := by
  refine ⟨h, h1, h2, ?_⟩
  have h5 := PyData.shown_le 60 (by decide) d h3
  exact Nat.le_trans h5 (lim_line' (by omega))
theorem low8 {l : List Nat} (h : ∀ c ∈ l, c < 1114112) : (l.all fun c => decide (c < 16 ^ 8)) = true := by
  rw [List.all_eq_true]
  intro c hc
  have := h c hc
  exact decide_eq_true (by omega)
mutual
theorem dat_new {G G2 : Gp} (x : ∀ a o, G a = some o → G2 a = some o) : ∀ {u : U} {d : PyData}, Dat G u d → Dat G2 u d
  | _, _, .non => .non
  | _, _, .bl b => .bl b
  | _, _, .int i => .int i
  | _, _, .str l => .str l
  | _, _, .tup h => .tup (dats_new x h)
  | _, _, .lst g h => .lst (x _ _ g) (dats_new x h)
theorem dats_new {G G2 : Gp} (x : ∀ a o, G a = some o → G2 a = some o) : ∀ {us : List U} {ds : List PyData}, Dats G us ds → Dats G2 us ds
  | _, _, .nil => .nil
  | _, _, .cons h t => .cons (dat_new x h) (dats_new x t)
end
end LL
set_option maxHeartbeats 1000000
namespace WW
open PySem PySem.Spec PyProof.Rows L2 UL
local macro_rules | `(tactic| simp_arith! [$ls,*]) => `(tactic| (try (simp (discharger := assumption) only [↓x_var, ↓x_c, ↓x_op, ↓x_and, ↓x_nil, ↓x_cons, ↓x_tup, ↓x_test, ↓x_not, ↓x_bOr, ↓x_tru, ↓x_call, ↓x_def, ↓x_bm, ↓x_u1, ↓x_u2, ↓x_seq, ↓x_next, ↓x_ret, ↓x_ifSC, ↓x_asg, ↓x_gname, ↓x_gsub, ↓x_gtup, ↓x_gcons, ↓x_gnil, ↓x_for, ↓x_any, ↓x_lc, ↓x_fld, ↓x_fldU, ↓x_gfld, ↓x_setF, ↓x_raise, ↓x_meth, ↓x_eqS, ↓x_leI, ↓x_notInS1, ↓x_ixT, ↓x_lenS, ↓x_lenL, ↓x_tupleL, ↓x_iterT, ↓x_iterS, ↓x_iterL, ↓x_tyS, ↓x_join, ↓x_fmtS, ↓x_fmt, ↓x_js0, ↓x_js, ↓x_truB, ↓x_ap, ↓x_eqRR, ↓x_isi, ↓x_inRI, ↓x_cRI, ↓x_truQB, ↓x_strQ, ↓x_iZip, ↓x_zipLL, ↓x_chain, ↓x_chT, ↓x_kBl, ↓x_ixDs, ↓x_ixDt, ↓x_setDs, ↓x_inDs, ↓x_dict0, ↓x_del, ↓x_listAr, ↓x_sortedWL, e_condT, e_condF, slotK_s, asBl_s, asStr_s, asRef_s, getLst_s, getIns_s, getOb_s, getO_s, getUs_s, getLs_s, seq_t, seq_l, isiK_s, isi_bb, isiOk_b, isiOk_o, td_S, tdC_t, tdC_g, fget_nil, fget_cons, fput_nil, src_p, getD_0, getD_s, uwipe_nil, uwipe_cons, len_cons, e_getIns_box, e_insEq_box, e_badBox, e_asBlK, e_strsU_map, e_osome_n, e_osome_map, List.getElem?_cons_zero, List.getElem?_cons_succ, List.set_cons_zero, List.set_cons_succ, List.map_cons, List.map_nil, List.length_nil, List.length_cons, true_and, endsU, ustart, List.replicate, List.cons_append, List.nil_append, List.append_nil, List.unzip_cons, List.unzip_nil, cond_true, cond_false, Bool.not_true, Bool.not_false, decide_true, decide_false, tyNames, clsNames, fldsOf, List.mem_cons, gup_same, if_true, if_false, reduceIte, List.zip_cons_cons, List.zip_nil_left, Bool.true_and, Bool.and_false, Bool.false_and, Bool.or_false, Bool.or_true, Bool.true_or, Bool.false_or, Nat.reduceAdd, Nat.reduceSub, String.reduceEq, Nat.reduceLeDiff, atI_0, gup_ne, gup_neS, or_true, true_or, false_or, or_false, ne_eq, not_false_eq_true, not_true_eq_false, reduceCtorEq, List.length_map, Nat.add_zero, Nat.zero_add, Option.isSome_some, U.ref.injEq, U.int.injEq, U.str.injEq, U.bl.injEq, Nat.reduceLT, List.not_mem_nil, Int.reduceEq, List.cons.injEq, and_self, Int.reduceLT, Int.reduceAdd, Int.reduceSub, $ls,*])))
local macro_rules | `(tactic| simp_arith [$ls,*]) => `(tactic| (simp_arith! [$ls,*]; (repeat ((first | with_reducible refine scondT ?_ | with_reducible refine scondF ?_ | with_reducible refine condT ?_ | with_reducible refine condF ?_); simp_arith! [$ls,*]))))
local macro_rules | `(tactic| walk_at "usub") => `(tactic| (refine Sub.ofE ?_; (repeat (refine SubE.left ?_ (Or.inr (by first | assumption | simp (discharger := assumption) only [gup_same, gup_ne, gup_neS, gup_nN, gup_nNS, *])))); (repeat (refine SubE.put ?_ (by first | exact Or.inr (Or.inl (by assumption)) | exact Or.inr (Or.inr (by assumption)) | exact Or.inl (by simp) | exact Or.inr (Or.inr (by simp (discharger := assumption) only [gup_same, gup_ne, gup_neS, gup_nN, gup_nNS, *]))))); exact SubE.refl))
def nmB (l : List Nat) : Bool := decide (1 ≤ l.length) && (decide (l.length ≤ 13) && l.all fun c => decide (c ∈ C27))
def nmU : U → Bool
  | .str l => nmB l
  | _ => false
theorem e_nmS {l : List Nat} : nmU (.str l) = nmB l := (rfl)
def sp_is_name : USp := fun us G Q _ => match us with
  | [u] => (tdOf G u).isSome = true ∧ smallU u ∧ Q (.bl (nmU u)) G
  | _ => False
theorem x_is_name {G : Gp} {Q : UK} {E : UX} {u : U} : Call sp_is_name [u] G Q E = ((tdOf G u).isSome = true ∧ smallU u ∧ Q (.bl (nmU u)) G) := rfl
/- slots ['thing', 'letter'] -/
def t_is_name : UTS := (tUSeq (tUIfSC (tBOr (tUNot (tUTru (fun u G Q _ => truU u G Q) (tUCall (u2 (isiV [])) (tUCons (tUVar 0) (tUCons (tUC (.ty "str")) tUNil))))) (tUNot (tChT leU leU (tUC (.int 1)) (tUCall (u1 lenV) (tUCons (tUVar 0) tUNil)) (tUC (.int 13))))) (tUSeq (tURet (tUC (.bl false)))
    tUNext) tUNext)
    (tUSeq (tUFor (tIAny (tUVar 0)) (gUName 1) (tUSeq (tUIfSC (tUTest (tUOp notInU (tUVar 1) (tUC (.str C27)))) (tUSeq (tURet (tUC (.bl false)))
    tUNext) tUNext)
    tUNext))
    (tUSeq (tURet (tUC (.bl true)))
    tUNext)))
theorem law_is_name (us : List U) (G : Gp) (Q : UK) (E : UX) (h : sp_is_name us G Q E) : t_is_name (endsU Q E) (ustart 2 us) G := by
  unfold sp_is_name at h
  split at h
  · rename_i u
    obtain ⟨ht, hs, q⟩ := h
    obtain ⟨t, ht⟩ := Option.isSome_iff_exists.mp ht
    simp_arith [t_is_name, ht]
    cases u with
    | str l =>
      cases ht
      have hs' : l.length ≤ 1000000 := hs
      simp_arith [hs']
      have q0 : nmB l = false → KF Q (.bl false) G := fun z => .now (by rw [show nmU (.str l) = nmB l from rfl, z] at q; exact q)
      refine dcond (fun h1 => ?_) fun h1 => ?_
      · simp_arith []
        refine scond2 (fun h2 => ?_) fun h2 => ?_
        · rw [Bool.not_eq_true', decide_eq_false_iff_not] at h2
          refine q0 ?_
          have : ¬ l.length ≤ 13 := by omega
          simp [nmB, this]
        · rw [Bool.not_eq_false', decide_eq_true_eq] at h2
          have e0 : nmB l = l.all fun k => decide (k ∈ C27) := by
            have a1 : 1 ≤ l.length := by omega
            have a2 : l.length ≤ 13 := by omega
            simp [nmB, a1, a2]
          simp_arith []
          refine for_ind (fun items us' G' => ∃ (l' : List Nat) (v : Option U), items = sgs l' ∧ us' = [some (.str l), v] ∧ G' = G ∧ nmB l = l'.all fun k => decide (k ∈ C27)) ?_ ?_ _ _ _ ⟨l, none, rfl, rfl, rfl, e0⟩
          · rintro x xs us' G' N hN ⟨l', v, e1, rfl, rfl, e⟩
            cases l' with
            | nil => cases e1
            | cons c l' =>
              cases e1
              refine ⟨True.intro, ?_⟩
              simp_arith []
              rw [List.all_cons] at e
              refine scond2 (fun h2 => ?_) fun h2 => ?_
              · simp_arith []
                rw [Bool.not_eq_true'] at h2
                rw [h2] at e
                exact q0 e
              · simp_arith []
                rw [Bool.not_eq_false'] at h2
                exact hN _ _ ⟨_, _, rfl, rfl, rfl, by rw [e, h2]; rfl⟩
          · rintro us' G' ⟨l', v, e1, rfl, rfl, e⟩
            cases l' with
            | cons c l' => cases e1
            | nil =>
              refine ⟨True.intro, ?_⟩
              simp_arith []
              rw [show nmU (.str l) = nmB l from rfl, e] at q
              exact .now q
      · simp_arith []
        refine q0 ?_
        have : ¬ 1 ≤ l.length := by omega
        simp [nmB, this]
    | ref a =>
      have q' : Q (.bl false) G := q
      have e : isiF t (.b "str") = false := by
        rcases h : G a with _ | o
        · rw [td_R, h] at ht; cases ht
        · rw [td_R, h] at ht
          cases o <;> cases ht <;> rfl
      simp_arith [e]
      exact .now q'
    | ty _ => cases ht
    | glo _ => cases ht
    | exc => cases ht
    | _ =>
      cases ht
      simp_arith []
      exact .now q
  · exact h.elim
abbrev Nm (α : Type) := List (List Nat × α)
abbrev Ns := Nm Addr
def kvM {α : Type} (f : α → U) (ns : Nm α) : List (U × U) := ns.map fun p => (.str p.1, f p.2)
def kvW (ns : Ns) : List (U × U) := kvM U.ref ns
def kvB (ns : Nm Int) : List (U × U) := kvM U.int ns
def bndO (ns : Nm Int) : Ob := .dct (kvB ns)
def dctO (ns : Ns) : Ob := .dct (kvW ns)
def worldO (d : Addr) : Ob := .ins "World" [("boxes", .ref d)]
def wget {α : Type} (l : List Nat) (ns : Nm α) : Option α := ns.lookup l
def wput {α : Type} (l : List Nat) (b : α) (ns : Nm α) : Nm α := if ns.any (fun p => decide (p.1 = l)) = true then ns.map (fun p => if p.1 = l then (p.1, b) else p) else ns ++ [(l, b)]
def wdel {α : Type} (l : List Nat) (ns : Nm α) : Nm α := ns.filter fun p => !decide (p.1 = l)
def getWorld (o : Option Ob) (Q : Addr → Prop) (_ : Tag Q := ()) : Prop := ∃ d, o = some (worldO d) ∧ Q d
def getNs (o : Option Ob) (Q : Ns → Prop) (_ : Tag Q := ()) : Prop := ∃ ns, o = some (dctO ns) ∧ Q ns
def getA (o : Option Addr) (K : Addr → Prop) (R : Prop) (_ : Tag K := ()) (_ : Tag R := ()) : Prop := match o with
  | some b => K b
  | none => R
theorem dget_M {α : Type} (f : α → U) (l : List Nat) : ∀ ns : Nm α, dgetS l (kvM f ns) = (wget l ns).map f
  | [] => rfl
  | (m, b) :: ns => by
    have ih := dget_M f l ns
    show (if isKeyS l (.str m, f b) = true then some (f b) else dgetS l (kvM f ns)) = _
    unfold wget
    rw [List.lookup_cons]
    by_cases h : m = l
    · subst h
      simp [isKeyS]
    · have h2 : (l == m) = false := by simpa using fun e : l = m => h e.symm
      simp only [isKeyS, h, decide_false, Bool.false_eq_true, if_false, h2]
      exact ih
theorem any_M {α : Type} (f : α → U) (l : List Nat) (ns : Nm α) : (kvM f ns).any (isKeyS l) = ns.any (fun p => decide (p.1 = l)) := by
  unfold kvM
  rw [List.any_map]
  rfl
theorem dput_M {α : Type} (f : α → U) (l : List Nat) (b : α) (ns : Nm α) : dputS l (f b) (kvM f ns) = kvM f (wput l b ns) := by
  unfold dputS wput
  rw [any_M]
  split
  · unfold kvM
    rw [List.map_map, List.map_map]
    apply List.map_congr_left
    intro p _
    show (if isKeyS l (.str p.1, f p.2) = true then (U.str p.1, f b) else (.str p.1, f p.2)) = _
    simp only [isKeyS, decide_eq_true_eq, Function.comp]
    by_cases h : p.1 = l <;> simp [h]
  · simp [kvM]
theorem ddel_M {α : Type} (f : α → U) (l : List Nat) (ns : Nm α) : ddelS l (kvM f ns) = kvM f (wdel l ns) := by
  unfold ddelS wdel kvM
  rw [List.filter_map]
  rfl
theorem kvM_inj {α : Type} {f : α → U} (hf : ∀ a b, f a = f b → a = b) : ∀ {a b : Nm α}, kvM f a = kvM f b → a = b
  | [], [], _ => rfl
  | [], _ :: _, h => by cases h
  | _ :: _, [], h => by cases h
  | (m, p) :: a, (n, q) :: b, h => by
    simp only [kvM, List.map_cons, List.cons.injEq, Prod.mk.injEq, U.str.injEq] at h
    obtain ⟨⟨rfl, h1⟩, h⟩ := h
    rw [kvM_inj hf (show kvM f a = kvM f b from h), hf _ _ h1]
theorem kvW_inj {a b : Ns} (h : kvW a = kvW b) : a = b := kvM_inj (fun _ _ h => U.ref.inj h) h
theorem kvW_len (ns : Ns) : (kvW ns).length = ns.length := List.length_map _
theorem kvM_keys {α : Type} (f : α → U) (ns : Nm α) : (kvM f ns).map (·.1) = (ns.map (·.1)).map U.str := by
  unfold kvM
  rw [List.map_map, List.map_map]
  rfl
theorem kvW_keys (ns : Ns) : (kvW ns).map (·.1) = (ns.map (·.1)).map U.str := kvM_keys _ _
theorem dget_W (l : List Nat) (ns : Ns) : dgetS l (kvW ns) = (wget l ns).map U.ref := dget_M _ _ _
theorem dput_W (l : List Nat) (b : Addr) (ns : Ns) : dputS l (.ref b) (kvW ns) = kvW (wput l b ns) := dput_M _ _ _ _
theorem ddel_W (l : List Nat) (ns : Ns) : ddelS l (kvW ns) = kvW (wdel l ns) := ddel_M _ _ _
/-- a world's names: different, names, few -/
structure WOk {α : Type} (ns : Nm α) : Prop where
  nd : (ns.map (·.1)).Nodup
  nm : ∀ p ∈ ns, nmB p.1 = true
  few : ns.length < 60
/-- its boxes are known -/
def WBx (G : Gp) (ns : Ns) : Prop := ∀ p ∈ ns, ∃ l, G p.2 = some (boxO l) ∧ conB l = true
theorem wget_mem {α : Type} {l : List Nat} {b : α} : ∀ {ns : Nm α}, wget l ns = some b → (l, b) ∈ ns
  | [], h => by cases h
  | (m, c) :: ns, h => by
    unfold wget at h
    rw [List.lookup_cons] at h
    by_cases e : l = m
    · subst e
      simp at h
      subst h
      exact List.mem_cons_self
    · have h2 : (l == m) = false := by simpa using e
      rw [h2] at h
      exact List.mem_cons_of_mem _ (wget_mem h)
theorem wget_of {α : Type} {l : List Nat} {b : α} : ∀ {ns : Nm α}, (ns.map (·.1)).Nodup → (l, b) ∈ ns → wget l ns = some b
  | (m, c) :: ns, hn, h => by
    rw [List.map_cons, List.nodup_cons] at hn
    unfold wget
    rw [List.lookup_cons]
    by_cases e : l = m
    · subst e
      rcases List.mem_cons.mp h with h | h
      · cases h
        simp
      · exact absurd (List.mem_map_of_mem (f := (·.1)) h) hn.1
    · have h2 : (l == m) = false := by simpa using e
      rw [h2]
      rcases List.mem_cons.mp h with h | h
      · cases h
        exact absurd rfl e
      · exact wget_of hn.2 h
theorem wget_none {α : Type} {l : List Nat} : ∀ {ns : Nm α}, wget l ns = none ↔ l ∉ ns.map (·.1)
  | [] => by simp [wget]
  | (m, c) :: ns => by
    have ih := wget_none (l := l) (ns := ns)
    unfold wget at *
    rw [List.lookup_cons, List.map_cons, List.mem_cons]
    by_cases e : l = m
    · subst e
      simp
    · have h2 : (l == m) = false := by simpa using e
      rw [h2]
      simp only [e, false_or]
      exact ih
theorem wany {α : Type} {l : List Nat} {ns : Nm α} : ns.any (fun p => decide (p.1 = l)) = (wget l ns).isSome := by
  rw [Bool.eq_iff_iff, List.any_eq_true]
  constructor
  · rintro ⟨p, hp, h⟩
    rw [decide_eq_true_eq] at h
    cases e : wget l ns with
    | some b => rfl
    | none => exact absurd (h ▸ List.mem_map_of_mem (f := (·.1)) hp) (wget_none.mp e)
  · intro h
    obtain ⟨b, e⟩ := Option.isSome_iff_exists.mp h
    exact ⟨_, wget_mem e, by simp⟩
theorem wput_names {l : List Nat} {α : Type} {b : α} {ns : Nm α} : (wput l b ns).map (·.1) = if (wget l ns).isSome = true then ns.map (·.1) else ns.map (·.1) ++ [l] := by
  unfold wput
  rw [wany]
  split
  · rw [List.map_map]
    apply List.map_congr_left
    intro p _
    show (if p.1 = l then (p.1, b) else p).1 = p.1
    split <;> rfl
  · simp
theorem mem_wput {l : List Nat} {α : Type} {b : α} {ns : Nm α} {p : List Nat × α} (h : p ∈ wput l b ns) : p = (l, b) ∨ (p ∈ ns ∧ p.1 ≠ l) := by
  unfold wput at h
  split at h
  · obtain ⟨q, hq, e⟩ := List.mem_map.mp h
    by_cases z : q.1 = l
    · rw [if_pos z] at e
      rw [← e, z]
      exact .inl rfl
    · rw [if_neg z] at e
      subst e
      exact .inr ⟨hq, z⟩
  · rename_i hn
    rw [wany, Bool.not_eq_true] at hn
    rcases List.mem_append.mp h with h | h
    · refine .inr ⟨h, fun e => ?_⟩
      cases z : wget l ns with
      | some _ => rw [z] at hn; cases hn
      | none => exact wget_none.mp z (e ▸ List.mem_map_of_mem (f := (·.1)) h)
    · rw [List.mem_singleton] at h
      exact .inl h
theorem WOk.nil {α : Type} : WOk ([] : Nm α) := ⟨List.nodup_nil, fun _ h => (by cases h), by simp⟩
theorem WOk.put {α : Type} {ns : Nm α} (h : WOk ns) {l : List Nat} (b : α) (hl : nmB l = true) (hf : ns.length < 59) : WOk (wput l b ns) := by
  refine ⟨?_, fun p hp => ?_, ?_⟩
  · rw [wput_names]
    split
    · exact h.nd
    · rename_i z
      rw [List.nodup_append]
      refine ⟨h.nd, by simp, fun a ha c hc e => ?_⟩
      rw [List.mem_singleton] at hc
      subst hc e
      cases y : wget a ns with
      | some _ => rw [y] at z; exact z rfl
      | none => exact wget_none.mp y ha
  · rcases mem_wput hp with rfl | ⟨hp, _⟩
    · exact hl
    · exact h.nm p hp
  · have e : ((wput l b ns).map (·.1)).length = _ := congrArg List.length (wput_names (l := l) (b := b) (ns := ns))
    rw [List.length_map] at e
    rw [e]
    split <;> simp <;> omega
theorem WOk.del {α : Type} {ns : Nm α} (h : WOk ns) (l : List Nat) : WOk (wdel l ns) := by
  refine ⟨h.nd.sublist (List.Sublist.map _ List.filter_sublist), fun p hp => h.nm p (List.mem_filter.mp hp).1, Nat.lt_of_le_of_lt (List.length_filter_le _ _) h.few⟩
theorem e_kvnil : ([] : List (U × U)) = kvW [] := rfl
theorem e_dct {ns : Ns} : Ob.dct (kvW ns) = dctO ns := (rfl)
theorem e_world {d : Addr} : Ob.ins "World" [("boxes", .ref d)] = worldO d := (rfl)
theorem e_getIns_w {d : Addr} {Q} : getIns (some (worldO d)) Q = Q "World" [("boxes", .ref d)] := (rfl)
theorem e_tdOb_w {d : Addr} : tdOb (some (worldO d)) = some (.o "World") := (rfl)
theorem e_insOr_w {d : Addr} {K : String → Prop} {R : Prop} : insOr (some (worldO d)) K R = K "World" := (rfl)
theorem e_getDct_ns {ns : Ns} {Q} : getDct (some (dctO ns)) Q = Q (kvW ns) := (rfl)
theorem e_dctOr_ns {ns : Ns} {K R} : dctOr (some (dctO ns)) K R = K (kvW ns) := (rfl)
theorem e_lenOb_ns {ns : Ns} {Q} : lenOb (dctO ns) Q = Q ns.length := by
  show Q (kvW ns).length = _
  rw [kvW_len]
theorem e_getWorld {d : Addr} {Q} : getWorld (some (worldO d)) Q = Q d := by
  unfold getWorld
  apply propext
  constructor
  · rintro ⟨m, e, h⟩
    cases e
    exact h
  · exact fun h => ⟨d, rfl, h⟩
theorem e_getNs {ns : Ns} {Q} : getNs (some (dctO ns)) Q = Q ns := by
  unfold getNs
  apply propext
  constructor
  · rintro ⟨m, e, h⟩
    rw [kvW_inj (show kvW ns = kvW m by simpa [dctO] using e)]
    exact h
  · exact fun h => ⟨ns, rfl, h⟩
theorem e_getA_s {b : Addr} {K R} : getA (some b) K R = K b := (rfl)
theorem e_dgetW {l : List Nat} {ns : Ns} : dgetS l (kvW ns) = (wget l ns).map U.ref := dget_W l ns
theorem e_dputW {l : List Nat} {b : Addr} {ns : Ns} : dputS l (.ref b) (kvW ns) = kvW (wput l b ns) := dput_W l b ns
theorem e_ddelW {l : List Nat} {ns : Ns} : ddelS l (kvW ns) = kvW (wdel l ns) := ddel_W l ns
theorem e_getDR_ns {ns : Ns} {Q} : getDR (some (dctO ns)) Q = Q (kvW ns) := (rfl)
theorem e_getDR_b {ns : Nm Int} {Q} : getDR (some (bndO ns)) Q = Q (kvB ns) := (rfl)
theorem e_dctOr_b {ns : Nm Int} {K R} : dctOr (some (bndO ns)) K R = K (kvB ns) := (rfl)
theorem e_dgetB {l : List Nat} {ns : Nm Int} : dgetS l (kvB ns) = (wget l ns).map U.int := dget_M _ _ _
theorem e_keysB {ns : Nm Int} : (kvB ns).map (·.1) = (ns.map (·.1)).map U.str := kvM_keys _ _
theorem e_omap_si {b : Int} : (some b).map U.int = some (.int b) := (rfl)
theorem e_keysW {ns : Ns} : (kvW ns).map (·.1) = (ns.map (·.1)).map U.str := kvW_keys ns
theorem e_lenW {ns : Ns} : (kvW ns).length = ns.length := kvW_len ns
theorem e_omapR_s {b : Addr} : (some b).map U.ref = some (.ref b) := (rfl)
def noName (u : U) : UExc := ⟨"NoName", [("name", u)]⟩
def badName (u : U) : UExc := ⟨"BadName", [("name", u)]⟩
theorem e_noName {u : U} : (⟨"NoName", [("name", u)]⟩ : UExc) = noName u := (rfl)
theorem e_badName {u : U} : (⟨"BadName", [("name", u)]⟩ : UExc) = badName u := (rfl)
def wgetU (u : U) (ns : Ns) : Option Addr := match u with
  | .str l => wget l ns
  | _ => none
theorem e_wgetU {l : List Nat} {ns : Ns} : wgetU (.str l) ns = wget l ns := (rfl)
def isBoxT (o : Option TD) : Bool := match o with
  | some t => isiF t (.o "Box")
  | none => false
def isBoxU (G : Gp) (u : U) : Bool := isBoxT (tdOf G u)
theorem e_isBoxU {G : Gp} {u : U} : isBoxU G u = isBoxT (tdOf G u) := (rfl)
theorem e_isBoxT {t : TD} : isBoxT (some t) = isiF t (.o "Box") := (rfl)
def sp_World___init__ : USp := fun us G Q _ => match us with
  | [.ref p] => getIns (G p) fun c fs => c = "World" ∧ fs = [] ∧ ∀ d, G d = none → Q .non (gup (gup G d (dctO [])) p (worldO d))
  | _ => False
def sp_World___contains__ : USp := fun us G Q _ => match us with
  | [.ref p, u] => getWorld (G p) fun d => getNs (G d) fun ns => WOk ns ∧ (tdOf G u).isSome = true ∧ smallU u ∧ Q (.bl (wgetU u ns).isSome) G
  | _ => False
def sp_World___getitem__ : USp := fun us G Q E => match us with
  | [.ref p, u] => getWorld (G p) fun d => getNs (G d) fun ns => WOk ns ∧ (tdOf G u).isSome = true ∧ smallU u ∧ getA (wgetU u ns) (fun b => Q (.ref b) G) (E (noName u) G)
  | _ => False
def sp_World___setitem__ : USp := fun us G Q E => match us with
  | [.ref p, u, v] => getWorld (G p) fun d => getNs (G d) fun ns => WOk ns ∧ (tdOf G u).isSome = true ∧ smallU u ∧ (tdOf G v).isSome = true ∧
      condP (nmU u) (condP (isBoxU G v) (asStr u fun l => asRef v fun b => Q .non (gup G d (dctO (wput l b ns)))) (E (badBox v) G)) (E (badName u) G)
  | _ => False
def wnames {α : Type} (ns : Nm α) : List (List Nat) := srtN (ns.map (·.1))
def sp_World_names : USp := fun us G Q _ => match us with
  | [.ref p] => getWorld (G p) fun d => getNs (G d) fun ns => ns.length < 60 ∧ ∀ r, G r = none → Q (.ref r) (gup G r (.lst ((wnames ns).map U.str)))
  | _ => False
def shareN {α : Type} [DecidableEq α] (ns : Nm α) (b : α) : List (List Nat) := (wnames ns).filter fun m => decide (wget m ns = some b)
def sp_World_sharing : USp := fun us G Q _ => match us with
  | [.ref p, .str l] => getWorld (G p) fun d => getNs (G d) fun ns => WOk ns ∧ WBx G ns ∧ getA (wget l ns) (fun b => Q (.tup ((shareN ns b).map U.str)) G) False
  | _ => False
section
variable {G : Gp} {Q : UK} {E : UX} {u v : U} {p : Addr} {l m : List Nat}
theorem x_World_init : Call sp_World___init__ [.ref p] G Q E = getIns (G p) fun c fs => c = "World" ∧ fs = [] ∧ ∀ d, G d = none → Q .non (gup (gup G d (dctO [])) p (worldO d)) := (rfl)
theorem x_World_in : Call sp_World___contains__ [.ref p, u] G Q E = getWorld (G p) fun d => getNs (G d) fun ns => WOk ns ∧ (tdOf G u).isSome = true ∧ smallU u ∧ Q (.bl (wgetU u ns).isSome) G := (rfl)
theorem x_World_get : Call sp_World___getitem__ [.ref p, u] G Q E = getWorld (G p) fun d => getNs (G d) fun ns => WOk ns ∧ (tdOf G u).isSome = true ∧ smallU u ∧ getA (wgetU u ns) (fun b => Q (.ref b) G) (E (noName u) G) := (rfl)
theorem x_World_set : Call sp_World___setitem__ [.ref p, u, v] G Q E = getWorld (G p) fun d => getNs (G d) fun ns => WOk ns ∧ (tdOf G u).isSome = true ∧ smallU u ∧ (tdOf G v).isSome = true ∧
      condP (nmU u) (condP (isBoxU G v) (asStr u fun l => asRef v fun b => Q .non (gup G d (dctO (wput l b ns)))) (E (badBox v) G)) (E (badName u) G) := (rfl)
theorem x_World_names : Call sp_World_names [.ref p] G Q E = getWorld (G p) fun d => getNs (G d) fun ns => ns.length < 60 ∧ ∀ r, G r = none → Q (.ref r) (gup G r (.lst ((wnames ns).map U.str))) := (rfl)
theorem x_World_sharing : Call sp_World_sharing [.ref p, .str l] G Q E = getWorld (G p) fun d => getNs (G d) fun ns => WOk ns ∧ WBx G ns ∧ getA (wget l ns) (fun b => Q (.tup ((shareN ns b).map U.str)) G) False := (rfl)
end
local macro_rules | `(tactic| simp_arith! [$ls,*]) => `(tactic| (try (simp (discharger := assumption) only [↓x_var, ↓x_c, ↓x_op, ↓x_and, ↓x_nil, ↓x_cons, ↓x_tup, ↓x_test, ↓x_not, ↓x_bOr, ↓x_tru, ↓x_call, ↓x_def, ↓x_bm, ↓x_u1, ↓x_u2, ↓x_seq, ↓x_next, ↓x_ret, ↓x_ifSC, ↓x_asg, ↓x_gname, ↓x_gsub, ↓x_gtup, ↓x_gcons, ↓x_gnil, ↓x_for, ↓x_any, ↓x_lc, ↓x_fld, ↓x_fldU, ↓x_gfld, ↓x_setF, ↓x_raise, ↓x_meth, ↓x_eqS, ↓x_leI, ↓x_notInS1, ↓x_ixT, ↓x_lenS, ↓x_lenL, ↓x_tupleL, ↓x_iterT, ↓x_iterS, ↓x_iterL, ↓x_tyS, ↓x_join, ↓x_fmtS, ↓x_fmt, ↓x_js0, ↓x_js, ↓x_truB, ↓x_ap, ↓x_eqRR, ↓x_isi, ↓x_inRI, ↓x_cRI, ↓x_truQB, ↓x_strQ, ↓x_iZip, ↓x_zipLL, ↓x_chain, ↓x_chT, ↓x_kBl, ↓x_ixDs, ↓x_ixDt, ↓x_setDs, ↓x_inDs, ↓x_dict0, ↓x_del, ↓x_listAr, ↓x_sortedWL, e_condT, e_condF, slotK_s, asBl_s, asStr_s, asRef_s, getLst_s, getIns_s, getOb_s, getO_s, getUs_s, getLs_s, seq_t, seq_l, isiK_s, isi_bb, isiOk_b, isiOk_o, td_S, tdC_t, tdC_g, fget_nil, fget_cons, fput_nil, src_p, getD_0, getD_s, uwipe_nil, uwipe_cons, len_cons, e_getIns_box, e_insEq_box, e_badBox, x_is_name, e_kvnil, e_dct, e_world, e_getIns_w, e_insOr_w, e_getDct_ns, e_dctOr_ns, e_lenOb_ns, e_getWorld, e_getNs, e_getA_s, e_dgetW, e_dputW, e_ddelW, e_getDR_ns, e_keysW, e_lenW, e_omapR_s, e_noName, e_badName, e_wgetU, x_World_in, x_World_names, x_World_sharing, e_asBlK, e_strsU_map, e_osome_n, e_osome_map, List.getElem?_cons_zero, List.getElem?_cons_succ, List.set_cons_zero, List.set_cons_succ, List.map_cons, List.map_nil, List.length_nil, List.length_cons, true_and, endsU, ustart, List.replicate, List.cons_append, List.nil_append, List.append_nil, List.unzip_cons, List.unzip_nil, cond_true, cond_false, Bool.not_true, Bool.not_false, decide_true, decide_false, tyNames, clsNames, fldsOf, List.mem_cons, gup_same, if_true, if_false, reduceIte, List.zip_cons_cons, List.zip_nil_left, Bool.true_and, Bool.and_false, Bool.false_and, Bool.or_false, Bool.or_true, Bool.true_or, Bool.false_or, Nat.reduceAdd, Nat.reduceSub, String.reduceEq, Nat.reduceLeDiff, atI_0, gup_ne, gup_neS, or_true, true_or, false_or, or_false, ne_eq, not_false_eq_true, not_true_eq_false, reduceCtorEq, List.length_map, Nat.add_zero, Nat.zero_add, Option.isSome_some, U.ref.injEq, U.int.injEq, U.str.injEq, U.bl.injEq, Nat.reduceLT, List.not_mem_nil, Int.reduceEq, List.cons.injEq, and_self, Int.reduceLT, Int.reduceAdd, Int.reduceSub, $ls,*])))
local macro_rules | `(tactic| simp_arith [$ls,*]) => `(tactic| (simp_arith! [$ls,*]; (repeat ((first | with_reducible refine scondT ?_ | with_reducible refine scondF ?_ | with_reducible refine condT ?_ | with_reducible refine condF ?_); simp_arith! [$ls,*]))))
local macro_rules | `(tactic| walk_at "usub") => `(tactic| (refine Sub.ofE ?_; (repeat (refine SubE.left ?_ (Or.inr (by first | assumption | simp (discharger := assumption) only [gup_same, gup_ne, gup_neS, gup_nN, gup_nNS, *])))); (repeat (refine SubE.put ?_ (by first | exact Or.inr (Or.inl (by assumption)) | exact Or.inr (Or.inr (by assumption)) | exact Or.inl (by simp) | exact Or.inr (Or.inr (by simp (discharger := assumption) only [gup_same, gup_ne, gup_neS, gup_nN, gup_nNS, *]))))); exact SubE.refl))
/- slots ['self'] -/
def t_World___init__ : UTS := (tUSeq (tUAsg tUDict0 (gUFld "boxes" (tUVar 0)))
    tUNext)
/- slots ['self', 'thing'] -/
def t_World___contains__ : UTS := (tUSeq (tURet (tUAnd (tUDef sp_is_name 1 0 [.p 0] [] [] (tUCons (tUVar 1) tUNil) tUNil) (tUOp inD (tUVar 1) (tUFld "boxes" (tUVar 0)))))
    tUNext)
/- slots ['self', 'name'] -/
def t_World___getitem__ : UTS := (tUSeq (tUIfSC (tUTest (tUOp (orInI true notInD "World" (apOf sp_World___contains__ [.p 0, .p 1] [] [])) (tUVar 1) (tUVar 0))) (tUSeq (tURaise "NoName" ["name"] (tUCons (tUVar 1) tUNil))
    tUNext) tUNext)
    (tUSeq (tURet (tUOp ixD (tUFld "boxes" (tUVar 0)) (tUVar 1)))
    tUNext))
/- slots ['self', 'name', 'box'] -/
def t_World___setitem__ : UTS := (tUSeq (tUIfSC (tUNot (tUTru (fun u G Q _ => truU u G Q) (tUDef sp_is_name 1 0 [.p 0] [] [] (tUCons (tUVar 1) tUNil) tUNil))) (tUSeq (tURaise "BadName" ["name"] (tUCons (tUVar 1) tUNil))
    tUNext) tUNext)
    (tUSeq (tUIfSC (tUNot (tUTru (fun u G Q _ => truU u G Q) (tUCall (u2 (isiV ["Box"])) (tUCons (tUVar 2) (tUCons (tUC (.glo "Box")) tUNil))))) (tUSeq (tURaise "BadBox" ["contents"] (tUCons (tUVar 2) tUNil))
    tUNext) tUNext)
    (tUSeq (tUAsg (tUVar 2) (gUSub (tUFld "boxes" (tUVar 0)) (tUVar 1) setD))
    tUNext)))
/- slots ['self'] -/
def t_World_names : UTS := (tUSeq (tURet (tUCall (u1 sortedW) (tUCons (tUCall (u1 listA) (tUCons (tUFld "boxes" (tUVar 0)) tUNil)) tUNil)))
    tUNext)
/- slots ['self', 'name'] -/
def t_World_sharing : UTS := (tUSeq (tURet (tUCall (u1 tupleV) (tUCons (tULc (tIAny (tUMeth [("World", apOf sp_World_names [.p 0] [] [])] "names" 0 0 (tUVar 0) tUNil tUNil)) (gUName 2) (tUTest (tUOp (orEqI false eqU) (tUOp ixD (tUFld "boxes" (tUVar 0)) (tUVar 2)) (tUOp ixD (tUFld "boxes" (tUVar 0)) (tUVar 1)))) (tUVar 2) ([("other", 2)] : List (Str × Nat)).unzip.2) tUNil)))
    tUNext)
/- slots ['self', 'one', 'other', 'name'] -/
theorem law_World___init__ (us : List U) (G : Gp) (Q : UK) (E : UX) (h : sp_World___init__ us G Q E) : t_World___init__ (endsU Q E) (ustart 1 us) G := by
  unfold sp_World___init__ at h
  split at h
  · rename_i p
    cases hp : G p with
    | none => rw [hp] at h; exact h.elim
    | some o =>
      rw [hp] at h
      cases o <;> try exact False.elim h
      obtain ⟨rfl, rfl, q⟩ := (show _ ∧ _ ∧ _ from h)
      simp_arith [t_World___init__, hp]
      intro d hd
      have nd := ne_of_known hp hd
      simp_arith [hp, nd]
      exact .now (q d hd)
  · exact h.elim
theorem law_World___contains__ (us : List U) (G : Gp) (Q : UK) (E : UX) (h : sp_World___contains__ us G Q E) : t_World___contains__ (endsU Q E) (ustart 2 us) G := by
  unfold sp_World___contains__ at h
  split at h
  · rename_i p u
    obtain ⟨d, hp, ns, hd, ok, ht, hs, q⟩ := h
    simp_arith [t_World___contains__, hp, hd, ht, hs]
    refine bcond (fun hn => ?_) fun hn => ?_
    · cases u <;> try cases hn
      rename_i l
      simp_arith [hp, hd]
      exact .now q
    · refine .now ?_
      have e : (wgetU u ns).isSome = false := by
        cases u <;> try rfl
        rename_i l
        cases z : wget l ns with
        | none => exact congrArg Option.isSome z
        | some b => rw [show nmU (.str l) = nmB l from rfl, ok.nm _ (wget_mem z)] at hn; cases hn
      rw [e] at q
      exact q
  · exact h.elim
theorem law_World___getitem__ (us : List U) (G : Gp) (Q : UK) (E : UX) (h : sp_World___getitem__ us G Q E) : t_World___getitem__ (endsU Q E) (ustart 2 us) G := by
  unfold sp_World___getitem__ at h
  split at h
  · rename_i p u
    obtain ⟨d, hp, ns, hd, ok, ht, hs, q⟩ := h
    simp_arith [t_World___getitem__, hp, hd, ht, hs, ok]
    cases z : wgetU u ns with
    | none =>
      rw [z] at q
      simp_arith []
      exact .now q
    | some b =>
      rw [z] at q
      cases u <;> try cases z
      rename_i l
      have z' : wget l ns = some b := z
      simp_arith [hp, hd, z']
      exact .now q
  · exact h.elim
theorem law_World___setitem__ (us : List U) (G : Gp) (Q : UK) (E : UX) (h : sp_World___setitem__ us G Q E) : t_World___setitem__ (endsU Q E) (ustart 3 us) G := by
  unfold sp_World___setitem__ at h
  split at h
  · rename_i p u v
    obtain ⟨d, hp, ns, hd, ok, ht, hs, hv, q⟩ := h
    obtain ⟨t, hv⟩ := Option.isSome_iff_exists.mp hv
    have hb : isBoxU G v = isiF t (.o "Box") := by
      unfold isBoxU
      rw [hv]
      rfl
    simp_arith [t_World___setitem__, hp, hd, ht, hs, ok]
    refine scond2 (fun h2 => ?_) fun h2 => ?_
    · rw [Bool.not_eq_true'] at h2
      rw [h2] at q
      simp_arith []
      exact .now q
    · rw [Bool.not_eq_false'] at h2
      rw [h2] at q
      simp_arith [hv]
      refine scond2 (fun h3 => ?_) fun h3 => ?_
      · rw [Bool.not_eq_true'] at h3
        rw [hb, h3] at q
        simp_arith []
        exact .now q
      · rw [Bool.not_eq_false'] at h3
        rw [hb, h3] at q
        cases u <;> try cases h2
        rename_i l
        cases v <;> try (cases hv; cases h3; done)
        · rename_i b
          have hlen : (kvW ns).length < 1000000 := by rw [kvW_len]; have := ok.few; omega
          simp_arith [hp, hd, hlen]
          exact ⟨by have := ok.few; omega, .now q⟩
        all_goals (cases hv)
  · exact h.elim
theorem law_World_names (us : List U) (G : Gp) (Q : UK) (E : UX) (h : sp_World_names us G Q E) : t_World_names (endsU Q E) (ustart 1 us) G := by
  unfold sp_World_names at h
  split at h
  · rename_i p
    obtain ⟨d, hp, ns, hd, few, q⟩ := h
    simp_arith [t_World_names, hp, hd]
    intro r hr
    simp_arith []
    refine ⟨by omega, fun r2 h2 => ?_⟩
    exact KF.of (Sub.drop hr).gup (q r2 (gup_none h2).2)
  · exact h.elim
theorem law_World_sharing (us : List U) (G : Gp) (Q : UK) (E : UX) (h : sp_World_sharing us G Q E) : t_World_sharing (endsU Q E) (ustart 3 us) G := by
  unfold sp_World_sharing at h
  split at h
  · rename_i p l
    obtain ⟨d, hp, ns, hd, ok, bx, q⟩ := h
    cases z : wget l ns with
    | none => rw [z] at q; exact q.elim
    | some b =>
      rw [z] at q
      have few := ok.few
      obtain ⟨t1, b1, _⟩ := bx _ (wget_mem z)
      dsimp only at b1
      simp_arith [t_World_sharing, hp, hd, few]
      intro r hr
      have n1 : p ≠ r := ne_of_known hp hr
      have n2 : d ≠ r := ne_of_known hd hr
      refine lc_ind (fun items acc G' => ∃ done rest : List (List Nat), wnames ns = done ++ rest ∧ items = rest.map U.str ∧ acc = (done.filter fun m => decide (wget m ns = some b)).map U.str ∧ G' = gup G r (.lst ((wnames ns).map U.str))) ?_ ?_ _ _ _ ⟨[], _, rfl, rfl, rfl, rfl⟩
      · rintro x xs acc G' N hN ⟨done, rest, e1, e2, rfl, rfl⟩
        cases rest with
        | nil => cases e2
        | cons m rest =>
          cases e2
          refine ⟨gup_same, ?_⟩
          have hm : m ∈ ns.map (·.1) := srtN_mem.mp (show m ∈ wnames ns by rw [e1]; simp)
          obtain ⟨c, hc⟩ : ∃ c, wget m ns = some c := by
            cases y : wget m ns with
            | some c => exact ⟨c, rfl⟩
            | none => exact absurd hm (wget_none.mp y)
          obtain ⟨t2, b2, _⟩ := bx _ (wget_mem hc)
          dsimp only at b2
          have n3 : b ≠ r := ne_of_known b1 hr
          have n4 : c ≠ r := ne_of_known b2 hr
          simp_arith [hp, hd, hc, z, b1, b2, n1, n2, n3, n4]
          have e3 : (wget m ns = some b) ↔ c = b := by rw [hc]; simp
          by_cases h : c = b
          · simp_arith [h]
            refine ⟨?_, hN _ _ ⟨done ++ [m], rest, by simp [e1], rfl, ?_, rfl⟩⟩
            · have := congrArg List.length e1
              have h9 : (wnames ns).length = ns.length := by unfold wnames; rw [srtN_len, List.length_map]
              have h8 := List.length_filter_le (fun m => decide (wget m ns = some b)) done
              rw [List.length_append] at this
              omega
            · rw [List.filter_append, List.map_append]
              congr 1
              simp [e3.mpr h]
          · simp_arith [h]
            refine hN _ _ ⟨done ++ [m], rest, by simp [e1], rfl, ?_, rfl⟩
            rw [List.filter_append, List.map_append]
            have : ¬ wget m ns = some b := fun y => h (e3.mp y)
            simp [this]
      · rintro acc G' ⟨done, rest, e1, e2, rfl, rfl⟩
        cases rest with
        | cons m rest => cases e2
        | nil =>
          rw [List.append_nil] at e1
          refine ⟨gup_same, fun r2 h2 => ?_⟩
          rw [← e1]
          exact .drop h2 (.drop hr (.now q))
  · exact h.elim
def adrN {α : Type} [Inhabited α] (ns : Nm α) (n : List Nat) : α := (wget n ns).getD default
def grpN {α : Type} [DecidableEq α] [Inhabited α] (ns : Nm α) (n : List Nat) : List (List Nat) := shareN ns (adrN ns n)
def fstN {α : Type} [DecidableEq α] [Inhabited α] (ns : Nm α) : List (List Nat) := (wnames ns).filter fun n => decide ((grpN ns n).head? = some n)
def conA (G : Gp) (a : Addr) : List Nat := match G a with
  | some (.ins _ ((_, .str l) :: _)) => l
  | _ => []
def rowsN {α : Type} [DecidableEq α] [Inhabited α] (ns : Nm α) (f : α → List Nat) : List U := (fstN ns).map fun n => .tup [.tup ((grpN ns n).map U.str), .str (f (adrN ns n))]
def textN {α : Type} [DecidableEq α] [Inhabited α] (ns : Nm α) (f : α → List Nat) : List Nat := joinN [32] ((fstN ns).map fun n => joinN [61] (grpN ns n) ++ [58] ++ f (adrN ns n))
theorem conA_box {G : Gp} {a : Addr} {l : List Nat} (h : G a = some (boxO l)) : conA G a = l := by
  unfold conA
  rw [h]
  rfl
theorem wnames_len {α : Type} (ns : Nm α) : (wnames ns).length = ns.length := by
  unfold wnames
  rw [srtN_len, List.length_map]
theorem wnames_mem {α : Type} {ns : Nm α} {n : List Nat} : n ∈ wnames ns ↔ n ∈ ns.map (·.1) := srtN_mem
theorem wnames_get {α : Type} {ns : Nm α} {n : List Nat} (h : n ∈ wnames ns) : ∃ c, wget n ns = some c := by
  cases y : wget n ns with
  | some c => exact ⟨c, rfl⟩
  | none => exact absurd (wnames_mem.mp h) (wget_none.mp y)
theorem grp_mem {α : Type} [DecidableEq α] [Inhabited α] {ns : Nm α} {n m : List Nat} : m ∈ grpN ns n ↔ m ∈ wnames ns ∧ wget m ns = some (adrN ns n) := by
  unfold grpN shareN
  rw [List.mem_filter, decide_eq_true_eq]
theorem grp_self {α : Type} [DecidableEq α] [Inhabited α] {ns : Nm α} {n : List Nat} (h : n ∈ wnames ns) : n ∈ grpN ns n := by
  obtain ⟨c, hc⟩ := wnames_get h
  refine grp_mem.mpr ⟨h, ?_⟩
  unfold adrN
  rw [hc]
  rfl
theorem adr_get {α : Type} [Inhabited α] {ns : Nm α} {n : List Nat} (h : n ∈ wnames ns) : wget n ns = some (adrN ns n) := by
  obtain ⟨c, hc⟩ := wnames_get h
  unfold adrN
  rw [hc]
  rfl
theorem grp_head {α : Type} [DecidableEq α] [Inhabited α] {ns : Nm α} {n : List Nat} (h : n ∈ wnames ns) : ∃ m r, grpN ns n = m :: r := by
  cases e : grpN ns n with
  | nil => have := grp_self h; rw [e] at this; cases this
  | cons m r => exact ⟨m, r, rfl⟩
theorem zip_names : ∀ (ls : List (List Nat)) (f : List Nat → U), zipU (ls.map U.str) (ls.map f) = ls.map fun n => .tup [.str n, f n]
  | [], _ => rfl
  | l :: ls, f => by
    show .tup [.str l, f l] :: zipU (ls.map U.str) (ls.map f) = _
    rw [zip_names]
    rfl
def sp_World_rows : USp := fun us G Q _ => match us with
  | [.ref p] => getWorld (G p) fun d => getNs (G d) fun ns => WOk ns ∧ WBx G ns ∧ Q (.tup (rowsN ns (conA G))) G
  | _ => False
def sp_World___str__ : USp := fun us G Q _ => match us with
  | [.ref p] => getWorld (G p) fun d => getNs (G d) fun ns => WOk ns ∧ WBx G ns ∧ Q (.str (textN ns (conA G))) G
  | _ => False
section
variable {G : Gp} {Q : UK} {E : UX} {p : Addr}
theorem x_World_rows : Call sp_World_rows [.ref p] G Q E = getWorld (G p) fun d => getNs (G d) fun ns => WOk ns ∧ WBx G ns ∧ Q (.tup (rowsN ns (conA G))) G := (rfl)
theorem x_World_str : Call sp_World___str__ [.ref p] G Q E = getWorld (G p) fun d => getNs (G d) fun ns => WOk ns ∧ WBx G ns ∧ Q (.str (textN ns (conA G))) G := (rfl)
end
local macro_rules | `(tactic| simp_arith! [$ls,*]) => `(tactic| (try (simp (discharger := assumption) only [↓x_var, ↓x_c, ↓x_op, ↓x_and, ↓x_nil, ↓x_cons, ↓x_tup, ↓x_test, ↓x_not, ↓x_bOr, ↓x_tru, ↓x_call, ↓x_def, ↓x_bm, ↓x_u1, ↓x_u2, ↓x_seq, ↓x_next, ↓x_ret, ↓x_ifSC, ↓x_asg, ↓x_gname, ↓x_gsub, ↓x_gtup, ↓x_gcons, ↓x_gnil, ↓x_for, ↓x_any, ↓x_lc, ↓x_fld, ↓x_fldU, ↓x_gfld, ↓x_setF, ↓x_raise, ↓x_meth, ↓x_eqS, ↓x_leI, ↓x_notInS1, ↓x_ixT, ↓x_lenS, ↓x_lenL, ↓x_tupleL, ↓x_iterT, ↓x_iterS, ↓x_iterL, ↓x_tyS, ↓x_join, ↓x_fmtS, ↓x_fmt, ↓x_js0, ↓x_js, ↓x_truB, ↓x_ap, ↓x_eqRR, ↓x_isi, ↓x_inRI, ↓x_cRI, ↓x_truQB, ↓x_strQ, ↓x_iZip, ↓x_zipLL, ↓x_chain, ↓x_chT, ↓x_kBl, ↓x_ixDs, ↓x_ixDt, ↓x_setDs, ↓x_inDs, ↓x_dict0, ↓x_del, ↓x_listAr, ↓x_sortedWL, e_condT, e_condF, slotK_s, asBl_s, asStr_s, asRef_s, getLst_s, getIns_s, getOb_s, getO_s, getUs_s, getLs_s, seq_t, seq_l, isiK_s, isi_bb, isiOk_b, isiOk_o, td_S, tdC_t, tdC_g, fget_nil, fget_cons, fput_nil, src_p, getD_0, getD_s, uwipe_nil, uwipe_cons, len_cons, e_getIns_box, e_insEq_box, e_badBox, x_is_name, e_kvnil, e_dct, e_world, e_getIns_w, e_insOr_w, e_getDct_ns, e_dctOr_ns, e_lenOb_ns, e_getWorld, e_getNs, e_getA_s, e_dgetW, e_dputW, e_ddelW, e_getDR_ns, e_keysW, e_lenW, e_omapR_s, e_noName, e_badName, e_wgetU, x_World_in, x_World_names, x_World_sharing, x_World_rows, x_World_str, e_asBlK, e_strsU_map, e_osome_n, e_osome_map, List.getElem?_cons_zero, List.getElem?_cons_succ, List.set_cons_zero, List.set_cons_succ, List.map_cons, List.map_nil, List.length_nil, List.length_cons, true_and, endsU, ustart, List.replicate, List.cons_append, List.nil_append, List.append_nil, List.unzip_cons, List.unzip_nil, cond_true, cond_false, Bool.not_true, Bool.not_false, decide_true, decide_false, tyNames, clsNames, fldsOf, List.mem_cons, gup_same, if_true, if_false, reduceIte, List.zip_cons_cons, List.zip_nil_left, Bool.true_and, Bool.and_false, Bool.false_and, Bool.or_false, Bool.or_true, Bool.true_or, Bool.false_or, Nat.reduceAdd, Nat.reduceSub, String.reduceEq, Nat.reduceLeDiff, atI_0, gup_ne, gup_neS, or_true, true_or, false_or, or_false, ne_eq, not_false_eq_true, not_true_eq_false, reduceCtorEq, List.length_map, Nat.add_zero, Nat.zero_add, Option.isSome_some, U.ref.injEq, U.int.injEq, U.str.injEq, U.bl.injEq, Nat.reduceLT, List.not_mem_nil, Int.reduceEq, List.cons.injEq, and_self, Int.reduceLT, Int.reduceAdd, Int.reduceSub, $ls,*])))
local macro_rules | `(tactic| simp_arith [$ls,*]) => `(tactic| (simp_arith! [$ls,*]; (repeat ((first | with_reducible refine scondT ?_ | with_reducible refine scondF ?_ | with_reducible refine condT ?_ | with_reducible refine condF ?_); simp_arith! [$ls,*]))))
local macro_rules | `(tactic| walk_at "usub") => `(tactic| (refine Sub.ofE ?_; (repeat (refine SubE.left ?_ (Or.inr (by first | assumption | simp (discharger := assumption) only [gup_same, gup_ne, gup_neS, gup_nN, gup_nNS, *])))); (repeat (refine SubE.put ?_ (by first | exact Or.inr (Or.inl (by assumption)) | exact Or.inr (Or.inr (by assumption)) | exact Or.inl (by simp) | exact Or.inr (Or.inr (by simp (discharger := assumption) only [gup_same, gup_ne, gup_neS, gup_nN, gup_nNS, *]))))); exact SubE.refl))
/- slots ['self', 'groups', 'firsts', 'name', 'group'] -/
def t_World_rows : UTS := (tUSeq (tUAsg (tULc (tIAny (tUMeth [("World", apOf sp_World_names [.p 0] [] [])] "names" 0 0 (tUVar 0) tUNil tUNil)) (gUName 3) (fun _ G Q _ => Q true G) (tUMeth [("World", apOf sp_World_sharing [.p 0, .p 1] [] [])] "sharing" 1 0 (tUVar 0) (tUCons (tUVar 3) tUNil) tUNil) ([("name", 3)] : List (Str × Nat)).unzip.2) (gUName 1))
    (tUSeq (tUAsg (tULc (tIZip (tUMeth [("World", apOf sp_World_names [.p 0] [] [])] "names" 0 0 (tUVar 0) tUNil tUNil) (tUVar 1)) (gUTup 2 (gUCons (gUName 3) (gUCons (gUName 4) gUNil))) (tUTest (tUOp eqU (tUOp ixD (tUVar 4) (tUC (.int 0))) (tUVar 3))) (tUVar 4) ([("name", 3), ("group", 4)] : List (Str × Nat)).unzip.2) (gUName 2))
    (tUSeq (tURet (tUCall (u1 tupleV) (tUCons (tULc (tIAny (tUVar 2)) (gUName 4) (fun _ G Q _ => Q true G) (tUTup (tUCons (tUVar 4) (tUCons (tUFld "contents" (tUOp ixD (tUFld "boxes" (tUVar 0)) (tUOp ixD (tUVar 4) (tUC (.int 0))))) tUNil))) ([("group", 4)] : List (Str × Nat)).unzip.2) tUNil)))
    tUNext)))
/- slots ['self', 'names', 'contents'] -/
theorem law_World_rows (us : List U) (G : Gp) (Q : UK) (E : UX) (h : sp_World_rows us G Q E) : t_World_rows (endsU Q E) (ustart 5 us) G := by
  unfold sp_World_rows at h
  split at h
  · rename_i p
    obtain ⟨d, hp, ns, hd, ok, bx, q⟩ := h
    have few := ok.few
    simp_arith [t_World_rows, hp, hd, few]
    intro r hr
    have n1 : p ≠ r := ne_of_known hp hr
    have n2 : d ≠ r := ne_of_known hd hr
    refine lc_ind (fun items acc G' => ∃ done rest : List (List Nat), wnames ns = done ++ rest ∧ items = rest.map U.str ∧ acc = done.map (fun n => U.tup ((grpN ns n).map U.str)) ∧ G' = gup G r (.lst ((wnames ns).map U.str))) ?_ ?_ _ _ _ ⟨[], _, rfl, rfl, rfl, rfl⟩
    · rintro x xs acc G' N hN ⟨done, rest, e1, e2, rfl, rfl⟩
      cases rest with
      | nil => cases e2
      | cons m rest =>
        cases e2
        refine ⟨gup_same, ?_⟩
        have hm := adr_get (show m ∈ wnames ns by rw [e1]; simp)
        have bx' : WBx (gup G r (.lst ((wnames ns).map U.str))) ns := fun p hp => by
          obtain ⟨l, h1, h2⟩ := bx p hp
          exact ⟨l, (gup_ne (ne_of_known h1 hr)).trans h1, h2⟩
        simp_arith [hp, hd, hm, n1, n2, ok, bx']
        refine ⟨by have := congrArg List.length e1; rw [wnames_len, List.length_append] at this; omega, hN _ _ ⟨done ++ [m], rest, by simp [e1], rfl, by simp [grpN], rfl⟩⟩
    · rintro acc G' ⟨done, rest, e1, e2, rfl, rfl⟩
      cases rest with
      | cons m rest => cases e2
      | nil =>
        rw [List.append_nil] at e1
        refine ⟨gup_same, fun r2 h2 => ?_⟩
        subst e1
        have h2' := gup_none h2
        have n3 : p ≠ r2 := ne_of_known hp h2'.2
        have n4 : d ≠ r2 := ne_of_known hd h2'.2
        have m1 : r2 ≠ r := h2'.1
        simp_arith [hp, hd, n1, n2, n3, n4, few]
        intro r3 h3
        obtain ⟨m2, h3'⟩ := gup_none h3
        obtain ⟨m3, h3'⟩ := gup_none h3'
        have n5 : p ≠ r3 := ne_of_known hp h3'
        have n6 : d ≠ r3 := ne_of_known hd h3'
        simp_arith [hp, hd, n1, n2, n3, n4, n5, n6, m1, m2, m3]
        rw [zip_names]
        have sb : Sub G (gup (gup (gup G r (.lst ((wnames ns).map U.str))) r2 (.lst ((wnames ns).map fun n => U.tup ((grpN ns n).map U.str)))) r3 (.lst ((wnames ns).map U.str))) := ((Sub.drop hr).dropO h2).dropO h3
        have g3 : gup (gup (gup G r (.lst ((wnames ns).map U.str))) r2 (.lst ((wnames ns).map fun n => U.tup ((grpN ns n).map U.str)))) r3 (.lst ((wnames ns).map U.str)) r3 = some (.lst ((wnames ns).map U.str)) := gup_same
        have g2 : gup (gup (gup G r (.lst ((wnames ns).map U.str))) r2 (.lst ((wnames ns).map fun n => U.tup ((grpN ns n).map U.str)))) r3 (.lst ((wnames ns).map U.str)) r2 = some (.lst ((wnames ns).map fun n => U.tup ((grpN ns n).map U.str))) := (gup_ne m2.symm).trans gup_same
        revert sb g3 g2
        generalize gup (gup (gup G r (.lst ((wnames ns).map U.str))) r2 (.lst ((wnames ns).map fun n => U.tup ((grpN ns n).map U.str)))) r3 (.lst ((wnames ns).map U.str)) = GG
        intro sb g3 g2
        have fp := sb _ _ hp
        have fd := sb _ _ hd
        refine lc_ind (fun items acc G' => ∃ done rest : List (List Nat), wnames ns = done ++ rest ∧ items = rest.map (fun n => U.tup [.str n, .tup ((grpN ns n).map U.str)]) ∧ acc = (done.filter fun n => decide ((grpN ns n).head? = some n)).map (fun n => U.tup ((grpN ns n).map U.str)) ∧ G' = GG) ?_ ?_ _ _ _ ⟨[], _, rfl, rfl, rfl, rfl⟩
        · rintro x xs acc G' N hN ⟨done, rest, e1, e2, rfl, rfl⟩
          cases rest with
          | nil => cases e2
          | cons m rest =>
            cases e2
            refine ⟨⟨g3, g2⟩, ?_⟩
            obtain ⟨m0, r0, eg⟩ := grp_head (show m ∈ wnames ns by rw [e1]; simp)
            have h9 : done.length ≤ ns.length := by have := congrArg List.length e1; rw [wnames_len, List.length_append] at this; omega
            have h8 := List.length_filter_le (fun n => decide ((grpN ns n).head? = some n)) done
            simp_arith [eg]
            by_cases h : m0 = m
            · simp_arith [h]
              refine ⟨by omega, hN _ _ ⟨done ++ [m], rest, by simp [e1], rfl, ?_, rfl⟩⟩
              simp [List.filter_append, eg, h]
            · simp_arith [h]
              refine hN _ _ ⟨done ++ [m], rest, by simp [e1], rfl, ?_, rfl⟩
              simp [List.filter_append, eg, h]
        · rintro acc G' ⟨done, rest, e1, e2, rfl, rfl⟩
          cases rest with
          | cons m rest => cases e2
          | nil =>
            rw [List.append_nil] at e1
            rw [← e1]
            refine ⟨⟨g3, g2⟩, fun r4 h4 => ?_⟩
            show lcU _ _ _ _ _ _ ((fstN ns).map fun n => U.tup ((grpN ns n).map U.str)) _ (gup G' r4 (.lst ((fstN ns).map fun n => U.tup ((grpN ns n).map U.str))))
            have sb4 : Sub G (gup G' r4 (.lst ((fstN ns).map fun n => U.tup ((grpN ns n).map U.str)))) := sb.dropO h4
            have g4 : gup G' r4 (.lst ((fstN ns).map fun n => U.tup ((grpN ns n).map U.str))) r4 = some (.lst ((fstN ns).map fun n => U.tup ((grpN ns n).map U.str))) := gup_same
            have hmem : ∀ n ∈ fstN ns, n ∈ wnames ns ∧ (grpN ns n).head? = some n := fun n hn => by
              unfold fstN at hn
              rw [List.mem_filter, decide_eq_true_eq] at hn
              exact hn
            have hlen : (fstN ns).length < 1000 := by
              have := List.length_filter_le (fun n => decide ((grpN ns n).head? = some n)) (wnames ns)
              rw [wnames_len] at this
              unfold fstN
              omega
            revert sb4 g4
            generalize gup G' r4 (.lst ((fstN ns).map fun n => U.tup ((grpN ns n).map U.str))) = G4
            intro sb4 g4
            have fp := sb4 _ _ hp
            have fd := sb4 _ _ hd
            refine lc_ind (fun items acc G5 => ∃ done rest : List (List Nat), fstN ns = done ++ rest ∧ items = rest.map (fun n => U.tup ((grpN ns n).map U.str)) ∧ acc = done.map (fun n => U.tup [.tup ((grpN ns n).map U.str), .str (conA G (adrN ns n))]) ∧ G5 = G4) ?_ ?_ _ _ _ ⟨[], _, rfl, rfl, rfl, rfl⟩
            · rintro x xs acc G5 N hN ⟨done, rest, e1, e2, rfl, rfl⟩
              cases rest with
              | nil => cases e2
              | cons m rest =>
                cases e2
                refine ⟨g4, ?_⟩
                obtain ⟨hm, hh⟩ := hmem m (by rw [e1]; simp)
                obtain ⟨m0, r0, eg⟩ := grp_head hm
                rw [eg] at hh
                cases hh
                have ha := adr_get hm
                obtain ⟨l, b1, _⟩ := bx _ (wget_mem ha)
                dsimp only at b1
                have b2 := sb4 _ _ b1
                have ec := conA_box b1
                have h9 : done.length < 1000 := by have := congrArg List.length e1; rw [List.length_append] at this; omega
                simp_arith [eg, fp, fd, ha, b2]
                refine ⟨by omega, hN _ _ ⟨done ++ [m], rest, by simp [e1], rfl, ?_, rfl⟩⟩
                rw [List.map_append, List.map_singleton, eg, ec]
                rfl
            · rintro acc G5 ⟨done, rest, e1, e2, rfl, rfl⟩
              cases rest with
              | cons m rest => cases e2
              | nil =>
                rw [List.append_nil] at e1
                refine ⟨g4, fun r5 h5 => ?_⟩
                rw [← e1]
                exact .drop h5 (.of sb4 q)
  · exact h.elim
theorem fst_mem {α : Type} [DecidableEq α] [Inhabited α] {ns : Nm α} {n : List Nat} (h : n ∈ fstN ns) : n ∈ wnames ns ∧ (grpN ns n).head? = some n := by
  unfold fstN at h
  rw [List.mem_filter, decide_eq_true_eq] at h
  exact h
def nmap {α β : Type} (g : α → β) (ns : Nm α) : Nm β := ns.map fun p => (p.1, g p.2)
section
variable {α β : Type} [DecidableEq α] [Inhabited α] [DecidableEq β] [Inhabited β] {g : α → β} {ns : Nm α}
omit [DecidableEq α] [Inhabited α] [DecidableEq β] [Inhabited β] in
theorem wget_nmap {l : List Nat} : ∀ ns : Nm α, wget l (nmap g ns) = (wget l ns).map g
  | [] => rfl
  | (m, a) :: ns => by
    have ih := wget_nmap (l := l) ns
    unfold wget nmap at *
    rw [List.map_cons, List.lookup_cons, List.lookup_cons]
    cases (l == m) with
    | true => rfl
    | false => exact ih
omit [DecidableEq α] [Inhabited α] [DecidableEq β] [Inhabited β] in
theorem nmap_names : (nmap g ns).map (·.1) = ns.map (·.1) := by
  unfold nmap
  rw [List.map_map]
  rfl
omit [DecidableEq α] [Inhabited α] [DecidableEq β] [Inhabited β] in
theorem wnames_nmap : wnames (nmap g ns) = wnames ns := by
  unfold wnames
  rw [nmap_names]
omit [DecidableEq α] [Inhabited α] [DecidableEq β] [Inhabited β] in
theorem WOk.nmap (h : WOk ns) : WOk (nmap g ns) := by
  refine ⟨by rw [nmap_names]; exact h.nd, fun p hp => ?_, by unfold WW.nmap; rw [List.length_map]; exact h.few⟩
  obtain ⟨q, hq, rfl⟩ := List.mem_map.mp hp
  exact h.nm q hq
/-- g tells the values apart -/
def Inj (g : α → β) (ns : Nm α) : Prop := ∀ p ∈ ns, ∀ q ∈ ns, g p.2 = g q.2 → p.2 = q.2
omit [DecidableEq α] [Inhabited α] [DecidableEq β] in
theorem adr_nmap [Inhabited α] {n : List Nat} (h : n ∈ wnames ns) : adrN (nmap g ns) n = g (adrN ns n) := by
  have h1 := adr_get h
  have h2 := adr_get (ns := nmap g ns) (by rw [wnames_nmap]; exact h)
  rw [wget_nmap, h1] at h2
  exact (Option.some.inj h2).symm
theorem grp_nmap (hi : Inj g ns) {n : List Nat} (h : n ∈ wnames ns) : grpN (nmap g ns) n = grpN ns n := by
  unfold grpN shareN
  rw [wnames_nmap]
  refine List.filter_congr fun m hm => ?_
  have h1 := adr_get h
  have h2 := adr_get hm
  rw [adr_nmap h, wget_nmap, h2, Bool.eq_iff_iff, decide_eq_true_eq, decide_eq_true_eq]
  simp only [Option.map_some, Option.some.injEq]
  exact ⟨fun e => hi _ (wget_mem h2) _ (wget_mem h1) e, fun e => by rw [e]⟩
theorem fst_nmap (hi : Inj g ns) : fstN (nmap g ns) = fstN ns := by
  unfold fstN
  rw [wnames_nmap]
  exact List.filter_congr fun m hm => by rw [grp_nmap hi hm]
theorem rows_nmap (hi : Inj g ns) (f : β → List Nat) (f' : α → List Nat) (hf : ∀ p ∈ ns, f (g p.2) = f' p.2) : rowsN (nmap g ns) f = rowsN ns f' := by
  unfold rowsN
  rw [fst_nmap hi]
  refine List.map_congr_left fun n hn => ?_
  have hm := (fst_mem hn).1
  rw [grp_nmap hi hm, adr_nmap hm, hf _ (wget_mem (adr_get hm))]
theorem text_nmap (hi : Inj g ns) (f : β → List Nat) (f' : α → List Nat) (hf : ∀ p ∈ ns, f (g p.2) = f' p.2) : textN (nmap g ns) f = textN ns f' := by
  unfold textN
  rw [fst_nmap hi]
  congr 1
  refine List.map_congr_left fun n hn => ?_
  have hm := (fst_mem hn).1
  rw [grp_nmap hi hm, adr_nmap hm, hf _ (wget_mem (adr_get hm))]
omit [DecidableEq α] [Inhabited α] [DecidableEq β] [Inhabited β] in
theorem wput_nmap {l : List Nat} {a : α} : wput l (g a) (nmap g ns) = nmap g (wput l a ns) := by
  unfold wput
  rw [wany, wget_nmap, Option.isSome_map, wany]
  split
  · unfold nmap
    rw [List.map_map, List.map_map]
    refine List.map_congr_left fun p _ => ?_
    dsimp only [Function.comp]
    split <;> rfl
  · unfold nmap
    simp
omit [DecidableEq α] [Inhabited α] [DecidableEq β] [Inhabited β] in
theorem wdel_nmap {l : List Nat} : wdel l (nmap g ns) = nmap g (wdel l ns) := by
  unfold wdel nmap
  rw [List.filter_map]
  rfl
end
end WW
set_option maxHeartbeats 1000000
namespace LL
open PySem PySem.Spec PyProof.Rows L2 UL WW
local macro_rules | `(tactic| simp_arith! [$ls,*]) => `(tactic| (try (simp (discharger := assumption) only [↓x_var, ↓x_c, ↓x_op, ↓x_nil, ↓x_cons, ↓x_tup, ↓x_lst, ↓x_test, ↓x_bAnd, ↓x_call, ↓x_def, ↓x_bm, ↓x_u1, ↓x_seq, ↓x_next, ↓x_drop, ↓x_ret, ↓x_ifSC, ↓x_asg, ↓x_par, ↓x_gname, ↓x_sl, ↓x_noPart, ↓x_part, ↓x_for, ↓x_rng1, ↓x_any, ↓x_lc, ↓x_addI, ↓x_addS, ↓x_eqI, ↓x_ixL, ↓x_lenS, ↓x_tupleL, ↓x_slS, ↓x_rngA, ↓x_iterS, ↓x_iterL, ↓x_append, ↓x_tyL, ↓x_tyS, ↓x_join, ↓x_ixDs, ↓x_ixDi, ↓x_listAr, ↓x_sortedWL, ↓x_notInDi, e_condT, e_condF, slotK_s, asBl_s, asInt_s, getLst_s, getO_s, getUs_s, getLs_s, seq_l, lstO_s, src_p, getD_0, getD_s, setAll_nil, setAll_cons, uwipe_nil, uwipe_cons, len_cons, e_strsOnes, e_joinOnes, e_sumOnes, e_getBag, e_IntsU, e_seqS_s, e_seqS_r, x_take, x_of, e_getDR_b, e_dctOr_b, e_dgetB, e_keysB, e_omap_si, e_strsU_map, List.getElem?_cons_zero, List.getElem?_cons_succ, List.set_cons_zero, List.set_cons_succ, List.map_cons, List.map_nil, List.length_nil, List.length_cons, true_and, and_true, endsU, ustart, List.replicate, List.cons_append, List.nil_append, List.append_nil, List.unzip_cons, List.unzip_nil, cond_true, cond_false, Bool.not_true, Bool.not_false, decide_true, decide_false, List.mem_cons, List.reverse_cons, List.reverse_nil, gup_gup, gup_same, Bool.and_true, Bool.true_and, Bool.or_false, Bool.or_true, Bool.true_or, Bool.false_or, Nat.reduceAdd, Nat.reduceSub, String.reduceEq, Nat.reduceLeDiff, gup_ne, gup_neS, or_true, true_or, false_or, or_false, ne_eq, not_false_eq_true, reduceCtorEq, List.length_map, Nat.mul_zero, Nat.add_zero, Nat.zero_add, U.ref.injEq, U.int.injEq, U.str.injEq, U.bl.injEq, Nat.reduceLT, List.not_mem_nil, Int.reduceEq, List.cons.injEq, and_self, Int.reduceLT, Int.reduceAdd, Int.reduceSub, $ls,*])))
local macro_rules | `(tactic| simp_arith [$ls,*]) => `(tactic| (simp_arith! [$ls,*]; (repeat ((first | with_reducible refine scondT ?_ | with_reducible refine scondF ?_ | with_reducible refine condT ?_ | with_reducible refine condF ?_); simp_arith! [$ls,*]))))
local macro_rules | `(tactic| walk_at "usub") => `(tactic| (refine Sub.ofE ?_; (repeat (refine SubE.left ?_ (Or.inr (by first | assumption | simp (discharger := assumption) only [gup_same, gup_ne, gup_neS, gup_nN, gup_nNS, *])))); (repeat (refine SubE.put ?_ (by first | exact Or.inr (Or.inl (by assumption)) | exact Or.inr (Or.inr (by assumption)) | exact Or.inl (by simp) | exact Or.inr (Or.inr (by simp (discharger := assumption) only [gup_same, gup_ne, gup_neS, gup_nN, gup_nNS, *]))))); exact SubE.refl))
theorem e_smallS {l : List Nat} : smallU (.str l) = (l.length ≤ 1000000) := (rfl)
def sp_word : USp := fun us G Q _ => match us with
  | [.ref p] => getBag (G p) fun q => getLst (G q) fun ms => IntsU ms ∧ q ≠ p ∧ ∀ l c a n, nmB l = true → Q (.str l) (gup G p (bagO c a n q))
  | _ => False
theorem x_word {G : Gp} {Q : UK} {E : UX} {p : Addr} : Call sp_word [.ref p] G Q E = getBag (G p) fun q => getLst (G q) fun ms => IntsU ms ∧ q ≠ p ∧ ∀ l c a n, nmB l = true → Q (.str l) (gup G p (bagO c a n q)) := (rfl)
/- k17 _law_word: slots ['_law_bag_here', '_law_k'] -/
section
variable {α : Type} [DecidableEq α] [Inhabited α] {ns : Nm α}
omit [DecidableEq α] in
theorem adr_of {n : List Nat} {a : α} (h : wget n ns = some a) : adrN ns n = a := by
  unfold adrN
  rw [h]
  rfl
end
def tsel (ts : List (List Nat)) (k : Int) : List Nat := (ts[k.toNat]?).getD []
theorem _root_.UL.Sub.skip {G1 G2 : Gp} (x : Sub G1 G2) {a : Addr} {o : Ob} (h : G1 a = none) : Sub G1 (gup G2 a o) := fun b u g => (gup_ne fun e => by rw [e, h] at g; cases g).trans (x b u g)
def adrB (bs : List Addr) (k : Int) : Addr := (bs[k.toNat]?).getD 0
structure WSt (p q ft fb wp wd bd : Addr) (bs : List Addr) (ts : List (List Nat)) (ms : List Int) (bn : Nm Int) (G : Gp) : Prop where
  bx : LL.bx G bs ts
  ct : ∀ t ∈ ts, conB t = true
  gt : G ft = some (.lst (strL ts))
  gb : G fb = some (.lst (refL bs))
  gq : G q = some (.lst (IntU ms))
  gp : ∃ c a n, G p = some (bagO c a n q)
  gw : G wp = some (worldO wd)
  gd : G wd = some (dctO (nmap (adrB bs) bn))
  gn : G bd = some (bndO bn)
  ok : WOk bn
  val : ∀ p ∈ bn, 0 ≤ p.2 ∧ p.2 < ts.length
  nd : [p, q, ft, fb, wp, wd, bd].Nodup
theorem bx_nd {G : Gp} : ∀ {bs : List Addr} {ts : List (List Nat)}, bx G bs ts → bs.Nodup
  | [], _, _ => List.nodup_nil
  | _ :: _, [], x => x.elim
  | b :: bs, t :: ts, ⟨_, x2, x3⟩ => List.nodup_cons.mpr ⟨x2, bx_nd x3⟩
theorem bx_adr {G : Gp} {bs : List Addr} {ts : List (List Nat)} {k : Int} (x : bx G bs ts) (h0 : 0 ≤ k) (h1 : k < ts.length) : bs[k.toNat]? = some (adrB bs k) ∧ atI (refL bs) k = some (.ref (adrB bs k)) ∧ atI (strL ts) k = some (.str (tsel ts k)) ∧ tsel ts k ∈ ts ∧ G (adrB bs k) = some (boxO (tsel ts k)) := by
  obtain ⟨b, t, e0, e1, e2, e3, e4⟩ := bx_at x h0 h1
  have hb : adrB bs k = b := by unfold adrB; rw [e0]; rfl
  have ht : tsel ts k = t := by
    rw [atI_nn h0 (by rw [strL_len]; exact h1)] at e2
    unfold strL at e2
    rw [List.getElem?_map] at e2
    unfold tsel
    cases z : ts[k.toNat]? with
    | none => rw [z] at e2; cases e2
    | some y => rw [z] at e2; cases e2; rfl
  rw [hb, ht]
  exact ⟨e0, e1, e2, e3, e4⟩
section
variable {p q ft fb wp wd bd r : Addr} {bs : List Addr} {ts : List (List Nat)} {ms : List Int} {bn : Nm Int} {G : Gp} {o : Ob}
theorem WSt.inj (S : WSt p q ft fb wp wd bd bs ts ms bn G) : Inj (adrB bs) bn := fun x hx y hy e => by
  obtain ⟨a0, a1⟩ := S.val x hx
  obtain ⟨b0, b1⟩ := S.val y hy
  have h1 := (bx_adr S.bx a0 a1).1
  have h2 := (bx_adr S.bx b0 b1).1
  rw [← e] at h2
  obtain ⟨i1, j1⟩ := List.getElem?_eq_some_iff.mp h1
  obtain ⟨i2, j2⟩ := List.getElem?_eq_some_iff.mp h2
  have := (List.getElem_inj (bx_nd S.bx)).mp (j1.trans j2.symm)
  omega
theorem WSt.wbx (S : WSt p q ft fb wp wd bd bs ts ms bn G) : WBx G (nmap (adrB bs) bn) := fun x hx => by
  obtain ⟨y, hy, rfl⟩ := List.mem_map.mp hx
  obtain ⟨a0, a1⟩ := S.val y hy
  obtain ⟨_, _, _, h3, h4⟩ := bx_adr S.bx a0 a1
  exact ⟨_, h4, S.ct _ h3⟩
theorem WSt.con (S : WSt p q ft fb wp wd bd bs ts ms bn G) : ∀ x ∈ bn, conA G (adrB bs x.2) = tsel ts x.2 := fun x hx => by
  obtain ⟨a0, a1⟩ := S.val x hx
  exact conA_box (bx_adr S.bx a0 a1).2.2.2.2
theorem WSt.text (S : WSt p q ft fb wp wd bd bs ts ms bn G) : textN (nmap (adrB bs) bn) (conA G) = textN bn (tsel ts) := text_nmap S.inj _ _ S.con
theorem WSt.rows (S : WSt p q ft fb wp wd bd bs ts ms bn G) : rowsN (nmap (adrB bs) bn) (conA G) = rowsN bn (tsel ts) := rows_nmap S.inj _ _ S.con
theorem WSt.notbox (S : WSt p q ft fb wp wd bd bs ts ms bn G) : ∀ x ∈ [p, q, ft, fb, wp, wd, bd], ∀ t, G x ≠ some (boxO t) := by
  obtain ⟨c, a, n, gp⟩ := S.gp
  intro x hx t e
  simp only [List.mem_cons, List.not_mem_nil, or_false] at hx
  rcases hx with rfl | rfl | rfl | rfl | rfl | rfl | rfl
  · rw [gp] at e; cases e
  · rw [S.gq] at e; cases e
  · rw [S.gt] at e; cases e
  · rw [S.gb] at e; cases e
  · rw [S.gw] at e; simp [worldO, boxO] at e
  · rw [S.gd] at e; cases e
  · rw [S.gn] at e; cases e
theorem WSt.new (S : WSt p q ft fb wp wd bd bs ts ms bn G) (hr : G r = none) : WSt p q ft fb wp wd bd bs ts ms bn (gup G r o) := by
  obtain ⟨h1, h2, h3, h4, h5, ⟨c, a, n, h6⟩, h7, h8, h9, h10, h11, h12⟩ := S
  exact ⟨bx_gup h1 (fun t z => by rw [hr] at z; cases z), h2, (gup_ne (ne_of_known h3 hr)).trans h3, (gup_ne (ne_of_known h4 hr)).trans h4, (gup_ne (ne_of_known h5 hr)).trans h5, ⟨c, a, n, (gup_ne (ne_of_known h6 hr)).trans h6⟩,
    (gup_ne (ne_of_known h7 hr)).trans h7, (gup_ne (ne_of_known h8 hr)).trans h8, (gup_ne (ne_of_known h9 hr)).trans h9, h10, h11, h12⟩
theorem WSt.bag (S : WSt p q ft fb wp wd bd bs ts ms bn G) {c' a' n' : Int} : WSt p q ft fb wp wd bd bs ts ms bn (gup G p (bagO c' a' n' q)) := by
  have nb := S.notbox p (by simp)
  obtain ⟨h1, h2, h3, h4, h5, ⟨c, a, n, h6⟩, h7, h8, h9, h10, h11, h12⟩ := S
  have h := h12
  simp only [List.nodup_cons, List.mem_cons, List.not_mem_nil, or_false, not_or] at h
  obtain ⟨⟨n1, n2, n3, n4, n5, n6⟩, _⟩ := h
  exact ⟨bx_gup h1 nb, h2, (gup_neS n2).trans h3, (gup_neS n3).trans h4, (gup_neS n1).trans h5, ⟨_, _, _, gup_same⟩, (gup_neS n4).trans h7, (gup_neS n5).trans h8, (gup_neS n6).trans h9, h10, h11, h12⟩
theorem WSt.bound (S : WSt p q ft fb wp wd bd bs ts ms bn G) {bn' : Nm Int} (ok' : WOk bn') (val' : ∀ p ∈ bn', 0 ≤ p.2 ∧ p.2 < ts.length) : WSt p q ft fb wp wd bd bs ts ms bn' (gup (gup G wd (dctO (nmap (adrB bs) bn'))) bd (bndO bn')) := by
  have nb := S.notbox wd (by simp)
  have nb2 := S.notbox bd (by simp)
  obtain ⟨h1, h2, h3, h4, h5, ⟨c, a, n, h6⟩, h7, h8, h9, h10, h11, h12⟩ := S
  have h := h12
  simp only [List.nodup_cons, List.mem_cons, List.not_mem_nil, or_false, not_or] at h
  obtain ⟨⟨n1, n2, n3, n4, n5, n6⟩, ⟨m2, m3, m4, m5, m6⟩, ⟨l3, l4, l5, l6⟩, ⟨k4, k5, k6⟩, ⟨j5, j6⟩, i6, _⟩ := h
  exact ⟨bx_gup (bx_gup h1 nb) (fun t z => nb2 t ((gup_neS i6).symm.trans z)), h2, ((gup_ne l6).trans (gup_ne l5)).trans h3, ((gup_ne k6).trans (gup_ne k5)).trans h4, ((gup_ne m6).trans (gup_ne m5)).trans h5, ⟨c, a, n, ((gup_ne n6).trans (gup_ne n5)).trans h6⟩,
    ((gup_ne j6).trans (gup_ne j5)).trans h7, (gup_ne i6).trans gup_same, gup_same, ok', val', h12⟩
theorem val_put {m : Int} (h : ∀ p ∈ bn, 0 ≤ p.2 ∧ p.2 < m) {l : List Nat} {k : Int} (k0 : 0 ≤ k) (k1 : k < m) : ∀ p ∈ wput l k bn, 0 ≤ p.2 ∧ p.2 < m := fun p hp => by
  rcases mem_wput hp with rfl | ⟨hp, _⟩
  · exact ⟨k0, k1⟩
  · exact h p hp
theorem val_del {m : Int} (h : ∀ p ∈ bn, 0 ≤ p.2 ∧ p.2 < m) {l : List Nat} : ∀ p ∈ wdel l bn, 0 ≤ p.2 ∧ p.2 < m := fun p hp => h p (List.mem_filter.mp hp).1
theorem WSt.put (S : WSt p q ft fb wp wd bd bs ts ms bn G) {l : List Nat} {k : Int} (hl : nmB l = true) (k0 : 0 ≤ k) (k1 : k < ts.length) (few : bn.length < 59) :
    WSt p q ft fb wp wd bd bs ts ms (wput l k bn) (gup (gup G wd (dctO (wput l (adrB bs k) (nmap (adrB bs) bn)))) bd (bndO (wput l k bn))) := by
  rw [wput_nmap]
  exact S.bound (S.ok.put k hl few) (val_put S.val k0 k1)
theorem WSt.del (S : WSt p q ft fb wp wd bd bs ts ms bn G) {l : List Nat} :
    WSt p q ft fb wp wd bd bs ts ms (wdel l bn) (gup (gup G wd (dctO (wdel l (nmap (adrB bs) bn)))) bd (bndO (wdel l bn))) := by
  rw [wdel_nmap]
  exact S.bound (S.ok.del l) (val_del S.val)
theorem WSt.become (S : WSt p q ft fb wp wd bd bs ts ms bn G) {k : Int} {t : List Nat} (hc : conB t = true) (k0 : 0 ≤ k) (k1 : k < ts.length) :
    WSt p q ft fb wp wd bd bs (ts.set k.toNat t) ms bn (gup (gup G ft (.lst (strL (ts.set k.toNat t)))) (adrB bs k) (boxO t)) := by
  have nb := S.notbox
  obtain ⟨e0, e1, e2, e3, e4⟩ := bx_adr S.bx k0 k1
  have ne : ∀ x ∈ [p, q, ft, fb, wp, wd, bd], x ≠ adrB bs k := fun x hx e => nb x hx _ (e ▸ e4)
  obtain ⟨h1, h2, h3, h4, h5, ⟨c, a, n, h6⟩, h7, h8, h9, h10, h11, h12⟩ := S
  have h := h12
  simp only [List.nodup_cons, List.mem_cons, List.not_mem_nil, or_false, not_or] at h
  obtain ⟨⟨n1, n2, n3, n4, n5, n6⟩, ⟨m2, m3, m4, m5, m6⟩, ⟨l3, l4, l5, l6⟩, ⟨k4, k5, k6⟩, ⟨j5, j6⟩, i6, _⟩ := h
  refine ⟨bx_put (bx_gup h1 (nb ft (by simp))) e0, fun x hx => ?_, (gup_ne (ne ft (by simp))).trans gup_same, (gup_ne (ne fb (by simp))).trans ((gup_neS l3).trans h4), (gup_ne (ne q (by simp))).trans ((gup_ne m2).trans h5), ⟨c, a, n, (gup_ne (ne p (by simp))).trans ((gup_ne n2).trans h6)⟩,
    (gup_ne (ne wp (by simp))).trans ((gup_neS l4).trans h7), (gup_ne (ne wd (by simp))).trans ((gup_neS l5).trans h8), (gup_ne (ne bd (by simp))).trans ((gup_neS l6).trans h9), h10, fun x hx => ?_, h12⟩
  · rcases List.mem_or_eq_of_mem_set hx with hx | rfl
    · exact h2 x hx
    · exact hc
  · rw [List.length_set]
    exact h11 x hx
end
structure WPre (p q wp wd bd : Addr) (ms : List Int) (G : Gp) : Prop where
  gq : G q = some (.lst (IntU ms))
  gp : ∃ c a n, G p = some (bagO c a n q)
  gw : G wp = some (worldO wd)
  gd : G wd = some (dctO [])
  gn : G bd = some (bndO [])
  nd : [p, q, wp, wd, bd].Nodup
section
variable {p q ft fb wp wd bd r : Addr} {bs : List Addr} {ts : List (List Nat)} {ms : List Int} {bn : Nm Int} {G : Gp} {o : Ob}
theorem WPre.new (S : WPre p q wp wd bd ms G) (hr : G r = none) : WPre p q wp wd bd ms (gup G r o) := by
  obtain ⟨h5, ⟨c, a, n, h6⟩, h7, h8, h9, h12⟩ := S
  exact ⟨(gup_ne (ne_of_known h5 hr)).trans h5, ⟨c, a, n, (gup_ne (ne_of_known h6 hr)).trans h6⟩, (gup_ne (ne_of_known h7 hr)).trans h7, (gup_ne (ne_of_known h8 hr)).trans h8, (gup_ne (ne_of_known h9 hr)).trans h9, h12⟩
theorem WPre.bag (S : WPre p q wp wd bd ms G) {c' a' n' : Int} : WPre p q wp wd bd ms (gup G p (bagO c' a' n' q)) := by
  obtain ⟨h5, ⟨c, a, n, h6⟩, h7, h8, h9, h12⟩ := S
  have h := h12
  simp only [List.nodup_cons, List.mem_cons, List.not_mem_nil, or_false, not_or] at h
  obtain ⟨⟨n1, n2, n3, n4⟩, _⟩ := h
  exact ⟨(gup_neS n1).trans h5, ⟨_, _, _, gup_same⟩, (gup_neS n2).trans h7, (gup_neS n3).trans h8, (gup_neS n4).trans h9, h12⟩
theorem WPre.fresh (S : WPre p q wp wd bd ms G) (hr : G r = none) : r ∉ [p, q, wp, wd, bd] := by
  obtain ⟨h5, ⟨c, a, n, h6⟩, h7, h8, h9, h12⟩ := S
  intro h
  simp only [List.mem_cons, List.not_mem_nil, or_false] at h
  rcases h with rfl | rfl | rfl | rfl | rfl
  · rw [hr] at h6; cases h6
  · rw [hr] at h5; cases h5
  · rw [hr] at h7; cases h7
  · rw [hr] at h8; cases h8
  · rw [hr] at h9; cases h9
theorem WPre.start (S : WPre p q wp wd bd ms G) (hb : LL.bx G bs ts) (hc : ∀ t ∈ ts, conB t = true) (gt : G ft = some (.lst (strL ts))) (gb : G fb = some (.lst (refL bs))) (h1 : ft ∉ [p, q, wp, wd, bd]) (h2 : fb ∉ [p, q, wp, wd, bd]) (h3 : fb ≠ ft) :
    WSt p q ft fb wp wd bd bs ts ms [] G := by
  obtain ⟨h5, h6, h7, h8, h9, h12⟩ := S
  refine ⟨hb, hc, gt, gb, h5, h6, h7, h8, h9, WOk.nil, fun x hx => (by cases hx), ?_⟩
  simp only [List.nodup_cons, List.mem_cons, List.not_mem_nil, or_false, not_or] at h1 h2 h12 ⊢
  obtain ⟨⟨n1, n2, n3, n4⟩, ⟨m2, m3, m4⟩, ⟨l3, l4⟩, k4, _⟩ := h12
  obtain ⟨a1, a2, a3, a4, a5⟩ := h1
  obtain ⟨b1, b2, b3, b4, b5⟩ := h2
  exact ⟨⟨n1, fun e => a1 e.symm, fun e => b1 e.symm, n2, n3, n4⟩, ⟨fun e => a2 e.symm, fun e => b2 e.symm, m2, m3, m4⟩, ⟨fun e => h3 e.symm, a3, a4, a5⟩, ⟨b3, b4, b5⟩, ⟨l3, l4⟩, k4, not_false, List.nodup_nil⟩
end
abbrev RowP := List (List Nat) × List Nat
def strD (l : List Nat) : PyData := .str ⟨l.toArray⟩
def rowsU (r : List RowP) : List U := r.map fun x => .tup [.tup (x.1.map U.str), .str x.2]
def rowsD (r : List RowP) : List PyData := r.map fun x => .tuple [.tuple (x.1.map strD), strD x.2]
def okRw (r : List RowP) : Prop := r.length ≤ 60 ∧ ∀ x ∈ r, x.1.length ≤ 60 ∧ (∀ n ∈ x.1, okL 13 n) ∧ okL 52 x.2
theorem low27 : ∀ c ∈ C27, c < 1114112 := by decide
theorem okL_nm {l : List Nat} (h : nmB l = true) : okL 13 l := by
  unfold nmB at h
  simp only [Bool.and_eq_true, decide_eq_true_eq, List.all_eq_true] at h
  exact ⟨h.2.1, fun c hc => low27 c (h.2.2 c hc)⟩
theorem dats_strs {G : Gp} : ∀ ls : List (List Nat), Dats G (ls.map U.str) (ls.map strD)
  | [] => .nil
  | l :: ls => .cons (.str l) (dats_strs ls)
theorem dats_rows {G : Gp} : ∀ r : List RowP, Dats G (rowsU r) (rowsD r)
  | [] => .nil
  | x :: r => .cons (.tup (.cons (.tup (dats_strs x.1)) (.cons (.str x.2) .nil))) (dats_rows r)
structure Fine (k w : Nat) (ds : List PyData) : Prop where
  lay : PyData.canLayAll0 ds = true
  dep : PyData.depthAll ds ≤ k
  shw : PyData.showableAll ds = true
  lsh : PyData.leavesShortAll 60 ds = true
  wgt : PyData.weightAll ds ≤ w
theorem fine_str {n : Nat} {l : List Nat} (h : okL n l) : PyData.canLay0 (strD l) = true ∧ PyData.depth (strD l) = 0 ∧ PyData.showable (strD l) = true ∧ PyData.leavesShort 60 (strD l) = true ∧ PyData.weight (strD l) ≤ n := by
  have h3 := low8 h.2
  have h4 : PyData.strOk ⟨l.toArray⟩ = true := by simpa [PyData.strOk] using h.2
  refine ⟨by simpa [strD, PyData.canLay0] using h4, by simp [strD, PyData.depth], by simp [strD, PyData.showable], by simpa [strD, PyData.leavesShort] using h3, by simpa [strD, PyData.weight] using h.1⟩
theorem fine_strs {n : Nat} : ∀ ls : List (List Nat), (∀ l ∈ ls, okL n l) → Fine 0 (ls.length * (n + 1)) (ls.map strD)
  | [], _ => ⟨by simp [PyData.canLayAll0], by simp [PyData.depthAll], by simp [PyData.showableAll], by simp [PyData.leavesShortAll], by simp [PyData.weightAll]⟩
  | l :: ls, h => by
    obtain ⟨i1, i2, i3, i4, i5⟩ := fine_strs ls fun x hx => h x (List.mem_cons_of_mem _ hx)
    obtain ⟨j1, j2, j3, j4, j5⟩ := fine_str (h l List.mem_cons_self)
    refine ⟨by simp [PyData.canLayAll0, i1, j1], ?_, by simp [PyData.showableAll, i3, j3], by simp [PyData.leavesShortAll, i4, j4], ?_⟩
    · simp only [List.map_cons, PyData.depthAll, j2]
      omega
    · simp only [List.map_cons, PyData.weightAll, List.length_cons, Nat.add_mul]
      omega
theorem fine_rows : ∀ r : List RowP, (∀ x ∈ r, x.1.length ≤ 60 ∧ (∀ n ∈ x.1, okL 13 n) ∧ okL 52 x.2) → Fine 2 (r.length * 1000) (rowsD r)
  | [], _ => ⟨by simp [rowsD, PyData.canLayAll0], by simp [rowsD, PyData.depthAll], by simp [rowsD, PyData.showableAll], by simp [rowsD, PyData.leavesShortAll], by simp [rowsD, PyData.weightAll]⟩
  | x :: r, h => by
    obtain ⟨i1, i2, i3, i4, i5⟩ := fine_rows r fun x hx => h x (List.mem_cons_of_mem _ hx)
    obtain ⟨a1, a2, a3⟩ := h x List.mem_cons_self
    obtain ⟨k1, k2, k3, k4, k5⟩ := fine_strs x.1 a2
    obtain ⟨j1, j2, j3, j4, j5⟩ := fine_str a3
    unfold rowsD at *
    refine ⟨by simp [PyData.canLayAll0, PyData.canLay0, i1, j1, k1], ?_, by simp [PyData.showableAll, PyData.showable, i3, j3, k3], by simp [PyData.leavesShortAll, PyData.leavesShort, i4, j4, k4], ?_⟩
    · simp only [List.map_cons, PyData.depthAll, PyData.depth, j2]
      omega
    · simp only [List.map_cons, PyData.weightAll, PyData.weight, List.length_cons, Nat.add_mul]
      omega
def rtext (r : List RowP) : List Nat := (PyData.tuple (rowsD r)).shown.cps.toList
theorem shows_rows {G : Gp} {r : List RowP} (h : okRw r) : Shows G (.tup (rowsU r)) (.tuple (rowsD r)) := by
  obtain ⟨i1, i2, i3, i4, i5⟩ := fine_rows r h.2
  have := h.1
  refine shows_small (.tup (dats_rows r)) (by simpa [PyData.showable] using i3) (by simp only [PyData.depth]; omega) (by simpa [PyData.leavesShort] using i4) (by simp only [PyData.weight]; omega)
theorem repr_rows {G : Gp} {r : List RowP} {Q : UK} (h : okRw r) (q : Q (.str (rtext r)) G) : reprA (.tup (rowsU r)) G Q := ⟨_, shows_rows h, q⟩
local macro_rules | `(tactic| simp_arith! [$ls,*]) => `(tactic| (try (simp (discharger := assumption) only [↓x_var, ↓x_c, ↓x_op, ↓x_nil, ↓x_cons, ↓x_tup, ↓x_lst, ↓x_test, ↓x_bAnd, ↓x_call, ↓x_def, ↓x_bm, ↓x_u1, ↓x_seq, ↓x_next, ↓x_drop, ↓x_ret, ↓x_ifSC, ↓x_asg, ↓x_par, ↓x_gname, ↓x_sl, ↓x_noPart, ↓x_part, ↓x_for, ↓x_rng1, ↓x_any, ↓x_lc, ↓x_addI, ↓x_addS, ↓x_eqI, ↓x_ixL, ↓x_lenS, ↓x_tupleL, ↓x_slS, ↓x_rngA, ↓x_iterS, ↓x_iterL, ↓x_append, ↓x_tyL, ↓x_tyS, ↓x_join, ↓x_ixDs, ↓x_ixDi, ↓x_listAr, ↓x_sortedWL, ↓x_notInDi, e_condT, e_condF, slotK_s, asBl_s, asInt_s, getLst_s, getO_s, getUs_s, getLs_s, seq_l, lstO_s, src_p, getD_0, getD_s, setAll_nil, setAll_cons, uwipe_nil, uwipe_cons, len_cons, e_strsOnes, e_joinOnes, e_sumOnes, e_getBag, e_IntsU, e_seqS_s, e_seqS_r, x_take, x_of, e_getDR_b, e_dctOr_b, e_dgetB, e_keysB, e_omap_si, x_word, e_strsU_map, List.getElem?_cons_zero, List.getElem?_cons_succ, List.set_cons_zero, List.set_cons_succ, List.map_cons, List.map_nil, List.length_nil, List.length_cons, true_and, and_true, endsU, ustart, List.replicate, List.cons_append, List.nil_append, List.append_nil, List.unzip_cons, List.unzip_nil, cond_true, cond_false, Bool.not_true, Bool.not_false, decide_true, decide_false, List.mem_cons, List.reverse_cons, List.reverse_nil, gup_gup, gup_same, Bool.and_true, Bool.true_and, Bool.or_false, Bool.or_true, Bool.true_or, Bool.false_or, Nat.reduceAdd, Nat.reduceSub, String.reduceEq, Nat.reduceLeDiff, gup_ne, gup_neS, or_true, true_or, false_or, or_false, ne_eq, not_false_eq_true, reduceCtorEq, List.length_map, Nat.mul_zero, Nat.add_zero, Nat.zero_add, U.ref.injEq, U.int.injEq, U.str.injEq, U.bl.injEq, Nat.reduceLT, List.not_mem_nil, Int.reduceEq, List.cons.injEq, and_self, Int.reduceLT, Int.reduceAdd, Int.reduceSub, $ls,*])))
local macro_rules | `(tactic| simp_arith [$ls,*]) => `(tactic| (simp_arith! [$ls,*]; (repeat ((first | with_reducible refine scondT ?_ | with_reducible refine scondF ?_ | with_reducible refine condT ?_ | with_reducible refine condF ?_); simp_arith! [$ls,*]))))
local macro_rules | `(tactic| walk_at "usub") => `(tactic| (refine Sub.ofE ?_; (repeat (refine SubE.left ?_ (Or.inr (by first | assumption | simp (discharger := assumption) only [gup_same, gup_ne, gup_neS, gup_nN, gup_nNS, *])))); (repeat (refine SubE.put ?_ (by first | exact Or.inr (Or.inl (by assumption)) | exact Or.inr (Or.inr (by assumption)) | exact Or.inl (by simp) | exact Or.inr (Or.inr (by simp (discharger := assumption) only [gup_same, gup_ne, gup_neS, gup_nN, gup_nNS, *]))))); exact SubE.refl))
theorem cut_to {l : List Nat} {k : Int} (h0 : 0 ≤ k) (h1 : k ≤ l.length) : cutN l none (some k) = l.take k.toNat := by
  obtain ⟨j, rfl⟩ := Int.eq_ofNat_of_zero_le h0
  unfold cutN
  rw [HT.sIx_none, HT.sIx_nat]
  have : min j l.length = j := by omega
  rw [this]
  simp
theorem cut_from {l : List Nat} {k : Int} (h0 : 0 ≤ k) (h1 : k ≤ l.length) : cutN l (some k) none = l.drop k.toNat := by
  obtain ⟨j, rfl⟩ := Int.eq_ofNat_of_zero_le h0
  unfold cutN
  rw [HT.sIx_none, HT.sIx_nat]
  have : min j l.length = j := by omega
  rw [this, List.take_of_length_le (by rw [List.length_drop]; exact Nat.le_refl _)]
  simp
theorem strs_any (x : List Nat) : ∀ ks : List (List Nat), (strL ks).any (fun y => ueq y (.str x)) = decide (x ∈ ks)
  | [] => by simp [strL]
  | b :: bs => by
    have ih := strs_any x bs
    unfold strL at *
    rw [List.map_cons, List.any_cons, ih]
    by_cases h : x = b
    · simp [ueq, h]
    · have : ¬ b = x := fun e => h e.symm
      simp [ueq, h, this]
theorem strs_flat : ∀ ks : List (List Nat), (strL ks).all uflat = true
  | [] => rfl
  | b :: bs => by
    have ih := strs_flat bs
    unfold strL at *
    rw [List.map_cons, List.all_cons, ih]
    rfl
theorem notin_strs {G : Gp} {p : Addr} {x : List Nat} {ks : List (List Nat)} {Q : UK} {E : UX} (h : G p = some (.lst (strL ks))) (q : Q (.bl (!decide (x ∈ ks))) G) : notInU (.str x) (.ref p) G Q E := by
  refine ⟨_, h, rfl, strs_flat ks, ?_⟩
  rw [strs_any]
  exact q
theorem Keep.skip {p z : Addr} {G G2 : Gp} {o : Ob} (h : Keep p G G2) (hz : G z = none) : Keep p G (gup G2 z o) := fun a u hn g => (gup_ne fun e => by rw [e, hz] at g; cases g).trans (h a u hn g)
end LL
set_option maxHeartbeats 1000000
namespace LL
open PySem PySem.Spec PyProof.Rows L2 UL WW
theorem new_sub {G G2 : Gp} {r : Addr} {o : Ob} (h : Sub G G2) (hr : G2 r = none) : Sub G (gup G2 r o) := h.dropO hr
theorem dat_sub {G G2 : Gp} {u : U} {d : PyData} (k : Sub G G2) (h : Dat G u d) : Dat G2 u d := dat_new k h
theorem td_sub {G G2 : Gp} {u : U} (h : (tdOf G u).isSome = true) (k : Sub G G2) : (tdOf G2 u).isSome = true := by
  cases u <;> try exact h
  rename_i a
  rw [td_R] at h ⊢
  cases g : G a with
  | none => rw [g] at h; cases h
  | some o =>
    rw [g] at h
    rw [k a o g]
    exact h
/-- without the bag -/
def hide (p : Addr) (G : Gp) : Gp := fun a => if a = p then none else G a
theorem hide_le {p : Addr} {G : Gp} : Sub (hide p G) G := fun a o h => by
  unfold hide at h
  split at h
  · cases h
  · exact h
theorem hide_keep {p : Addr} {G G2 : Gp} (k : Keep p G G2) : Sub (hide p G) (hide p G2) := fun a o h => by
  unfold hide at h ⊢
  split at h
  · cases h
  · rename_i n
    rw [if_neg n]
    exact k a o n h
theorem hide_ne {p a : Addr} {G : Gp} (h : a ≠ p) : hide p G a = G a := if_neg h
def SmallD (d : PyData) : Prop := d.showable = true ∧ d.depth ≤ 10 ∧ d.leavesShort 60 = true ∧ d.weight ≤ 10000
theorem smallD (d : PyData) (h : (d.showable && (decide (d.depth ≤ 10) && (d.leavesShort 60 && decide (d.weight ≤ 10000)))) = true) : SmallD d := by
  simp only [Bool.and_eq_true, decide_eq_true_eq] at h
  exact ⟨h.1, h.2.1, h.2.2.1, h.2.2.2⟩
def okU : U → Prop
  | .str l => okL 60 l
  | _ => True
theorem okU_small {u : U} (h : okU u) : smallU u := by
  cases u <;> try exact True.intro
  have h' : okL 60 _ := h
  exact Nat.le_trans h'.1 (by decide)
/-- a value that may be shown, and no box -/
structure Fit (G : Gp) (u : U) : Prop where
  td : (tdOf G u).isSome = true
  ok : okU u
  nb : isBoxU G u = false
  dat : ∃ d, Dat G u d ∧ SmallD d
theorem Fit.sub {G G2 : Gp} {u : U} (h : Fit G u) (k : Sub G G2) : Fit G2 u := by
  obtain ⟨h1, h2, h3, d, h4, h5⟩ := h
  refine ⟨td_sub h1 k, h2, ?_, d, dat_sub k h4, h5⟩
  cases u <;> try exact h3
  rename_i a
  unfold isBoxU at h3 ⊢
  rw [td_R] at h1 h3 ⊢
  cases g : G a with
  | none => rw [g] at h1; cases h1
  | some o =>
    rw [g] at h3
    rw [k a o g]
    exact h3
theorem fit_lit {G : Gp} {u : U} {d : PyData} (h1 : (tdOf G u).isSome = true) (h2 : okU u) (h3 : isBoxU G u = false) (D : Dat G u d) (h : (d.showable && (decide (d.depth ≤ 10) && (d.leavesShort 60 && decide (d.weight ≤ 10000)))) = true) : Fit G u := ⟨h1, h2, h3, d, D, smallD d h⟩
theorem fit_str {G : Gp} {n : Nat} {l : List Nat} (h : okL n l) (hn : n ≤ 60) : Fit G (.str l) := by
  have h1 := h.1
  have h3 := low8 h.2
  refine ⟨rfl, ⟨Nat.le_trans h1 hn, h.2⟩, rfl, _, .str l, by simp [PyData.showable], by simp [PyData.depth], by simpa [PyData.leavesShort] using h3, ?_⟩
  simp [PyData.weight, Str.length]
  omega
theorem fit_non {G : Gp} : Fit G .non := fit_lit rfl True.intro rfl .non (by decide +kernel)
theorem fit_bl {G : Gp} (b : Bool) : Fit G (.bl b) := fit_lit rfl True.intro rfl (.bl _) (by cases b <;> decide +kernel)
theorem fit_i0 {G : Gp} : Fit G (.int 0) := fit_lit rfl True.intro rfl (.int _) (by decide +kernel)
theorem fit_i1 {G : Gp} : Fit G (.int 1) := fit_lit rfl True.intro rfl (.int _) (by decide +kernel)
theorem fit_big {G : Gp} : Fit G (.int (10 ^ 29)) := fit_lit rfl True.intro rfl (.int _) (by decide +kernel)
theorem fit_t0 {G : Gp} : Fit G (.tup []) := fit_lit rfl True.intro rfl (.tup .nil) (by decide +kernel)
theorem fit_l0 {G : Gp} {z : Addr} (g : G z = some (.lst [])) : Fit G (.ref z) := fit_lit (d := .list []) (by rw [td_R, g]; rfl) True.intro (by unfold isBoxU; rw [td_R, g]; rfl) (.lst g .nil) (by decide +kernel)
theorem smallD_one {n : Nat} {l : List Nat} (h : okL n l) (hn : n ≤ 60) : SmallD (.list [.str ⟨l.toArray⟩]) ∧ SmallD (.tuple [.str ⟨l.toArray⟩]) := by
  have h1 := h.1
  have h3 := low8 h.2
  have h4 : PyData.leavesShort 60 (.str ⟨l.toArray⟩) = true := by simpa [PyData.leavesShort] using h3
  refine ⟨⟨by simp [PyData.showable, PyData.showableAll], by simp [PyData.depth, PyData.depthAll], by simp [PyData.leavesShort, PyData.leavesShortAll]; simpa using h3, ?_⟩, by simp [PyData.showable, PyData.showableAll], by simp [PyData.depth, PyData.depthAll], by simp [PyData.leavesShort, PyData.leavesShortAll]; simpa using h3, ?_⟩
  · simp [PyData.weight, PyData.weightAll, Str.length]
    omega
  · simp [PyData.weight, PyData.weightAll, Str.length]
    omega
theorem fit_l1 {G : Gp} {n : Nat} {l : List Nat} {z : Addr} (g : G z = some (.lst [.str l])) (h : okL n l) (hn : n ≤ 60) : Fit G (.ref z) :=
  ⟨by rw [td_R, g]; rfl, True.intro, by unfold isBoxU; rw [td_R, g]; rfl, _, .lst g (.cons (.str _) .nil), (smallD_one h hn).1⟩
theorem fit_t1 {G : Gp} {n : Nat} {l : List Nat} (h : okL n l) (hn : n ≤ 60) : Fit G (.tup [.str l]) := ⟨rfl, True.intro, rfl, _, .tup (.cons (.str _) .nil), (smallD_one h hn).2⟩
theorem okL_name {α : Type} {ns : Nm α} (h : WOk ns) {l : List Nat} (hl : l ∈ wnames ns) : okL 60 l := by
  rw [wnames_mem] at hl
  obtain ⟨x, hx, rfl⟩ := List.mem_map.mp hl
  have := okL_nm (h.nm x hx)
  exact ⟨Nat.le_trans this.1 (by decide), this.2⟩
section
variable {p q ft fb wp wd bd r : Addr} {bs : List Addr} {ts : List (List Nat)} {ms : List Int} {bn : Nm Int} {G G2 : Gp} {o : Ob}
theorem WSt.keep (S : WSt p q ft fb wp wd bd bs ts ms bn G) (k : Keep p G G2) {c a n : Int} (g : G2 p = some (bagO c a n q)) : WSt p q ft fb wp wd bd bs ts ms bn G2 := by
  obtain ⟨h1, h2, h3, h4, h5, ⟨c0, a0, n0, h6⟩, h7, h8, h9, h10, h11, h12⟩ := S
  have h := h12
  simp only [List.nodup_cons, List.mem_cons, List.not_mem_nil, or_false, not_or] at h
  obtain ⟨⟨n1, n2, n3, n4, n5, n6⟩, _⟩ := h
  exact ⟨bx_same h1 fun b _ t e => (k _ _ (fun z => by rw [z, h6] at e; cases e) e).trans e.symm, h2, k _ _ (Ne.symm n2) h3, k _ _ (Ne.symm n3) h4, k _ _ (Ne.symm n1) h5, ⟨_, _, _, g⟩, k _ _ (Ne.symm n4) h7, k _ _ (Ne.symm n5) h8, k _ _ (Ne.symm n6) h9, h10, h11, h12⟩
theorem WSt.sub (S : WSt p q ft fb wp wd bd bs ts ms bn G) (k : Sub G G2) : WSt p q ft fb wp wd bd bs ts ms bn G2 := by
  obtain ⟨c, a, n, h⟩ := S.gp
  exact S.keep (fun x o _ g => k x o g) (k _ _ h)
end
section
variable {hits : List (String × Bool)} {i : Nat} {ts : Addr → Option Addr → String → UTS} {D : UEnds} {us : USt} {G : Gp} {u : U}
end
theorem nx_same {α : Type} [DecidableEq α] {a : α} : (!decide (a = a)) = false := by simp
end LL
set_option maxHeartbeats 1000000
namespace LL
open PySem PySem.Spec PyProof.Rows L2 UL WW
abbrev Pr := List Nat × U
def kvP (ps : List Pr) : List (U × U) := ps.map fun p => (.str p.1, p.2)
/-- the first that is refused: by its name, or by its contents -/
def ofBad : List Pr → Option (Bool × U)
  | [] => none
  | (n, u) :: r => bif nmB n then (bif conU u then ofBad r else some (false, u)) else some (true, .str n)
def badX : Bool × U → UExc
  | (true, u) => badName u
  | (false, u) => badBox u
def conL : U → List Nat
  | .str l => l
  | _ => []
theorem sub0 {G G2 : Gp} (s : Sub G G2) {a : Addr} (h : G2 a = none) : G a = none := by
  cases g : G a with
  | none => rfl
  | some o => rw [s a o g] at h; cases h
theorem gup2 {G : Gp} {r : Addr} {o o2 : Ob} : gup (gup G r o) r o2 = gup G r o2 := by
  funext a
  unfold gup
  split <;> rfl
/-- a world made anew -/
structure OfAt (G0 G : Gp) (w wd : Addr) (bs : List Addr) (ps : List Pr) : Prop where
  bx : bx G bs (ps.map fun p => conL p.2)
  nw : ∀ b ∈ w :: wd :: bs, G0 b = none
  gw : G w = some (worldO wd)
  gd : G wd = some (dctO ((ps.map (·.1)).zip bs))
  ok : ∀ p ∈ ps, nmB p.1 = true ∧ conU p.2 = true
  nd : (ps.map (·.1)).Nodup
theorem zip_fst {ps : List Pr} {bs : List Addr} (h : bs.length = ps.length) : ((ps.map (·.1)).zip bs).map (·.1) = ps.map (·.1) := by
  rw [List.map_fst_zip]
  rw [List.length_map]
  omega
theorem OfAt.wok {G0 G : Gp} {w wd : Addr} {bs : List Addr} {ps : List Pr} (O : OfAt G0 G w wd bs ps) (h3 : ps.length ≤ 3) : WOk ((ps.map (·.1)).zip bs) := by
  have hl : bs.length = ps.length := (bx_len O.bx).trans (List.length_map _)
  refine ⟨by rw [zip_fst hl]; exact O.nd, fun p hp => ?_, ?_⟩
  · have := List.mem_map_of_mem (f := (·.1)) hp
    rw [zip_fst hl] at this
    obtain ⟨q, hq, e⟩ := List.mem_map.mp this
    rw [← e]
    exact (O.ok q hq).1
  · rw [List.length_zip, List.length_map]
    omega
def sp_World_of : USp := fun us G Q E => match us with
  | [.ref d] => ∃ ps : List Pr, G d = some (.dct (kvP ps)) ∧ ps.length ≤ 3 ∧ (ps.map (·.1)).Nodup ∧ (∀ p ∈ ps, p.1.length ≤ 1000 ∧ (tdOf (hide d G) p.2).isSome = true) ∧
      (∀ x, ofBad ps = some x → ∀ G2, Sub (hide d G) G2 → E (badX x) G2) ∧ (ofBad ps = none → ∀ w wd bs G2, Sub (hide d G) G2 → OfAt (hide d G) G2 w wd bs ps → Q (.ref w) G2)
  | _ => False
section
variable {G : Gp} {Q : UK} {E : UX} {d : Addr}
theorem x_World_of : Call sp_World_of [.ref d] G Q E = ∃ ps : List Pr, G d = some (.dct (kvP ps)) ∧ ps.length ≤ 3 ∧ (ps.map (·.1)).Nodup ∧ (∀ p ∈ ps, p.1.length ≤ 1000 ∧ (tdOf (hide d G) p.2).isSome = true) ∧
      (∀ x, ofBad ps = some x → ∀ G2, Sub (hide d G) G2 → E (badX x) G2) ∧ (ofBad ps = none → ∀ w wd bs G2, Sub (hide d G) G2 → OfAt (hide d G) G2 w wd bs ps → Q (.ref w) G2) := (rfl)
end
def lookP (ps : List Pr) (n : List Nat) : U := (ps.lookup n).getD .non
def srtR (ps : List Pr) : List RowP := (srtN (ps.map (·.1))).map fun n => ([n], conL (lookP ps n))
theorem look_of {n : List Nat} {u : U} : ∀ {ps : List Pr}, (ps.map (·.1)).Nodup → (n, u) ∈ ps → lookP ps n = u := fun {ps} hn h => by
  unfold lookP
  have := wget_of hn h
  unfold wget at this
  rw [this]
  rfl
theorem bx_zip {G : Gp} : ∀ {ps : List Pr} {bs : List Addr}, LL.bx G bs (ps.map fun p => conL p.2) → ∀ q ∈ (ps.map (·.1)).zip bs, ∃ u, (q.1, u) ∈ ps ∧ G q.2 = some (boxO (conL u))
  | [], _, _, q, h => by cases h
  | (n, u) :: ps, [], _, q, h => by cases h
  | (n, u) :: ps, b :: bs, x, q, h => by
    obtain ⟨x1, x2, x3⟩ := x
    rcases List.mem_cons.mp h with rfl | h
    · exact ⟨u, by simp, x1⟩
    · obtain ⟨v, h1, h2⟩ := bx_zip x3 q h
      exact ⟨v, List.mem_cons_of_mem _ h1, h2⟩
section
variable {G0 G : Gp} {w wd : Addr} {bs : List Addr} {ps : List Pr}
theorem OfAt.len (O : OfAt G0 G w wd bs ps) : bs.length = ps.length := (bx_len O.bx).trans (List.length_map _)
theorem OfAt.sub {G2 : Gp} (O : OfAt G0 G w wd bs ps) (s : Sub G G2) : OfAt G0 G2 w wd bs ps :=
  ⟨bx_same O.bx fun b _ t e => (s _ _ e).trans e.symm, O.nw, s _ _ O.gw, s _ _ O.gd, O.ok, O.nd⟩
theorem OfAt.okr (O : OfAt G0 G w wd bs ps) (h3 : ps.length ≤ 3) : okRw (srtR ps) := by
  refine ⟨by unfold srtR; rw [List.length_map, srtN_len, List.length_map]; omega, fun x hx => ?_⟩
  unfold srtR at hx
  obtain ⟨n, hn, rfl⟩ := List.mem_map.mp hx
  obtain ⟨⟨m, u⟩, hp, rfl⟩ := List.mem_map.mp (srtN_mem.mp hn)
  obtain ⟨h1, h2⟩ := O.ok _ hp
  refine ⟨by simp, fun k hk => ?_, ?_⟩
  · rw [List.mem_singleton.mp hk]
    exact okL_nm h1
  · show okL 52 (conL (lookP ps m))
    rw [look_of O.nd hp]
    cases u <;> first | exact okL_con h2 | cases h2
theorem OfAt.wbx (O : OfAt G0 G w wd bs ps) : WBx G ((ps.map (·.1)).zip bs) := fun p hp => by
  obtain ⟨u, h1, h2⟩ := bx_zip O.bx p hp
  refine ⟨_, h2, ?_⟩
  have h3 := (O.ok _ h1).2
  cases u <;> first | exact h3 | cases h3
theorem OfAt.names (O : OfAt G0 G w wd bs ps) : wnames ((ps.map (·.1)).zip bs) = srtN (ps.map (·.1)) := by
  unfold wnames
  rw [zip_fst O.len]
theorem OfAt.get (O : OfAt G0 G w wd bs ps) {n : List Nat} (h : n ∈ ps.map (·.1)) : ∃ b, wget n ((ps.map (·.1)).zip bs) = some b ∧ b ∈ bs ∧ G b = some (boxO (conL (lookP ps n))) := by
  cases z : wget n ((ps.map (·.1)).zip bs) with
  | none => exact absurd (by rw [zip_fst O.len]; exact h) (wget_none.mp z)
  | some b =>
    have m := wget_mem z
    obtain ⟨u, h1, h2⟩ := bx_zip O.bx _ m
    exact ⟨b, rfl, (List.of_mem_zip m).2, by rw [look_of O.nd h1]; exact h2⟩
theorem zip_inj : ∀ {ns : List (List Nat)} {bs : List Addr}, bs.Nodup → ∀ {n m : List Nat} {b : Addr}, (n, b) ∈ ns.zip bs → (m, b) ∈ ns.zip bs → n = m
  | [], _, _, _, _, _, h, _ => by cases h
  | _ :: _, [], _, _, _, _, h, _ => by cases h
  | k :: ns, c :: bs, nd, n, m, b, h1, h2 => by
    rw [List.nodup_cons] at nd
    rw [List.zip_cons_cons] at h1 h2
    rcases List.mem_cons.mp h1 with h1 | h1 <;> rcases List.mem_cons.mp h2 with h2 | h2
    · cases h1; cases h2; rfl
    · cases h1; exact absurd (List.of_mem_zip h2).2 nd.1
    · cases h2; exact absurd (List.of_mem_zip h1).2 nd.1
    · exact zip_inj nd.2 h1 h2
theorem filter_one {α : Type} {p : α → Bool} {n : α} : ∀ {l : List α}, l.Nodup → n ∈ l → (∀ m ∈ l, p m = true ↔ m = n) → l.filter p = [n]
  | [], _, h, _ => by cases h
  | k :: l, nd, h, hp => by
    rw [List.nodup_cons] at nd
    by_cases e : k = n
    · subst e
      rw [List.filter_cons_of_pos ((hp k List.mem_cons_self).mpr rfl)]
      congr 1
      rw [List.filter_eq_nil_iff]
      intro m hm z
      have := (hp m (List.mem_cons_of_mem _ hm)).mp z
      subst this
      exact nd.1 hm
    · rw [List.filter_cons_of_neg (fun z => e ((hp k List.mem_cons_self).mp z))]
      refine filter_one nd.2 ?_ fun m hm => hp m (List.mem_cons_of_mem _ hm)
      rcases List.mem_cons.mp h with h | h
      · exact absurd h.symm e
      · exact h
theorem OfAt.grp (O : OfAt G0 G w wd bs ps) {n : List Nat} (h : n ∈ ps.map (·.1)) : grpN ((ps.map (·.1)).zip bs) n = [n] := by
  obtain ⟨b, e, hb, _⟩ := O.get h
  unfold grpN shareN
  rw [adr_of e, O.names]
  refine filter_one (srtN_nd O.nd) (srtN_mem.mpr h) fun m hm => ?_
  rw [decide_eq_true_eq]
  constructor
  · intro z
    exact zip_inj (bx_nd O.bx) (wget_mem z) (wget_mem e)
  · rintro rfl
    exact e
theorem OfAt.rows (O : OfAt G0 G w wd bs ps) : rowsN ((ps.map (·.1)).zip bs) (conA G) = rowsU (srtR ps) := by
  have e : fstN ((ps.map (·.1)).zip bs) = srtN (ps.map (·.1)) := by
    unfold fstN
    rw [O.names, List.filter_eq_self]
    intro n hn
    rw [O.grp (srtN_mem.mp hn)]
    simp
  unfold rowsN rowsU srtR
  rw [e, List.map_map]
  apply List.map_congr_left
  intro n hn
  obtain ⟨b, e, _, hb⟩ := O.get (srtN_mem.mp hn)
  rw [O.grp (srtN_mem.mp hn), adr_of e, conA_box hb]
  rfl
end
local macro_rules | `(tactic| simp_arith! [$ls,*]) => `(tactic| (try (simp (discharger := assumption) only [↓x_var, ↓x_nil, ↓x_cons, ↓x_not, ↓x_tru, ↓x_def, ↓x_seq, ↓x_next, ↓x_ret, ↓x_ifSC, ↓x_asg, ↓x_gname, ↓x_gsub, ↓x_gtup, ↓x_gcons, ↓x_gnil, ↓x_for, ↓x_make, ↓x_raise, ↓x_truB, ↓x_ap, ↓x_setIr, ↓x_dropQ, ↓x_iItems, ↓x_itemsD, e_condT, slotK_s, asStr_s, asRef_s, getIns_s, isi_oo, td_S, td_R, src_p, getD_0, getD_s, len_cons, e_box, e_tdOb_box, x_Box_init, e_nmS, x_is_name, e_insOr_w, e_getWorld, e_getNs, e_badName, e_isBoxU, e_isBoxT, x_World_init, x_World_set, e_smallS, e_getDcr, List.getElem?_cons_zero, List.getElem?_cons_succ, List.set_cons_zero, List.set_cons_succ, List.map_cons, List.map_nil, List.length_nil, List.length_cons, true_and, endsU, ustart, List.replicate, List.cons_append, List.nil_append, decide_true, List.mem_cons, gup_same, List.zip_cons_cons, List.zip_nil_left, Bool.true_and, Bool.or_true, Bool.true_or, Nat.reduceAdd, Nat.reduceSub, Nat.reduceLeDiff, gup_ne, or_true, true_or, Nat.zero_add, Option.isSome_some, Int.reduceAdd, Int.reduceSub, $ls,*])))
local macro_rules | `(tactic| simp_arith [$ls,*]) => `(tactic| (simp_arith! [$ls,*]; (repeat ((first | with_reducible refine scondT ?_ | with_reducible refine scondF ?_ | with_reducible refine condT ?_ | with_reducible refine condF ?_); simp_arith! [$ls,*]))))
local macro_rules | `(tactic| walk_at "usub") => `(tactic| (refine Sub.ofE ?_; (repeat (refine SubE.left ?_ (Or.inr (by first | assumption | simp (discharger := assumption) only [gup_same, gup_ne, gup_neS, gup_nN, gup_nNS, *])))); (repeat (refine SubE.put ?_ (by first | exact Or.inr (Or.inl (by assumption)) | exact Or.inr (Or.inr (by assumption)) | exact Or.inl (by simp) | exact Or.inr (Or.inr (by simp (discharger := assumption) only [gup_same, gup_ne, gup_neS, gup_nN, gup_nNS, *]))))); exact SubE.refl))
/- slots ['contents', 'fresh', 'name', 'marks'] -/
def t_World_of : UTS := (tUSeq (tUAsg (tUMake "World" sp_World___init__ 1 0 [.p 0] [] [] tUNil tUNil) (gUName 1))
    (tUSeq (tULockX (tUFor (tIItems (tUVar 0)) (gUTup 2 (gUCons (gUName 2) (gUCons (gUName 3) gUNil))) (tUSeq (tUIfSC (tUNot (tUTru (fun u G Q _ => truU u G Q) (tUDef sp_is_name 1 0 [.p 0] [] [] (tUCons (tUVar 2) tUNil) tUNil))) (tUSeq (tURaise "BadName" ["name"] (tUCons (tUVar 2) tUNil))
    tUNext) tUNext)
    (tUSeq (tUAsg (tUMake "Box" sp_Box___init__ 2 0 [.p 0, .p 1] [(.str [])] [] (tUCons (tUVar 3) tUNil) tUNil) (gUSub (tUVar 1) (tUVar 2) (setI setD "World" (apOf sp_World___setitem__ [.p 0, .p 1, .p 2] [] []))))
    tUNext))))
    (tUSeq (tURet (tUVar 1))
    tUNext)))
theorem law_World_of (us : List U) (G : Gp) (Q : UK) (E : UX) (h : sp_World_of us G Q E) : t_World_of (endsU Q E) (ustart 4 us) G := by
  unfold sp_World_of at h
  split at h
  · rename_i d
    obtain ⟨ps, gd, h3, nd, hp, hE, hQ⟩ := h
    simp_arith [t_World_of]
    intro w hw wd hwd
    obtain ⟨w1, wd0⟩ := gup_none hwd
    have dw := ne_of_known gd hw
    have dwd := ne_of_known gd wd0
    have n0 : hide d G w = none := sub0 hide_le hw
    have n1 : hide d G wd = none := sub0 hide_le wd0
    have S0 : Sub (hide d G) (gup (gup (gup G w (.ins "World" [])) wd (dctO [])) w (worldO wd)) := ((hide_le.skip n0).skip n1).skip n0
    have g3 : gup (gup (gup G w (.ins "World" [])) wd (dctO [])) w (worldO wd) d = some (.dct (kvP ps)) := by simp_arith [gd]
    have gw : gup (gup (gup G w (.ins "World" [])) wd (dctO [])) w (worldO wd) w = some (worldO wd) := gup_same
    have gwd : gup (gup (gup G w (.ins "World" [])) wd (dctO [])) w (worldO wd) wd = some (dctO []) := by simp_arith []
    revert S0 g3 gw gwd
    generalize gup (gup (gup G w (.ins "World" [])) wd (dctO [])) w (worldO wd) = G3
    intro S0 g3 gw gwd
    refine lockX g3 fun od gs => ?_
    simp_arith []
    refine for_ind (fun items us' G2 => ∃ (done rest : List Pr) (bs : List Addr) (v2 v3 : Option U), ps = done ++ rest ∧ items = (kvP rest).map (fun p => U.tup [p.1, p.2]) ∧ us' = [some (.ref d), some (.ref w), v2, v3] ∧
      G2 d = some (.dcr od gs (kvP ps)) ∧ Sub (hide d G) G2 ∧ OfAt (hide d G) G2 w wd bs done ∧ ofBad ps = ofBad rest) ?_ ?_ _ _ _ ⟨[], ps, [], _, _, rfl, rfl, rfl, gup_same, S0.skip (if_pos rfl), ⟨True.intro, ?_, ?_, ?_, fun _ h => (by cases h), List.nodup_nil⟩, rfl⟩
    · rintro x xs us' G2 N hN ⟨done, rest, bs, v2, v3, e1, e2, rfl, gd2, S2, O2, eb⟩
      cases rest with
      | nil => cases e2
      | cons p rest =>
        obtain ⟨n, u⟩ := p
        cases e2
        refine ⟨gd2, ?_⟩
        obtain ⟨hn, hu⟩ := hp (n, u) (by rw [e1]; simp)
        have hu := td_sub hu S2
        have hn' : n.length ≤ 1000000 := by have : n.length ≤ 1000 := hn; omega
        simp_arith [hn']
        refine scond2 (fun h1 => ?_) fun h1 => ?_
        · rw [Bool.not_eq_true'] at h1
          simp_arith []
          refine .now (hE (true, .str n) ?_ G2 S2)
          rw [eb, ofBad, h1]
          rfl
        · rw [Bool.not_eq_false'] at h1
          simp_arith []
          intro r hr
          have tu := td_sub hu (Sub.drop (o := .ins "Box" []) hr)
          simp_arith [tu]
          refine bcond (fun h2 => ?_) fun h2 => ?_
          · obtain ⟨l, rfl⟩ : ∃ l, u = .str l := by cases u <;> first | exact ⟨_, rfl⟩ | cases h2
            have h2' : conB l = true := h2
            have hl : bs.length = done.length := (bx_len O2.bx).trans (List.length_map _)
            have hd3 : done.length ≤ 3 := by rw [e1] at h3; simp at h3; omega
            have ok := O2.wok hd3
            have gw2 := O2.gw
            have gd3 := O2.gd
            have r1 := ne_of_known gw2 hr
            have r2 := ne_of_known gd3 hr
            have r3 := ne_of_known gd2 hr
            have d1 : wd ≠ d := fun e => by rw [e, gd2] at gd3; cases gd3
            rw [gup2]
            have nin : n ∉ done.map (·.1) := fun m => by
              rw [e1, List.map_append, List.nodup_append] at nd
              exact nd.2.2 n m n (by simp) rfl
            have ew : wput n r ((done.map (·.1)).zip bs) = ((done ++ [(n, U.str l)]).map (·.1)).zip (bs ++ [r]) := by
              have z : wget n ((done.map (·.1)).zip bs) = none := wget_none.mpr (by rw [zip_fst hl]; exact nin)
              unfold wput
              rw [wany, z, List.map_append, List.zip_append (by rw [List.length_map, hl])]
              rfl
            simp_arith [gw2, gd3, ok, h1]
            rw [ew]
            have r0 : hide d G r = none := sub0 S2 hr
            have bxs := bx_snoc (t := l) hr O2.bx
            have bwd : ∀ t, gup G2 r (boxO l) wd ≠ some (boxO t) := fun t e => by
              rw [gup_ne r2, gd3] at e
              cases e
            refine ⟨hn', hN _ _ ⟨done ++ [(n, .str l)], rest, bs ++ [r], _, _, by simp [e1], rfl, rfl, ?_, (S2.dropO hr).skip n1, ⟨?_, fun b hb => ?_, ?_, gup_same, fun p hp => ?_, ?_⟩, ?_⟩⟩
            · exact (gup_ne (Ne.symm d1)).trans ((gup_ne r3).trans gd2)
            · have e9 : (done ++ [(n, U.str l)]).map (fun p => conL p.2) = done.map (fun p => conL p.2) ++ [l] := by simp [conL]
              rw [e9]
              exact bx_gup bxs bwd
            · rcases List.mem_cons.mp hb with rfl | hb
              · exact n0
              rcases List.mem_cons.mp hb with rfl | hb
              · exact n1
              rcases List.mem_append.mp hb with hb | hb
              · exact O2.nw _ (by simp [hb])
              · rw [List.mem_singleton.mp hb]; exact r0
            · exact (gup_ne (Ne.symm w1)).trans ((gup_ne r1).trans gw2)
            · rcases List.mem_append.mp hp with hp | hp
              · exact O2.ok p hp
              · rw [List.mem_singleton.mp hp]; exact ⟨h1, h2⟩
            · rw [e1, List.map_append] at nd
              rw [List.map_append]
              exact nd.sublist (List.Sublist.append_left (by simp) _)
            · rw [eb, ofBad, h1, h2]
              rfl
          · refine .now (hE (false, u) ?_ _ (S2.dropO hr))
            rw [eb, ofBad, h1, h2]
            rfl
    · rintro us' G2 ⟨done, rest, bs, v2, v3, e1, e2, rfl, gd2, S2, O2, eb⟩
      cases rest with
      | cons m rest => cases e2
      | nil =>
        refine ⟨gd2, ?_⟩
        simp_arith []
        rw [List.append_nil] at e1
        subst e1
        refine ⟨gd2, .now (hQ eb w wd bs _ (S2.skip (if_pos rfl)) ⟨bx_gup O2.bx (fun t e => by rw [gd2] at e; cases e), O2.nw, (gup_ne (Ne.symm dw)).trans O2.gw, (gup_ne (Ne.symm dwd)).trans O2.gd, O2.ok, O2.nd⟩)⟩
    · intro b hb
      rcases List.mem_cons.mp hb with rfl | hb
      · exact n0
      · rw [List.mem_singleton.mp hb]; exact n1
    · exact (gup_ne (Ne.symm dw)).trans gw
    · exact (gup_ne (Ne.symm dwd)).trans gwd
  · exact h.elim
end LL
set_option maxHeartbeats 2000000
namespace K16
open PySem PySem.Spec PyProof.Rows L2 UL WW LL
def tupP (p : Pr) : U := .tup [.str p.1, p.2]
def prs (w : Int) (a b c : U) : List Pr :=
  if w < 4 then (if w = 0 then [] else if w = 1 then [([120], a)] else if w = 2 then [([120], a), ([103], b)] else [([103], a), ([107, 101, 112, 116], b), ([120], c)])
  else if w = 4 then [([120], a), ([107, 101, 112, 116], a), ([97, 98, 99, 100, 101, 102, 103, 104, 105, 106, 107, 108, 109], a)]
  else if w = 5 then [([65], a)]
  else if w = 6 then [([120], a), ([97, 97, 49], b), ([103], c)]
  else if w = 7 then [([97, 98, 99, 100, 101, 102, 103, 104, 105, 106, 107, 108, 109, 110], a), ([103], b)]
  else if w = 8 then [([103], a), ([120], b), ([97, 95, 98], c)]
  else [([103, 71], a), ([120], b), ([107, 101, 112, 116], c)]
def four : List (List Nat) := [[120], [103], [107, 101, 112, 116], [97, 98, 99, 100, 101, 102, 103, 104, 105, 106, 107, 108, 109]]
def words : List (List Nat) := four ++ [[65], [97, 97, 49], [97, 98, 99, 100, 101, 102, 103, 104, 105, 106, 107, 108, 109, 110], [97, 95, 98], [103, 71]]
theorem words_nm : ∀ n ∈ words, nmB n = decide (n ∈ four) := by decide +kernel
theorem words_len : ∀ n ∈ words, n.length ≤ 14 := by decide
structure PrsOk (G : Gp) (ps : List Pr) : Prop where
  len : ps.length ≤ 3
  nd : (ps.map (·.1)).Nodup
  wd : ∀ p ∈ ps, p.1 ∈ words
  fit : ∀ p ∈ ps, Fit G p.2
theorem prs_ok {G : Gp} {w : Int} {a b c : U} (ha : Fit G a) (hb : Fit G b) (hc : Fit G c) : PrsOk G (prs w a b c) := by
  unfold prs
  repeat' split
  all_goals (refine ⟨by simp, by simp, fun p hp => ?_, fun p hp => ?_⟩ <;> simp only [List.mem_cons, List.not_mem_nil, or_false] at hp <;> (try exact hp.elim) <;> (first | (rcases hp with rfl | rfl | rfl <;> first | assumption | (simp [words, four])) | (rcases hp with rfl | rfl <;> first | assumption | (simp [words, four])) | (subst hp; first | assumption | (simp [words, four]))))
theorem PrsOk.sub {G G2 : Gp} {ps : List Pr} (h : PrsOk G ps) (s : Sub G G2) : PrsOk G2 ps := ⟨h.len, h.nd, h.wd, fun p hp => (h.fit p hp).sub s⟩
def rowP (p : Pr) : U := .tup [.tup [.str p.1], p.2]
def kindL : Bool → List Nat
  | true => [110, 97, 109, 101]
  | false => [98, 111, 120]
def sp__law_is_contents : USp := fun us G Q _ => match us with
  | [u] => (tdOf G u).isSome = true ∧ smallU u ∧ Q (.bl (conU u)) G
  | _ => False
def sp__law_thing : USp := fun us G Q _ => match us with
  | [.ref p] => getBag (G p) fun q => getLst (G q) fun is => IntsU is ∧ q ≠ p ∧ ∀ u G2 c a n, Fit (hide p G2) u → G2 p = some (bagO c a n q) → Keep p G G2 → Q u G2
  | _ => False
def sp__law_pairs : USp := fun us G Q _ => match us with
  | [.int w, a, b, c] => 0 ≤ w ∧ w < 10 ∧ ∀ r G2, Sub G G2 → G r = none → G2 r = some (.lst ((prs w a b c).map tupP)) → Q (.ref r) G2
  | _ => False
def sp__law_due : USp := fun us G Q _ => match us with
  | [.ref z] => ∃ ps, G z = some (.lst (List.map tupP ps)) ∧ PrsOk G ps ∧ (∀ k u, ofBad ps = some (k, u) → ∀ r G2, Sub G G2 → G r = none → G2 r = some (.lst [.str (kindL k), u]) → Q (.ref r) G2) ∧
      (ofBad ps = none → ∀ G2, Sub G G2 → Q (.tup (rowsU (srtR ps))) G2)
  | _ => False
def sp__law_made : USp := fun us G Q _ => match us with
  | [.int w, a, b, c] => 0 ≤ w ∧ w < 10 ∧ Fit G a ∧ Fit G b ∧ Fit G c ∧ (∀ k u, ofBad (prs w a b c) = some (k, u) → ∀ r G2, Sub G G2 → G r = none → G2 r = some (.lst [.str (kindL k), u]) → Q (.ref r) G2) ∧
      (ofBad (prs w a b c) = none → ∀ w1 wd bs G2, Sub G G2 → OfAt G G2 w1 wd bs (prs w a b c) → Q (.ref w1) G2)
  | _ => False
def sp_law : USp := fun us G Q _ => ∃ ns : List Int, us = [.rol (IntU ns)] ∧ ns.length ≤ 63 ∧ ∀ G', Q (.bl true) G'
section
variable {G : Gp} {Q : UK} {E : UX} {p z : Addr} {u a b c : U} {w : Int}
theorem x_is_contents16 : Call sp__law_is_contents [u] G Q E = ((tdOf G u).isSome = true ∧ smallU u ∧ Q (.bl (conU u)) G) := (rfl)
theorem x_thing16 : Call sp__law_thing [.ref p] G Q E = getBag (G p) fun q => getLst (G q) fun is => IntsU is ∧ q ≠ p ∧ ∀ u G2 c a n, Fit (hide p G2) u → G2 p = some (bagO c a n q) → Keep p G G2 → Q u G2 := (rfl)
theorem x_pairs16 : Call sp__law_pairs [.int w, a, b, c] G Q E = (0 ≤ w ∧ w < 10 ∧ ∀ r G2, Sub G G2 → G r = none → G2 r = some (.lst ((prs w a b c).map tupP)) → Q (.ref r) G2) := (rfl)
theorem x_due16 : Call sp__law_due [.ref z] G Q E = ∃ ps, G z = some (.lst (List.map tupP ps)) ∧ PrsOk G ps ∧ (∀ k u, ofBad ps = some (k, u) → ∀ r G2, Sub G G2 → G r = none → G2 r = some (.lst [.str (kindL k), u]) → Q (.ref r) G2) ∧
      (ofBad ps = none → ∀ G2, Sub G G2 → Q (.tup (rowsU (srtR ps))) G2) := (rfl)
theorem x_made16 : Call sp__law_made [.int w, a, b, c] G Q E = (0 ≤ w ∧ w < 10 ∧ Fit G a ∧ Fit G b ∧ Fit G c ∧ (∀ k u, ofBad (prs w a b c) = some (k, u) → ∀ r G2, Sub G G2 → G r = none → G2 r = some (.lst [.str (kindL k), u]) → Q (.ref r) G2) ∧
      (ofBad (prs w a b c) = none → ∀ w1 wd bs G2, Sub G G2 → OfAt G G2 w1 wd bs (prs w a b c) → Q (.ref w1) G2)) := (rfl)
end
section
variable {hits : List (String × Bool)} {o : Option Nat} {ts : Addr → Option Addr → String → UTS} {cs : List UClause} {D : UEnds} {us : USt} {G : Gp} {u : U}
theorem e_tryBN : tryXM D ((hits, o, ts) :: cs) (badName u) us G = catchK (hits.lookup "BadName") (["name"].Nodup ∧ ∀ a d, G a = none → ts a d "BadName" (sufDO o D) (setUO o (.exc a d "BadName" ["name"] [u]) us) G) (tryXM D cs (badName u) us G) := (rfl)
theorem e_tryBB : tryXM D ((hits, o, ts) :: cs) (badBox u) us G = catchK (hits.lookup "BadBox") (["contents"].Nodup ∧ ∀ a d, G a = none → ts a d "BadBox" (sufDO o D) (setUO o (.exc a d "BadBox" ["contents"] [u]) us) G) (tryXM D cs (badBox u) us G) := (rfl)
end
theorem e_tupP {n : List Nat} {u : U} : tupP (n, u) = .tup [.str n, u] := (rfl)
theorem e_key_x : (Str.ofString "x").cps.toList = [120] := by decide +kernel
theorem e_key_g : (Str.ofString "g").cps.toList = [103] := by decide +kernel
theorem e_key_kept : (Str.ofString "kept").cps.toList = [107, 101, 112, 116] := by decide +kernel
theorem e_key_ab : (Str.ofString "abcdefghijklm").cps.toList = [97, 98, 99, 100, 101, 102, 103, 104, 105, 106, 107, 108, 109] := by decide +kernel
theorem e_key_A : (Str.ofString "A").cps.toList = [65] := by decide +kernel
theorem e_key_aa1 : (Str.ofString "aa1").cps.toList = [97, 97, 49] := by decide +kernel
theorem e_key_ac : (Str.ofString "abcdefghijklmn").cps.toList = [97, 98, 99, 100, 101, 102, 103, 104, 105, 106, 107, 108, 109, 110] := by decide +kernel
theorem e_key_a_b : (Str.ofString "a_b").cps.toList = [97, 95, 98] := by decide +kernel
theorem e_key_gG : (Str.ofString "gG").cps.toList = [103, 71] := by decide +kernel
local macro_rules | `(tactic| simp_arith! [$ls,*]) => `(tactic| (try (simp (discharger := assumption) only [↓x_var, ↓x_c, ↓x_op, ↓x_nil, ↓x_cons, ↓x_tup, ↓x_lst, ↓x_test, ↓x_not, ↓x_bAnd, ↓x_bOr, ↓x_tru, ↓x_call, ↓x_def, ↓x_bm, ↓x_u1, ↓x_u2, ↓x_seq, ↓x_next, ↓x_drop, ↓x_ret, ↓x_ifSC, ↓x_asg, ↓x_par, ↓x_gname, ↓x_gtup, ↓x_gcons, ↓x_gnil, ↓x_sl, ↓x_noPart, ↓x_part, ↓x_for, ↓x_rng1, ↓x_any, ↓x_lc, ↓x_meth, ↓x_addI, ↓x_addS, ↓x_subI, ↓x_powI, ↓x_eqI, ↓x_neS, ↓x_ltI, ↓x_gtI, ↓x_geS, ↓x_notInS1, ↓x_ixL, ↓x_ixS, ↓x_max, ↓x_min, ↓x_lenR, ↓x_lenS, ↓x_tupleL, ↓x_slS, ↓x_rngA, ↓x_iterT, ↓x_iterS, ↓x_iterL, ↓x_append, ↓x_tyL, ↓x_truB, ↓x_ap, ↓x_eqRR, ↓x_eqOS, ↓x_isi, ↓x_statK, ↓x_sortedR, ↓x_xf, ↓x_ixIr, ↓x_tryM, ↓x_sufDO1, ↓x_setUO1, ↓x_iEnumT, ↓x_enumTS, e_condT, e_condF, slotK_s, asBl_s, asInt_s, asRef_s, getLst_s, getO_s, getUs_s, getN_s, lstO_s, insEq_ll, isiK_s, isi_bb, isi_oo, isiOk_b, isiOk_o, td_S, td_T, td_R, tdOb_l, tdC_t, tdC_g, fget_nil, fget_cons, src_p, getD_0, getD_s, setAll_nil, setAll_cons, uwipe_nil, uwipe_cons, len_cons, e_box, e_getIns_box, e_getBox, e_insEq_box, e_conS, x_Box_become, e_getBag, e_IntsU, e_seqS_r, x_bag, x_take, x_of, e_kvnil, e_dct, e_getIns_w, e_tdOb_w, e_insOr_w, e_getWorld, e_getNs, e_getA_s, e_wgetU, x_World_get, x_World_names, x_World_rows, e_smallS, e_kwU, e_kwU0, x_World_of, x_is_contents16, x_thing16, x_pairs16, x_due16, x_made16, e_tryBN, e_tryBB, e_tupP, e_key_x, e_key_g, e_key_kept, e_key_ab, e_key_A, e_key_aa1, e_key_ac, e_key_a_b, e_key_gG, e_catchT, e_catchF, e_lkB, e_sufRt, asExc_s, e_nodup1, List.getElem?_cons_zero, List.getElem?_cons_succ, List.set_cons_zero, List.set_cons_succ, List.map_cons, List.map_nil, List.length_nil, List.length_cons, true_and, and_true, endsU, ustart, List.replicate, List.cons_append, List.nil_append, List.append_nil, List.unzip_cons, List.unzip_nil, cond_false, Bool.not_true, Bool.not_false, decide_true, decide_false, tyNames, clsNames, List.mem_cons, List.reverse_cons, List.reverse_nil, gup_gup, gup_same, if_true, if_false, List.zip_cons_cons, List.zip_nil_right, Bool.and_true, Bool.true_and, Bool.and_false, Bool.false_and, Bool.or_false, Bool.or_true, Bool.true_or, Nat.reduceAdd, Nat.reduceSub, String.reduceEq, Nat.reduceLeDiff, Nat.reduceEqDiff, gup_ne, gup_neS, or_true, true_or, or_false, ne_eq, not_false_eq_true, reduceCtorEq, List.length_map, Nat.add_zero, Nat.zero_add, Option.isSome_some, U.ref.injEq, U.int.injEq, U.str.injEq, U.bl.injEq, Nat.reduceLT, List.not_mem_nil, Int.reduceEq, List.cons.injEq, and_self, Int.cast_ofNat_Int, Int.reduceToNat, Int.reduceLT, Int.reduceAdd, Int.reduceSub, $ls,*])))
local macro_rules | `(tactic| simp_arith [$ls,*]) => `(tactic| (simp_arith! [$ls,*]; (repeat ((first | with_reducible refine scondT ?_ | with_reducible refine scondF ?_ | with_reducible refine condT ?_ | with_reducible refine condF ?_); simp_arith! [$ls,*]))))
local macro_rules | `(tactic| walk_at "usub") => `(tactic| (refine Sub.ofE ?_; (repeat (refine SubE.left ?_ (Or.inr (by first | assumption | simp (discharger := assumption) only [gup_same, gup_ne, gup_neS, gup_nN, gup_nNS, *])))); (repeat (refine SubE.put ?_ (by first | exact Or.inr (Or.inl (by assumption)) | exact Or.inr (Or.inr (by assumption)) | exact Or.inl (by simp) | exact Or.inr (Or.inr (by simp (discharger := assumption) only [gup_same, gup_ne, gup_neS, gup_nN, gup_nNS, *]))))); exact SubE.refl))
/- _law_bag: bag -/
abbrev sp__law_bag : USp := sp_bag
abbrev t__law_bag : UTS := t_bag 2609 127
theorem law__law_bag (us : List U) (G : Gp) (Q : UK) (E : UX) (h : sp__law_bag us G Q E) : t__law_bag (endsU Q E) (ustart 3 us) G := law_bag (2609) (127) (by decide) us G Q E h
/- _law_is_contents: slots ['_law_thing_here', '_law_k', '_law_mark'] -/
def t__law_is_contents : UTS := (tUSeq (tUIfSC (tUNot (tUTru (fun u G Q _ => truU u G Q) (tUCall (u2 (isiV [])) (tUCons (tUVar 0) (tUCons (tUC (.ty "str")) tUNil))))) (tUSeq (tURet (tUC (.bl false)))
    tUNext) tUNext)
    (tUSeq (tUFor (tIEnumT (tUVar 0)) (gUTup 2 (gUCons (gUName 1) (gUCons (gUName 2) gUNil))) (tUSeq (tUIfSC (tBOr (tUTest (tUOp notInU (tUVar 2) (tUC (.str M52)))) (tBAnd (tUTest (tUOp gtU (tUVar 1) (tUC (.int 0)))) (tUTest (tUOp geU (tUOp ixU0 (tUVar 0) (tUOp subU (tUVar 1) (tUC (.int 1)))) (tUVar 2))))) (tUSeq (tURet (tUC (.bl false)))
    tUNext) tUNext)
    tUNext))
    (tUSeq (tURet (tUC (.bl true)))
    tUNext)))
/- _law_pairs: slots ['_law_way', '_law_one', '_law_other', '_law_third'] -/
def t__law_pairs : UTS := (tUSeq (tUIfSC (tUTest (tUOp ltU (tUVar 0) (tUC (.int 4)))) (tUSeq (tURet (tUOp ixU0 (tULst (tUCons (tULst tUNil) (tUCons (tULst (tUCons (tUTup (tUCons (tUC (.str [120])) (tUCons (tUVar 1) tUNil))) tUNil)) (tUCons (tULst (tUCons (tUTup (tUCons (tUC (.str [120])) (tUCons (tUVar 1) tUNil))) (tUCons (tUTup (tUCons (tUC (.str [103])) (tUCons (tUVar 2) tUNil))) tUNil))) (tUCons (tULst (tUCons (tUTup (tUCons (tUC (.str [103])) (tUCons (tUVar 1) tUNil))) (tUCons (tUTup (tUCons (tUC (.str [107, 101, 112, 116])) (tUCons (tUVar 2) tUNil))) (tUCons (tUTup (tUCons (tUC (.str [120])) (tUCons (tUVar 3) tUNil))) tUNil)))) tUNil))))) (tUVar 0)))
    tUNext) tUNext)
    (tUSeq (tUIfSC (tUTest (tUOp eqU (tUVar 0) (tUC (.int 4)))) (tUSeq (tURet (tULst (tUCons (tUTup (tUCons (tUC (.str [120])) (tUCons (tUVar 1) tUNil))) (tUCons (tUTup (tUCons (tUC (.str [107, 101, 112, 116])) (tUCons (tUVar 1) tUNil))) (tUCons (tUTup (tUCons (tUC (.str [97, 98, 99, 100, 101, 102, 103, 104, 105, 106, 107, 108, 109])) (tUCons (tUVar 1) tUNil))) tUNil)))))
    tUNext) tUNext)
    (tUSeq (tUIfSC (tUTest (tUOp eqU (tUVar 0) (tUC (.int 5)))) (tUSeq (tURet (tULst (tUCons (tUTup (tUCons (tUC (.str [65])) (tUCons (tUVar 1) tUNil))) tUNil)))
    tUNext) tUNext)
    (tUSeq (tUIfSC (tUTest (tUOp eqU (tUVar 0) (tUC (.int 6)))) (tUSeq (tURet (tULst (tUCons (tUTup (tUCons (tUC (.str [120])) (tUCons (tUVar 1) tUNil))) (tUCons (tUTup (tUCons (tUC (.str [97, 97, 49])) (tUCons (tUVar 2) tUNil))) (tUCons (tUTup (tUCons (tUC (.str [103])) (tUCons (tUVar 3) tUNil))) tUNil)))))
    tUNext) tUNext)
    (tUSeq (tUIfSC (tUTest (tUOp eqU (tUVar 0) (tUC (.int 7)))) (tUSeq (tURet (tULst (tUCons (tUTup (tUCons (tUC (.str [97, 98, 99, 100, 101, 102, 103, 104, 105, 106, 107, 108, 109, 110])) (tUCons (tUVar 1) tUNil))) (tUCons (tUTup (tUCons (tUC (.str [103])) (tUCons (tUVar 2) tUNil))) tUNil))))
    tUNext) tUNext)
    (tUSeq (tUIfSC (tUTest (tUOp eqU (tUVar 0) (tUC (.int 8)))) (tUSeq (tURet (tULst (tUCons (tUTup (tUCons (tUC (.str [103])) (tUCons (tUVar 1) tUNil))) (tUCons (tUTup (tUCons (tUC (.str [120])) (tUCons (tUVar 2) tUNil))) (tUCons (tUTup (tUCons (tUC (.str [97, 95, 98])) (tUCons (tUVar 3) tUNil))) tUNil)))))
    tUNext) tUNext)
    (tUSeq (tURet (tULst (tUCons (tUTup (tUCons (tUC (.str [103, 71])) (tUCons (tUVar 1) tUNil))) (tUCons (tUTup (tUCons (tUC (.str [120])) (tUCons (tUVar 2) tUNil))) (tUCons (tUTup (tUCons (tUC (.str [107, 101, 112, 116])) (tUCons (tUVar 3) tUNil))) tUNil)))))
    tUNext)))))))
/- _law_take: take -/
abbrev sp__law_take : USp := sp_take
abbrev t__law_take : UTS := t_take 2147483029 2147483029 32 71 2147483489 103 48821 40693 7
theorem law__law_take (us : List U) (G : Gp) (Q : UK) (E : UX) (h : sp__law_take us G Q E) : t__law_take (endsU Q E) (ustart 5 us) G := law_take (2147483029) (2147483029) (32) (71) (2147483489) (103) (48821) (40693) (7) (by decide) us G Q E h
/- _law_due: slots ['_law_pairs_here', '_law_rows', '_law_word', '_law_thing_here'] -/
def t__law_due : UTS := (tUSeq (tUAsg (tULst tUNil) (gUName 1))
    (tUSeq (tUFor (tIAny (tUVar 0)) (gUTup 2 (gUCons (gUName 2) (gUCons (gUName 3) gUNil))) (tUSeq (tUIfSC (tUTest (tUOp notInU (tUVar 2) (tULst (tUCons (tUC (.str [120])) (tUCons (tUC (.str [103])) (tUCons (tUC (.str [107, 101, 112, 116])) (tUCons (tUC (.str [97, 98, 99, 100, 101, 102, 103, 104, 105, 106, 107, 108, 109])) tUNil))))))) (tUSeq (tURet (tULst (tUCons (tUC (.str [110, 97, 109, 101])) (tUCons (tUVar 2) tUNil))))
    tUNext) tUNext)
    (tUSeq (tUIfSC (tUNot (tUTru (fun u G Q _ => truU u G Q) (tUDef sp__law_is_contents 1 0 [.p 0] [] [] (tUCons (tUVar 3) tUNil) tUNil))) (tUSeq (tURet (tULst (tUCons (tUC (.str [98, 111, 120])) (tUCons (tUVar 3) tUNil))))
    tUNext) tUNext)
    (tUSeq (tUDrop (tUBM "list" (onLst appendL) (tUVar 1) (tUCons (tUTup (tUCons (tUTup (tUCons (tUVar 2) tUNil)) (tUCons (tUVar 3) tUNil))) tUNil)))
    tUNext))))
    (tUSeq (tURet (tUCall (u1 tupleV) (tUCons (tUCall (u1 sortedR) (tUCons (tUVar 1) tUNil)) tUNil)))
    tUNext)))
/- _law_of: of -/
abbrev sp__law_of : USp := sp_of
abbrev t__law_of : UTS := t_of 
theorem law__law_of (us : List U) (G : Gp) (Q : UK) (E : UX) (h : sp__law_of us G Q E) : t__law_of (endsU Q E) (ustart 2 us) G := law_of us G Q E h
/- _law_thing: slots ['_law_bag_here', '_law_mark', '_law_share', '_law_found', '_law_k', '_law_way'] -/
def t__law_thing : UTS := (tUSeq (tUPar [2, 3] (tUCons (tUDef sp__law_of 2 0 [.p 0, .p 1] [] [] (tUCons (tUVar 0) (tUCons (tULst (tUCons (tUC (.int 26)) (tUCons (tUC (.int 9)) (tUCons (tUC (.int 2)) (tUCons (tUC (.int 1)) tUNil))))) tUNil)) tUNil) (tUCons (tUC (.str [])) tUNil)))
    (tUSeq (tUFor (tIAny (tUC (.str M52))) (gUName 1) (tUSeq (tUIfSC (tUTest (tUOp eqU (tUDef sp__law_take 2 0 [.p 0, .p 1] [] [] (tUCons (tUVar 0) (tUCons (tUVar 2) tUNil)) tUNil) (tUC (.int 0)))) (tUSeq (tUAsg (tUOp addU (tUVar 3) (tUVar 1)) (gUName 3))
    tUNext) tUNext)
    tUNext))
    (tUSeq (tUPar [4, 5] (tUCons (tUDef sp__law_take 2 0 [.p 0, .p 1] [] [] (tUCons (tUVar 0) (tUCons (tUOp addU (tUCall (u1 lenV) (tUCons (tUVar 3) tUNil)) (tUC (.int 1))) tUNil)) tUNil) (tUCons (tUDef sp__law_take 2 0 [.p 0, .p 1] [] [] (tUCons (tUVar 0) (tUCons (tUC (.int 9)) tUNil)) tUNil) tUNil)))
    (tUSeq (tUIfSC (tUTest (tUOp eqU (tUVar 5) (tUC (.int 0)))) (tUSeq (tURet (tUOp addU (tUOp addU (tUSl (tUVar 3) tUNoPart (tUPart (tUVar 4))) (tUDef sp__law_of 2 0 [.p 0, .p 1] [] [] (tUCons (tUVar 0) (tUCons (tULst (tUCons (tUC (.str [97])) (tUCons (tUC (.str [90])) (tUCons (tUC (.str [109])) (tUCons (tUC (.str [32])) (tUCons (tUC (.str [49])) (tUCons (tUC (.str [123, 125])) tUNil))))))) tUNil)) tUNil)) (tUSl (tUVar 3) (tUPart (tUVar 4)) tUNoPart)))
    tUNext) tUNext)
    (tUSeq (tUIfSC (tUTest (tUOp eqU (tUVar 5) (tUC (.int 1)))) (tUSeq (tURet (tUDef sp__law_of 2 0 [.p 0, .p 1] [] [] (tUCons (tUVar 0) (tUCons (tULst (tUCons (tUC .non) (tUCons (tUC (.bl true)) (tUCons (tUC (.int 0)) (tUCons (tUC (.int 1)) (tUCons (tULst tUNil) (tUCons (tULst (tUCons (tUC (.str [97])) tUNil)) (tUCons (tUTup tUNil) (tUCons (tUTup (tUCons (tUC (.str [97])) tUNil)) (tUCons (tUOp powU (tUC (.int 10)) (tUC (.int 29))) tUNil)))))))))) tUNil)) tUNil))
    tUNext) tUNext)
    (tUSeq (tURet (tUVar 3))
    tUNext))))))
/- _law_made: slots ['_law_way', '_law_one', '_law_other', '_law_third', 'e'] -/
def t__law_made : UTS := (tUSeq (tUTryM [([("BadBox", false), ("NoName", false), ("BadName", true), ("BadWorld", false)], some 4, fun ea ed ec => (tUSeq (tURet (tULst (tUCons (tUC (.str [110, 97, 109, 101])) (tUCons (tUXf ["BadName"] ea ed ec "name" (tUVar 4)) tUNil))))
    tUNext)), ([("BadBox", true), ("NoName", false), ("BadName", false), ("BadWorld", false)], some 4, fun ea ed ec => (tUSeq (tURet (tULst (tUCons (tUC (.str [98, 111, 120])) (tUCons (tUXf ["BadBox"] ea ed ec "contents" (tUVar 4)) tUNil))))
    tUNext))] (tUSeq (tUIfSC (tUTest (tUOp eqU (tUVar 0) (tUC (.int 0)))) (tUSeq (tURet (tUStatK "World" sp_World_of [] (tUC (.glo "World")) tUNil))
    tUNext) tUNext)
    (tUSeq (tUIfSC (tUTest (tUOp eqU (tUVar 0) (tUC (.int 1)))) (tUSeq (tURet (tUStatK "World" sp_World_of ["x"] (tUC (.glo "World")) (tUCons (tUVar 1) tUNil)))
    tUNext) tUNext)
    (tUSeq (tUIfSC (tUTest (tUOp eqU (tUVar 0) (tUC (.int 2)))) (tUSeq (tURet (tUStatK "World" sp_World_of ["x", "g"] (tUC (.glo "World")) (tUCons (tUVar 1) (tUCons (tUVar 2) tUNil))))
    tUNext) tUNext)
    (tUSeq (tUIfSC (tUTest (tUOp eqU (tUVar 0) (tUC (.int 3)))) (tUSeq (tURet (tUStatK "World" sp_World_of ["g", "kept", "x"] (tUC (.glo "World")) (tUCons (tUVar 1) (tUCons (tUVar 2) (tUCons (tUVar 3) tUNil)))))
    tUNext) tUNext)
    (tUSeq (tUIfSC (tUTest (tUOp eqU (tUVar 0) (tUC (.int 4)))) (tUSeq (tURet (tUStatK "World" sp_World_of ["x", "kept", "abcdefghijklm"] (tUC (.glo "World")) (tUCons (tUVar 1) (tUCons (tUVar 1) (tUCons (tUVar 1) tUNil)))))
    tUNext) tUNext)
    (tUSeq (tUIfSC (tUTest (tUOp eqU (tUVar 0) (tUC (.int 5)))) (tUSeq (tURet (tUStatK "World" sp_World_of ["A"] (tUC (.glo "World")) (tUCons (tUVar 1) tUNil)))
    tUNext) tUNext)
    (tUSeq (tUIfSC (tUTest (tUOp eqU (tUVar 0) (tUC (.int 6)))) (tUSeq (tURet (tUStatK "World" sp_World_of ["x", "aa1", "g"] (tUC (.glo "World")) (tUCons (tUVar 1) (tUCons (tUVar 2) (tUCons (tUVar 3) tUNil)))))
    tUNext) tUNext)
    (tUSeq (tUIfSC (tUTest (tUOp eqU (tUVar 0) (tUC (.int 7)))) (tUSeq (tURet (tUStatK "World" sp_World_of ["abcdefghijklmn", "g"] (tUC (.glo "World")) (tUCons (tUVar 1) (tUCons (tUVar 2) tUNil))))
    tUNext) tUNext)
    (tUSeq (tUIfSC (tUTest (tUOp eqU (tUVar 0) (tUC (.int 8)))) (tUSeq (tURet (tUStatK "World" sp_World_of ["g", "x", "a_b"] (tUC (.glo "World")) (tUCons (tUVar 1) (tUCons (tUVar 2) (tUCons (tUVar 3) tUNil)))))
    tUNext) tUNext)
    (tUSeq (tURet (tUStatK "World" sp_World_of ["gG", "x", "kept"] (tUC (.glo "World")) (tUCons (tUVar 1) (tUCons (tUVar 2) (tUCons (tUVar 3) tUNil)))))
    tUNext)))))))))))
    tUNext)
/- law: slots ['_law_script', '_law_at', '_law_bag_here', '_law_due_here', '_law_way', '_law_one', '_law_other', '_law_third', '_law_told', '_law_again', '_law_word', '_law_box', '_law_group', '_law_text'] -/
def t_law : UTS := (tUSeq (tUFor (tIRng1 (tUCall (u2 maxV) (tUCons (tUC (.int 1)) (tUCons (tUCall (u2 minV) (tUCons (tUC (.int 31)) (tUCons (tUCall (u1 lenV) (tUCons (tUVar 0) tUNil)) tUNil))) tUNil)))) (gUName 1) (tUSeq (tUAsg (tUDef sp__law_bag 2 0 [.p 0, .p 1] [] [] (tUCons (tUVar 0) (tUCons (tUVar 1) tUNil)) tUNil) (gUName 2))
    (tUSeq (tUAsg (tUTup (tUCons (tUDef sp__law_take 2 0 [.p 0, .p 1] [] [] (tUCons (tUVar 2) (tUCons (tUC (.int 10)) tUNil)) tUNil) (tUCons (tUDef sp__law_thing 1 0 [.p 0] [] [] (tUCons (tUVar 2) tUNil) tUNil) (tUCons (tUDef sp__law_thing 1 0 [.p 0] [] [] (tUCons (tUVar 2) tUNil) tUNil) (tUCons (tUDef sp__law_thing 1 0 [.p 0] [] [] (tUCons (tUVar 2) tUNil) tUNil) tUNil))))) (gUTup 4 (gUCons (gUName 4) (gUCons (gUName 5) (gUCons (gUName 6) (gUCons (gUName 7) gUNil))))))
    (tUSeq (tUAsg (tUDef sp__law_due 1 0 [.p 0] [] [] (tUCons (tUDef sp__law_pairs 4 0 [.p 0, .p 1, .p 2, .p 3] [] [] (tUCons (tUVar 4) (tUCons (tUVar 5) (tUCons (tUVar 6) (tUCons (tUVar 7) tUNil)))) tUNil) tUNil) tUNil) (gUName 3))
    (tUSeq (tUPar [8, 9] (tUCons (tUDef sp__law_made 4 0 [.p 0, .p 1, .p 2, .p 3] [] [] (tUCons (tUVar 4) (tUCons (tUVar 5) (tUCons (tUVar 6) (tUCons (tUVar 7) tUNil)))) tUNil) (tUCons (tUDef sp__law_made 4 0 [.p 0, .p 1, .p 2, .p 3] [] [] (tUCons (tUVar 4) (tUCons (tUVar 5) (tUCons (tUVar 6) (tUCons (tUVar 7) tUNil)))) tUNil) tUNil)))
    (tUSeq (tUIfSC (tUTru (fun u G Q _ => truU u G Q) (tUCall (u2 (isiV [])) (tUCons (tUVar 3) (tUCons (tUC (.ty "list")) tUNil)))) (tUSeq (tUIfSC (tUTest (tUOp (orEqI true neU) (tUCall (u1 reprA) (tUCons (tUVar 8) tUNil)) (tUCall (u1 reprA) (tUCons (tUVar 3) tUNil)))) (tUSeq (tURet (tUC (.bl false)))
    tUNext) tUNext)
    tUNext) (tUSeq (tUIfSC (tBOr (tUNot (tUTru (fun u G Q _ => truU u G Q) (tUCall (u2 (isiV ["World"])) (tUCons (tUVar 8) (tUCons (tUC (.glo "World")) tUNil))))) (tBOr (tUNot (tUTru (fun u G Q _ => truU u G Q) (tUCall (u2 (isiV ["World"])) (tUCons (tUVar 9) (tUCons (tUC (.glo "World")) tUNil))))) (tUTest (tUOp (orEqI true neU) (tUCall (u1 reprA) (tUCons (tUMeth [("World", apOf sp_World_rows [.p 0] [] [])] "rows" 0 0 (tUVar 8) tUNil tUNil) tUNil)) (tUCall (u1 reprA) (tUCons (tUVar 3) tUNil)))))) (tUSeq (tURet (tUC (.bl false)))
    tUNext) tUNext)
    (tUSeq (tUFor (tIAny (tUMeth [("World", apOf sp_World_names [.p 0] [] [])] "names" 0 0 (tUVar 8) tUNil tUNil)) (gUName 10) (tUSeq (tUIfSC (tUTest (tUOp (orEqI false eqU) (tUOp (ixI ixU0 "World" (apOf sp_World___getitem__ [.p 0, .p 1] [] [])) (tUVar 8) (tUVar 10)) (tUOp (ixI ixU0 "World" (apOf sp_World___getitem__ [.p 0, .p 1] [] [])) (tUVar 9) (tUVar 10)))) (tUSeq (tURet (tUC (.bl false)))
    tUNext) tUNext)
    (tUSeq (tUAsg (tUOp (ixI ixU0 "World" (apOf sp_World___getitem__ [.p 0, .p 1] [] [])) (tUVar 8) (tUVar 10)) (gUName 11))
    (tUSeq (tUDrop (tUMeth [("Box", apOf sp_Box_become [.p 0, .p 1] [] [])] "become" 1 0 (tUVar 11) (tUCons (tUC (.str [113])) tUNil) tUNil))
    tUNext))))
    (tUSeq (tUIfSC (tBOr (tUTest (tUOp (orEqI true neU) (tULc (tIAny (tUMeth [("World", apOf sp_World_rows [.p 0] [] [])] "rows" 0 0 (tUVar 8) tUNil tUNil)) (gUTup 2 (gUCons (gUName 12) (gUCons (gUName 13) gUNil))) (tUTest (tUOp (orEqI true neU) (tUVar 13) (tUC (.str [113])))) (tUVar 13) ([("_law_group", 12), ("_law_text", 13)] : List (Str × Nat)).unzip.2) (tULst tUNil))) (tUTest (tUOp (orEqI true neU) (tUCall (u1 reprA) (tUCons (tUMeth [("World", apOf sp_World_rows [.p 0] [] [])] "rows" 0 0 (tUVar 9) tUNil tUNil) tUNil)) (tUCall (u1 reprA) (tUCons (tUVar 3) tUNil))))) (tUSeq (tURet (tUC (.bl false)))
    tUNext) tUNext)
    tUNext))))
    tUNext))))))
    (tUSeq (tURet (tUC (.bl true)))
    tUNext))
theorem asc_last {pre : List Nat} {c : Nat} {l' : List Nat} : ascB (match pre.getLast? with | some p => [p] | none => []) (c :: l') = (decide (c ∈ M52) && (decide ((match pre.getLast? with | some p => [p] | none => []) < [c]) && ascB [c] l')) := by
  rw [ascB]
theorem enumU_cons {i : Nat} {u : U} {us : List U} : enumU i (u :: us) = .tup [.int (i : Nat), u] :: enumU (i + 1) us := rfl
theorem sgs_cons {c : Nat} {l : List Nat} : sgs (c :: l) = .str [c] :: sgs l := rfl
theorem law__law_is_contents (us : List U) (G : Gp) (Q : UK) (E : UX) (h : sp__law_is_contents us G Q E) : t__law_is_contents (endsU Q E) (ustart 3 us) G := by
  unfold sp__law_is_contents at h
  split at h
  · rename_i u
    obtain ⟨ht, hs, q⟩ := h
    obtain ⟨t, ht⟩ := Option.isSome_iff_exists.mp ht
    simp_arith [t__law_is_contents, ht]
    cases u with
    | str l =>
      cases ht
      simp_arith []
      refine for_ind (fun items us' G' => ∃ (pre l' : List Nat) (v w : Option U), items = enumU pre.length (sgs l') ∧ us' = [some (.str l), v, w] ∧ G' = G ∧ l = pre ++ l' ∧ conB l = ascB (match pre.getLast? with | some p => [p] | none => []) l') ?_ ?_ _ _ _ ⟨[], l, none, none, rfl, rfl, rfl, rfl, rfl⟩
      · rintro x xs us' G' N hN ⟨pre, l', v, w, e1, rfl, rfl, el, e⟩
        cases l' with
        | nil => cases e1
        | cons c l' =>
          rw [sgs_cons, enumU_cons] at e1
          cases e1
          refine ⟨True.intro, ?_⟩
          rw [asc_last] at e
          have q' : conB l = false → KF Q (.bl false) G' := fun z => .now (by rw [show conU (.str l) = conB l from rfl, z] at q; exact q)
          have next : conB l = ascB [c] l' → N [some (.str l), some (.int (pre.length : Nat)), some (.str [c])] G' := fun z => hN _ _ ⟨pre ++ [c], l', _, _, by simp, rfl, rfl, by simp [el], by simpa using z⟩
          simp_arith []
          refine bcond (fun h => ?_) fun h => ?_
          · simp_arith []
            refine q' ?_
            rw [Bool.not_eq_true'] at h
            rw [e, h]
            rfl
          · rw [Bool.not_eq_false'] at h
            simp_arith []
            rcases List.eq_nil_or_concat pre with rfl | ⟨pre, p, e0⟩
            · simp_arith []
              refine next ?_
              rw [e, h]
              rfl
            · rw [List.concat_eq_append] at e0
              subst e0
              simp only [List.getLast?_concat] at e
              have hp : (0 : Int) < ((pre ++ [p]).length : Int) := by simp
              have hat : atI (pre ++ [p] ++ c :: l') (((pre ++ [p]).length : Int) - 1) = some p := by
                rw [atI_nn (by omega) (by simp; omega)]
                have : (((pre ++ [p]).length : Int) - 1).toNat = pre.length := by simp
                rw [this]
                simp
              subst el
              have hs' : (pre ++ [p] ++ c :: l').length ≤ 1000000 := hs
              simp_arith [hp, hat, hs']
              refine scond2 (fun h2 => ?_) fun h2 => ?_
              · simp_arith []
                refine q' ?_
                rw [Bool.not_eq_true'] at h2
                rw [e, h2]
                simp
              · rw [Bool.not_eq_false'] at h2
                simp_arith []
                refine next ?_
                rw [e, h, h2]
                rfl
      · rintro us' G' ⟨pre, l', v, w, e1, rfl, rfl, el, e⟩
        cases l' with
        | cons c l' => rw [sgs_cons, enumU_cons] at e1; cases e1
        | nil =>
          refine ⟨True.intro, ?_⟩
          simp_arith []
          refine .now ?_
          rw [show conU (.str l) = conB l from rfl, e] at q
          simpa [ascB] using q
    | ref a =>
      have q' : Q (.bl false) G := q
      have e : isiF t (.b "str") = false := by
        rcases h : G a with _ | o
        · rw [td_R, h] at ht; cases ht
        · rw [td_R, h] at ht
          cases o <;> cases ht <;> rfl
      simp_arith [e]
      exact .now q'
    | ty _ => cases ht
    | glo _ => cases ht
    | exc => cases ht
    | _ =>
      cases ht
      simp_arith []
      exact .now q
  · exact h.elim
theorem law__law_pairs (us : List U) (G : Gp) (Q : UK) (E : UX) (h : sp__law_pairs us G Q E) : t__law_pairs (endsU Q E) (ustart 4 us) G := by
  unfold sp__law_pairs at h
  split at h
  · rename_i w a b c
    obtain ⟨w0, w1, q⟩ := h
    simp_arith [t__law_pairs]
    refine dscond2 (fun h => ?_) fun h => ?_
    · intro z0 h0 z1 h1 z2 h2 z3 h3 z4 h4
      have m0 := h0
      have m1 := h1
      have m2 := h2
      have m3 := h3
      have m4 := h4
      obtain ⟨e10, h1⟩ := gup_none h1
      obtain ⟨e21, h2⟩ := gup_none h2
      obtain ⟨e20, h2⟩ := gup_none h2
      obtain ⟨e32, h3⟩ := gup_none h3
      obtain ⟨e31, h3⟩ := gup_none h3
      obtain ⟨e30, h3⟩ := gup_none h3
      obtain ⟨e43, h4⟩ := gup_none h4
      obtain ⟨e42, h4⟩ := gup_none h4
      obtain ⟨e41, h4⟩ := gup_none h4
      obtain ⟨e40, h4⟩ := gup_none h4
      have S := new_sub (o := .lst [.ref z0, .ref z1, .ref z2, .ref z3]) (new_sub (o := .lst [.tup [.str [103], a], .tup [.str [107, 101, 112, 116], b], .tup [.str [120], c]]) (new_sub (o := .lst [.tup [.str [120], a], .tup [.str [103], b]]) (new_sub (o := .lst [.tup [.str [120], a]]) (new_sub (o := .lst []) (Sub.refl G) m0) m1) m2) m3) m4
      obtain rfl | rfl | rfl | rfl : w = 0 ∨ w = 1 ∨ w = 2 ∨ w = 3 := by omega
      · rw [show atI [U.ref z0, U.ref z1, U.ref z2, U.ref z3] (0 : Int) = some (.ref z0) from rfl]
        refine .now (q z0 _ S h0 ?_)
        simp_arith []
        rfl
      · rw [show atI [U.ref z0, U.ref z1, U.ref z2, U.ref z3] (1 : Int) = some (.ref z1) from rfl]
        refine .now (q z1 _ S h1 ?_)
        simp_arith []
        rfl
      · rw [show atI [U.ref z0, U.ref z1, U.ref z2, U.ref z3] (2 : Int) = some (.ref z2) from rfl]
        refine .now (q z2 _ S h2 ?_)
        simp_arith []
        rfl
      · rw [show atI [U.ref z0, U.ref z1, U.ref z2, U.ref z3] (3 : Int) = some (.ref z3) from rfl]
        refine .now (q z3 _ S h3 ?_)
        simp_arith []
        rfl
    simp_arith []
    refine dscond2 (fun h4 => ?_) fun h4 => ?_
    · subst h4
      exact fun r hr => .now (q r _ (new_sub (Sub.refl _) hr) hr gup_same)
    simp_arith []
    refine dscond2 (fun h5 => ?_) fun h5 => ?_
    · subst h5
      exact fun r hr => .now (q r _ (new_sub (Sub.refl _) hr) hr gup_same)
    simp_arith []
    refine dscond2 (fun h6 => ?_) fun h6 => ?_
    · subst h6
      exact fun r hr => .now (q r _ (new_sub (Sub.refl _) hr) hr gup_same)
    simp_arith []
    refine dscond2 (fun h7 => ?_) fun h7 => ?_
    · subst h7
      exact fun r hr => .now (q r _ (new_sub (Sub.refl _) hr) hr gup_same)
    simp_arith []
    refine dscond2 (fun h8 => ?_) fun h8 => ?_
    · subst h8
      exact fun r hr => .now (q r _ (new_sub (Sub.refl _) hr) hr gup_same)
    simp_arith []
    obtain rfl : w = 9 := by omega
    exact fun r hr => .now (q r _ (new_sub (Sub.refl _) hr) hr gup_same)
  · exact h.elim
/-- a row and its data -/
def rowZ (p : Pr) : UD := (rowP p, .tuple [sgsD [p.1], sgD (conL p.2)])
theorem row_lt16 {n m : List Nat} {u v : U} (h : n < m) : PySem.W.dataLt (rowZ (n, u)).2 (rowZ (m, v)).2 = true := by
  have k : strsLt [n] [m] = true := strsLt_lt h
  show PySem.W.dataLt (.tuple [sgsD [n], _]) (.tuple [sgsD [m], _]) = true
  rw [PySem.W.dataLt_tuple, PySem.W.dataLt_all_no alike_sgs ?_]
  · exact k
  · cases e : PyData.eqv (sgsD [n]) (sgsD [m]) with
    | false => rfl
    | true =>
      exfalso
      have t := (PySem.W.toks_eqv _ _ (alike_sgs (ls := [n]) (ms := [m]))).1 e
      unfold strsLt PySem.W.dataLt at k
      rw [t, PyProof.Rows.lex_irrefl] at k
      cases k
theorem law__law_due (us : List U) (G : Gp) (Q : UK) (E : UX) (h : sp__law_due us G Q E) : t__law_due (endsU Q E) (ustart 4 us) G := by
  unfold sp__law_due at h
  split at h
  · rename_i z
    obtain ⟨ps, gz, ok, qE, qQ⟩ := h
    simp_arith [t__law_due, gz]
    intro r hr
    simp_arith []
    have S0 := new_sub (o := .lst []) (Sub.refl G) hr
    have gz0 := S0 _ _ gz
    have gr0 : gup G r (.lst []) r = some (.lst []) := gup_same
    revert S0 gz0 gr0
    generalize gup G r (.lst []) = G1
    intro S0 gz0 gr0
    simp_arith [gz0]
    refine for_ind (fun items us' G2 => ∃ (done rest : List Pr) (v2 v3 : Option U), ps = done ++ rest ∧ items = rest.map tupP ∧ us' = [some (.ref z), some (.ref r), v2, v3] ∧
      Sub G G2 ∧ G2 r = some (.lst (done.map rowP)) ∧ ofBad ps = ofBad rest ∧ (∀ p ∈ done, conU p.2 = true)) ?_ ?_ _ _ _ ⟨[], ps, none, none, rfl, rfl, rfl, S0, gr0, rfl, fun _ h => (by cases h)⟩
    · rintro x xs us' G2 N hN ⟨done, rest, v2, v3, e1, e2, rfl, S2, gr2, eb, oc⟩
      cases rest with
      | nil => cases e2
      | cons p rest =>
        obtain ⟨n, u⟩ := p
        cases e2
        refine ⟨S2 _ _ gz, ?_⟩
        simp_arith []
        intro r2 hr2
        have fit : Fit G u := ok.fit (n, u) (by rw [e1]; simp)
        have hw : nmB n = decide (n ∈ four) := words_nm n (ok.wd (n, u) (by rw [e1]; simp))
        refine notin_strs (ks := four) gup_same ?_
        have rr := ne_of_known gr2 hr2
        have S3 := new_sub (o := .lst (strL four)) S2 hr2
        have gr3 : gup G2 r2 (.lst (strL four)) r = some (.lst (done.map rowP)) := (gup_ne rr).trans gr2
        rw [show (Ob.lst [U.str [120], U.str [103], U.str [107, 101, 112, 116], U.str [97, 98, 99, 100, 101, 102, 103, 104, 105, 106, 107, 108, 109]]) = Ob.lst (strL four) from rfl]
        revert S3 gr3
        generalize gup G2 r2 (.lst (strL four)) = G3
        intro S3 gr3
        simp_arith []
        refine scond2 (fun h1 => ?_) fun h1 => ?_
        · rw [Bool.not_eq_true', ← hw] at h1
          simp_arith []
          exact fun r4 h4 => .now (qE true (.str n) (by rw [eb, ofBad, h1]; rfl) r4 _ (new_sub S3 h4) (sub0 S3 h4) gup_same)
        · rw [Bool.not_eq_false', ← hw] at h1
          have td := td_sub fit.td S3
          have sm := okU_small fit.ok
          simp_arith [td, sm]
          refine scond2 (fun h2 => ?_) fun h2 => ?_
          · rw [Bool.not_eq_true'] at h2
            simp_arith []
            exact fun r4 h4 => .now (qE false u (by rw [eb, ofBad, h1, h2]; rfl) r4 _ (new_sub S3 h4) (sub0 S3 h4) gup_same)
          · rw [Bool.not_eq_false'] at h2
            have ld : done.length < 1000000 := by have := ok.len; rw [e1, List.length_append] at this; omega
            simp_arith [gr3]
            refine ⟨ld, hN _ _ ⟨done ++ [(n, u)], rest, _, _, by simp [e1], rfl, rfl, S3.skip hr, by rw [gup_same, List.map_append]; rfl, by rw [eb, ofBad, h1, h2]; rfl, fun p hp => ?_⟩⟩
            rcases List.mem_append.mp hp with hp | hp
            · exact oc p hp
            · rw [List.mem_singleton.mp hp]; exact h2
    · rintro us' G2 ⟨done, rest, v2, v3, e1, e2, rfl, S2, gr2, eb, oc⟩
      cases rest with
      | cons p rest => cases e2
      | nil =>
        rw [List.append_nil] at e1
        subst e1
        refine ⟨S2 _ _ gz, ?_⟩
        simp_arith [gr2]
        have cs : ∀ p ∈ ps, p.2 = .str (conL p.2) := fun p hp => by
          have := oc p hp
          cases e : p.2 <;> rw [e] at this <;> first | rfl | cases this
        have look : ∀ n ∈ ps.map (·.1), (n, lookP ps n) ∈ ps := fun n hn => by
          obtain ⟨⟨m, u⟩, hp, rfl⟩ := List.mem_map.mp hn
          rw [show lookP ps m = u from look_of ok.nd hp]
          exact hp
        have em : (ps.map (·.1)).map (fun n => rowZ (n, lookP ps n)) = ps.map rowZ := by
          rw [List.map_map]
          apply List.map_congr_left
          intro p hp
          obtain ⟨n, u⟩ := p
          show rowZ (n, lookP ps n) = rowZ (n, u)
          rw [look_of ok.nd hp]
        refine ⟨ps.map rowZ, (srtN (ps.map (·.1))).map (fun n => rowZ (n, lookP ps n)), by rw [List.map_map]; rfl, fun x hx => ?_, fun d hd d2 hd2 => ?_, fun x hx => ?_, by rw [List.length_map]; have := ok.len; omega, ?_, ?_, fun r5 h5 => ?_⟩
        · obtain ⟨p, hp, rfl⟩ := List.mem_map.mp hx
          show Dat _ (.tup [.tup [.str p.1], p.2]) _
          rw [cs p hp]
          exact .tup (.cons (.tup (.cons (.str _) .nil)) (.cons (.str _) .nil))
        · obtain ⟨x, hx, rfl⟩ := List.mem_map.mp hd
          obtain ⟨p, hp, rfl⟩ := List.mem_map.mp hx
          obtain ⟨y, hy, rfl⟩ := List.mem_map.mp hd2
          obtain ⟨p2, hp2, rfl⟩ := List.mem_map.mp hy
          unfold rowZ
          simp only [PySem.W.alike, PySem.W.alikeAll, alike_sgs, sgD, Bool.and_self]
        · obtain ⟨p, hp, rfl⟩ := List.mem_map.mp hx
          refine ⟨⟨_, _, rfl⟩, ?_⟩
          simp [rowZ, sgsD, sgD, PyData.depth, PyData.depthAll]
        · rw [← em]
          exact (srtN_perm _).map _
        · rw [List.pairwise_map]
          exact (srtN_lt ok.nd).imp_of_mem fun h1 h2 h => row_lt16 h
        · rw [show ((srtN (ps.map (·.1))).map (fun n => rowZ (n, lookP ps n))).map (·.1) = rowsU (srtR ps) from ?_]
          · exact .now (qQ eb _ (new_sub S2 h5))
          · unfold rowsU srtR
            rw [List.map_map, List.map_map]
            apply List.map_congr_left
            intro n hn
            have := cs _ (look n (srtN_mem.mp hn))
            show U.tup [.tup [.str n], lookP ps n] = U.tup [.tup [.str n], .str (conL (lookP ps n))]
            rw [← this]
  · exact h.elim
theorem sub_gone {G : Gp} {d : Addr} {o : Ob} (hd : G d = none) : Sub G (hide d (gup G d o)) := fun b u g => by
  have n : b ≠ d := fun e => by rw [e, hd] at g; cases g
  rw [hide_ne n, gup_ne n]
  exact g
theorem sub_hid {G G2 : Gp} {d : Addr} {o : Ob} (hd : G d = none) (s : Sub (hide d (gup G d o)) G2) : Sub G G2 := (sub_gone hd).trans s
theorem _root_.LL.OfAt.hid {G G2 : Gp} {d : Addr} {o : Ob} (hd : G d = none) {w wd : Addr} {bs : List Addr} {ps : List Pr} (O : OfAt (hide d (gup G d o)) G2 w wd bs ps) : OfAt G G2 w wd bs ps :=
  ⟨O.bx, fun b hb => sub0 (sub_gone hd) (O.nw b hb), O.gw, O.gd, O.ok, O.nd⟩
def cs16 : List UClause := [([("BadBox", false), ("NoName", false), ("BadName", true), ("BadWorld", false)], some 4, fun ea ed ec =>
        tUSeq (tURet (tULst (tUCons (tUC (U.str [110, 97, 109, 101])) (tUCons (tUXf ["BadName"] ea ed ec "name" (tUVar 4)) tUNil)))) tUNext),
      ([("BadBox", true), ("NoName", false), ("BadName", false), ("BadWorld", false)], some 4, fun ea ed ec =>
        tUSeq (tURet (tULst (tUCons (tUC (U.str [98, 111, 120])) (tUCons (tUXf ["BadBox"] ea ed ec "contents" (tUVar 4)) tUNil)))) tUNext)]
theorem made_catch {w : Int} {a b c : U} {Q : UK} {nx bk ct : USt → Gp → Prop} {ex : UExc → USt → Gp → Prop} {G2 : Gp} (k : Bool) (u : U) (q : ∀ r G3, Sub G2 G3 → G2 r = none → G3 r = some (.lst [.str (kindL k), u]) → Q (.ref r) G3) :
    tryXM { nx := nx, rt := KF Q, bk := bk, ct := ct, ex := ex } cs16 (badX (k, u)) [some (U.int w), some a, some b, some c, none] G2 := by
  unfold cs16
  cases k
  · show tryXM _ _ (badBox u) _ _
    simp_arith []
    exact fun _ _ _ r hr => .now (q r _ (Sub.drop hr) hr gup_same)
  · show tryXM _ _ (badName u) _ _
    simp_arith []
    exact fun _ _ _ r hr => .now (q r _ (Sub.drop hr) hr gup_same)
theorem law__law_made (us : List U) (G : Gp) (Q : UK) (E : UX) (h : sp__law_made us G Q E) : t__law_made (endsU Q E) (ustart 5 us) G := by
  unfold sp__law_made at h
  split at h
  · rename_i w a b c
    obtain ⟨w0, w1, ha, hb, hc, qE, qQ⟩ := h
    simp_arith [t__law_made]
    have step : ∀ (ps : List Pr), PrsOk G ps → ∀ (d : Addr), G d = none → ps.length ≤ 3 ∧ (ps.map (·.1)).Nodup ∧ (∀ p ∈ ps, p.1.length ≤ 1000 ∧ (tdOf (hide d (gup G d (.dct (kvP ps)))) p.2).isSome = true) := fun ps ok d hd =>
      ⟨ok.len, ok.nd, fun p hp => ⟨by have := words_len _ (ok.wd p hp); omega, td_sub (ok.fit p hp).td (sub_gone hd)⟩⟩
    have ok := prs_ok (w := w) ha hb hc
    refine dscond2 (fun h0 => ?_) fun h0 => ?_
    · subst h0
      have _u := True.intro
      intro d hd
      refine ⟨prs 0 a b c, rfl, (step _ ok d hd).1, (step _ ok d hd).2.1, (step _ ok d hd).2.2, fun x hx G2 s => ?_, fun hx w1 wd bs G2 s O => .now (qQ hx w1 wd bs G2 (sub_hid hd s) (LL.OfAt.hid hd O))⟩
      obtain ⟨k, u⟩ := x
      have S2 := sub_hid hd s
      exact made_catch k u fun r G3 s3 h3 g3 => qE k u hx r G3 (S2.trans s3) (sub0 S2 h3) g3
    simp_arith []
    refine dscond2 (fun h0 => ?_) fun h1 => ?_
    · subst h0
      have _u := True.intro
      intro d hd
      refine ⟨prs 1 a b c, rfl, (step _ ok d hd).1, (step _ ok d hd).2.1, (step _ ok d hd).2.2, fun x hx G2 s => ?_, fun hx w1 wd bs G2 s O => .now (qQ hx w1 wd bs G2 (sub_hid hd s) (LL.OfAt.hid hd O))⟩
      obtain ⟨k, u⟩ := x
      have S2 := sub_hid hd s
      exact made_catch k u fun r G3 s3 h3 g3 => qE k u hx r G3 (S2.trans s3) (sub0 S2 h3) g3
    simp_arith []
    refine dscond2 (fun h0 => ?_) fun h2 => ?_
    · subst h0
      have _u := True.intro
      intro d hd
      refine ⟨prs 2 a b c, rfl, (step _ ok d hd).1, (step _ ok d hd).2.1, (step _ ok d hd).2.2, fun x hx G2 s => ?_, fun hx w1 wd bs G2 s O => .now (qQ hx w1 wd bs G2 (sub_hid hd s) (LL.OfAt.hid hd O))⟩
      obtain ⟨k, u⟩ := x
      have S2 := sub_hid hd s
      exact made_catch k u fun r G3 s3 h3 g3 => qE k u hx r G3 (S2.trans s3) (sub0 S2 h3) g3
    simp_arith []
    refine dscond2 (fun h0 => ?_) fun h3 => ?_
    · subst h0
      have _u := True.intro
      intro d hd
      refine ⟨prs 3 a b c, rfl, (step _ ok d hd).1, (step _ ok d hd).2.1, (step _ ok d hd).2.2, fun x hx G2 s => ?_, fun hx w1 wd bs G2 s O => .now (qQ hx w1 wd bs G2 (sub_hid hd s) (LL.OfAt.hid hd O))⟩
      obtain ⟨k, u⟩ := x
      have S2 := sub_hid hd s
      exact made_catch k u fun r G3 s3 h3 g3 => qE k u hx r G3 (S2.trans s3) (sub0 S2 h3) g3
    simp_arith []
    refine dscond2 (fun h0 => ?_) fun h4 => ?_
    · subst h0
      have _u := True.intro
      intro d hd
      refine ⟨prs 4 a b c, rfl, (step _ ok d hd).1, (step _ ok d hd).2.1, (step _ ok d hd).2.2, fun x hx G2 s => ?_, fun hx w1 wd bs G2 s O => .now (qQ hx w1 wd bs G2 (sub_hid hd s) (LL.OfAt.hid hd O))⟩
      obtain ⟨k, u⟩ := x
      have S2 := sub_hid hd s
      exact made_catch k u fun r G3 s3 h3 g3 => qE k u hx r G3 (S2.trans s3) (sub0 S2 h3) g3
    simp_arith []
    refine dscond2 (fun h0 => ?_) fun h5 => ?_
    · subst h0
      have _u := True.intro
      intro d hd
      refine ⟨prs 5 a b c, rfl, (step _ ok d hd).1, (step _ ok d hd).2.1, (step _ ok d hd).2.2, fun x hx G2 s => ?_, fun hx w1 wd bs G2 s O => .now (qQ hx w1 wd bs G2 (sub_hid hd s) (LL.OfAt.hid hd O))⟩
      obtain ⟨k, u⟩ := x
      have S2 := sub_hid hd s
      exact made_catch k u fun r G3 s3 h3 g3 => qE k u hx r G3 (S2.trans s3) (sub0 S2 h3) g3
    simp_arith []
    refine dscond2 (fun h0 => ?_) fun h6 => ?_
    · subst h0
      have _u := True.intro
      intro d hd
      refine ⟨prs 6 a b c, rfl, (step _ ok d hd).1, (step _ ok d hd).2.1, (step _ ok d hd).2.2, fun x hx G2 s => ?_, fun hx w1 wd bs G2 s O => .now (qQ hx w1 wd bs G2 (sub_hid hd s) (LL.OfAt.hid hd O))⟩
      obtain ⟨k, u⟩ := x
      have S2 := sub_hid hd s
      exact made_catch k u fun r G3 s3 h3 g3 => qE k u hx r G3 (S2.trans s3) (sub0 S2 h3) g3
    simp_arith []
    refine dscond2 (fun h0 => ?_) fun h7 => ?_
    · subst h0
      have _u := True.intro
      intro d hd
      refine ⟨prs 7 a b c, rfl, (step _ ok d hd).1, (step _ ok d hd).2.1, (step _ ok d hd).2.2, fun x hx G2 s => ?_, fun hx w1 wd bs G2 s O => .now (qQ hx w1 wd bs G2 (sub_hid hd s) (LL.OfAt.hid hd O))⟩
      obtain ⟨k, u⟩ := x
      have S2 := sub_hid hd s
      exact made_catch k u fun r G3 s3 h3 g3 => qE k u hx r G3 (S2.trans s3) (sub0 S2 h3) g3
    simp_arith []
    refine dscond2 (fun h0 => ?_) fun h8 => ?_
    · subst h0
      have _u := True.intro
      intro d hd
      refine ⟨prs 8 a b c, rfl, (step _ ok d hd).1, (step _ ok d hd).2.1, (step _ ok d hd).2.2, fun x hx G2 s => ?_, fun hx w1 wd bs G2 s O => .now (qQ hx w1 wd bs G2 (sub_hid hd s) (LL.OfAt.hid hd O))⟩
      obtain ⟨k, u⟩ := x
      have S2 := sub_hid hd s
      exact made_catch k u fun r G3 s3 h3 g3 => qE k u hx r G3 (S2.trans s3) (sub0 S2 h3) g3
    simp_arith []
    obtain rfl : w = 9 := by omega
    have _u := True.intro
    intro d hd
    refine ⟨prs 9 a b c, rfl, (step _ ok d hd).1, (step _ ok d hd).2.1, (step _ ok d hd).2.2, fun x hx G2 s => ?_, fun hx w1 wd bs G2 s O => .now (qQ hx w1 wd bs G2 (sub_hid hd s) (LL.OfAt.hid hd O))⟩
    obtain ⟨k, u⟩ := x
    have S2 := sub_hid hd s
    exact made_catch k u fun r G3 s3 h3 g3 => qE k u hx r G3 (S2.trans s3) (sub0 S2 h3) g3
  · exact h.elim
theorem law__law_thing (us : List U) (G : Gp) (Q : UK) (E : UX) (h : sp__law_thing us G Q E) : t__law_thing (endsU Q E) (ustart 6 us) G := by
  unfold sp__law_thing at h
  split at h
  · rename_i p
    obtain ⟨c, a, n, q, ms, hp, hq, hne, k⟩ := bag_of h
    clear h
    simp_arith [t__law_thing, hp, hq, hne]
    intro r hr
    have hr' := hr
    have hrp : r ≠ p := (ne_of_known hp hr).symm
    have hrq : r ≠ q := (ne_of_known hq hr).symm
    simp_arith [hp, hq, hne, hrp]
    intro u c' a' n' hu
    obtain ⟨m, rfl, m0, m1⟩ : ∃ m, u = .int m ∧ 0 < m ∧ m < 1073741824 := by
      rcases hu with rfl | rfl | rfl | rfl
      all_goals exact ⟨_, rfl, by decide, by decide⟩
    refine for_sgs (fun i us' G' => ∃ v l c a n, us' = [some (.ref p), v, some (.int m), some (.str l), none, none] ∧ (∃ pr : Nat → Bool, l = (M52.take i).filter pr) ∧ G' = gup (gup G r (.lst [.int 26, .int 9, .int 2, .int 1])) p (bagO c a n q)) ?_ ?_ ⟨_, _, _, _, _, rfl, ⟨fun _ => true, rfl⟩, rfl⟩
    · rintro i hi us' G' N hN ⟨v, l, c1, a1, n1, rfl, hl, rfl⟩
      have hi' : i < 52 := by rw [M52_len] at hi; exact hi
      have ll : l.length ≤ 52 := by
        obtain ⟨pr, rfl⟩ := hl
        exact Nat.le_trans (List.length_filter_le _ _) (by rw [List.length_take, M52_len]; omega)
      simp_arith [hq, hne, hrp, m0, m1]
      intro k' c2 a2 n2 k0 k1
      refine dscond2 (fun h => ?_) fun h => ?_
      · simp_arith []
        exact ⟨by omega, hN _ _ ⟨_, _, _, _, _, rfl, con_snoc hl hi' true, rfl⟩⟩
      · simp_arith []
        exact hN _ _ ⟨_, _, _, _, _, rfl, con_snoc hl hi' false, rfl⟩
    · rintro us' G' ⟨v, l, c1, a1, n1, rfl, hl, rfl⟩
      have cl : conB l = true := by
        obtain ⟨pr, rfl⟩ := hl
        rw [List.take_of_length_le (Nat.le_refl _)]
        exact con_M _
      clear hl
      have hl := con_len cl
      have ol := okL_con cl
      have gq0 : gup G r (.lst [.int 26, .int 9, .int 2, .int 1]) q = some (.lst (IntU ms)) := (gup_ne hrq.symm).trans hq
      have kp0 : Keep p G (gup G r (.lst [.int 26, .int 9, .int 2, .int 1])) := Keep.new Keep.refl hr
      revert gq0 kp0
      generalize gup G r (.lst [.int 26, .int 9, .int 2, .int 1]) = G1
      intro gq0 kp0
      have b0 : (0 : Int) < (l.length : Int) + 1 := by omega
      have b1 : (l.length : Int) + 1 < 1073741824 := by omega
      simp_arith [gq0, hne, con_big cl, b0, b1]
      intro i c a n i0 i1 w c a n w0 w1
      simp_arith []
      refine dscond2 (fun h => ?_) fun h => ?_
      · simp_arith [con_big cl]
        intro z hz
        have hz' := hz
        obtain ⟨zp, hz⟩ := gup_none hz
        have zq := (ne_of_known gq0 hz).symm
        simp_arith [gq0, hne, zp, zq]
        intro u c a n hu
        obtain ⟨o, rfl, ho⟩ : ∃ o, u = .str o ∧ okL 2 o := by
          rcases hu with rfl | rfl | rfl | rfl | rfl | rfl <;> exact ⟨_, rfl, by decide, by decide⟩
        simp_arith [con_big cl]
        refine ⟨okL_add (okL_cut ol) ho (by decide), okL_add (okL_app (okL_cut ol) ho) (okL_cut ol) (by decide), ?_⟩
        refine .now (k _ _ _ _ _ (fit_str (n := 54) ?_ (by decide)) gup_same (Keep.self (Keep.new (Keep.self kp0) hz')))
        rw [cut_to i0 (by omega), cut_from i0 (by omega)]
        have h1 := ho.1
        refine ⟨by simp only [List.length_append, List.length_take, List.length_drop]; omega, fun c hc => ?_⟩
        rcases List.mem_append.mp hc with hc | hc
        · rcases List.mem_append.mp hc with hc | hc
          · exact ol.2 c (List.mem_of_mem_take hc)
          · exact ho.2 c hc
        · exact ol.2 c (List.mem_of_mem_drop hc)
      simp_arith []
      refine dscond2 (fun h => ?_) fun h => ?_
      · have cp : CPow 10 29 := ⟨by decide, by decide, by decide⟩
        simp_arith [cp]
        intro z1 h1 z2 h2 z3 h3
        have m1 := h1
        have m2 := h2
        have m3 := h3
        obtain ⟨p1, h1⟩ := gup_none h1
        obtain ⟨e21, h2⟩ := gup_none h2
        obtain ⟨p2, h2⟩ := gup_none h2
        obtain ⟨e32, h3⟩ := gup_none h3
        obtain ⟨e31, h3⟩ := gup_none h3
        obtain ⟨p3, h3⟩ := gup_none h3
        have q1 := (ne_of_known gq0 h1).symm
        have q2 := (ne_of_known gq0 h2).symm
        have q3 := (ne_of_known gq0 h3).symm
        simp_arith [p1, p2, p3, q1, q2, q3, p1.symm, p2.symm, p3.symm, q1.symm, q2.symm, q3.symm, gq0, hne]
        intro u c a n hu
        refine .now (k _ _ _ _ _ ?_ gup_same (Keep.self (Keep.new (Keep.new (Keep.new (Keep.self kp0) m1) m2) m3)))
        rcases hu with rfl | rfl | rfl | rfl | rfl | rfl | rfl | rfl | rfl
        · exact fit_non
        · exact fit_bl _
        · exact fit_i0
        · exact fit_i1
        · exact fit_l0 (by rw [hide_ne p1, gup_ne p1, gup_ne e31.symm, gup_ne e21.symm, gup_same])
        · exact fit_l1 (n := 1) (l := [97]) (by rw [hide_ne p2, gup_ne p2, gup_ne e32.symm, gup_same]) ⟨by decide, by decide⟩ (by decide)
        · exact fit_t0
        · exact fit_t1 (n := 1) (l := [97]) ⟨by decide, by decide⟩ (by decide)
        · exact fit_big
      simp_arith []
      exact .now (k _ _ _ _ _ (fit_str ol (by decide)) gup_same (Keep.self kp0))
  · exact h.elim
theorem bad_fit {G : Gp} {k : Bool} {u : U} : ∀ {ps : List Pr}, (∀ p ∈ ps, p.1 ∈ words) → (∀ p ∈ ps, Fit G p.2) → ofBad ps = some (k, u) → Fit G u
  | [], _, _, h => by cases h
  | (n, v) :: ps, hw, hf, h => by
    rw [ofBad] at h
    cases h1 : nmB n
    · rw [h1] at h
      cases h
      exact fit_str (n := 14) ⟨words_len n (hw (n, v) (by simp)), (show ∀ n ∈ words, ∀ c ∈ n, c < 1114112 by decide) n (hw (n, v) (by simp))⟩ (by decide)
    · rw [h1] at h
      cases h2 : conU v
      · rw [h2] at h
        cases h
        exact hf (n, _) (by simp)
      · rw [h2] at h
        exact bad_fit (fun p hp => hw p (List.mem_cons_of_mem _ hp)) (fun p hp => hf p (List.mem_cons_of_mem _ hp)) h
theorem shows_pair {G : Gp} {r : Addr} {l : List Nat} {u : U} {d : PyData} (g : G r = some (.lst [.str l, u])) (h : Dat G u d) (s : SmallD d) (hl : l.length ≤ 60 ∧ ∀ c ∈ l, c < 1114112) : Shows G (.ref r) (.list [.str ⟨l.toArray⟩, d]) := by
  obtain ⟨s1, s2, s3, s4⟩ := s
  have h3 := low8 hl.2
  refine shows_small (.lst g (.cons (.str _) (.cons h .nil))) ?_ ?_ ?_ ?_
  · simp [PyData.showable, PyData.showableAll, s1]
  · simp [PyData.depth, PyData.depthAll]
    omega
  · simp [PyData.leavesShort, PyData.leavesShortAll, s3]
    simpa using h3
  · simp [PyData.weight, PyData.weightAll, Str.length]
    omega
theorem kind_ok (k : Bool) : (kindL k).length ≤ 60 ∧ ∀ c ∈ kindL k, c < 1114112 := by cases k <;> decide
theorem law_law (us : List U) (G : Gp) (Q : UK) (E : UX) (h : sp_law us G Q E) : t_law (endsU Q E) (ustart 14 us) G := by
  obtain ⟨ns, rfl, hn, q⟩ := h
  have hlen : (IntU ns).length = ns.length := intU_len ns
  simp_arith [t_law]
  refine ⟨rg_of (by repeat' split <;> omega) (by repeat' split <;> omega), ?_⟩
  refine for_rng (fun k us' G' => ∃ a b c d e f g h i j k l m, us' = [some (.rol (IntU ns)), a, b, c, d, e, f, g, h, i, j, k, l, m]) ?_ ?_ ⟨_, _, _, _, _, _, _, _, _, _, _, _, _, rfl⟩
  · rintro k' us' G' N hk hN ⟨a1, a2, a3, a4, a5, a6, a7, a8, a9, a10, a11, a12, a13, rfl⟩
    have hk0 : (0 : Int) ≤ 0 + (k' : Int) := by omega
    simp_arith [hk0]
    intro c a n p q iq hp hq hne
    have gp0 : gup (gup G' q (.lst (IntU iq))) p (bagO c a n q) p = some (bagO c a n q) := gup_same
    have gq0 : gup (gup G' q (.lst (IntU iq))) p (bagO c a n q) q = some (.lst (IntU iq)) := (gup_ne hne).trans gup_same
    generalize gup (gup G' q (.lst (IntU iq))) p (bagO c a n q) = G1 at gp0 gq0 ⊢
    clear hp hq
    simp_arith [gp0, gq0, hne]
    intro w c a n w0 w1
    simp_arith [gq0, hne]
    intro u1 G2 c a n f1 gp2 k2
    have gq2 : G2 q = some (.lst (IntU iq)) := k2 _ _ hne ((gup_ne hne).trans gq0)
    simp_arith [gp2, gq2, hne]
    intro u2 G3 c a n f2 gp3 k3
    have gq3 := k3 _ _ hne gq2
    simp_arith [gp3, gq3, hne]
    intro u3 G4 c a n f3 gp4 k4
    have f1 := ((f1.sub (hide_keep k3)).sub (hide_keep k4)).sub hide_le
    have f2 := (f2.sub (hide_keep k4)).sub hide_le
    have f3 := f3.sub hide_le
    clear k2 k3 k4 gp2 gp3 gp4 gq2 gq3 gp0 gq0
    simp_arith []
    refine ⟨w0, w1, fun zr G5 s5 hz gz => ?_⟩
    have ok : PrsOk G5 (prs w u1 u2 u3) := (prs_ok f1 f2 f3).sub s5
    have f1 := f1.sub s5
    have f2 := f2.sub s5
    have f3 := f3.sub s5
    refine ⟨prs w u1 u2 u3, gz, ok, fun kk uu hb rd G6 s6 hrd grd => ⟨w0, w1, f1.sub s6, f2.sub s6, f3.sub s6, fun k1 x1 hb1 ra G7 s7 hra gra => ⟨w0, w1, (f1.sub s6).sub s7, (f2.sub s6).sub s7, (f3.sub s6).sub s7, fun k2 x2 hb2 rb G8 s8 hrb grb => ?_, fun hb2 => ?_⟩, fun hb1 => ?_⟩,
      fun hb G6 s6 => ⟨w0, w1, f1.sub s6, f2.sub s6, f3.sub s6, fun k1 x1 hb1 => ?_, fun hb1 wa da ba G7 s7 Oa => ⟨w0, w1, (f1.sub s6).sub s7, (f2.sub s6).sub s7, (f3.sub s6).sub s7, fun k2 x2 hb2 => ?_, fun hb2 wb db bb G8 s8 Ob => ?_⟩⟩⟩
    · obtain ⟨rfl, rfl⟩ : k1 = kk ∧ x1 = uu := by rw [hb] at hb1; cases hb1; exact ⟨rfl, rfl⟩
      have fu : Fit G5 x1 := bad_fit ok.wd ok.fit hb
      have grd := s8 _ _ (s7 _ _ grd)
      have gra := s8 _ _ gra
      obtain ⟨dd, hd, sd⟩ := fu.dat
      have hd := dat_sub s8 (dat_sub s7 (dat_sub s6 hd))
      simp_arith [grd]
      refine ⟨_, shows_pair gra hd sd (kind_ok _), ?_⟩
      refine ⟨_, shows_pair grd hd sd (kind_ok _), ?_⟩
      simp_arith [nx_same]
      exact hN _ _ ⟨_, _, _, _, _, _, _, _, _, _, _, _, _, rfl⟩
    · rw [hb] at hb2; cases hb2
    · rw [hb] at hb1; cases hb1
    · rw [hb] at hb1; cases hb1
    · rw [hb] at hb2; cases hb2
    · have ok3 := ok.len
      have OA := Oa.sub s8
      have nwa := Oa.nw
      have okA := OA.wok ok3
      have okB := Ob.wok ok3
      have okr := OA.okr ok3
      have ab : ∀ x ∈ ba, x ∉ wb :: db :: bb := fun x h1 h2 => by
        obtain ⟨t, e⟩ := bx_mem Oa.bx h1
        rw [Ob.nw x h2] at e
        cases e
      clear Oa
      simp_arith [OA.gw, Ob.gw]
      simp_arith [OA.gw, OA.gd, Ob.gw, okA, OA.wbx, OA.rows]
      refine repr_rows okr (repr_rows okr ?_)
      simp_arith [nx_same]
      have few := okA.few
      simp_arith [OA.gw, OA.gd, few]
      intro r hr
      have sr := new_sub (o := .lst ((wnames (((prs w u1 u2 u3).map (·.1)).zip ba)).map U.str)) (Sub.refl G8) hr
      have gr : gup G8 r (.lst ((wnames (((prs w u1 u2 u3).map (·.1)).zip ba)).map U.str)) r = some (.lst ((wnames (((prs w u1 u2 u3).map (·.1)).zip ba)).map U.str)) := gup_same
      have OA := OA.sub sr
      have OB := Ob.sub sr
      revert gr OA OB
      generalize gup G8 r (.lst ((wnames (((prs w u1 u2 u3).map (·.1)).zip ba)).map U.str)) = G9
      intro gr OA OB
      have GWA := OA.gw
      have GDA := OA.gd
      have WBA := OA.wbx
      have nam0 := zip_fst OA.len
      clear OA Ob
      revert WBA GWA GDA gr few okA
      generalize hna : ((prs w u1 u2 u3).map (·.1)).zip ba = na
      intro okA few gr GWA GDA WBA
      have nab : ∀ x ∈ na, x.2 ∉ wb :: db :: bb := fun x hx => ab _ (List.of_mem_zip (show (x.1, x.2) ∈ _ by rw [hna]; exact hx)).2
      have nam : na.map (·.1) = (prs w u1 u2 u3).map (·.1) := by
        rw [← hna]
        exact nam0
      refine for_ind (fun items us' H => ∃ (x1 x2 : List (List Nat)) (v10 v11 : Option U), wnames na = x1 ++ x2 ∧ items = x2.map U.str ∧ us' = [some (.rol (IntU ns)), some (.int (0 + (k' : Int))), some (.ref p), some (.tup (rowsU (srtR (prs w u1 u2 u3)))), some (.int w), some u1, some u2, some u3, some (.ref wa), some (.ref wb), v10, v11, a12, a13] ∧
        H r = some (.lst ((wnames na).map U.str)) ∧ H wa = some (worldO da) ∧ H da = some (dctO na) ∧ WBx H na ∧ OfAt G7 H wb db bb (prs w u1 u2 u3) ∧ (∀ n ∈ x1, conA H (adrN na n) = [113])) ?_ ?_ _ _ _ ⟨[], _, _, _, rfl, rfl, rfl, gr, GWA, GDA, WBA, OB, fun _ h => (by cases h)⟩
      · rintro x xs us' H M hM ⟨x1, x2, v10, v11, e1, e2, rfl, gr, gwa, gda, wbx, OB, hq⟩
        cases x2 with
        | nil => cases e2
        | cons m x2 =>
          cases e2
          refine ⟨gr, ?_⟩
          have hm : m ∈ wnames na := by rw [e1]; simp
          obtain ⟨b, hb⟩ := wnames_get hm
          have hab : adrN na m = b := adr_of hb
          have hbn := nab _ (wget_mem hb)
          dsimp only at hbn
          obtain ⟨c, hc, hcm, gc⟩ := OB.get (n := m) (by rw [← nam]; exact wnames_mem.mp hm)
          obtain ⟨t, gb, _⟩ := wbx _ (wget_mem hb)
          dsimp only at gb
          have hne : ¬ b = c := fun e => hbn (by rw [e]; simp [hcm])
          have sm : m.length ≤ 1000000 := by have := (okL_name okA hm).1; omega
          have cq : conB [113] = true := by decide +kernel
          have okB := OB.wok ok3
          have GWB := OB.gw
          have GDB := OB.gd
          simp_arith [gwa, gda, okA, hb, sm, GWB, GDB, okB, hc, hne, gb, gc, cq]
          have b1 : r ≠ b := fun e => by rw [e, gb] at gr; cases gr
          have b2 : wa ≠ b := fun e => by
            rw [e, gb] at gwa
            have z := Option.some.inj gwa
            unfold boxO worldO at z
            injection z with z _
            exact absurd z (by decide)
          have b3 : da ≠ b := fun e => by
            rw [e, gb] at gda
            have z := Option.some.inj gda
            unfold boxO dctO at z
            cases z
          have b4 : wb ≠ b := fun e => hbn (by rw [← e]; simp)
          have b5 : db ≠ b := fun e => hbn (by rw [← e]; simp)
          refine hM _ _ ⟨x1 ++ [m], x2, _, _, by simp [e1], rfl, rfl, (gup_ne b1).trans gr, (gup_ne b2).trans gwa, (gup_ne b3).trans gda, fun x hx => ?_, ⟨bx_same OB.bx fun x hx t e => gup_ne (fun z => hbn (by rw [← z]; simp [hx])), OB.nw, (gup_ne b4).trans GWB, (gup_ne b5).trans GDB, OB.ok, OB.nd⟩, fun n hn => ?_⟩
          · by_cases z : x.2 = b
            · exact ⟨_, by rw [z]; exact gup_same, cq⟩
            · obtain ⟨t2, g2, c2⟩ := wbx x hx
              exact ⟨t2, (gup_ne z).trans g2, c2⟩
          · by_cases z : adrN na n = b
            · rw [z]
              exact conA_box gup_same
            · rcases List.mem_append.mp hn with hn | hn
              · rw [← hq n hn]
                unfold conA
                rw [gup_ne z]
              · rw [List.mem_singleton.mp hn] at z
                exact absurd hab z
      · rintro us' H ⟨x1, x2, v10, v11, e1, e2, rfl, gr, gwa, gda, wbx, OB, hq⟩
        cases x2 with
        | cons m x2 => cases e2
        | nil =>
          rw [List.append_nil] at e1
          refine ⟨gr, ?_⟩
          have OBk := OB.okr ok3
          have okB := OB.wok ok3
          have WBB := OB.wbx
          have OBr := OB.rows
          have GWB := OB.gw
          have GDB := OB.gd
          simp_arith [gwa, gda, okA, wbx]
          refine lc_ind (fun items acc H2 => ∃ y2 : List (List Nat), (∀ n ∈ y2, n ∈ wnames na) ∧ items = y2.map (fun n => U.tup [.tup ((grpN na n).map U.str), .str (conA H (adrN na n))]) ∧ acc = [] ∧ H2 = H) ?_ ?_ _ _ _ ⟨fstN na, fun n hn => (List.mem_filter.mp hn).1, rfl, rfl, rfl⟩
          · rintro x xs acc H2 M2 hM2 ⟨y2, e2, e3, rfl, rfl⟩
            cases y2 with
            | nil => cases e3
            | cons m y2 =>
              cases e3
              refine ⟨True.intro, ?_⟩
              have e4 := hq m (by rw [← e1]; exact e2 m (by simp))
              simp_arith [e4, nx_same]
              exact hM2 _ _ ⟨y2, fun n hn => e2 n (by simp [hn]), rfl, rfl, rfl⟩
          · rintro acc H2 ⟨y2, e2, e3, rfl, rfl⟩
            cases y2 with
            | cons m y2 => cases e3
            | nil =>
              refine ⟨True.intro, fun p1 h1 p2 h2 => ?_⟩
              obtain ⟨n21, _⟩ := gup_none h2
              have n12 := Ne.symm n21
              simp_arith [n12]
              refine ne_sgs (l := []) (m := []) ((gup_ne n12).trans gup_same) gup_same (by simp) (by simp) ?_
              have s3 := new_sub (o := .lst []) (new_sub (o := .lst []) (Sub.refl H2) h1) h2
              have OB := OB.sub s3
              revert OB
              generalize gup (gup H2 p1 (.lst [])) p2 (.lst []) = H3
              intro OB
              have okB := OB.wok ok3
              have WBB := OB.wbx
              have OBr := OB.rows
              have GWB := OB.gw
              have GDB := OB.gd
              simp_arith [nx_same, GWB, GDB, okB, WBB, OBr]
              refine repr_rows okr (repr_rows okr ?_)
              simp_arith [nx_same]
              exact hN _ _ ⟨_, _, _, _, _, _, _, _, _, _, _, _, _, rfl⟩
  · rintro us' G' ⟨a1, a2, a3, a4, a5, a6, a7, a8, a9, a10, a11, a12, a13, rfl⟩
    simp_arith []
    exact .now (q _)
structure Base (K : PySem.W.Frag) (mg : Str → Option Value) (base : Heap) : Prop where
  says : SaysX fx fa fn K
  inK : K.In base
  ns : base.Ns mainGlobals mg
section
variable {P : Program} {w : World} {K : PySem.W.Frag} {mg : Str → Option Value} {base : Heap}
theorem g_is_contents (b : Base K mg base) : mg "is_contents" = some (.ref (d_is_contents.at_ K)) := He.glo_ok b.inK b.ns (b.says.he 0 (f := .glo "is_contents") rfl)
theorem g_is_name (b : Base K mg base) : mg "is_name" = some (.ref (d_is_name.at_ K)) := He.glo_ok b.inK b.ns (b.says.he 1 (f := .glo "is_name") rfl)
theorem g__law_bag (b : Base K mg base) : mg "_law_bag" = some (.ref (d__law_bag.at_ K)) := He.glo_ok b.inK b.ns (b.says.he 2 (f := .glo "_law_bag") rfl)
theorem g__law_take (b : Base K mg base) : mg "_law_take" = some (.ref (d__law_take.at_ K)) := He.glo_ok b.inK b.ns (b.says.he 3 (f := .glo "_law_take") rfl)
theorem g__law_of (b : Base K mg base) : mg "_law_of" = some (.ref (d__law_of.at_ K)) := He.glo_ok b.inK b.ns (b.says.he 4 (f := .glo "_law_of") rfl)
theorem g__law_thing (b : Base K mg base) : mg "_law_thing" = some (.ref (d__law_thing.at_ K)) := He.glo_ok b.inK b.ns (b.says.he 5 (f := .glo "_law_thing") rfl)
theorem g__law_is_contents (b : Base K mg base) : mg "_law_is_contents" = some (.ref (d__law_is_contents.at_ K)) := He.glo_ok b.inK b.ns (b.says.he 6 (f := .glo "_law_is_contents") rfl)
theorem g__law_made (b : Base K mg base) : mg "_law_made" = some (.ref (d__law_made.at_ K)) := He.glo_ok b.inK b.ns (b.says.he 7 (f := .glo "_law_made") rfl)
theorem g__law_pairs (b : Base K mg base) : mg "_law_pairs" = some (.ref (d__law_pairs.at_ K)) := He.glo_ok b.inK b.ns (b.says.he 8 (f := .glo "_law_pairs") rfl)
theorem g__law_due (b : Base K mg base) : mg "_law_due" = some (.ref (d__law_due.at_ K)) := He.glo_ok b.inK b.ns (b.says.he 9 (f := .glo "_law_due") rfl)
theorem g_law (b : Base K mg base) : mg "law" = some (.ref (d_law.at_ K)) := He.glo_ok b.inK b.ns (b.says.he 10 (f := .glo "law") rfl)
theorem n_len (b : Base K mg base) : mg "len" = none := He.free_ok b.inK b.ns (b.says.he 11 (f := .free "len") rfl)
theorem n_min (b : Base K mg base) : mg "min" = none := He.free_ok b.inK b.ns (b.says.he 12 (f := .free "min") rfl)
theorem n_max (b : Base K mg base) : mg "max" = none := He.free_ok b.inK b.ns (b.says.he 13 (f := .free "max") rfl)
theorem n_range (b : Base K mg base) : mg "range" = none := He.free_ok b.inK b.ns (b.says.he 14 (f := .free "range") rfl)
theorem n_list (b : Base K mg base) : mg "list" = none := He.free_ok b.inK b.ns (b.says.he 15 (f := .free "list") rfl)
theorem n_isinstance (b : Base K mg base) : mg "isinstance" = none := He.free_ok b.inK b.ns (b.says.he 16 (f := .free "isinstance") rfl)
theorem n_repr (b : Base K mg base) : mg "repr" = none := He.free_ok b.inK b.ns (b.says.he 17 (f := .free "repr") rfl)
theorem n_str (b : Base K mg base) : mg "str" = none := He.free_ok b.inK b.ns (b.says.he 18 (f := .free "str") rfl)
theorem n_sorted (b : Base K mg base) : mg "sorted" = none := He.free_ok b.inK b.ns (b.says.he 19 (f := .free "sorted") rfl)
theorem n_tuple (b : Base K mg base) : mg "tuple" = none := He.free_ok b.inK b.ns (b.says.he 20 (f := .free "tuple") rfl)
theorem n_zip (b : Base K mg base) : mg "zip" = none := He.free_ok b.inK b.ns (b.says.he 21 (f := .free "zip") rfl)
theorem n_abs (b : Base K mg base) : mg "abs" = none := He.free_ok b.inK b.ns (b.says.he 22 (f := .free "abs") rfl)
theorem n_enumerate (b : Base K mg base) : mg "enumerate" = none := He.free_ok b.inK b.ns (b.says.he 23 (f := .free "enumerate") rfl)
theorem n_int (b : Base K mg base) : mg "int" = none := He.free_ok b.inK b.ns (b.says.he 24 (f := .free "int") rfl)
theorem c_MARKS (b : Base K mg base) : ∃ t, mg "MARKS" = some (.str (S "ABCDEFGHIJKLMNOPQRSTUVWXYZabcdefghijklmnopqrstuvwxyz") t) := He.str_ok b.inK b.ns (b.says.he 25 (f := .str "MARKS" "ABCDEFGHIJKLMNOPQRSTUVWXYZabcdefghijklmnopqrstuvwxyz") rfl)
theorem c_LETTERS (b : Base K mg base) : ∃ t, mg "LETTERS" = some (.str (S "abcdefghijklmnopqrstuvwxyz ") t) := He.str_ok b.inK b.ns (b.says.he 26 (f := .str "LETTERS" "abcdefghijklmnopqrstuvwxyz ") rfl)
theorem i_LONGEST (b : Base K mg base) : ∃ t, mg "LONGEST" = some (.int 13 t) := He.int_ok b.inK b.ns (b.says.he 27 (f := .int "LONGEST" 13) rfl)
theorem gl_World (b : Base K mg base) : mg (S "World") = some (.ref (He.ga K (S "World"))) := He.glo_ok b.inK b.ns (b.says.he 28 (f := .glo "World") rfl)
theorem gl_Box (b : Base K mg base) : mg (S "Box") = some (.ref (He.ga K (S "Box"))) := He.glo_ok b.inK b.ns (b.says.he 29 (f := .glo "Box") rfl)
theorem gl_BadBox (b : Base K mg base) : mg (S "BadBox") = some (.ref (He.ga K (S "BadBox"))) := He.glo_ok b.inK b.ns (b.says.he 30 (f := .glo "BadBox") rfl)
theorem gl_NoName (b : Base K mg base) : mg (S "NoName") = some (.ref (He.ga K (S "NoName"))) := He.glo_ok b.inK b.ns (b.says.he 31 (f := .glo "NoName") rfl)
theorem gl_BadName (b : Base K mg base) : mg (S "BadName") = some (.ref (He.ga K (S "BadName"))) := He.glo_ok b.inK b.ns (b.says.he 32 (f := .glo "BadName") rfl)
theorem ck_World (b : Base K mg base) : ClsK K "World" := (b.says.fact 0 (f := clsB "World") rfl)
theorem mk_World (b : Base K mg base) : Mk K (He.ga K (S "World")) (d_World___init__.at_ K) := He.mkr_ok (b.says.he 33 (f := .mkr "World") rfl)
theorem ck_Box (b : Base K mg base) : ClsK K "Box" := (b.says.fact 1 (f := clsB "Box") rfl)
theorem mk_Box (b : Base K mg base) : Mk K (He.ga K (S "Box")) (d_Box___init__.at_ K) := He.mkr_ok (b.says.he 34 (f := .mkr "Box") rfl)
theorem tgt_World (b : Base K mg base) : tgtB "World" K = true := (b.says.fact 2 (f := tgtB "World") rfl)
theorem tgt_Box (b : Base K mg base) : tgtB "Box" K = true := (b.says.fact 3 (f := tgtB "Box") rfl)
theorem meth_World___getitem__ (b : Base K mg base) : Meth K (He.ga K (S "World")) (S "__getitem__") (d_World___getitem__.at_ K) := He.meth_ok (b.says.he 36 (f := .meth "World" "__getitem__") rfl)
theorem meth_World___setitem__ (b : Base K mg base) : Meth K (He.ga K (S "World")) (S "__setitem__") (d_World___setitem__.at_ K) := He.meth_ok (b.says.he 37 (f := .meth "World" "__setitem__") rfl)
theorem meth_World___contains__ (b : Base K mg base) : Meth K (He.ga K (S "World")) (S "__contains__") (d_World___contains__.at_ K) := He.meth_ok (b.says.he 38 (f := .meth "World" "__contains__") rfl)
theorem meth_World_names (b : Base K mg base) : Meth K (He.ga K (S "World")) (S "names") (d_World_names.at_ K) := He.meth_ok (b.says.he 39 (f := .meth "World" "names") rfl)
theorem meth_World_sharing (b : Base K mg base) : Meth K (He.ga K (S "World")) (S "sharing") (d_World_sharing.at_ K) := He.meth_ok (b.says.he 40 (f := .meth "World" "sharing") rfl)
theorem meth_World_rows (b : Base K mg base) : Meth K (He.ga K (S "World")) (S "rows") (d_World_rows.at_ K) := He.meth_ok (b.says.he 41 (f := .meth "World" "rows") rfl)
theorem meth_Box_become (b : Base K mg base) : Meth K (He.ga K (S "Box")) (S "become") (d_Box_become.at_ K) := He.meth_ok (b.says.he 43 (f := .meth "Box" "become") rfl)
theorem meth_BadBox___init__ (b : Base K mg base) : Meth K (He.ga K (S "BadBox")) (S "__init__") (d_BadBox___init__.at_ K) := He.meth_ok (b.says.he 44 (f := .meth "BadBox" "__init__") rfl)
theorem meth_NoName___init__ (b : Base K mg base) : Meth K (He.ga K (S "NoName")) (S "__init__") (d_NoName___init__.at_ K) := He.meth_ok (b.says.he 45 (f := .meth "NoName" "__init__") rfl)
theorem meth_BadName___init__ (b : Base K mg base) : Meth K (He.ga K (S "BadName")) (S "__init__") (d_BadName___init__.at_ K) := He.meth_ok (b.says.he 46 (f := .meth "BadName" "__init__") rfl)
theorem nsq_World (b : Base K mg base) : nsqB "World" K = true := (b.says.fact 4 (f := nsqB "World") rfl)
theorem stat_World_of (b : Base K mg base) : statB "World" "of" K = true := (b.says.fact 5 (f := statB "World" "of") rfl)
theorem hit_BadBox_BadName (b : Base K mg base) : hitK "BadBox" "BadName" false K = true := (b.says.fact 6 (f := hitK "BadBox" "BadName" false) rfl)
theorem hit_NoName_BadName (b : Base K mg base) : hitK "NoName" "BadName" false K = true := (b.says.fact 7 (f := hitK "NoName" "BadName" false) rfl)
theorem hit_BadName_BadName (b : Base K mg base) : hitK "BadName" "BadName" true K = true := (b.says.fact 8 (f := hitK "BadName" "BadName" true) rfl)
theorem hit_BadWorld_BadName (b : Base K mg base) : hitK "BadWorld" "BadName" false K = true := (b.says.fact 9 (f := hitK "BadWorld" "BadName" false) rfl)
theorem hit_BadBox_BadBox (b : Base K mg base) : hitK "BadBox" "BadBox" true K = true := (b.says.fact 10 (f := hitK "BadBox" "BadBox" true) rfl)
theorem hit_NoName_BadBox (b : Base K mg base) : hitK "NoName" "BadBox" false K = true := (b.says.fact 11 (f := hitK "NoName" "BadBox" false) rfl)
theorem hit_BadName_BadBox (b : Base K mg base) : hitK "BadName" "BadBox" false K = true := (b.says.fact 12 (f := hitK "BadName" "BadBox" false) rfl)
theorem hit_BadWorld_BadBox (b : Base K mg base) : hitK "BadWorld" "BadBox" false K = true := (b.says.fact 13 (f := hitK "BadWorld" "BadBox" false) rfl)
theorem xf_BadName_name (b : Base K mg base) : xfK "BadName" "name" K = true := (b.says.fact 14 (f := xfK "BadName" "name") rfl)
theorem xf_BadBox_contents (b : Base K mg base) : xfK "BadBox" "contents" K = true := (b.says.fact 15 (f := xfK "BadBox" "contents") rfl)
theorem oex_BadBox (b : Base K mg base) : OexG K (He.ga K (S "BadBox")) := oex_of (b.says.fact 16 (f := oexB "BadBox") rfl)
theorem oex_NoName (b : Base K mg base) : OexG K (He.ga K (S "NoName")) := oex_of (b.says.fact 17 (f := oexB "NoName") rfl)
theorem oex_BadName (b : Base K mg base) : OexG K (He.ga K (S "BadName")) := oex_of (b.says.fact 18 (f := oexB "BadName") rfl)
theorem fd_BadBox___init__ (b : Base K mg base) : FunK K d_BadBox___init__ := funK (b.says.def_ 0 (d := d_BadBox___init__) rfl)
theorem fd_BadName___init__ (b : Base K mg base) : FunK K d_BadName___init__ := funK (b.says.def_ 1 (d := d_BadName___init__) rfl)
theorem fd_NoName___init__ (b : Base K mg base) : FunK K d_NoName___init__ := funK (b.says.def_ 2 (d := d_NoName___init__) rfl)
theorem fd_is_contents (b : Base K mg base) : FunK K d_is_contents := funK (b.says.def_ 3 (d := d_is_contents) rfl)
theorem fd_Box___init__ (b : Base K mg base) : FunK K d_Box___init__ := funK (b.says.def_ 4 (d := d_Box___init__) rfl)
theorem fd_Box_become (b : Base K mg base) : FunK K d_Box_become := funK (b.says.def_ 5 (d := d_Box_become) rfl)
theorem fd_is_name (b : Base K mg base) : FunK K d_is_name := funK (b.says.def_ 6 (d := d_is_name) rfl)
theorem fd_World___init__ (b : Base K mg base) : FunK K d_World___init__ := funK (b.says.def_ 7 (d := d_World___init__) rfl)
theorem fd_World___getitem__ (b : Base K mg base) : FunK K d_World___getitem__ := funK (b.says.def_ 8 (d := d_World___getitem__) rfl)
theorem fd_World___setitem__ (b : Base K mg base) : FunK K d_World___setitem__ := funK (b.says.def_ 9 (d := d_World___setitem__) rfl)
theorem fd_World___contains__ (b : Base K mg base) : FunK K d_World___contains__ := funK (b.says.def_ 10 (d := d_World___contains__) rfl)
theorem fd_World_names (b : Base K mg base) : FunK K d_World_names := funK (b.says.def_ 11 (d := d_World_names) rfl)
theorem fd_World_sharing (b : Base K mg base) : FunK K d_World_sharing := funK (b.says.def_ 12 (d := d_World_sharing) rfl)
theorem fd_World_rows (b : Base K mg base) : FunK K d_World_rows := funK (b.says.def_ 13 (d := d_World_rows) rfl)
theorem fd_World_of (b : Base K mg base) : FunK K d_World_of := funK (b.says.def_ 14 (d := d_World_of) rfl)
theorem fd__law_bag (b : Base K mg base) : FunK K d__law_bag := funK (b.says.def_ 15 (d := d__law_bag) rfl)
theorem fd__law_take (b : Base K mg base) : FunK K d__law_take := funK (b.says.def_ 16 (d := d__law_take) rfl)
theorem fd__law_of (b : Base K mg base) : FunK K d__law_of := funK (b.says.def_ 17 (d := d__law_of) rfl)
theorem fd__law_thing (b : Base K mg base) : FunK K d__law_thing := funK (b.says.def_ 18 (d := d__law_thing) rfl)
theorem fd__law_is_contents (b : Base K mg base) : FunK K d__law_is_contents := funK (b.says.def_ 19 (d := d__law_is_contents) rfl)
theorem fd__law_made (b : Base K mg base) : FunK K d__law_made := funK (b.says.def_ 20 (d := d__law_made) rfl)
theorem fd__law_pairs (b : Base K mg base) : FunK K d__law_pairs := funK (b.says.def_ 21 (d := d__law_pairs) rfl)
theorem fd__law_due (b : Base K mg base) : FunK K d__law_due := funK (b.says.def_ 22 (d := d__law_due) rfl)
theorem fd_law (b : Base K mg base) : FunK K d_law := funK (b.says.def_ 23 (d := d_law) rfl)
theorem ini_BadBox (b : Base K mg base) : FnOk P w K mg base L2.CX0 1 (d_BadBox___init__.at_ K) (fdOf K (d_BadBox___init__.at_ K)) ["self", "contents"] (spIni (He.ga K (S "BadBox")) ["contents"]) := ini1 (fd_BadBox___init__ b).D ⟨rfl, rfl, rfl, by decide +kernel, rfl, by decide +kernel, by decide +kernel⟩ (oex_BadBox b) (He.noat_ok (b.says.he 48 (f := .noat "BadBox" "contents") rfl)) ⟨by decide, by decide⟩ ⟨by decide, by decide⟩
theorem bini_BadBox (b : Base K mg base) : Binds K (fdOf K (d_BadBox___init__.at_ K)) ["self", "contents"] [] := FunD.bindsN (fd_BadBox___init__ b).D fun _ _ _ _ _ _ us hl => match us, hl with | [_, _], _ => rfl
theorem ini_NoName (b : Base K mg base) : FnOk P w K mg base L2.CX0 1 (d_NoName___init__.at_ K) (fdOf K (d_NoName___init__.at_ K)) ["self", "name"] (spIni (He.ga K (S "NoName")) ["name"]) := ini1 (fd_NoName___init__ b).D ⟨rfl, rfl, rfl, by decide +kernel, rfl, by decide +kernel, by decide +kernel⟩ (oex_NoName b) (He.noat_ok (b.says.he 49 (f := .noat "NoName" "name") rfl)) ⟨by decide, by decide⟩ ⟨by decide, by decide⟩
theorem bini_NoName (b : Base K mg base) : Binds K (fdOf K (d_NoName___init__.at_ K)) ["self", "name"] [] := FunD.bindsN (fd_NoName___init__ b).D fun _ _ _ _ _ _ us hl => match us, hl with | [_, _], _ => rfl
theorem ini_BadName (b : Base K mg base) : FnOk P w K mg base L2.CX0 1 (d_BadName___init__.at_ K) (fdOf K (d_BadName___init__.at_ K)) ["self", "name"] (spIni (He.ga K (S "BadName")) ["name"]) := ini1 (fd_BadName___init__ b).D ⟨rfl, rfl, rfl, by decide +kernel, rfl, by decide +kernel, by decide +kernel⟩ (oex_BadName b) (He.noat_ok (b.says.he 50 (f := .noat "BadName" "name") rfl)) ⟨by decide, by decide⟩ ⟨by decide, by decide⟩
theorem bini_BadName (b : Base K mg base) : Binds K (fdOf K (d_BadName___init__.at_ K)) ["self", "name"] [] := FunD.bindsN (fd_BadName___init__ b).D fun _ _ _ _ _ _ us hl => match us, hl with | [_, _], _ => rfl
end
theorem ev {X : Cx} {W : WX} {pos : Pos} {i : Nat} {x : Str} (h1 : X.N[i]? = some x := by exact rfl) (h2 : Vis X.env.scope x := by first | exact Or.inl rfl | exact Or.inr (Or.inl rfl) | exact Or.inr (Or.inr rfl)) (h3 : (x == ("__debug__" : Str)) = false := by decide) (h4 : (x == ("__classdict__" : Str)) = false := by decide) : EU X W (.Name x pos) (tUVar i) := eu_var h1 h2 h3 h4
abbrev cxV (N : List Str) (d : DD) (P : Program) (w : World) (K : PySem.W.Frag) (mg : Str → Option Value) (base : Heap) (f : Addr) (cdv : Value) (A : Around) (outer : List Env) (s : Shared) (H : Hp) (E : XK) : Cx := cxU P w K mg base N d.qual d.scope f cdv A outer s H E
abbrev ScD (N : List Str) (d : DD) : Prop := FnScope N (parN d.params ++ parK d.params) d.scope
section
variable {P : Program} {w : World} {K : PySem.W.Frag} {mg : Str → Option Value} {base : Heap} {f : Addr} {cdv : Value} {A : Around} {outer : List Env} {s : Shared} {H : Hp} {G : Gp} {E : UX} {W : WX} {pos : Pos}
namespace F_World___init__
def N : List Str := ["self"]
theorem sc : ScD N d_World___init__ := ⟨rfl, rfl, rfl, by decide +kernel, rfl, by decide +kernel, by decide +kernel⟩
abbrev X := cxV N d_World___init__
theorem v0 {E : XK} : EU (X P w K mg base f cdv A outer s H E) W (.Name "self" pos) (tUVar 0) := ev
theorem body (b : Base K mg base)  (hr : RoomU 0 (A.deeper (envOfC d_World___init__.qual d_World___init__.scope s.heap.objs.size f cdv))) : SsU (X P w K mg base f cdv A outer s H (LX K H G E)) (wOf K H G E) (defBody (clsm 21 0)) t_World___init__ :=
  (ssu_cons (su_fld (f := "boxes") v0 eu_dict0 rfl)
    ssu_nil)
end F_World___init__
theorem ok_World___init__ (b : Base K mg base) : Known P w K mg base d_World___init__ 1 sp_World___init__ :=
  ⟨fn_u (fd_World___init__ b).D F_World___init__.sc rfl (fun cdv A outer s H G E hr => F_World___init__.body b  hr) (fun ws G Q E h _ => law_World___init__ ws G Q E h), (fd_World___init__ b).D⟩
namespace F_World_names
def N : List Str := ["self"]
theorem sc : ScD N d_World_names := ⟨rfl, rfl, rfl, by decide +kernel, rfl, by decide +kernel, by decide +kernel⟩
abbrev X := cxV N d_World_names
theorem v0 {E : XK} : EU (X P w K mg base f cdv A outer s H E) W (.Name "self" pos) (tUVar 0) := ev
theorem body (b : Base K mg base)  (hr : RoomU 0 (A.deeper (envOfC d_World_names.qual d_World_names.scope s.heap.objs.size f cdv))) : SsU (X P w K mg base f cdv A outer s H (LX K H G E)) (wOf K H G E) (defBody (clsm 21 8)) t_World_names :=
  (ssu_cons (su_ret (eu_callB cu_sortedN rfl (n_sorted b) boot_sorted (au_cons (eu_callTy (cu_listA rfl) rfl (n_list b) boot_list (au_cons (eu_fld (f := "boxes") v0 rfl) au_nil rfl) (by decide) (by decide) rfl rfl) au_nil rfl) (by decide) (by decide) rfl rfl))
    ssu_nil)
end F_World_names
theorem ok_World_names (b : Base K mg base) : Known P w K mg base d_World_names 1 sp_World_names :=
  ⟨fn_u (fd_World_names b).D F_World_names.sc rfl (fun cdv A outer s H G E hr => F_World_names.body b  hr) (fun ws G Q E h _ => law_World_names ws G Q E h), (fd_World_names b).D⟩
namespace F__law_bag
def N : List Str := ["_law_script", "_law_at", "_law_cell"]
theorem sc : ScD N d__law_bag := ⟨rfl, rfl, rfl, by decide +kernel, rfl, by decide +kernel, by decide +kernel⟩
abbrev X := cxV N d__law_bag
theorem v0 {E : XK} : EU (X P w K mg base f cdv A outer s H E) W (.Name "_law_script" pos) (tUVar 0) := ev
theorem v1 {E : XK} : EU (X P w K mg base f cdv A outer s H E) W (.Name "_law_at" pos) (tUVar 1) := ev
theorem v2 {E : XK} : EU (X P w K mg base f cdv A outer s H E) W (.Name "_law_cell" pos) (tUVar 2) := ev
theorem body (b : Base K mg base)  (hr : RoomU 0 (A.deeper (envOfC d__law_bag.qual d__law_bag.scope s.heap.objs.size f cdv))) : SsU (X P w K mg base f cdv A outer s H (LX K H G E)) (wOf K H G E) (defBody (top 23)) t__law_bag :=
  (ssu_cons (su_set (i := 2) sc.nd rfl (by first | exact Or.inl rfl | exact Or.inr rfl) (eu_ifC (tu_cmp ou_lt v1 (eu_callB cu_len rfl (n_len b) boot_len (au_cons v0 au_nil rfl) (by decide) (by decide) rfl rfl) (nomark _)) (eu_callB cu_abs rfl (n_abs b) boot_abs (au_cons (eu_ix iu0 v0 v1 fun _ _ => rfl) au_nil rfl) (by decide) (by decide) rfl rfl) eu_int) rfl (Or.inl rfl))
    (ssu_cons (su_ret (eu_lst (au_cons (eu_ifC (tu_cmp ou_ge v2 (eu_bin ou_pow eu_int eu_int) (nomark _)) v2 eu_int) (au_cons (eu_bin ou_add eu_int (eu_bin ou_mul eu_int v1)) (au_cons v1 (au_cons (eu_callTy cu_list rfl (n_list b) boot_list (au_cons (eu_slice v0 pou_none (pou_some eu_int)) au_nil rfl) (by decide) (by decide) rfl rfl) au_nil rfl) rfl) rfl) rfl)))
    ssu_nil))
end F__law_bag
theorem ok__law_bag (b : Base K mg base) : Known P w K mg base d__law_bag 1 sp__law_bag :=
  ⟨fn_u (fd__law_bag b).D F__law_bag.sc rfl (fun cdv A outer s H G E hr => F__law_bag.body b  hr) (fun ws G Q E h _ => law__law_bag ws G Q E h), (fd__law_bag b).D⟩
namespace F__law_is_contents
def N : List Str := ["_law_thing_here", "_law_k", "_law_mark"]
theorem sc : ScD N d__law_is_contents := ⟨rfl, rfl, rfl, by decide +kernel, rfl, by decide +kernel, by decide +kernel⟩
abbrev X := cxV N d__law_is_contents
theorem v0 {E : XK} : EU (X P w K mg base f cdv A outer s H E) W (.Name "_law_thing_here" pos) (tUVar 0) := ev
theorem v1 {E : XK} : EU (X P w K mg base f cdv A outer s H E) W (.Name "_law_k" pos) (tUVar 1) := ev
theorem v2 {E : XK} : EU (X P w K mg base f cdv A outer s H E) W (.Name "_law_mark" pos) (tUVar 2) := ev
theorem body (b : Base K mg base)  (hr : RoomU 0 (A.deeper (envOfC d__law_is_contents.qual d__law_is_contents.scope s.heap.objs.size f cdv))) : SsU (X P w K mg base f cdv A outer s H (LX K H G E)) (wOf K H G E) (defBody (top 27)) t__law_is_contents :=
  (ssu_cons (su_ifC (tu_not (tu_val tr_u (eu_callB (cu_isi (ds := []) all0) rfl (n_isinstance b) boot_isinstance (au_cons v0 (au_cons (eu_ty rfl (n_str b) boot_str (by decide) (by decide)) au_nil rfl) rfl) (by decide) (by decide) rfl rfl) fun _ => rfl)) (ssu_cons (su_ret eu_bl)
    ssu_nil) ssu_nil)
    (ssu_cons (su_for PassesOwn.leaving rfl (iu_enumT rfl (n_enumerate b) v0 rfl) (gu_tup rfl (gsu_cons (gu_name (i := 1) sc.nd rfl (by first | exact Or.inl rfl | exact Or.inr rfl) (Or.inl rfl)) (gsu_cons (gu_name (i := 2) sc.nd rfl (by first | exact Or.inl rfl | exact Or.inr rfl) (Or.inl rfl)) gsu_nil rfl) rfl) rfl rfl) (ssu_cons (su_ifC (WU.tu (wu_or (tu_cmp ou_notIn v2 (eu_strN (s := "ABCDEFGHIJKLMNOPQRSTUVWXYZabcdefghijklmnopqrstuvwxyz") (by decide +kernel)) (by with_unfolding_all rfl)) (wu_or1 (WU.tu (wu_and (tu_cmp ou_gt v1 eu_int (nomark _)) (wu_and1 (tu_cmp ou_ge (eu_ix iu0 v0 (eu_bin ou_sub v1 eu_int) fun _ _ => rfl) v2 (nomark _)))))))) (ssu_cons (su_ret eu_bl)
    ssu_nil) ssu_nil)
    ssu_nil) fun _ => rfl)
    (ssu_cons (su_ret eu_bl)
    ssu_nil)))
end F__law_is_contents
theorem ok__law_is_contents (b : Base K mg base) : Known P w K mg base d__law_is_contents 1 sp__law_is_contents :=
  ⟨fn_u (fd__law_is_contents b).D F__law_is_contents.sc rfl (fun cdv A outer s H G E hr => F__law_is_contents.body b  hr) (fun ws G Q E h _ => law__law_is_contents ws G Q E h), (fd__law_is_contents b).D⟩
namespace F__law_pairs
def N : List Str := ["_law_way", "_law_one", "_law_other", "_law_third"]
theorem sc : ScD N d__law_pairs := ⟨rfl, rfl, rfl, by decide +kernel, rfl, by decide +kernel, by decide +kernel⟩
abbrev X := cxV N d__law_pairs
theorem v0 {E : XK} : EU (X P w K mg base f cdv A outer s H E) W (.Name "_law_way" pos) (tUVar 0) := ev
theorem v1 {E : XK} : EU (X P w K mg base f cdv A outer s H E) W (.Name "_law_one" pos) (tUVar 1) := ev
theorem v2 {E : XK} : EU (X P w K mg base f cdv A outer s H E) W (.Name "_law_other" pos) (tUVar 2) := ev
theorem v3 {E : XK} : EU (X P w K mg base f cdv A outer s H E) W (.Name "_law_third" pos) (tUVar 3) := ev
theorem body (b : Base K mg base)  (hr : RoomU 0 (A.deeper (envOfC d__law_pairs.qual d__law_pairs.scope s.heap.objs.size f cdv))) : SsU (X P w K mg base f cdv A outer s H (LX K H G E)) (wOf K H G E) (defBody (top 29)) t__law_pairs :=
  (ssu_cons (su_ifC (tu_cmp ou_lt v0 eu_int (nomark _)) (ssu_cons (su_ret (eu_ix iu0 (eu_lst (au_cons (eu_lst au_nil) (au_cons (eu_lst (au_cons (eu_tup (au_cons (eu_strN (s := "x") (by decide +kernel)) (au_cons v1 au_nil rfl) rfl)) au_nil rfl)) (au_cons (eu_lst (au_cons (eu_tup (au_cons (eu_strN (s := "x") (by decide +kernel)) (au_cons v1 au_nil rfl) rfl)) (au_cons (eu_tup (au_cons (eu_strN (s := "g") (by decide +kernel)) (au_cons v2 au_nil rfl) rfl)) au_nil rfl) rfl)) (au_cons (eu_lst (au_cons (eu_tup (au_cons (eu_strN (s := "g") (by decide +kernel)) (au_cons v1 au_nil rfl) rfl)) (au_cons (eu_tup (au_cons (eu_strN (s := "kept") (by decide +kernel)) (au_cons v2 au_nil rfl) rfl)) (au_cons (eu_tup (au_cons (eu_strN (s := "x") (by decide +kernel)) (au_cons v3 au_nil rfl) rfl)) au_nil rfl) rfl) rfl)) au_nil rfl) rfl) rfl) rfl)) v0 fun _ _ => rfl))
    ssu_nil) ssu_nil)
    (ssu_cons (su_ifC (tu_cmp (ou_eq hr.rm.units) v0 eu_int (nomark _)) (ssu_cons (su_ret (eu_lst (au_cons (eu_tup (au_cons (eu_strN (s := "x") (by decide +kernel)) (au_cons v1 au_nil rfl) rfl)) (au_cons (eu_tup (au_cons (eu_strN (s := "kept") (by decide +kernel)) (au_cons v1 au_nil rfl) rfl)) (au_cons (eu_tup (au_cons (eu_strN (s := "abcdefghijklm") (by decide +kernel)) (au_cons v1 au_nil rfl) rfl)) au_nil rfl) rfl) rfl)))
    ssu_nil) ssu_nil)
    (ssu_cons (su_ifC (tu_cmp (ou_eq hr.rm.units) v0 eu_int (nomark _)) (ssu_cons (su_ret (eu_lst (au_cons (eu_tup (au_cons (eu_strN (s := "A") (by decide +kernel)) (au_cons v1 au_nil rfl) rfl)) au_nil rfl)))
    ssu_nil) ssu_nil)
    (ssu_cons (su_ifC (tu_cmp (ou_eq hr.rm.units) v0 eu_int (nomark _)) (ssu_cons (su_ret (eu_lst (au_cons (eu_tup (au_cons (eu_strN (s := "x") (by decide +kernel)) (au_cons v1 au_nil rfl) rfl)) (au_cons (eu_tup (au_cons (eu_strN (s := "aa1") (by decide +kernel)) (au_cons v2 au_nil rfl) rfl)) (au_cons (eu_tup (au_cons (eu_strN (s := "g") (by decide +kernel)) (au_cons v3 au_nil rfl) rfl)) au_nil rfl) rfl) rfl)))
    ssu_nil) ssu_nil)
    (ssu_cons (su_ifC (tu_cmp (ou_eq hr.rm.units) v0 eu_int (nomark _)) (ssu_cons (su_ret (eu_lst (au_cons (eu_tup (au_cons (eu_strN (s := "abcdefghijklmn") (by decide +kernel)) (au_cons v1 au_nil rfl) rfl)) (au_cons (eu_tup (au_cons (eu_strN (s := "g") (by decide +kernel)) (au_cons v2 au_nil rfl) rfl)) au_nil rfl) rfl)))
    ssu_nil) ssu_nil)
    (ssu_cons (su_ifC (tu_cmp (ou_eq hr.rm.units) v0 eu_int (nomark _)) (ssu_cons (su_ret (eu_lst (au_cons (eu_tup (au_cons (eu_strN (s := "g") (by decide +kernel)) (au_cons v1 au_nil rfl) rfl)) (au_cons (eu_tup (au_cons (eu_strN (s := "x") (by decide +kernel)) (au_cons v2 au_nil rfl) rfl)) (au_cons (eu_tup (au_cons (eu_strN (s := "a_b") (by decide +kernel)) (au_cons v3 au_nil rfl) rfl)) au_nil rfl) rfl) rfl)))
    ssu_nil) ssu_nil)
    (ssu_cons (su_ret (eu_lst (au_cons (eu_tup (au_cons (eu_strN (s := "gG") (by decide +kernel)) (au_cons v1 au_nil rfl) rfl)) (au_cons (eu_tup (au_cons (eu_strN (s := "x") (by decide +kernel)) (au_cons v2 au_nil rfl) rfl)) (au_cons (eu_tup (au_cons (eu_strN (s := "kept") (by decide +kernel)) (au_cons v3 au_nil rfl) rfl)) au_nil rfl) rfl) rfl)))
    ssu_nil)))))))
end F__law_pairs
theorem ok__law_pairs (b : Base K mg base) : Known P w K mg base d__law_pairs 1 sp__law_pairs :=
  ⟨fn_u (fd__law_pairs b).D F__law_pairs.sc rfl (fun cdv A outer s H G E hr => F__law_pairs.body b  hr) (fun ws G Q E h _ => law__law_pairs ws G Q E h), (fd__law_pairs b).D⟩
namespace F__law_take
def N : List Str := ["_law_bag_here", "_law_many", "_law_cell", "_law_added", "_law_digit"]
theorem sc : ScD N d__law_take := ⟨rfl, rfl, rfl, by decide +kernel, rfl, by decide +kernel, by decide +kernel⟩
abbrev X := cxV N d__law_take
theorem v0 {E : XK} : EU (X P w K mg base f cdv A outer s H E) W (.Name "_law_bag_here" pos) (tUVar 0) := ev
theorem v1 {E : XK} : EU (X P w K mg base f cdv A outer s H E) W (.Name "_law_many" pos) (tUVar 1) := ev
theorem v2 {E : XK} : EU (X P w K mg base f cdv A outer s H E) W (.Name "_law_cell" pos) (tUVar 2) := ev
theorem v3 {E : XK} : EU (X P w K mg base f cdv A outer s H E) W (.Name "_law_added" pos) (tUVar 3) := ev
theorem v4 {E : XK} : EU (X P w K mg base f cdv A outer s H E) W (.Name "_law_digit" pos) (tUVar 4) := ev
theorem body (b : Base K mg base)  (hr : RoomU 0 (A.deeper (envOfC d__law_take.qual d__law_take.scope s.heap.objs.size f cdv))) : SsU (X P w K mg base f cdv A outer s H (LX K H G E)) (wOf K H G E) (defBody (top 24)) t__law_take :=
  (ssu_cons (su_ifC (tu_cmp ou_gt (eu_ix iu0 v0 eu_int fun _ _ => rfl) eu_int (nomark _)) (ssu_cons (su_set (i := 4) sc.nd rfl (by first | exact Or.inl rfl | exact Or.inr rfl) (eu_bin ou_mod (eu_callTy cu_int rfl (n_int b) boot_int (au_cons (eu_ix iu0 v0 eu_int fun _ _ => rfl) au_nil rfl) (by decide) (by decide) rfl rfl) v1) rfl (Or.inl rfl))
    (ssu_cons (su_asg (eu_bin ou_fdiv (eu_ix iu0 v0 eu_int fun _ _ => rfl) v1) (gu_sub v0 eu_int stu0 fun _ => rfl) rfl rfl rfl)
    (ssu_cons (su_ret v4)
    ssu_nil))) ssu_nil)
    (ssu_cons (su_asg (eu_bin ou_add (eu_ix iu0 v0 eu_int fun _ _ => rfl) eu_int) (gu_sub v0 eu_int stu0 fun _ => rfl) rfl rfl rfl)
    (ssu_cons (su_set (i := 2) sc.nd rfl (by first | exact Or.inl rfl | exact Or.inr rfl) (eu_ifC (tu_cmp (ou_ne hr.rm.units) (eu_ix iu0 v0 eu_int fun _ _ => rfl) (eu_lst au_nil) (nomark _)) (eu_ix iu0 (eu_ix iu0 v0 eu_int fun _ _ => rfl) (eu_bin ou_mod (eu_ix iu0 v0 eu_int fun _ _ => rfl) (eu_callB cu_len rfl (n_len b) boot_len (au_cons (eu_ix iu0 v0 eu_int fun _ _ => rfl) au_nil rfl) (by decide) (by decide) rfl rfl)) fun _ _ => rfl) eu_int) rfl (Or.inl rfl))
    (ssu_cons (su_set (i := 3) sc.nd rfl (by first | exact Or.inl rfl | exact Or.inr rfl) (eu_bin ou_mod (eu_callTy cu_int rfl (n_int b) boot_int (au_cons v2 au_nil rfl) (by decide) (by decide) rfl rfl) eu_int) rfl (Or.inl rfl))
    (ssu_cons (su_asg (eu_bin ou_mod (eu_callTy cu_int rfl (n_int b) boot_int (au_cons (eu_bin ou_add (eu_bin ou_add (eu_bin ou_add (eu_bin ou_mul (eu_ix iu0 v0 eu_int fun _ _ => rfl) eu_int) v3) (eu_bin ou_mul eu_int (eu_ix iu0 v0 eu_int fun _ _ => rfl))) eu_int) au_nil rfl) (by decide) (by decide) rfl rfl) eu_int) (gu_sub v0 eu_int stu0 fun _ => rfl) rfl rfl rfl)
    (ssu_cons (su_ret (eu_bin ou_mod (eu_bin ou_fdiv (eu_bin ou_mod (eu_callTy cu_int rfl (n_int b) boot_int (au_cons (eu_bin ou_mul (eu_bin ou_fdiv (eu_ix iu0 v0 eu_int fun _ _ => rfl) eu_int) eu_int) au_nil rfl) (by decide) (by decide) rfl rfl) eu_int) eu_int) v1))
    ssu_nil))))))
end F__law_take
theorem ok__law_take (b : Base K mg base) : Known P w K mg base d__law_take 1 sp__law_take :=
  ⟨fn_u (fd__law_take b).D F__law_take.sc rfl (fun cdv A outer s H G E hr => F__law_take.body b  hr) (fun ws G Q E h _ => law__law_take ws G Q E h), (fd__law_take b).D⟩
namespace F_is_contents
def N : List Str := ["thing", "last", "mark"]
theorem sc : ScD N d_is_contents := ⟨rfl, rfl, rfl, by decide +kernel, rfl, by decide +kernel, by decide +kernel⟩
abbrev X := cxV N d_is_contents
theorem v0 {E : XK} : EU (X P w K mg base f cdv A outer s H E) W (.Name "thing" pos) (tUVar 0) := ev
theorem v1 {E : XK} : EU (X P w K mg base f cdv A outer s H E) W (.Name "last" pos) (tUVar 1) := ev
theorem v2 {E : XK} : EU (X P w K mg base f cdv A outer s H E) W (.Name "mark" pos) (tUVar 2) := ev
theorem body (b : Base K mg base)  (hr : RoomU 0 (A.deeper (envOfC d_is_contents.qual d_is_contents.scope s.heap.objs.size f cdv))) : SsU (X P w K mg base f cdv A outer s H (LX K H G E)) (wOf K H G E) (defBody (top 10)) t_is_contents :=
  (ssu_cons (su_ifC (tu_not (tu_val tr_u (eu_callB (cu_isi (ds := []) all0) rfl (n_isinstance b) boot_isinstance (au_cons v0 (au_cons (eu_ty rfl (n_str b) boot_str (by decide) (by decide)) au_nil rfl) rfl) (by decide) (by decide) rfl rfl) fun _ => rfl)) (ssu_cons (su_ret eu_bl)
    ssu_nil) ssu_nil)
    (ssu_cons (su_set (i := 1) sc.nd rfl (by first | exact Or.inl rfl | exact Or.inr rfl) (eu_strN (s := "") (by decide +kernel)) rfl (Or.inl rfl))
    (ssu_cons (su_for PassesOwn.leaving rfl (iu_any v0) (gu_name (i := 2) sc.nd rfl (by first | exact Or.inl rfl | exact Or.inr rfl) (Or.inl rfl)) (ssu_cons (su_ifC (WU.tu (wu_or (tu_cmp ou_notIn v2 (eu_gstrN rfl (c_MARKS b) (by decide) (by decide +kernel)) (by with_unfolding_all rfl)) (wu_or1 (tu_cmp ou_le v2 v1 (nomark _))))) (ssu_cons (su_ret eu_bl)
    ssu_nil) ssu_nil)
    (ssu_cons (su_set (i := 1) sc.nd rfl (by first | exact Or.inl rfl | exact Or.inr rfl) v2 rfl (Or.inl rfl))
    ssu_nil)) fun _ => rfl)
    (ssu_cons (su_ret eu_bl)
    ssu_nil))))
end F_is_contents
theorem ok_is_contents (b : Base K mg base) : Known P w K mg base d_is_contents 1 sp_is_contents :=
  ⟨fn_u (fd_is_contents b).D F_is_contents.sc rfl (fun cdv A outer s H G E hr => F_is_contents.body b  hr) (fun ws G Q E h _ => law_is_contents ws G Q E h), (fd_is_contents b).D⟩
namespace F_is_name
def N : List Str := ["thing", "letter"]
theorem sc : ScD N d_is_name := ⟨rfl, rfl, rfl, by decide +kernel, rfl, by decide +kernel, by decide +kernel⟩
abbrev X := cxV N d_is_name
theorem v0 {E : XK} : EU (X P w K mg base f cdv A outer s H E) W (.Name "thing" pos) (tUVar 0) := ev
theorem v1 {E : XK} : EU (X P w K mg base f cdv A outer s H E) W (.Name "letter" pos) (tUVar 1) := ev
theorem body (b : Base K mg base)  (hr : RoomU 0 (A.deeper (envOfC d_is_name.qual d_is_name.scope s.heap.objs.size f cdv))) : SsU (X P w K mg base f cdv A outer s H (LX K H G E)) (wOf K H G E) (defBody (top 19)) t_is_name :=
  (ssu_cons (su_ifC (WU.tu (wu_or (tu_not (tu_val tr_u (eu_callB (cu_isi (ds := []) all0) rfl (n_isinstance b) boot_isinstance (au_cons v0 (au_cons (eu_ty rfl (n_str b) boot_str (by decide) (by decide)) au_nil rfl) rfl) (by decide) (by decide) rfl rfl) fun _ => rfl)) (wu_or1 (tu_not (tu_chain ou_le ou_le eu_int (eu_callB cu_len rfl (n_len b) boot_len (au_cons v0 au_nil rfl) (by decide) (by decide) rfl rfl) (eu_gint rfl (i_LONGEST b) (by decide)) (by with_unfolding_all rfl)))))) (ssu_cons (su_ret eu_bl)
    ssu_nil) ssu_nil)
    (ssu_cons (su_for PassesOwn.leaving rfl (iu_any v0) (gu_name (i := 1) sc.nd rfl (by first | exact Or.inl rfl | exact Or.inr rfl) (Or.inl rfl)) (ssu_cons (su_ifC (tu_cmp ou_notIn v1 (eu_gstrN rfl (c_LETTERS b) (by decide) (by decide +kernel)) (by with_unfolding_all rfl)) (ssu_cons (su_ret eu_bl)
    ssu_nil) ssu_nil)
    ssu_nil) fun _ => rfl)
    (ssu_cons (su_ret eu_bl)
    ssu_nil)))
end F_is_name
theorem ok_is_name (b : Base K mg base) : Known P w K mg base d_is_name 1 sp_is_name :=
  ⟨fn_u (fd_is_name b).D F_is_name.sc rfl (fun cdv A outer s H G E hr => F_is_name.body b  hr) (fun ws G Q E h _ => law_is_name ws G Q E h), (fd_is_name b).D⟩
namespace F_World___contains__
def N : List Str := ["self", "thing"]
theorem sc : ScD N d_World___contains__ := ⟨rfl, rfl, rfl, by decide +kernel, rfl, by decide +kernel, by decide +kernel⟩
abbrev X := cxV N d_World___contains__
theorem v0 {E : XK} : EU (X P w K mg base f cdv A outer s H E) W (.Name "self" pos) (tUVar 0) := ev
theorem v1 {E : XK} : EU (X P w K mg base f cdv A outer s H E) W (.Name "thing" pos) (tUVar 1) := ev
theorem body (b : Base K mg base) (k_is_name : Known P w K mg base d_is_name 1 sp_is_name) (hr : RoomU 1 (A.deeper (envOfC d_World___contains__.qual d_World___contains__.scope s.heap.objs.size f cdv))) : SsU (X P w K mg base f cdv A outer s H (LX K H G E)) (wOf K H G E) (defBody (clsm 21 4)) t_World___contains__ :=
  (ssu_cons (su_ret (eu_and (eu_def (d := d_is_name) k_is_name (hr.mono (by decide)) rfl (g_is_name b) ⟨rfl, rfl, rfl⟩ (n := 1) (ks := []) (pl := [.p 0]) (by decide) rfl rfl takes_u rfl (au_cons v1 au_nil rfl) ku_nil rfl rfl rfl rfl (by decide)) (eu_one (eu_cmp (ou_inD (lt64 hr.rm.units)) v1 (eu_fld (f := "boxes") v0 rfl) (by with_unfolding_all rfl)))))
    ssu_nil)
end F_World___contains__
theorem ok_World___contains__ (b : Base K mg base) : Known P w K mg base d_World___contains__ 2 sp_World___contains__ :=
  ⟨fn_u (fd_World___contains__ b).D F_World___contains__.sc rfl (fun cdv A outer s H G E hr => F_World___contains__.body b (ok_is_name b) hr) (fun ws G Q E h _ => law_World___contains__ ws G Q E h), (fd_World___contains__ b).D⟩
namespace F__law_due
def N : List Str := ["_law_pairs_here", "_law_rows", "_law_word", "_law_thing_here"]
theorem sc : ScD N d__law_due := ⟨rfl, rfl, rfl, by decide +kernel, rfl, by decide +kernel, by decide +kernel⟩
abbrev X := cxV N d__law_due
theorem v0 {E : XK} : EU (X P w K mg base f cdv A outer s H E) W (.Name "_law_pairs_here" pos) (tUVar 0) := ev
theorem v1 {E : XK} : EU (X P w K mg base f cdv A outer s H E) W (.Name "_law_rows" pos) (tUVar 1) := ev
theorem v2 {E : XK} : EU (X P w K mg base f cdv A outer s H E) W (.Name "_law_word" pos) (tUVar 2) := ev
theorem v3 {E : XK} : EU (X P w K mg base f cdv A outer s H E) W (.Name "_law_thing_here" pos) (tUVar 3) := ev
theorem body (b : Base K mg base) (k__law_is_contents : Known P w K mg base d__law_is_contents 1 sp__law_is_contents) (hr : RoomU 1 (A.deeper (envOfC d__law_due.qual d__law_due.scope s.heap.objs.size f cdv))) : SsU (X P w K mg base f cdv A outer s H (LX K H G E)) (wOf K H G E) (defBody (top 30)) t__law_due :=
  (ssu_cons (su_set (i := 1) sc.nd rfl (by first | exact Or.inl rfl | exact Or.inr rfl) (eu_lst au_nil) rfl (Or.inl rfl))
    (ssu_cons (su_for PassesOwn.leaving rfl (iu_any v0) (gu_tup rfl (gsu_cons (gu_name (i := 2) sc.nd rfl (by first | exact Or.inl rfl | exact Or.inr rfl) (Or.inl rfl)) (gsu_cons (gu_name (i := 3) sc.nd rfl (by first | exact Or.inl rfl | exact Or.inr rfl) (Or.inl rfl)) gsu_nil rfl) rfl) rfl rfl) (ssu_cons (su_ifC (tu_cmp ou_notIn v2 (eu_lst (au_cons (eu_strN (s := "x") (by decide +kernel)) (au_cons (eu_strN (s := "g") (by decide +kernel)) (au_cons (eu_strN (s := "kept") (by decide +kernel)) (au_cons (eu_strN (s := "abcdefghijklm") (by decide +kernel)) au_nil rfl) rfl) rfl) rfl)) (by with_unfolding_all rfl)) (ssu_cons (su_ret (eu_lst (au_cons (eu_strN (s := "name") (by decide +kernel)) (au_cons v2 au_nil rfl) rfl)))
    ssu_nil) ssu_nil)
    (ssu_cons (su_ifC (tu_not (tu_val tr_u (eu_def (d := d__law_is_contents) k__law_is_contents (hr.mono (by decide)) rfl (g__law_is_contents b) ⟨rfl, rfl, rfl⟩ (n := 1) (ks := []) (pl := [.p 0]) (by decide) rfl rfl takes_u rfl (au_cons v3 au_nil rfl) ku_nil rfl rfl rfl rfl (by decide)) fun _ => rfl)) (ssu_cons (su_ret (eu_lst (au_cons (eu_strN (s := "box") (by decide +kernel)) (au_cons v3 au_nil rfl) rfl)))
    ssu_nil) ssu_nil)
    (ssu_cons (su_expr (eu_bm PySem.F.plainAttrs_list PySem.F.slot_list_append PySem.F.type_list_append mu_append v1 (au_cons (eu_tup (au_cons (eu_tup (au_cons v2 au_nil rfl)) (au_cons v3 au_nil rfl) rfl)) au_nil rfl) rfl rfl rfl rfl rfl) rfl)
    ssu_nil))) fun _ => rfl)
    (ssu_cons (su_ret (eu_callTy cu_tuple rfl (n_tuple b) boot_tuple (au_cons (eu_callB (cu_sortedR hr.rm.units) rfl (n_sorted b) boot_sorted (au_cons v1 au_nil rfl) (by decide) (by decide) rfl rfl) au_nil rfl) (by decide) (by decide) rfl rfl))
    ssu_nil)))
end F__law_due
theorem ok__law_due (b : Base K mg base) : Known P w K mg base d__law_due 2 sp__law_due :=
  ⟨fn_u (fd__law_due b).D F__law_due.sc rfl (fun cdv A outer s H G E hr => F__law_due.body b (ok__law_is_contents b) hr) (fun ws G Q E h _ => law__law_due ws G Q E h), (fd__law_due b).D⟩
namespace F__law_of
def N : List Str := ["_law_bag_here", "_law_some"]
theorem sc : ScD N d__law_of := ⟨rfl, rfl, rfl, by decide +kernel, rfl, by decide +kernel, by decide +kernel⟩
abbrev X := cxV N d__law_of
theorem v0 {E : XK} : EU (X P w K mg base f cdv A outer s H E) W (.Name "_law_bag_here" pos) (tUVar 0) := ev
theorem v1 {E : XK} : EU (X P w K mg base f cdv A outer s H E) W (.Name "_law_some" pos) (tUVar 1) := ev
theorem body (b : Base K mg base) (k__law_take : Known P w K mg base d__law_take 1 sp__law_take) (hr : RoomU 1 (A.deeper (envOfC d__law_of.qual d__law_of.scope s.heap.objs.size f cdv))) : SsU (X P w K mg base f cdv A outer s H (LX K H G E)) (wOf K H G E) (defBody (top 25)) t__law_of :=
  (ssu_cons (su_ret (eu_ix iu0 v1 (eu_def (d := d__law_take) k__law_take (hr.mono (by decide)) rfl (g__law_take b) ⟨rfl, rfl, rfl⟩ (n := 2) (ks := []) (pl := [.p 0, .p 1]) (by decide) rfl rfl takes_u rfl (au_cons v0 (au_cons (eu_callB cu_len rfl (n_len b) boot_len (au_cons v1 au_nil rfl) (by decide) (by decide) rfl rfl) au_nil rfl) rfl) ku_nil rfl rfl rfl rfl (by decide)) fun _ _ => rfl))
    ssu_nil)
end F__law_of
theorem ok__law_of (b : Base K mg base) : Known P w K mg base d__law_of 2 sp__law_of :=
  ⟨fn_u (fd__law_of b).D F__law_of.sc rfl (fun cdv A outer s H G E hr => F__law_of.body b (ok__law_take b) hr) (fun ws G Q E h _ => law__law_of ws G Q E h), (fd__law_of b).D⟩
namespace F_Box___init__
def N : List Str := ["self", "contents"]
theorem sc : ScD N d_Box___init__ := ⟨rfl, rfl, rfl, by decide +kernel, rfl, by decide +kernel, by decide +kernel⟩
abbrev X := cxV N d_Box___init__
theorem v0 {E : XK} : EU (X P w K mg base f cdv A outer s H E) W (.Name "self" pos) (tUVar 0) := ev
theorem v1 {E : XK} : EU (X P w K mg base f cdv A outer s H E) W (.Name "contents" pos) (tUVar 1) := ev
theorem body (b : Base K mg base) (k_is_contents : Known P w K mg base d_is_contents 1 sp_is_contents) (hr : RoomU 2 (A.deeper (envOfC d_Box___init__.qual d_Box___init__.scope s.heap.objs.size f cdv))) : SsU (X P w K mg base f cdv A outer s H (LX K H G E)) (wOf K H G E) (defBody (clsm 15 0)) t_Box___init__ :=
  (ssu_cons (su_ifC (tu_not (tu_val tr_u (eu_def (d := d_is_contents) k_is_contents (hr.mono (by decide)) rfl (g_is_contents b) ⟨rfl, rfl, rfl⟩ (n := 1) (ks := []) (pl := [.p 0]) (by decide) rfl rfl takes_u rfl (au_cons v1 au_nil rfl) ku_nil rfl rfl rfl rfl (by decide)) fun _ => rfl)) (ssu_cons (su_raise (c := "BadBox") (fl := ["contents"]) rfl takes_u (oex_BadBox b) (meth_BadBox___init__ b).at_ (beq_iff_eq.mp (meth_BadBox___init__ b).fn) (ini_BadBox b) (hr.mono (by decide)) (bini_BadBox b) rfl (gl_BadBox b) (by decide) (by decide) (au_cons v1 au_nil rfl) (by decide) rfl rfl)
    ssu_nil) ssu_nil)
    (ssu_cons (su_fld (f := "contents") v0 v1 rfl)
    ssu_nil))
end F_Box___init__
theorem ok_Box___init__ (b : Base K mg base) : Known P w K mg base d_Box___init__ 3 sp_Box___init__ :=
  ⟨fn_u (fd_Box___init__ b).D F_Box___init__.sc rfl (fun cdv A outer s H G E hr => F_Box___init__.body b (ok_is_contents b) hr) (fun ws G Q E h _ => law_Box___init__ ws G Q E h), (fd_Box___init__ b).D⟩
namespace F_Box_become
def N : List Str := ["self", "contents"]
theorem sc : ScD N d_Box_become := ⟨rfl, rfl, rfl, by decide +kernel, rfl, by decide +kernel, by decide +kernel⟩
abbrev X := cxV N d_Box_become
theorem v0 {E : XK} : EU (X P w K mg base f cdv A outer s H E) W (.Name "self" pos) (tUVar 0) := ev
theorem v1 {E : XK} : EU (X P w K mg base f cdv A outer s H E) W (.Name "contents" pos) (tUVar 1) := ev
theorem body (b : Base K mg base) (k_is_contents : Known P w K mg base d_is_contents 1 sp_is_contents) (hr : RoomU 2 (A.deeper (envOfC d_Box_become.qual d_Box_become.scope s.heap.objs.size f cdv))) : SsU (X P w K mg base f cdv A outer s H (LX K H G E)) (wOf K H G E) (defBody (clsm 15 14)) t_Box_become :=
  (ssu_cons (su_ifC (tu_not (tu_val tr_u (eu_def (d := d_is_contents) k_is_contents (hr.mono (by decide)) rfl (g_is_contents b) ⟨rfl, rfl, rfl⟩ (n := 1) (ks := []) (pl := [.p 0]) (by decide) rfl rfl takes_u rfl (au_cons v1 au_nil rfl) ku_nil rfl rfl rfl rfl (by decide)) fun _ => rfl)) (ssu_cons (su_raise (c := "BadBox") (fl := ["contents"]) rfl takes_u (oex_BadBox b) (meth_BadBox___init__ b).at_ (beq_iff_eq.mp (meth_BadBox___init__ b).fn) (ini_BadBox b) (hr.mono (by decide)) (bini_BadBox b) rfl (gl_BadBox b) (by decide) (by decide) (au_cons v1 au_nil rfl) (by decide) rfl rfl)
    ssu_nil) ssu_nil)
    (ssu_cons (su_fld (f := "contents") v0 v1 rfl)
    ssu_nil))
end F_Box_become
theorem ok_Box_become (b : Base K mg base) : Known P w K mg base d_Box_become 3 sp_Box_become :=
  ⟨fn_u (fd_Box_become b).D F_Box_become.sc rfl (fun cdv A outer s H G E hr => F_Box_become.body b (ok_is_contents b) hr) (fun ws G Q E h _ => law_Box_become ws G Q E h), (fd_Box_become b).D⟩
namespace F_World___setitem__
def N : List Str := ["self", "name", "box"]
theorem sc : ScD N d_World___setitem__ := ⟨rfl, rfl, rfl, by decide +kernel, rfl, by decide +kernel, by decide +kernel⟩
abbrev X := cxV N d_World___setitem__
theorem v0 {E : XK} : EU (X P w K mg base f cdv A outer s H E) W (.Name "self" pos) (tUVar 0) := ev
theorem v1 {E : XK} : EU (X P w K mg base f cdv A outer s H E) W (.Name "name" pos) (tUVar 1) := ev
theorem v2 {E : XK} : EU (X P w K mg base f cdv A outer s H E) W (.Name "box" pos) (tUVar 2) := ev
theorem body (b : Base K mg base) (k_is_name : Known P w K mg base d_is_name 1 sp_is_name) (hr : RoomU 2 (A.deeper (envOfC d_World___setitem__.qual d_World___setitem__.scope s.heap.objs.size f cdv))) : SsU (X P w K mg base f cdv A outer s H (LX K H G E)) (wOf K H G E) (defBody (clsm 21 3)) t_World___setitem__ :=
  (ssu_cons (su_ifC (tu_not (tu_val tr_u (eu_def (d := d_is_name) k_is_name (hr.mono (by decide)) rfl (g_is_name b) ⟨rfl, rfl, rfl⟩ (n := 1) (ks := []) (pl := [.p 0]) (by decide) rfl rfl takes_u rfl (au_cons v1 au_nil rfl) ku_nil rfl rfl rfl rfl (by decide)) fun _ => rfl)) (ssu_cons (su_raise (c := "BadName") (fl := ["name"]) rfl takes_u (oex_BadName b) (meth_BadName___init__ b).at_ (beq_iff_eq.mp (meth_BadName___init__ b).fn) (ini_BadName b) (hr.mono (by decide)) (bini_BadName b) rfl (gl_BadName b) (by decide) (by decide) (au_cons v1 au_nil rfl) (by decide) rfl rfl)
    ssu_nil) ssu_nil)
    (ssu_cons (su_ifC (tu_not (tu_val tr_u (eu_callB (cu_isi (ds := ["Box"]) (allc (tgt_Box b) all0)) rfl (n_isinstance b) boot_isinstance (au_cons v2 (au_cons (eu_glo (y := "Box") rfl (gl_Box b) (by decide)) au_nil rfl) rfl) (by decide) (by decide) rfl rfl) fun _ => rfl)) (ssu_cons (su_raise (c := "BadBox") (fl := ["contents"]) rfl takes_u (oex_BadBox b) (meth_BadBox___init__ b).at_ (beq_iff_eq.mp (meth_BadBox___init__ b).fn) (ini_BadBox b) (hr.mono (by decide)) (bini_BadBox b) rfl (gl_BadBox b) (by decide) (by decide) (au_cons v2 au_nil rfl) (by decide) rfl rfl)
    ssu_nil) ssu_nil)
    (ssu_cons (su_asg v2 (gu_sub (eu_fld (f := "boxes") v0 rfl) v1 (stuD (lt64 hr.rm.units)) fun _ => rfl) rfl rfl rfl)
    ssu_nil)))
end F_World___setitem__
theorem ok_World___setitem__ (b : Base K mg base) : Known P w K mg base d_World___setitem__ 3 sp_World___setitem__ :=
  ⟨fn_u (fd_World___setitem__ b).D F_World___setitem__.sc rfl (fun cdv A outer s H G E hr => F_World___setitem__.body b (ok_is_name b) hr) (fun ws G Q E h _ => law_World___setitem__ ws G Q E h), (fd_World___setitem__ b).D⟩
namespace F__law_thing
def N : List Str := ["_law_bag_here", "_law_mark", "_law_share", "_law_found", "_law_k", "_law_way"]
theorem sc : ScD N d__law_thing := ⟨rfl, rfl, rfl, by decide +kernel, rfl, by decide +kernel, by decide +kernel⟩
abbrev X := cxV N d__law_thing
theorem v0 {E : XK} : EU (X P w K mg base f cdv A outer s H E) W (.Name "_law_bag_here" pos) (tUVar 0) := ev
theorem v1 {E : XK} : EU (X P w K mg base f cdv A outer s H E) W (.Name "_law_mark" pos) (tUVar 1) := ev
theorem v2 {E : XK} : EU (X P w K mg base f cdv A outer s H E) W (.Name "_law_share" pos) (tUVar 2) := ev
theorem v3 {E : XK} : EU (X P w K mg base f cdv A outer s H E) W (.Name "_law_found" pos) (tUVar 3) := ev
theorem v4 {E : XK} : EU (X P w K mg base f cdv A outer s H E) W (.Name "_law_k" pos) (tUVar 4) := ev
theorem v5 {E : XK} : EU (X P w K mg base f cdv A outer s H E) W (.Name "_law_way" pos) (tUVar 5) := ev
theorem body (b : Base K mg base) (k__law_of : Known P w K mg base d__law_of 2 sp__law_of) (k__law_take : Known P w K mg base d__law_take 1 sp__law_take) (hr : RoomU 2 (A.deeper (envOfC d__law_thing.qual d__law_thing.scope s.heap.objs.size f cdv))) : SsU (X P w K mg base f cdv A outer s H (LX K H G E)) (wOf K H G E) (defBody (top 26)) t__law_thing :=
  (ssu_cons (su_par (xs := ["_law_share", "_law_found"]) (is := [2, 3]) rfl sc.nd rfl (by decide) (fun k x i h1 h2 => match k, x, i, h1, h2 with | 0, _, _, rfl, rfl => ⟨rfl, rfl⟩ | 1, _, _, rfl, rfl => ⟨rfl, rfl⟩) (au_cons (eu_def (d := d__law_of) k__law_of (hr.mono (by decide)) rfl (g__law_of b) ⟨rfl, rfl, rfl⟩ (n := 2) (ks := []) (pl := [.p 0, .p 1]) (by decide) rfl rfl takes_u rfl (au_cons v0 (au_cons (eu_lst (au_cons eu_int (au_cons eu_int (au_cons eu_int (au_cons eu_int au_nil rfl) rfl) rfl) rfl)) au_nil rfl) rfl) ku_nil rfl rfl rfl rfl (by decide)) (au_cons (eu_strN (s := "") (by decide +kernel)) au_nil rfl) rfl) rfl rfl)
    (ssu_cons (su_for PassesOwn.leaving rfl (iu_any (eu_strN (s := "ABCDEFGHIJKLMNOPQRSTUVWXYZabcdefghijklmnopqrstuvwxyz") (by decide +kernel))) (gu_name (i := 1) sc.nd rfl (by first | exact Or.inl rfl | exact Or.inr rfl) (Or.inl rfl)) (ssu_cons (su_ifC (tu_cmp (ou_eq hr.rm.units) (eu_def (d := d__law_take) k__law_take (hr.mono (by decide)) rfl (g__law_take b) ⟨rfl, rfl, rfl⟩ (n := 2) (ks := []) (pl := [.p 0, .p 1]) (by decide) rfl rfl takes_u rfl (au_cons v0 (au_cons v2 au_nil rfl) rfl) ku_nil rfl rfl rfl rfl (by decide)) eu_int (nomark _)) (ssu_cons (su_set (i := 3) sc.nd rfl (by first | exact Or.inl rfl | exact Or.inr rfl) (eu_bin ou_add v3 v1) rfl (Or.inl rfl))
    ssu_nil) ssu_nil)
    ssu_nil) fun _ => rfl)
    (ssu_cons (su_par (xs := ["_law_k", "_law_way"]) (is := [4, 5]) rfl sc.nd rfl (by decide) (fun k x i h1 h2 => match k, x, i, h1, h2 with | 0, _, _, rfl, rfl => ⟨rfl, rfl⟩ | 1, _, _, rfl, rfl => ⟨rfl, rfl⟩) (au_cons (eu_def (d := d__law_take) k__law_take (hr.mono (by decide)) rfl (g__law_take b) ⟨rfl, rfl, rfl⟩ (n := 2) (ks := []) (pl := [.p 0, .p 1]) (by decide) rfl rfl takes_u rfl (au_cons v0 (au_cons (eu_bin ou_add (eu_callB cu_len rfl (n_len b) boot_len (au_cons v3 au_nil rfl) (by decide) (by decide) rfl rfl) eu_int) au_nil rfl) rfl) ku_nil rfl rfl rfl rfl (by decide)) (au_cons (eu_def (d := d__law_take) k__law_take (hr.mono (by decide)) rfl (g__law_take b) ⟨rfl, rfl, rfl⟩ (n := 2) (ks := []) (pl := [.p 0, .p 1]) (by decide) rfl rfl takes_u rfl (au_cons v0 (au_cons eu_int au_nil rfl) rfl) ku_nil rfl rfl rfl rfl (by decide)) au_nil rfl) rfl) rfl rfl)
    (ssu_cons (su_ifC (tu_cmp (ou_eq hr.rm.units) v5 eu_int (nomark _)) (ssu_cons (su_ret (eu_bin ou_add (eu_bin ou_add (eu_slice v3 pou_none (pou_some v4)) (eu_def (d := d__law_of) k__law_of (hr.mono (by decide)) rfl (g__law_of b) ⟨rfl, rfl, rfl⟩ (n := 2) (ks := []) (pl := [.p 0, .p 1]) (by decide) rfl rfl takes_u rfl (au_cons v0 (au_cons (eu_lst (au_cons (eu_strN (s := "a") (by decide +kernel)) (au_cons (eu_strN (s := "Z") (by decide +kernel)) (au_cons (eu_strN (s := "m") (by decide +kernel)) (au_cons (eu_strN (s := " ") (by decide +kernel)) (au_cons (eu_strN (s := "1") (by decide +kernel)) (au_cons (eu_strN (s := "{}") (by decide +kernel)) au_nil rfl) rfl) rfl) rfl) rfl) rfl)) au_nil rfl) rfl) ku_nil rfl rfl rfl rfl (by decide))) (eu_slice v3 (pou_some v4) pou_none)))
    ssu_nil) ssu_nil)
    (ssu_cons (su_ifC (tu_cmp (ou_eq hr.rm.units) v5 eu_int (nomark _)) (ssu_cons (su_ret (eu_def (d := d__law_of) k__law_of (hr.mono (by decide)) rfl (g__law_of b) ⟨rfl, rfl, rfl⟩ (n := 2) (ks := []) (pl := [.p 0, .p 1]) (by decide) rfl rfl takes_u rfl (au_cons v0 (au_cons (eu_lst (au_cons eu_non (au_cons eu_bl (au_cons eu_int (au_cons eu_int (au_cons (eu_lst au_nil) (au_cons (eu_lst (au_cons (eu_strN (s := "a") (by decide +kernel)) au_nil rfl)) (au_cons (eu_tup au_nil) (au_cons (eu_tup (au_cons (eu_strN (s := "a") (by decide +kernel)) au_nil rfl)) (au_cons (eu_bin ou_pow eu_int eu_int) au_nil rfl) rfl) rfl) rfl) rfl) rfl) rfl) rfl) rfl)) au_nil rfl) rfl) ku_nil rfl rfl rfl rfl (by decide)))
    ssu_nil) ssu_nil)
    (ssu_cons (su_ret v3)
    ssu_nil))))))
end F__law_thing
theorem ok__law_thing (b : Base K mg base) : Known P w K mg base d__law_thing 3 sp__law_thing :=
  ⟨fn_u (fd__law_thing b).D F__law_thing.sc rfl (fun cdv A outer s H G E hr => F__law_thing.body b (ok__law_of b) (ok__law_take b) hr) (fun ws G Q E h _ => law__law_thing ws G Q E h), (fd__law_thing b).D⟩
namespace F_World_sharing
def N : List Str := ["self", "name", "other"]
theorem sc : ScD N d_World_sharing := ⟨rfl, rfl, rfl, by decide +kernel, rfl, by decide +kernel, by decide +kernel⟩
abbrev X := cxV N d_World_sharing
theorem v0 {E : XK} : EU (X P w K mg base f cdv A outer s H E) W (.Name "self" pos) (tUVar 0) := ev
theorem body (b : Base K mg base) (k_World_names : Known P w K mg base d_World_names 1 sp_World_names) (hr : RoomU 3 (A.deeper (envOfC d_World_sharing.qual d_World_sharing.scope s.heap.objs.size f cdv))) : SsU (X P w K mg base f cdv A outer s H (LX K H G E)) (wOf K H G E) (defBody (clsm 21 9)) t_World_sharing :=
  (ssu_cons (su_ret (eu_callTy cu_tuple rfl (n_tuple b) boot_tuple (au_cons (eu_lc (own := [("other", 2)]) rfl sc.nd (iu_any (eu_meth (m := "names") (mtl (mtc (mcall k_World_names (hr.mono (by decide)) (ck_World b).cls (meth_World_names b) ⟨rfl, rfl, rfl⟩ (n := 0) (ks := []) (pl := [.p 0]) (by decide) rfl rfl takes_u rfl) trivial mt0)) v0 au_nil ku_nil unst_nil rfl rfl rfl rfl)) (blk_of rfl) (by decide) (fun _ _ _ _ _ => (gu_name (i := 2) sc.nd rfl (by first | exact Or.inl rfl | exact Or.inr rfl) (by first | exact Or.inr rfl | exact Or.inl rfl))) (fun _ _ _ _ _ => (fsu_one (tu_cmp (ou_eqI hr.rm.units (ou_eq hr.rm.units)) (eu_ix (iuD (lt64 hr.rm.units)) (eu_fld (f := "boxes") (ev (i := 0)) rfl) (ev (i := 2)) fun _ _ => rfl) (eu_ix (iuD (lt64 hr.rm.units)) (eu_fld (f := "boxes") (ev (i := 0)) rfl) (ev (i := 1)) fun _ _ => rfl) (nomark _)))) (fun _ _ _ _ _ => (ev (i := 2))) fun _ => rfl) au_nil rfl) (by decide) (by decide) rfl rfl))
    ssu_nil)
end F_World_sharing
theorem ok_World_sharing (b : Base K mg base) : Known P w K mg base d_World_sharing 4 sp_World_sharing :=
  ⟨fn_u (fd_World_sharing b).D F_World_sharing.sc rfl (fun cdv A outer s H G E hr => F_World_sharing.body b (ok_World_names b) hr) (fun ws G Q E h _ => law_World_sharing ws G Q E h), (fd_World_sharing b).D⟩
namespace F_World___getitem__
def N : List Str := ["self", "name"]
theorem sc : ScD N d_World___getitem__ := ⟨rfl, rfl, rfl, by decide +kernel, rfl, by decide +kernel, by decide +kernel⟩
abbrev X := cxV N d_World___getitem__
theorem v0 {E : XK} : EU (X P w K mg base f cdv A outer s H E) W (.Name "self" pos) (tUVar 0) := ev
theorem v1 {E : XK} : EU (X P w K mg base f cdv A outer s H E) W (.Name "name" pos) (tUVar 1) := ev
theorem body (b : Base K mg base) (k_World___contains__ : Known P w K mg base d_World___contains__ 2 sp_World___contains__) (hr : RoomU 4 (A.deeper (envOfC d_World___getitem__.qual d_World___getitem__.scope s.heap.objs.size f cdv))) : SsU (X P w K mg base f cdv A outer s H (LX K H G E)) (wOf K H G E) (defBody (clsm 21 1)) t_World___getitem__ :=
  (ssu_cons (su_ifC (tu_cmp (ou_notInI (ou_notInD (lt64 hr.rm.units)) (mtl (mtc (mcall k_World___contains__ (hr.mono (by decide)) (ck_World b).cls (meth_World___contains__ b) ⟨rfl, rfl, rfl⟩ (n := 1) (ks := []) (pl := [.p 0, .p 1]) (by decide) rfl rfl takes_u rfl) trivial mt0))) v1 v0 (by with_unfolding_all rfl)) (ssu_cons (su_raise (c := "NoName") (fl := ["name"]) rfl takes_u (oex_NoName b) (meth_NoName___init__ b).at_ (beq_iff_eq.mp (meth_NoName___init__ b).fn) (ini_NoName b) (hr.mono (by decide)) (bini_NoName b) rfl (gl_NoName b) (by decide) (by decide) (au_cons v1 au_nil rfl) (by decide) rfl rfl)
    ssu_nil) ssu_nil)
    (ssu_cons (su_ret (eu_ix (iuD (lt64 hr.rm.units)) (eu_fld (f := "boxes") v0 rfl) v1 fun _ _ => rfl))
    ssu_nil))
end F_World___getitem__
theorem ok_World___getitem__ (b : Base K mg base) : Known P w K mg base d_World___getitem__ 5 sp_World___getitem__ :=
  ⟨fn_u (fd_World___getitem__ b).D F_World___getitem__.sc rfl (fun cdv A outer s H G E hr => F_World___getitem__.body b (ok_World___contains__ b) hr) (fun ws G Q E h _ => law_World___getitem__ ws G Q E h), (fd_World___getitem__ b).D⟩
namespace F_World_of
def N : List Str := ["contents", "fresh", "name", "marks"]
theorem sc : FnScope N ["contents"] d_World_of.scope := ⟨rfl, rfl, rfl, by decide +kernel, rfl, by decide +kernel, by decide +kernel⟩
abbrev X := cxV N d_World_of
theorem v0 {E : XK} : EU (X P w K mg base f cdv A outer s H E) W (.Name "contents" pos) (tUVar 0) := ev
theorem v1 {E : XK} : EU (X P w K mg base f cdv A outer s H E) W (.Name "fresh" pos) (tUVar 1) := ev
theorem v2 {E : XK} : EU (X P w K mg base f cdv A outer s H E) W (.Name "name" pos) (tUVar 2) := ev
theorem v3 {E : XK} : EU (X P w K mg base f cdv A outer s H E) W (.Name "marks" pos) (tUVar 3) := ev
theorem body (b : Base K mg base) (k_Box___init__ : Known P w K mg base d_Box___init__ 3 sp_Box___init__) (k_World___init__ : Known P w K mg base d_World___init__ 1 sp_World___init__) (k_World___setitem__ : Known P w K mg base d_World___setitem__ 3 sp_World___setitem__) (k_is_name : Known P w K mg base d_is_name 1 sp_is_name) (hr : RoomU 5 (A.deeper (envOfC d_World_of.qual d_World_of.scope s.heap.objs.size f cdv))) : SsU (X P w K mg base f cdv A outer s H (LX K H G E)) (wOf K H G E) (defBody (clsm 21 14)) t_World_of :=
  (ssu_cons (su_set (i := 1) sc.nd rfl (by first | exact Or.inl rfl | exact Or.inr rfl) (eu_make (c := "World") (ck_World b) k_World___init__ (hr.mono (by decide)) (by rfl) (gl_World b) (mk_World b) ⟨rfl, rfl, rfl⟩ (n := 1) (ks := []) (pl := [.p 0]) (by decide) rfl rfl takes_u rfl au_nil ku_nil unst_nil rfl rfl rfl (by decide)) rfl (Or.inl rfl))
    (ssu_cons (su_lockX (su_for PassesOwn.leaving rfl (iu_items v0 rfl rfl) (gu_tup rfl (gsu_cons (gu_name (i := 2) sc.nd rfl (by first | exact Or.inl rfl | exact Or.inr rfl) (Or.inl rfl)) (gsu_cons (gu_name (i := 3) sc.nd rfl (by first | exact Or.inl rfl | exact Or.inr rfl) (Or.inl rfl)) gsu_nil rfl) rfl) rfl rfl) (ssu_cons (su_ifC (tu_not (tu_val tr_u (eu_def (d := d_is_name) k_is_name (hr.mono (by decide)) rfl (g_is_name b) ⟨rfl, rfl, rfl⟩ (n := 1) (ks := []) (pl := [.p 0]) (by decide) rfl rfl takes_u rfl (au_cons v2 au_nil rfl) ku_nil rfl rfl rfl rfl (by decide)) fun _ => rfl)) (ssu_cons (su_raise (c := "BadName") (fl := ["name"]) rfl takes_u (oex_BadName b) (meth_BadName___init__ b).at_ (beq_iff_eq.mp (meth_BadName___init__ b).fn) (ini_BadName b) (hr.mono (by decide)) (bini_BadName b) rfl (gl_BadName b) (by decide) (by decide) (au_cons v2 au_nil rfl) (by decide) rfl rfl)
    ssu_nil) ssu_nil)
    (ssu_cons (su_asg (eu_make (c := "Box") (ck_Box b) k_Box___init__ (hr.mono (by decide)) (by rfl) (gl_Box b) (mk_Box b) ⟨rfl, rfl, rfl⟩ (n := 2) (ks := []) (pl := [.p 0, .p 1]) (by decide) rfl rfl takes_u rfl (au_cons v3 au_nil rfl) ku_nil rfl rfl rfl rfl (by decide)) (gu_sub v1 v2 (stuI (stuD (lt64 hr.rm.units)) (nsq_World b) (mtl (mtc (mcall k_World___setitem__ (hr.mono (by decide)) (ck_World b).cls (meth_World___setitem__ b) ⟨rfl, rfl, rfl⟩ (n := 2) (ks := []) (pl := [.p 0, .p 1, .p 2]) (by decide) rfl rfl takes_u rfl) trivial mt0) _ _ rfl)) fun _ => rfl) rfl rfl rfl)
    ssu_nil)) fun _ => rfl))
    (ssu_cons (su_ret v1)
    ssu_nil)))
end F_World_of
theorem ok_World_of (b : Base K mg base) : KnownK P w K mg base d_World_of 6 sp_World_of :=
  ⟨fn_uK (pd := "contents") (fd_World_of b).D F_World_of.sc rfl ⟨rfl, rfl, rfl, rfl, rfl⟩ (fun cdv A outer s H G E hr => F_World_of.body b (ok_Box___init__ b) (ok_World___init__ b) (ok_World___setitem__ b) (ok_is_name b) hr) (fun ws G Q E h => law_World_of ws G Q E h), (fd_World_of b).D⟩
namespace F_World_rows
def N : List Str := ["self", "groups", "firsts", "name", "group"]
theorem sc : ScD N d_World_rows := ⟨rfl, rfl, rfl, by decide +kernel, rfl, by decide +kernel, by decide +kernel⟩
abbrev X := cxV N d_World_rows
theorem v0 {E : XK} : EU (X P w K mg base f cdv A outer s H E) W (.Name "self" pos) (tUVar 0) := ev
theorem v1 {E : XK} : EU (X P w K mg base f cdv A outer s H E) W (.Name "groups" pos) (tUVar 1) := ev
theorem v2 {E : XK} : EU (X P w K mg base f cdv A outer s H E) W (.Name "firsts" pos) (tUVar 2) := ev
theorem body (b : Base K mg base) (k_World_names : Known P w K mg base d_World_names 1 sp_World_names) (k_World_sharing : Known P w K mg base d_World_sharing 4 sp_World_sharing) (hr : RoomU 6 (A.deeper (envOfC d_World_rows.qual d_World_rows.scope s.heap.objs.size f cdv))) : SsU (X P w K mg base f cdv A outer s H (LX K H G E)) (wOf K H G E) (defBody (clsm 21 13)) t_World_rows :=
  (ssu_cons (su_setLc (i := 1) (own := [("name", 3)]) rfl sc.nd rfl rfl rfl (iu_any (eu_meth (m := "names") (mtl (mtc (mcall k_World_names (hr.mono (by decide)) (ck_World b).cls (meth_World_names b) ⟨rfl, rfl, rfl⟩ (n := 0) (ks := []) (pl := [.p 0]) (by decide) rfl rfl takes_u rfl) trivial mt0)) v0 au_nil ku_nil unst_nil rfl rfl rfl rfl)) (blk_of rfl) (by decide) (fun _ _ _ _ _ => (gu_name (i := 3) sc.nd rfl (by first | exact Or.inl rfl | exact Or.inr rfl) (by first | exact Or.inr rfl | exact Or.inl rfl))) (fun _ _ _ _ _ => fsu_nil) (fun _ _ _ _ _ => (eu_meth (m := "sharing") (mtl (mtc (mcall k_World_sharing (hr.mono (by decide)) (ck_World b).cls (meth_World_sharing b) ⟨rfl, rfl, rfl⟩ (n := 1) (ks := []) (pl := [.p 0, .p 1]) (by decide) rfl rfl takes_W0 rfl) trivial mt0)) (ev (i := 0)) (au_cons (ev (i := 3)) au_nil rfl) ku_nil rfl rfl rfl rfl rfl)) fun _ => rfl)
    (ssu_cons (su_setLc (i := 2) (own := [("name", 3), ("group", 4)]) rfl sc.nd rfl rfl rfl (iu_zip rfl (n_zip b) (eu_meth (m := "names") (mtl (mtc (mcall k_World_names (hr.mono (by decide)) (ck_World b).cls (meth_World_names b) ⟨rfl, rfl, rfl⟩ (n := 0) (ks := []) (pl := [.p 0]) (by decide) rfl rfl takes_u rfl) trivial mt0)) v0 au_nil ku_nil unst_nil rfl rfl rfl rfl) v1 rfl rfl) (blk_of rfl) (by decide) (fun _ _ _ _ _ => (gu_tup rfl (gsu_cons (gu_name (i := 3) sc.nd rfl (by first | exact Or.inl rfl | exact Or.inr rfl) (by first | exact Or.inr rfl | exact Or.inl rfl)) (gsu_cons (gu_name (i := 4) sc.nd rfl (by first | exact Or.inl rfl | exact Or.inr rfl) (by first | exact Or.inr rfl | exact Or.inl rfl)) gsu_nil rfl) rfl) rfl rfl)) (fun _ _ _ _ _ => (fsu_one (tu_cmp (ou_eq hr.rm.units) (eu_ix (iuD (lt64 hr.rm.units)) (ev (i := 4)) eu_int fun _ _ => rfl) (ev (i := 3)) (nomark _)))) (fun _ _ _ _ _ => (ev (i := 4))) fun _ => rfl)
    (ssu_cons (su_ret (eu_callTy cu_tuple rfl (n_tuple b) boot_tuple (au_cons (eu_lc (own := [("group", 4)]) rfl sc.nd (iu_any v2) (blk_of rfl) (by decide) (fun _ _ _ _ _ => (gu_name (i := 4) sc.nd rfl (by first | exact Or.inl rfl | exact Or.inr rfl) (by first | exact Or.inr rfl | exact Or.inl rfl))) (fun _ _ _ _ _ => fsu_nil) (fun _ _ _ _ _ => (eu_tup (au_cons (ev (i := 4)) (au_cons (eu_fld (f := "contents") (eu_ix (iuD (lt64 hr.rm.units)) (eu_fld (f := "boxes") (ev (i := 0)) rfl) (eu_ix (iuD (lt64 hr.rm.units)) (ev (i := 4)) eu_int fun _ _ => rfl) fun _ _ => rfl) rfl) au_nil rfl) rfl))) fun _ => rfl) au_nil rfl) (by decide) (by decide) rfl rfl))
    ssu_nil)))
end F_World_rows
theorem ok_World_rows (b : Base K mg base) : Known P w K mg base d_World_rows 7 sp_World_rows :=
  ⟨fn_u (fd_World_rows b).D F_World_rows.sc rfl (fun cdv A outer s H G E hr => F_World_rows.body b (ok_World_names b) (ok_World_sharing b) hr) (fun ws G Q E h _ => law_World_rows ws G Q E h), (fd_World_rows b).D⟩
namespace F__law_made
def N : List Str := ["_law_way", "_law_one", "_law_other", "_law_third", "e"]
theorem sc : ScD N d__law_made := ⟨rfl, rfl, rfl, by decide +kernel, rfl, by decide +kernel, by decide +kernel⟩
abbrev X := cxV N d__law_made
theorem body (b : Base K mg base) (k_World_of : KnownK P w K mg base d_World_of 6 sp_World_of) (hr : RoomU 6 (A.deeper (envOfC d__law_made.qual d__law_made.scope s.heap.objs.size f cdv))) : SsU (X P w K mg base f cdv A outer s H (LX K H G E)) (wOf K H G E) (defBody (top 28)) t__law_made :=
  (ssu_cons (su_tryM rfl rfl sc.nd takes_u (fun W1 epn exe tk0 => (ssu_cons (su_ifC (tu_cmp (ou_eq hr.rm.units) (ev (i := 0)) eu_int (nomark _)) (ssu_cons (su_ret (eu_statK (c := "World") (m := "of") (ks := []) k_World_of (hr.mono (by decide)) (stat_World_of b) rfl tk0 (eu_glo (y := "World") rfl (gl_World b) (by decide)) ku_nil (by decide) (by decide) rfl rfl rfl rfl))
    ssu_nil) ssu_nil)
    (ssu_cons (su_ifC (tu_cmp (ou_eq hr.rm.units) (ev (i := 0)) eu_int (nomark _)) (ssu_cons (su_ret (eu_statK (c := "World") (m := "of") (ks := ["x"]) k_World_of (hr.mono (by decide)) (stat_World_of b) rfl tk0 (eu_glo (y := "World") rfl (gl_World b) (by decide)) (ku_cons (ev (i := 1)) ku_nil) (by decide) (by decide) rfl rfl rfl rfl))
    ssu_nil) ssu_nil)
    (ssu_cons (su_ifC (tu_cmp (ou_eq hr.rm.units) (ev (i := 0)) eu_int (nomark _)) (ssu_cons (su_ret (eu_statK (c := "World") (m := "of") (ks := ["x", "g"]) k_World_of (hr.mono (by decide)) (stat_World_of b) rfl tk0 (eu_glo (y := "World") rfl (gl_World b) (by decide)) (ku_cons (ev (i := 1)) (ku_cons (ev (i := 2)) ku_nil)) (by decide) (by decide) rfl rfl rfl rfl))
    ssu_nil) ssu_nil)
    (ssu_cons (su_ifC (tu_cmp (ou_eq hr.rm.units) (ev (i := 0)) eu_int (nomark _)) (ssu_cons (su_ret (eu_statK (c := "World") (m := "of") (ks := ["g", "kept", "x"]) k_World_of (hr.mono (by decide)) (stat_World_of b) rfl tk0 (eu_glo (y := "World") rfl (gl_World b) (by decide)) (ku_cons (ev (i := 1)) (ku_cons (ev (i := 2)) (ku_cons (ev (i := 3)) ku_nil))) (by decide) (by decide) rfl rfl rfl rfl))
    ssu_nil) ssu_nil)
    (ssu_cons (su_ifC (tu_cmp (ou_eq hr.rm.units) (ev (i := 0)) eu_int (nomark _)) (ssu_cons (su_ret (eu_statK (c := "World") (m := "of") (ks := ["x", "kept", "abcdefghijklm"]) k_World_of (hr.mono (by decide)) (stat_World_of b) rfl tk0 (eu_glo (y := "World") rfl (gl_World b) (by decide)) (ku_cons (ev (i := 1)) (ku_cons (ev (i := 1)) (ku_cons (ev (i := 1)) ku_nil))) (by decide) (by decide) rfl rfl rfl rfl))
    ssu_nil) ssu_nil)
    (ssu_cons (su_ifC (tu_cmp (ou_eq hr.rm.units) (ev (i := 0)) eu_int (nomark _)) (ssu_cons (su_ret (eu_statK (c := "World") (m := "of") (ks := ["A"]) k_World_of (hr.mono (by decide)) (stat_World_of b) rfl tk0 (eu_glo (y := "World") rfl (gl_World b) (by decide)) (ku_cons (ev (i := 1)) ku_nil) (by decide) (by decide) rfl rfl rfl rfl))
    ssu_nil) ssu_nil)
    (ssu_cons (su_ifC (tu_cmp (ou_eq hr.rm.units) (ev (i := 0)) eu_int (nomark _)) (ssu_cons (su_ret (eu_statK (c := "World") (m := "of") (ks := ["x", "aa1", "g"]) k_World_of (hr.mono (by decide)) (stat_World_of b) rfl tk0 (eu_glo (y := "World") rfl (gl_World b) (by decide)) (ku_cons (ev (i := 1)) (ku_cons (ev (i := 2)) (ku_cons (ev (i := 3)) ku_nil))) (by decide) (by decide) rfl rfl rfl rfl))
    ssu_nil) ssu_nil)
    (ssu_cons (su_ifC (tu_cmp (ou_eq hr.rm.units) (ev (i := 0)) eu_int (nomark _)) (ssu_cons (su_ret (eu_statK (c := "World") (m := "of") (ks := ["abcdefghijklmn", "g"]) k_World_of (hr.mono (by decide)) (stat_World_of b) rfl tk0 (eu_glo (y := "World") rfl (gl_World b) (by decide)) (ku_cons (ev (i := 1)) (ku_cons (ev (i := 2)) ku_nil)) (by decide) (by decide) rfl rfl rfl rfl))
    ssu_nil) ssu_nil)
    (ssu_cons (su_ifC (tu_cmp (ou_eq hr.rm.units) (ev (i := 0)) eu_int (nomark _)) (ssu_cons (su_ret (eu_statK (c := "World") (m := "of") (ks := ["g", "x", "a_b"]) k_World_of (hr.mono (by decide)) (stat_World_of b) rfl tk0 (eu_glo (y := "World") rfl (gl_World b) (by decide)) (ku_cons (ev (i := 1)) (ku_cons (ev (i := 2)) (ku_cons (ev (i := 3)) ku_nil))) (by decide) (by decide) rfl rfl rfl rfl))
    ssu_nil) ssu_nil)
    (ssu_cons (su_ret (eu_statK (c := "World") (m := "of") (ks := ["gG", "x", "kept"]) k_World_of (hr.mono (by decide)) (stat_World_of b) rfl tk0 (eu_glo (y := "World") rfl (gl_World b) (by decide)) (ku_cons (ev (i := 1)) (ku_cons (ev (i := 2)) (ku_cons (ev (i := 3)) ku_nil))) (by decide) (by decide) rfl rfl rfl rfl))
    ssu_nil))))))))))) (.cons (c := "BadName") (no := some (("e" : Str), 4)) (hits := [("BadBox", false), ("NoName", false), ("BadName", true), ("BadWorld", false)]) ⟨rfl, by decide, .inl (gl_BadName b)⟩ (fun _ _ e => by cases e; exact ⟨rfl, rfl⟩) (allp (hit_BadBox_BadName b) (allp (hit_NoName_BadName b) (allp (hit_BadName_BadName b) (allp (hit_BadWorld_BadName b) all0)))) (fun ea eo ec ed epn hz hv => (ssu_cons (su_ret (eu_lst (au_cons (eu_strN (s := "name") (by decide +kernel)) (au_cons (eu_xf (f := "name") (allc (xf_BadName_name b) all0) hz hv (ev (i := 4)) rfl) au_nil rfl) rfl)))
    ssu_nil)) (.cons (c := "BadBox") (no := some (("e" : Str), 4)) (hits := [("BadBox", true), ("NoName", false), ("BadName", false), ("BadWorld", false)]) ⟨rfl, by decide, .inl (gl_BadBox b)⟩ (fun _ _ e => by cases e; exact ⟨rfl, rfl⟩) (allp (hit_BadBox_BadBox b) (allp (hit_NoName_BadBox b) (allp (hit_BadName_BadBox b) (allp (hit_BadWorld_BadBox b) all0)))) (fun ea eo ec ed epn hz hv => (ssu_cons (su_ret (eu_lst (au_cons (eu_strN (s := "box") (by decide +kernel)) (au_cons (eu_xf (f := "contents") (allc (xf_BadBox_contents b) all0) hz hv (ev (i := 4)) rfl) au_nil rfl) rfl)))
    ssu_nil)) .nil)))
    ssu_nil)
end F__law_made
theorem ok__law_made (b : Base K mg base) : Known P w K mg base d__law_made 7 sp__law_made :=
  ⟨fn_u (fd__law_made b).D F__law_made.sc rfl (fun cdv A outer s H G E hr => F__law_made.body b (ok_World_of b) hr) (fun ws G Q E h _ => law__law_made ws G Q E h), (fd__law_made b).D⟩
namespace F_law
def N : List Str := ["_law_script", "_law_at", "_law_bag_here", "_law_due_here", "_law_way", "_law_one", "_law_other", "_law_third", "_law_told", "_law_again", "_law_word", "_law_box", "_law_group", "_law_text"]
theorem sc : ScD N d_law := ⟨rfl, rfl, rfl, by decide +kernel, rfl, by decide +kernel, by decide +kernel⟩
abbrev X := cxV N d_law
theorem v0 {E : XK} : EU (X P w K mg base f cdv A outer s H E) W (.Name "_law_script" pos) (tUVar 0) := ev
theorem v1 {E : XK} : EU (X P w K mg base f cdv A outer s H E) W (.Name "_law_at" pos) (tUVar 1) := ev
theorem v2 {E : XK} : EU (X P w K mg base f cdv A outer s H E) W (.Name "_law_bag_here" pos) (tUVar 2) := ev
theorem v3 {E : XK} : EU (X P w K mg base f cdv A outer s H E) W (.Name "_law_due_here" pos) (tUVar 3) := ev
theorem v4 {E : XK} : EU (X P w K mg base f cdv A outer s H E) W (.Name "_law_way" pos) (tUVar 4) := ev
theorem v5 {E : XK} : EU (X P w K mg base f cdv A outer s H E) W (.Name "_law_one" pos) (tUVar 5) := ev
theorem v6 {E : XK} : EU (X P w K mg base f cdv A outer s H E) W (.Name "_law_other" pos) (tUVar 6) := ev
theorem v7 {E : XK} : EU (X P w K mg base f cdv A outer s H E) W (.Name "_law_third" pos) (tUVar 7) := ev
theorem v8 {E : XK} : EU (X P w K mg base f cdv A outer s H E) W (.Name "_law_told" pos) (tUVar 8) := ev
theorem v9 {E : XK} : EU (X P w K mg base f cdv A outer s H E) W (.Name "_law_again" pos) (tUVar 9) := ev
theorem v10 {E : XK} : EU (X P w K mg base f cdv A outer s H E) W (.Name "_law_word" pos) (tUVar 10) := ev
theorem v11 {E : XK} : EU (X P w K mg base f cdv A outer s H E) W (.Name "_law_box" pos) (tUVar 11) := ev
theorem body (b : Base K mg base) (k_Box_become : Known P w K mg base d_Box_become 3 sp_Box_become) (k_World___getitem__ : Known P w K mg base d_World___getitem__ 5 sp_World___getitem__) (k_World_names : Known P w K mg base d_World_names 1 sp_World_names) (k_World_rows : Known P w K mg base d_World_rows 7 sp_World_rows) (k__law_bag : Known P w K mg base d__law_bag 1 sp__law_bag) (k__law_due : Known P w K mg base d__law_due 2 sp__law_due) (k__law_made : Known P w K mg base d__law_made 7 sp__law_made) (k__law_pairs : Known P w K mg base d__law_pairs 1 sp__law_pairs) (k__law_take : Known P w K mg base d__law_take 1 sp__law_take) (k__law_thing : Known P w K mg base d__law_thing 3 sp__law_thing) (hr : RoomU 9 (A.deeper (envOfC d_law.qual d_law.scope s.heap.objs.size f cdv))) : SsU (X P w K mg base f cdv A outer s H (LX K H G E)) (wOf K H G E) (defBody (top 31)) t_law :=
  (ssu_cons (su_for PassesOwn.leaving rfl (iu_range1 rfl (n_range b) (eu_callB (cu_max rfl) rfl (n_max b) boot_max (au_cons eu_int (au_cons (eu_callB (cu_min rfl) rfl (n_min b) boot_min (au_cons eu_int (au_cons (eu_callB cu_len rfl (n_len b) boot_len (au_cons v0 au_nil rfl) (by decide) (by decide) rfl rfl) au_nil rfl) rfl) (by decide) (by decide) rfl rfl) au_nil rfl) rfl) (by decide) (by decide) rfl rfl) rfl) (gu_name (i := 1) sc.nd rfl (by first | exact Or.inl rfl | exact Or.inr rfl) (Or.inl rfl)) (ssu_cons (su_set (i := 2) sc.nd rfl (by first | exact Or.inl rfl | exact Or.inr rfl) (eu_def (d := d__law_bag) k__law_bag (hr.mono (by decide)) rfl (g__law_bag b) ⟨rfl, rfl, rfl⟩ (n := 2) (ks := []) (pl := [.p 0, .p 1]) (by decide) rfl rfl takes_u rfl (au_cons v0 (au_cons v1 au_nil rfl) rfl) ku_nil rfl rfl rfl rfl (by decide)) rfl (Or.inl rfl))
    (ssu_cons (su_asg (eu_tup (au_cons (eu_def (d := d__law_take) k__law_take (hr.mono (by decide)) rfl (g__law_take b) ⟨rfl, rfl, rfl⟩ (n := 2) (ks := []) (pl := [.p 0, .p 1]) (by decide) rfl rfl takes_u rfl (au_cons v2 (au_cons eu_int au_nil rfl) rfl) ku_nil rfl rfl rfl rfl (by decide)) (au_cons (eu_def (d := d__law_thing) k__law_thing (hr.mono (by decide)) rfl (g__law_thing b) ⟨rfl, rfl, rfl⟩ (n := 1) (ks := []) (pl := [.p 0]) (by decide) rfl rfl takes_u rfl (au_cons v2 au_nil rfl) ku_nil rfl rfl rfl rfl (by decide)) (au_cons (eu_def (d := d__law_thing) k__law_thing (hr.mono (by decide)) rfl (g__law_thing b) ⟨rfl, rfl, rfl⟩ (n := 1) (ks := []) (pl := [.p 0]) (by decide) rfl rfl takes_u rfl (au_cons v2 au_nil rfl) ku_nil rfl rfl rfl rfl (by decide)) (au_cons (eu_def (d := d__law_thing) k__law_thing (hr.mono (by decide)) rfl (g__law_thing b) ⟨rfl, rfl, rfl⟩ (n := 1) (ks := []) (pl := [.p 0]) (by decide) rfl rfl takes_u rfl (au_cons v2 au_nil rfl) ku_nil rfl rfl rfl rfl (by decide)) au_nil rfl) rfl) rfl) rfl)) (gu_tup rfl (gsu_cons (gu_name (i := 4) sc.nd rfl (by first | exact Or.inl rfl | exact Or.inr rfl) (Or.inl rfl)) (gsu_cons (gu_name (i := 5) sc.nd rfl (by first | exact Or.inl rfl | exact Or.inr rfl) (Or.inl rfl)) (gsu_cons (gu_name (i := 6) sc.nd rfl (by first | exact Or.inl rfl | exact Or.inr rfl) (Or.inl rfl)) (gsu_cons (gu_name (i := 7) sc.nd rfl (by first | exact Or.inl rfl | exact Or.inr rfl) (Or.inl rfl)) gsu_nil rfl) rfl) rfl) rfl) rfl rfl) rfl rfl rfl)
    (ssu_cons (su_set (i := 3) sc.nd rfl (by first | exact Or.inl rfl | exact Or.inr rfl) (eu_def (d := d__law_due) k__law_due (hr.mono (by decide)) rfl (g__law_due b) ⟨rfl, rfl, rfl⟩ (n := 1) (ks := []) (pl := [.p 0]) (by decide) rfl rfl takes_u rfl (au_cons (eu_def (d := d__law_pairs) k__law_pairs (hr.mono (by decide)) rfl (g__law_pairs b) ⟨rfl, rfl, rfl⟩ (n := 4) (ks := []) (pl := [.p 0, .p 1, .p 2, .p 3]) (by decide) rfl rfl takes_u rfl (au_cons v4 (au_cons v5 (au_cons v6 (au_cons v7 au_nil rfl) rfl) rfl) rfl) ku_nil rfl rfl rfl rfl (by decide)) au_nil rfl) ku_nil rfl rfl rfl rfl (by decide)) rfl (Or.inl rfl))
    (ssu_cons (su_par (xs := ["_law_told", "_law_again"]) (is := [8, 9]) rfl sc.nd rfl (by decide) (fun k x i h1 h2 => match k, x, i, h1, h2 with | 0, _, _, rfl, rfl => ⟨rfl, rfl⟩ | 1, _, _, rfl, rfl => ⟨rfl, rfl⟩) (au_cons (eu_def (d := d__law_made) k__law_made (hr.mono (by decide)) rfl (g__law_made b) ⟨rfl, rfl, rfl⟩ (n := 4) (ks := []) (pl := [.p 0, .p 1, .p 2, .p 3]) (by decide) rfl rfl takes_u rfl (au_cons v4 (au_cons v5 (au_cons v6 (au_cons v7 au_nil rfl) rfl) rfl) rfl) ku_nil rfl rfl rfl rfl (by decide)) (au_cons (eu_def (d := d__law_made) k__law_made (hr.mono (by decide)) rfl (g__law_made b) ⟨rfl, rfl, rfl⟩ (n := 4) (ks := []) (pl := [.p 0, .p 1, .p 2, .p 3]) (by decide) rfl rfl takes_u rfl (au_cons v4 (au_cons v5 (au_cons v6 (au_cons v7 au_nil rfl) rfl) rfl) rfl) ku_nil rfl rfl rfl rfl (by decide)) au_nil rfl) rfl) rfl rfl)
    (ssu_cons (su_ifC (tu_val tr_u (eu_callB (cu_isi (ds := []) all0) rfl (n_isinstance b) boot_isinstance (au_cons v3 (au_cons (eu_ty rfl (n_list b) boot_list (by decide) (by decide)) au_nil rfl) rfl) (by decide) (by decide) rfl rfl) fun _ => rfl) (ssu_cons (su_ifC (tu_cmp (ou_neI hr.rm.units (ou_ne hr.rm.units)) (eu_callB (cu_reprA hr.rm.units hr.gd) rfl (n_repr b) boot_repr (au_cons v8 au_nil rfl) (by decide) (by decide) rfl rfl) (eu_callB (cu_reprA hr.rm.units hr.gd) rfl (n_repr b) boot_repr (au_cons v3 au_nil rfl) (by decide) (by decide) rfl rfl) (nomark _)) (ssu_cons (su_ret eu_bl)
    ssu_nil) ssu_nil)
    ssu_nil) (ssu_cons (su_ifC (WU.tu (wu_or (tu_not (tu_val tr_u (eu_callB (cu_isi (ds := ["World"]) (allc (tgt_World b) all0)) rfl (n_isinstance b) boot_isinstance (au_cons v8 (au_cons (eu_glo (y := "World") rfl (gl_World b) (by decide)) au_nil rfl) rfl) (by decide) (by decide) rfl rfl) fun _ => rfl)) (wu_or (tu_not (tu_val tr_u (eu_callB (cu_isi (ds := ["World"]) (allc (tgt_World b) all0)) rfl (n_isinstance b) boot_isinstance (au_cons v9 (au_cons (eu_glo (y := "World") rfl (gl_World b) (by decide)) au_nil rfl) rfl) (by decide) (by decide) rfl rfl) fun _ => rfl)) (wu_or1 (tu_cmp (ou_neI hr.rm.units (ou_ne hr.rm.units)) (eu_callB (cu_reprA hr.rm.units hr.gd) rfl (n_repr b) boot_repr (au_cons (eu_meth (m := "rows") (mtl (mtc (mcall k_World_rows (hr.mono (by decide)) (ck_World b).cls (meth_World_rows b) ⟨rfl, rfl, rfl⟩ (n := 0) (ks := []) (pl := [.p 0]) (by decide) rfl rfl takes_u rfl) trivial mt0)) v8 au_nil ku_nil unst_nil rfl rfl rfl rfl) au_nil rfl) (by decide) (by decide) rfl rfl) (eu_callB (cu_reprA hr.rm.units hr.gd) rfl (n_repr b) boot_repr (au_cons v3 au_nil rfl) (by decide) (by decide) rfl rfl) (nomark _)))))) (ssu_cons (su_ret eu_bl)
    ssu_nil) ssu_nil)
    (ssu_cons (su_for PassesOwn.leaving rfl (iu_any (eu_meth (m := "names") (mtl (mtc (mcall k_World_names (hr.mono (by decide)) (ck_World b).cls (meth_World_names b) ⟨rfl, rfl, rfl⟩ (n := 0) (ks := []) (pl := [.p 0]) (by decide) rfl rfl takes_u rfl) trivial mt0)) v8 au_nil ku_nil unst_nil rfl rfl rfl rfl)) (gu_name (i := 10) sc.nd rfl (by first | exact Or.inl rfl | exact Or.inr rfl) (Or.inl rfl)) (ssu_cons (su_ifC (tu_cmp (ou_eqI hr.rm.units (ou_eq hr.rm.units)) (eu_ixI (iuI iu0 (nsq_World b) (mtl (mtc (mcall k_World___getitem__ (hr.mono (by decide)) (ck_World b).cls (meth_World___getitem__ b) ⟨rfl, rfl, rfl⟩ (n := 1) (ks := []) (pl := [.p 0, .p 1]) (by decide) rfl rfl takes_u rfl) trivial mt0) _ _ rfl)) v8 v10 (fun _ _ => rfl) fun _ _ => rfl) (eu_ixI (iuI iu0 (nsq_World b) (mtl (mtc (mcall k_World___getitem__ (hr.mono (by decide)) (ck_World b).cls (meth_World___getitem__ b) ⟨rfl, rfl, rfl⟩ (n := 1) (ks := []) (pl := [.p 0, .p 1]) (by decide) rfl rfl takes_u rfl) trivial mt0) _ _ rfl)) v9 v10 (fun _ _ => rfl) fun _ _ => rfl) (nomark _)) (ssu_cons (su_ret eu_bl)
    ssu_nil) ssu_nil)
    (ssu_cons (su_set (i := 11) sc.nd rfl (by first | exact Or.inl rfl | exact Or.inr rfl) (eu_ixI (iuI iu0 (nsq_World b) (mtl (mtc (mcall k_World___getitem__ (hr.mono (by decide)) (ck_World b).cls (meth_World___getitem__ b) ⟨rfl, rfl, rfl⟩ (n := 1) (ks := []) (pl := [.p 0, .p 1]) (by decide) rfl rfl takes_u rfl) trivial mt0) _ _ rfl)) v8 v10 (fun _ _ => rfl) fun _ _ => rfl) rfl (Or.inl rfl))
    (ssu_cons (su_expr (eu_meth (m := "become") (mtl (mtc (mcall k_Box_become (hr.mono (by decide)) (ck_Box b).cls (meth_Box_become b) ⟨rfl, rfl, rfl⟩ (n := 1) (ks := []) (pl := [.p 0, .p 1]) (by decide) rfl rfl takes_u rfl) trivial mt0)) v11 (au_cons (eu_strN (s := "q") (by decide +kernel)) au_nil rfl) ku_nil rfl rfl rfl rfl rfl) rfl)
    ssu_nil))) fun _ => rfl)
    (ssu_cons (su_ifC (WU.tu (wu_or (tu_cmp (ou_neI hr.rm.units (ou_ne hr.rm.units)) (eu_lc (own := [("_law_group", 12), ("_law_text", 13)]) rfl sc.nd (iu_any (eu_meth (m := "rows") (mtl (mtc (mcall k_World_rows (hr.mono (by decide)) (ck_World b).cls (meth_World_rows b) ⟨rfl, rfl, rfl⟩ (n := 0) (ks := []) (pl := [.p 0]) (by decide) rfl rfl takes_u rfl) trivial mt0)) v8 au_nil ku_nil unst_nil rfl rfl rfl rfl)) (blk_of rfl) (by decide) (fun _ _ _ _ _ => (gu_tup rfl (gsu_cons (gu_name (i := 12) sc.nd rfl (by first | exact Or.inl rfl | exact Or.inr rfl) (by first | exact Or.inr rfl | exact Or.inl rfl)) (gsu_cons (gu_name (i := 13) sc.nd rfl (by first | exact Or.inl rfl | exact Or.inr rfl) (by first | exact Or.inr rfl | exact Or.inl rfl)) gsu_nil rfl) rfl) rfl rfl)) (fun _ _ _ _ _ => (fsu_one (tu_cmp (ou_neI hr.rm.units (ou_ne hr.rm.units)) (ev (i := 13)) (eu_strN (s := "q") (by decide +kernel)) (nomark _)))) (fun _ _ _ _ _ => (ev (i := 13))) fun _ => rfl) (eu_lst au_nil) (nomark _)) (wu_or1 (tu_cmp (ou_neI hr.rm.units (ou_ne hr.rm.units)) (eu_callB (cu_reprA hr.rm.units hr.gd) rfl (n_repr b) boot_repr (au_cons (eu_meth (m := "rows") (mtl (mtc (mcall k_World_rows (hr.mono (by decide)) (ck_World b).cls (meth_World_rows b) ⟨rfl, rfl, rfl⟩ (n := 0) (ks := []) (pl := [.p 0]) (by decide) rfl rfl takes_u rfl) trivial mt0)) v9 au_nil ku_nil unst_nil rfl rfl rfl rfl) au_nil rfl) (by decide) (by decide) rfl rfl) (eu_callB (cu_reprA hr.rm.units hr.gd) rfl (n_repr b) boot_repr (au_cons v3 au_nil rfl) (by decide) (by decide) rfl rfl) (nomark _))))) (ssu_cons (su_ret eu_bl)
    ssu_nil) ssu_nil)
    ssu_nil))))
    ssu_nil))))) fun _ => rfl)
    (ssu_cons (su_ret eu_bl)
    ssu_nil))
end F_law
theorem ok_law (b : Base K mg base) : Known P w K mg base d_law 10 sp_law :=
  ⟨fn_u (fd_law b).D F_law.sc rfl (fun cdv A outer s H G E hr => F_law.body b (ok_Box_become b) (ok_World___getitem__ b) (ok_World_names b) (ok_World_rows b) (ok__law_bag b) (ok__law_due b) (ok__law_made b) (ok__law_pairs b) (ok__law_take b) (ok__law_thing b) hr) (fun ws G Q E h _ => law_law ws G Q E h), (fd_law b).D⟩
end
theorem want_ (ns : List Int) (h : ns.length ≤ 63) (_ : ∀ z ∈ ns, Builtin.Int.intBits z ≤ 1048576) : sp_law [.rol (IntU ns)] (fun _ => none) (fun v _ => v = .bl true) (fun _ _ => False) := ⟨ns, rfl, h, fun _ => rfl⟩
theorem room_ : RoomU 10 callerA := ⟨⟨rfl, by decide, by decide⟩, rfl⟩
theorem head_ {w : World} {mg : Str → Option Value} {fa_ : Addr} {h : Heap} (Y : hk.says w h) (g : h.Ns mainGlobals mg) (e : mg "law" = some (.ref fa_)) :
    ∃ (K : PySem.W.Frag) (fd : FuncData), K.In h ∧ (∀ (s : Shared) (u : Value), BindsTo s fd ⟨[u], []⟩ [("_law_script", u)]) ∧ ∀ base : Heap, K.In base → base.Ns mainGlobals mg → FnU R.prog w K mg base 10 fa_ fd ["_law_script"] sp_law := by
  obtain ⟨K, inK, c⟩ := Y
  have b : Base K mg h := ⟨c, inK, g⟩
  have z := e.symm.trans (g_law b)
  cases z
  refine ⟨K, _, inK, fun s u => ?_, fun base k1 k2 => (ok_law ⟨c, k1, k2⟩).F⟩
  exact FunD.bindsA (ps := ["_law_script"]) (fd_law b).D (fun _ _ _ _ _ _ us hl => match us, hl with | [_], _ => rfl) s [u] rfl
end K16
open PySem PySem.W PySem.Calls PyProof.Rows
theorem PySem.Challenge.cw_workerworlds_k16_worlds_of_contents_holds : PySem.Challenge.rw_workerworlds_k16_worlds_of_contents.Holds := by
  w_on; o_law
  refine HandSHeadRun.head_any (r := OpenLaw.row PySem.Challenge.rw_workerworlds_k16_worlds_of_contents) (q := view (OpenLaw.row PySem.Challenge.rw_workerworlds_k16_worlds_of_contents).prog [31]) (H := K16.hk) (ob := K16.ob) (M := 4000) (loose := K16.loose) (d := HandSHeadRun.topDef (OpenLaw.row PySem.Challenge.rw_workerworlds_k16_worlds_of_contents).prog 31) (kwd := []) K16.ob_eq
    (by kernel_rfl) (fun s => by kernel_rfl) K16.run_ (by kernel_rfl) (by kernel_rfl) (by kernel_rfl) (by rfl) (by first | assumption | decide +kernel) (by decide +kernel) ⟨rfl, rfl, rfl, rfl, rfl, by decide +kernel⟩ ?hw ?hc
  case hw => w_witness2
  case hc =>
    refine UL.walk_u (l := PySem.Challenge.rw_workerworlds_k16_worlds_of_contents) (n := 63) (k := 10) (x := "_law_script") (sp := K16.sp_law) rfl (by decide) (by kernel_rfl) K16.room_ ?F K16.want_
    intro w mg fa h Y g e
    have e1 : (HandSHeadRun.topDef (OpenLaw.row PySem.Challenge.rw_workerworlds_k16_worlds_of_contents).prog 31).name = ("law" : PySem.Str) := by kernel_rfl
    rw [e1] at e
    exact K16.head_ Y g e
