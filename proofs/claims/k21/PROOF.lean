import PyProof.Rows.All
import Wide.All
import OpenK.AllK
import Wide.FinOn
import HandS.Base
import HandS.Call
import HandS.List
import HandS.Comp
import HandS.Ends
import HandS.Exc
import HandS.Words
import HandS.WordsExc
import HandS.Defaults
import HandS.HeadHook1
import HandS.HeadHook2
import HandS.Text
import HandS.TupAny
import HandS.TupMul
import HandS.TupLe
import HandS.Deep
import HandS.IsInst
import HandS.FStr
import HandS.Iter
import HandS.WordsDict
import HandS.HeadEnd
import HandS.EndBits
import HandS.Head2
import HandS.Codes
import PySem.Challenge.RW_workerworlds_k21_even_cuts_and_turns
set_option Elab.async false
set_option linter.all false
set_option maxRecDepth 100000
set_option maxHeartbeats 1000000
set_option maxHeartbeats 2000000
namespace UL
open PySem PySem.Spec PyProof.Rows L2

/-! ### values: tuples are plain data -/
inductive U where
  | non | bl (b : Bool) | int (i : Int) | str (x : List Nat) | tup (us : List U) | ref (a : Addr) | ty (n : String) | rol (us : List U)
  deriving Inhabited

abbrev S (s : String) : Str := Str.ofString s

/-- a list that is never written: the script -/
def RoL (K : PySem.W.Frag) (H : Hp) (a : Addr) (xs : List V) : Prop :=
  (∃ o, H a = some (.frz o (.lst xs))) ∨
    ∃ (o : Obj) (its : Array Value) (n : Nat), K.lookup a = some o ∧ o.cls = .type "list" ∧ o.dict = none ∧ o.data = .seq its n ∧ its.size ≤ sizeLine ∧ Vals xs its.toList
theorem RoL.sq {K : PySem.W.Frag} {H : Hp} {a : Addr} {xs : List V} (h : RoL K H a xs) : SqL K H a xs := by
  rcases h with ⟨o, h⟩ | h
  · exact .inl (.inr ⟨o, h⟩)
  · exact .inr h

mutual
def RelU (K : PySem.W.Frag) (H : Hp) : U → V → Prop
  | .non, v => v = .non
  | .bl b, v => v = .bl b
  | .int i, v => v = .int i
  | .str l, v => v = .str ⟨l.toArray⟩
  | .tup us, v => ∃ a vs, v = .ref a ∧ SqT K H a vs ∧ RelUs K H us vs
  | .ref a, v => v = .ref a
  | .ty n, v => v = .ty n
  | .rol us, v => ∃ a vs, v = .ref a ∧ RoL K H a vs ∧ RelUs K H us vs
def RelUs (K : PySem.W.Frag) (H : Hp) : List U → List V → Prop
  | [], vs => vs = []
  | u :: us, vs => ∃ v ws, vs = v :: ws ∧ RelU K H u v ∧ RelUs K H us ws
end

/-! ### objects -/
inductive Ob where
  | lst (us : List U)
  | dct (kvs : List (U × U))
  | ins (c : String) (fs : List (String × U))
  deriving Inhabited
abbrev Gp := Addr → Option Ob
def gup (G : Gp) (a : Addr) (o : Ob) : Gp := fun b => if b = a then some o else G b
theorem gup_same {G : Gp} {a : Addr} {o : Ob} : gup G a o a = some o := if_pos rfl
theorem gup_ne {G : Gp} {a b : Addr} {o : Ob} (h : b ≠ a) : gup G a o b = G b := if_neg h

def fget : List (String × U) → String → Option U
  | [], _ => none
  | (g, u) :: r, f => if g = f then some u else fget r f
def fput : List (String × U) → String → U → List (String × U)
  | [], f, u => [(f, u)]
  | (g, w) :: r, f, u => if g = f then (g, u) :: r else (g, w) :: fput r f u

def RelF (K : PySem.W.Frag) (H : Hp) (C : Addr) : List (String × U) → List (Str × V) → Prop
  | [], gs => gs = []
  | (f, u) :: r, gs => ∃ v ws, gs = (S f, v) :: ws ∧ RelU K H u v ∧ NoAttr K C (S f) ∧ RelF K H C r ws

def KeyR : U → Key → Prop
  | .int i, k => k = .inl i
  | .str l, k => k = .inr ⟨l.toArray⟩
  | _, _ => False
def RelKV (K : PySem.W.Frag) (H : Hp) : List (U × U) → List (Key × V) → Prop
  | [], gs => gs = []
  | (k, u) :: r, gs => ∃ kk v ws, gs = (kk, v) :: ws ∧ KeyR k kk ∧ RelU K H u v ∧ RelKV K H r ws

def RepO (K : PySem.W.Frag) (H : Hp) (a : Addr) : Ob → Prop
  | .lst us => ∃ vs, H a = some (.lst vs) ∧ RelUs K H us vs
  | .dct kvs => ∃ gs, H a = some (.dK gs) ∧ RelKV K H kvs gs
  | .ins c fs => ∃ dx gs, H a = some (.ins (He.ga K (S c)) dx gs) ∧ RelF K H (He.ga K (S c)) fs gs
def Rep (K : PySem.W.Frag) (H : Hp) (G : Gp) : Prop := ∀ a o, G a = some o → RepO K H a o

/-- what G does not know stays as it is, and unknown -/
def Ext (H : Hp) (G : Gp) (H' : Hp) (G' : Gp) : Prop := ∀ a o, H a = some o → G a = none → H' a = some o ∧ G' a = none
theorem Ext.refl (H : Hp) (G : Gp) : Ext H G H G := fun _ _ h g => ⟨h, g⟩
theorem Ext.trans {H H1 H2 : Hp} {G G1 G2 : Gp} (x : Ext H G H1 G1) (y : Ext H1 G1 H2 G2) : Ext H G H2 G2 := fun a o h g =>
  let ⟨h1, g1⟩ := x a o h g
  y a o h1 g1

section
variable {K : PySem.W.Frag} {H H' : Hp} {G G' : Gp}
theorem Rep.there (r : Rep K H G) {a : Addr} {o : Ob} (h : G a = some o) : ∃ u, H a = some u := by
  have q := r a o h
  cases o with
  | lst us => obtain ⟨vs, e, _⟩ := q; exact ⟨_, e⟩
  | dct kvs => obtain ⟨vs, e, _⟩ := q; exact ⟨_, e⟩
  | ins c fs => obtain ⟨dx, gs, e, _⟩ := q; exact ⟨_, e⟩
theorem Rep.fresh (r : Rep K H G) {a : Addr} (h : H a = none) : G a = none := by
  cases q : G a with
  | none => rfl
  | some o =>
    obtain ⟨u, e⟩ := r.there q
    rw [h] at e
    cases e
/-- tuples and read-only lists are not tracked by G -/
theorem Rep.noRd (r : Rep K H G) {a : Addr} {u : HO} (h : Rd H a u) (hu : (∃ xs, u = .tup xs) ∨ ∃ o, H a = some (.frz o u)) : G a = none := by
  cases q : G a with
  | none => rfl
  | some o =>
    exfalso
    have z := r a o q
    have k : ∀ x, H a = some x → (∃ vs, x = .lst vs) ∨ (∃ vs, x = .dK vs) ∨ (∃ c d f, x = .ins c d f) := by
      intro x hx
      cases o with
      | lst us => obtain ⟨vs, e, _⟩ := z; rw [hx] at e; exact .inl ⟨_, Option.some.inj e⟩
      | dct kvs => obtain ⟨vs, e, _⟩ := z; rw [hx] at e; exact .inr (.inl ⟨_, Option.some.inj e⟩)
      | ins c fs => obtain ⟨dx, gs, e, _⟩ := z; rw [hx] at e; exact .inr (.inr ⟨_, _, _, Option.some.inj e⟩)
    rcases h with h | ⟨ob, h⟩
    · rcases hu with ⟨xs, rfl⟩ | ⟨ob, h2⟩
      · rcases k _ h with ⟨_, e⟩ | ⟨_, e⟩ | ⟨_, _, _, e⟩ <;> cases e
      · rcases k _ h2 with ⟨_, e⟩ | ⟨_, e⟩ | ⟨_, _, _, e⟩ <;> cases e
    · rcases k _ h with ⟨_, e⟩ | ⟨_, e⟩ | ⟨_, _, _, e⟩ <;> cases e
theorem Ext.sqT (x : Ext H G H' G') (r : Rep K H G) {a : Addr} {xs : List V} (h : SqT K H a xs) : SqT K H' a xs := by
  rcases h with h | h
  · have n := r.noRd h (.inl ⟨_, rfl⟩)
    rcases h with h | ⟨o, h⟩
    · exact .inl (.inl (x a _ h n).1)
    · exact .inl (.inr ⟨o, (x a _ h n).1⟩)
  · exact .inr h
theorem Ext.roL (x : Ext H G H' G') (r : Rep K H G) {a : Addr} {xs : List V} (h : RoL K H a xs) : RoL K H' a xs := by
  rcases h with ⟨o, h⟩ | h
  · have n := r.noRd (a := a) (u := .lst xs) (.inr ⟨o, h⟩) (.inr ⟨o, h⟩)
    exact .inl ⟨o, (x a _ h n).1⟩
  · exact .inr h
mutual
theorem RelU.ext (x : Ext H G H' G') (r : Rep K H G) : ∀ {u : U} {v : V}, RelU K H u v → RelU K H' u v
  | .non, _, h => h
  | .bl _, _, h => h
  | .int _, _, h => h
  | .str _, _, h => h
  | .tup us, _, ⟨a, vs, e, t, q⟩ => ⟨a, vs, e, x.sqT r t, RelUs.ext x r q⟩
  | .ref _, _, h => h
  | .ty _, _, h => h
  | .rol us, _, ⟨a, vs, e, t, q⟩ => ⟨a, vs, e, x.roL r t, RelUs.ext x r q⟩
theorem RelUs.ext (x : Ext H G H' G') (r : Rep K H G) : ∀ {us : List U} {vs : List V}, RelUs K H us vs → RelUs K H' us vs
  | [], _, h => h
  | u :: us, _, ⟨v, ws, e, h, t⟩ => ⟨v, ws, e, RelU.ext x r h, RelUs.ext x r t⟩
end
mutual
theorem RelU.mono (hT : ∀ a xs, SqT K H a xs → SqT K H' a xs) (hR : ∀ a xs, RoL K H a xs → RoL K H' a xs) : ∀ {u : U} {v : V}, RelU K H u v → RelU K H' u v
  | .non, _, h => h
  | .bl _, _, h => h
  | .int _, _, h => h
  | .str _, _, h => h
  | .tup us, _, ⟨a, vs, e, t, q⟩ => ⟨a, vs, e, hT _ _ t, RelUs.mono hT hR q⟩
  | .ref _, _, h => h
  | .ty _, _, h => h
  | .rol us, _, ⟨a, vs, e, t, q⟩ => ⟨a, vs, e, hR _ _ t, RelUs.mono hT hR q⟩
theorem RelUs.mono (hT : ∀ a xs, SqT K H a xs → SqT K H' a xs) (hR : ∀ a xs, RoL K H a xs → RoL K H' a xs) : ∀ {us : List U} {vs : List V}, RelUs K H us vs → RelUs K H' us vs
  | [], _, h => h
  | u :: us, _, ⟨v, ws, e, h, t⟩ => ⟨v, ws, e, RelU.mono hT hR h, RelUs.mono hT hR t⟩
end
theorem RelF.mono (hT : ∀ a xs, SqT K H a xs → SqT K H' a xs) (hR : ∀ a xs, RoL K H a xs → RoL K H' a xs) {C : Addr} : ∀ {fs : List (String × U)} {gs : List (Str × V)}, RelF K H C fs gs → RelF K H' C fs gs
  | [], _, h => h
  | (f, u) :: fs, _, ⟨v, ws, e, h, n, t⟩ => ⟨v, ws, e, h.mono hT hR, n, RelF.mono hT hR t⟩
theorem RelKV.mono (hT : ∀ a xs, SqT K H a xs → SqT K H' a xs) (hR : ∀ a xs, RoL K H a xs → RoL K H' a xs) : ∀ {fs : List (U × U)} {gs : List (Key × V)}, RelKV K H fs gs → RelKV K H' fs gs
  | [], _, h => h
  | (f, u) :: fs, _, ⟨kk, v, ws, e, n, h, t⟩ => ⟨kk, v, ws, e, n, h.mono hT hR, RelKV.mono hT hR t⟩
/-- an untracked list of ours grows -/
theorem own_upd {D : Addr} {xs ys : List V} (hD : H D = some (.lst xs)) : (∀ a zs, SqT K H a zs → SqT K (upd H D (.lst ys)) a zs) ∧ ∀ a zs, RoL K H a zs → RoL K (upd H D (.lst ys)) a zs := by
  have k : ∀ a u, H a = some u → (∀ zs, u ≠ .lst zs) → upd H D (.lst ys) a = some u := fun a u h n => by
    have e : a ≠ D := fun e => n xs (by rw [e, hD] at h; exact (Option.some.inj h).symm)
    rw [upd_ne e]
    exact h
  constructor
  · rintro a zs ((h | ⟨o, h⟩) | h)
    · exact .inl (.inl (k a _ h fun _ z => by cases z))
    · exact .inl (.inr ⟨o, k a _ h fun _ z => by cases z⟩)
    · exact .inr h
  · rintro a zs (⟨o, h⟩ | h)
    · exact .inl ⟨o, k a _ h fun _ z => by cases z⟩
    · exact .inr h
theorem Rep.own {D : Addr} {xs ys : List V} (r : Rep K H G) (hD : H D = some (.lst xs)) (gD : G D = none) : Rep K (upd H D (.lst ys)) G := by
  obtain ⟨hT, hR⟩ := own_upd (K := K) (ys := ys) hD
  intro b v e
  have hb : b ≠ D := fun z => by rw [z, gD] at e; cases e
  have q := r b v e
  cases v with
  | lst us => obtain ⟨vs, e1, e2⟩ := q; exact ⟨vs, by rw [upd_ne hb]; exact e1, e2.mono hT hR⟩
  | dct us => obtain ⟨vs, e1, e2⟩ := q; exact ⟨vs, by rw [upd_ne hb]; exact e1, e2.mono hT hR⟩
  | ins c fs => obtain ⟨dx, gs, e1, e2⟩ := q; exact ⟨dx, gs, by rw [upd_ne hb]; exact e1, e2.mono hT hR⟩
theorem RelF.ext (x : Ext H G H' G') (r : Rep K H G) {C : Addr} : ∀ {fs : List (String × U)} {gs : List (Str × V)}, RelF K H C fs gs → RelF K H' C fs gs
  | [], _, h => h
  | (f, u) :: fs, _, ⟨v, ws, e, h, n, t⟩ => ⟨v, ws, e, h.ext x r, n, RelF.ext x r t⟩
theorem RelKV.ext (x : Ext H G H' G') (r : Rep K H G) : ∀ {fs : List (U × U)} {gs : List (Key × V)}, RelKV K H fs gs → RelKV K H' fs gs
  | [], _, h => h
  | (f, u) :: fs, _, ⟨kk, v, ws, e, n, h, t⟩ => ⟨kk, v, ws, e, n, h.ext x r, RelKV.ext x r t⟩
end

/-! ### slots -/
abbrev USt := List (Option U)
def RelS (K : PySem.W.Frag) (H : Hp) : USt → L2.St → Prop
  | [], vs => vs = []
  | none :: us, vs => ∃ v ws, vs = v :: ws ∧ RelS K H us ws
  | some u :: us, vs => ∃ v ws, vs = some v :: ws ∧ RelU K H u v ∧ RelS K H us ws
section
variable {K : PySem.W.Frag} {H H' : Hp} {G G' : Gp}
theorem RelS.ext (x : Ext H G H' G') (r : Rep K H G) : ∀ {us : USt} {vs : L2.St}, RelS K H us vs → RelS K H' us vs
  | [], _, h => h
  | none :: us, _, ⟨v, ws, e, t⟩ => ⟨v, ws, e, RelS.ext x r t⟩
  | some u :: us, _, ⟨v, ws, e, h, t⟩ => ⟨v, ws, e, h.ext x r, RelS.ext x r t⟩
theorem RelS.get : ∀ {us : USt} {vs : L2.St} {i : Nat} {u : U}, RelS K H us vs → us[i]? = some (some u) → ∃ v, vs[i]? = some (some v) ∧ RelU K H u v
  | [], _, _, _, _, e => by cases e
  | none :: us, _, 0, _, _, e => by cases e
  | some u :: us, _, 0, _, ⟨v, ws, rfl, h, t⟩, e => by
    cases e
    exact ⟨v, rfl, h⟩
  | none :: us, _, i + 1, u, ⟨v, ws, rfl, t⟩, e => RelS.get (i := i) (u := u) t e
  | some w :: us, _, i + 1, u, ⟨v, ws, rfl, h, t⟩, e => RelS.get (i := i) (u := u) t e
theorem RelS.set {u : U} {v : V} (h : RelU K H u v) : ∀ {us : USt} {vs : L2.St} (i : Nat), RelS K H us vs → RelS K H (us.set i (some u)) (vs.set i (some v))
  | [], _, _, e => by
    have e' : _ = ([] : L2.St) := e
    subst e'
    rfl
  | none :: us, _, 0, ⟨w, ws, rfl, t⟩ => ⟨v, ws, rfl, h, t⟩
  | some _ :: us, _, 0, ⟨w, ws, rfl, _, t⟩ => ⟨v, ws, rfl, h, t⟩
  | none :: us, _, i + 1, ⟨w, ws, rfl, t⟩ => ⟨w, _, rfl, RelS.set h i t⟩
  | some _ :: us, _, i + 1, ⟨w, ws, rfl, q, t⟩ => ⟨w, _, rfl, q, RelS.set h i t⟩
theorem RelS.clr : ∀ {us : USt} {vs : L2.St} (i : Nat), RelS K H us vs → RelS K H (us.set i none) (vs.set i none)
  | [], _, _, e => by
    have e' : _ = ([] : L2.St) := e
    subst e'
    rfl
  | none :: us, _, 0, ⟨w, ws, rfl, t⟩ => ⟨_, ws, rfl, t⟩
  | some _ :: us, _, 0, ⟨w, ws, rfl, _, t⟩ => ⟨_, ws, rfl, t⟩
  | none :: us, _, i + 1, ⟨w, ws, rfl, t⟩ => ⟨w, _, rfl, RelS.clr i t⟩
  | some _ :: us, _, i + 1, ⟨w, ws, rfl, q, t⟩ => ⟨w, _, rfl, q, RelS.clr i t⟩
def uwipe (σ : USt) : List Nat → USt
  | [] => σ
  | v :: vs => (uwipe σ vs).set v none
theorem RelS.wipe {us : USt} {vs : L2.St} (h : RelS K H us vs) : ∀ l : List Nat, RelS K H (uwipe us l) (wipe vs l)
  | [] => h
  | i :: l => RelS.clr i (h.wipe l)
theorem RelUs.length : ∀ {us : List U} {vs : List V}, RelUs K H us vs → vs.length = us.length
  | [], _, e => by
    have e' : _ = ([] : List V) := e
    subst e'
    rfl
  | _ :: us, _, ⟨v, ws, rfl, _, t⟩ => by
    rw [List.length_cons, List.length_cons, t.length]
theorem RelUs.get : ∀ {us : List U} {vs : List V} {i : Nat} {u : U}, RelUs K H us vs → us[i]? = some u → ∃ v, vs[i]? = some v ∧ RelU K H u v
  | [], _, _, _, _, e => by cases e
  | u :: us, _, 0, _, ⟨v, ws, rfl, h, t⟩, e => by
    cases e
    exact ⟨v, rfl, h⟩
  | w :: us, _, i + 1, u, ⟨v, ws, rfl, h, t⟩, e => RelUs.get (i := i) (u := u) t e
theorem RelUs.append : ∀ {us us' : List U} {vs vs' : List V}, RelUs K H us vs → RelUs K H us' vs' → RelUs K H (us ++ us') (vs ++ vs')
  | [], _, _, _, e, h => by
    have e' : _ = ([] : List V) := e
    subst e'
    exact h
  | u :: us, _, _, _, ⟨v, ws, rfl, h, t⟩, q => ⟨v, _, rfl, h, t.append q⟩
theorem RelUs.set {u : U} {v : V} (h : RelU K H u v) : ∀ {us : List U} {vs : List V} (i : Nat), RelUs K H us vs → RelUs K H (us.set i u) (vs.set i v)
  | [], _, _, e => by
    have e' : _ = ([] : List V) := e
    subst e'
    rfl
  | _ :: us, _, 0, ⟨w, ws, rfl, _, t⟩ => ⟨v, ws, rfl, h, t⟩
  | _ :: us, _, i + 1, ⟨w, ws, rfl, q, t⟩ => ⟨w, _, rfl, q, RelUs.set h i t⟩
theorem RelUs.drop : ∀ {us : List U} {vs : List V} (n : Nat), RelUs K H us vs → RelUs K H (us.drop n) (vs.drop n)
  | _, _, 0, h => h
  | [], _, n + 1, e => by
    have e' : _ = ([] : List V) := e
    subst e'
    rfl
  | _ :: us, _, n + 1, ⟨w, ws, rfl, _, t⟩ => RelUs.drop n t
theorem RelUs.take : ∀ {us : List U} {vs : List V} (n : Nat), RelUs K H us vs → RelUs K H (us.take n) (vs.take n)
  | _, _, 0, h => rfl
  | [], _, n + 1, e => by
    have e' : _ = ([] : List V) := e
    subst e'
    rfl
  | _ :: us, _, n + 1, ⟨w, ws, rfl, h, t⟩ => ⟨w, _, rfl, h, RelUs.take n t⟩
theorem RelUs.nil : RelUs K H [] [] := rfl
theorem RelUs.one {u : U} {v : V} (h : RelU K H u v) : RelUs K H [u] [v] := ⟨v, [], rfl, h, rfl⟩
theorem RelUs.eraseIdx : ∀ {us : List U} {vs : List V} (n : Nat), RelUs K H us vs → RelUs K H (us.eraseIdx n) (vs.eraseIdx n)
  | [], _, n, e => by
    have e' : _ = ([] : List V) := e
    subst e'
    rfl
  | _ :: us, _, 0, ⟨w, ws, rfl, h, t⟩ => t
  | _ :: us, _, n + 1, ⟨w, ws, rfl, h, t⟩ => ⟨w, _, rfl, h, RelUs.eraseIdx n t⟩
theorem RelUs.dropLast {us : List U} {vs : List V} (h : RelUs K H us vs) : RelUs K H us.dropLast vs.dropLast := by
  rw [List.dropLast_eq_take, List.dropLast_eq_take, h.length]
  exact h.take _
theorem RelUs.reverse : ∀ {us : List U} {vs : List V}, RelUs K H us vs → RelUs K H us.reverse vs.reverse
  | [], _, e => by
    have e' : _ = ([] : List V) := e
    subst e'
    rfl
  | u :: us, _, ⟨w, ws, rfl, h, t⟩ => by
    rw [List.reverse_cons, List.reverse_cons]
    exact t.reverse.append (.one h)
theorem RelUs.rep {us : List U} {vs : List V} (h : RelUs K H us vs) : ∀ k : Nat, RelUs K H (List.replicate k us).flatten (List.replicate k vs).flatten
  | 0 => rfl
  | k + 1 => by
    rw [List.replicate_succ, List.replicate_succ, List.flatten_cons, List.flatten_cons]
    exact h.append (h.rep k)
/-- a new object is laid and tracked -/
theorem Rep.laid {a : Addr} {o : Ob} {u : HO} (r : Rep K H G) (hn : H a = none) (new : RepO K (upd H a u) a o) : Rep K (upd H a u) (gup G a o) ∧ Ext H G (upd H a u) (gup G a o) := by
  have x0 : Ext H G (upd H a u) G := fun b v h g => ⟨by rw [upd_ne (ne_of_none h hn)]; exact h, g⟩
  refine ⟨fun b v e => ?_, fun b v h g => ⟨by rw [upd_ne (ne_of_none h hn)]; exact h, by rw [gup_ne (ne_of_none h hn)]; exact g⟩⟩
  by_cases hb : b = a
  · subst hb
    rw [gup_same] at e
    cases e
    exact new
  · rw [gup_ne hb] at e
    have q := r b v e
    cases v with
    | lst us => obtain ⟨vs, e1, e2⟩ := q; exact ⟨vs, by rw [upd_ne hb]; exact e1, e2.ext x0 r⟩
    | dct us => obtain ⟨vs, e1, e2⟩ := q; exact ⟨vs, by rw [upd_ne hb]; exact e1, e2.ext x0 r⟩
    | ins c fs => obtain ⟨dx, gs, e1, e2⟩ := q; exact ⟨dx, gs, by rw [upd_ne hb]; exact e1, e2.ext x0 r⟩
/-- something is laid that G does not track (a tuple) -/
theorem Rep.laid0 {a : Addr} {u : HO} (r : Rep K H G) (hn : H a = none) : Rep K (upd H a u) G ∧ Ext H G (upd H a u) G := by
  have x0 : Ext H G (upd H a u) G := fun b v h g => ⟨by rw [upd_ne (ne_of_none h hn)]; exact h, g⟩
  refine ⟨fun b v e => ?_, x0⟩
  have hb : b ≠ a := by
    obtain ⟨w, z⟩ := r.there e
    exact ne_of_none z hn
  have q := r b v e
  cases v with
  | lst us => obtain ⟨vs, e1, e2⟩ := q; exact ⟨vs, by rw [upd_ne hb]; exact e1, e2.ext x0 r⟩
  | dct us => obtain ⟨vs, e1, e2⟩ := q; exact ⟨vs, by rw [upd_ne hb]; exact e1, e2.ext x0 r⟩
  | ins c fs => obtain ⟨dx, gs, e1, e2⟩ := q; exact ⟨dx, gs, by rw [upd_ne hb]; exact e1, e2.ext x0 r⟩
/-- a tracked object is written -/
theorem Rep.write {a : Addr} {o o0 : Ob} {u : HO} (r : Rep K H G) (h0 : G a = some o0) (new : RepO K (upd H a u) a o) : Rep K (upd H a u) (gup G a o) ∧ Ext H G (upd H a u) (gup G a o) := by
  have ne : ∀ b, G b = none → b ≠ a := fun b g z => by rw [z, h0] at g; cases g
  have x0 : Ext H G (upd H a u) (gup G a o) := fun b v h g => ⟨by rw [upd_ne (ne b g)]; exact h, by rw [gup_ne (ne b g)]; exact g⟩
  refine ⟨fun b v e => ?_, x0⟩
  by_cases hb : b = a
  · subst hb
    rw [gup_same] at e
    cases e
    exact new
  · rw [gup_ne hb] at e
    have q := r b v e
    cases v with
    | lst us => obtain ⟨vs, e1, e2⟩ := q; exact ⟨vs, by rw [upd_ne hb]; exact e1, e2.ext x0 r⟩
    | dct us => obtain ⟨vs, e1, e2⟩ := q; exact ⟨vs, by rw [upd_ne hb]; exact e1, e2.ext x0 r⟩
    | ins c fs => obtain ⟨dx, gs, e1, e2⟩ := q; exact ⟨dx, gs, by rw [upd_ne hb]; exact e1, e2.ext x0 r⟩
end
end UL
set_option maxHeartbeats 2000000
namespace UL
open PySem PySem.Spec PyProof.Rows L2

structure UExc where
  cls : String
  fs : List (String × U)
abbrev UK := U → Gp → Prop
abbrev UX := UExc → Gp → Prop
abbrev UTE := USt → Gp → UK → UX → Prop
abbrev UTT := USt → Gp → (Bool → Gp → Prop) → UX → Prop
abbrev UTA := USt → Gp → (List U → Gp → Prop) → UX → Prop

def ExcR (K : PySem.W.Frag) (H : Hp) (x : UExc) (cls : Value) (d : Option Addr) : Prop :=
  cls = .ref (He.ga K (S x.cls)) ∧ ((x.fs = [] ∧ d = none) ∨ ∃ dx gs, d = some dx ∧ H dx = some (.xd gs) ∧ ∀ f u, fget x.fs f = some u → ∃ v, gs.lookup (S f) = some v ∧ RelU K H u v)

def LV (K : PySem.W.Frag) (H : Hp) (G : Gp) (Q : UK) : VK := fun v H' => ∃ u G', Ext H G H' G' ∧ Rep K H' G' ∧ RelU K H' u v ∧ Q u G'
def LB (K : PySem.W.Frag) (H : Hp) (G : Gp) (Q : Bool → Gp → Prop) : Bool → Hp → Prop := fun b H' => ∃ G', Ext H G H' G' ∧ Rep K H' G' ∧ Q b G'
def LA (K : PySem.W.Frag) (H : Hp) (G : Gp) (Q : List U → Gp → Prop) : List V → Hp → Prop := fun vs H' => ∃ us G', Ext H G H' G' ∧ Rep K H' G' ∧ RelUs K H' us vs ∧ Q us G'
def LX (K : PySem.W.Frag) (H : Hp) (G : Gp) (E : UX) : XK := fun c d H' => ∃ x G', Ext H G H' G' ∧ Rep K H' G' ∧ ExcR K H' x c d ∧ E x G'
section
variable {K : PySem.W.Frag} {H H1 : Hp} {G G1 : Gp}
theorem LV.trans (x : Ext H G H1 G1) {Q : UK} {v : V} {H' : Hp} : LV K H1 G1 Q v H' → LV K H G Q v H' := fun ⟨u, G', e, r, q⟩ => ⟨u, G', x.trans e, r, q⟩
theorem LB.trans (x : Ext H G H1 G1) {Q : Bool → Gp → Prop} {v : Bool} {H' : Hp} : LB K H1 G1 Q v H' → LB K H G Q v H' := fun ⟨G', e, r, q⟩ => ⟨G', x.trans e, r, q⟩
theorem LX.trans (x : Ext H G H1 G1) {E : UX} {c : Value} {d : Option Addr} {H' : Hp} : LX K H1 G1 E c d H' → LX K H G E c d H' := fun ⟨u, G', e, r, q⟩ => ⟨u, G', x.trans e, r, q⟩
theorem LV.here (r : Rep K H G) {Q : UK} {u : U} {v : V} (h : RelU K H u v) (q : Q u G) : LV K H G Q v H := ⟨u, G, .refl _ _, r, h, q⟩
end

/-! ### judgements -/
structure EU (X : Cx) (W : WX) (e : Expr) (t : UTE) : Prop where
  run : ∀ (pins : List (Addr × Obj)) (s : Shared) (σ : L2.St) (H : Hp) (us : USt) (G : Gp) (Q : UK) (E : UX), Inv X pins σ H s → RelS X.K H us σ → Rep X.K H G → t us G Q E →
    (∀ c d H', LX X.K H G E c d H' → W c d σ H') → wpAny (model X.prog X.w) X.A (eval e X.env) (EP X pins σ (LV X.K H G Q)) X.xe s
structure TU (X : Cx) (W : WX) (e : Expr) (t : UTT) : Prop where
  run : ∀ (pins : List (Addr × Obj)) (s : Shared) (σ : L2.St) (H : Hp) (us : USt) (G : Gp) (Q : Bool → Gp → Prop) (E : UX), Inv X pins σ H s → RelS X.K H us σ → Rep X.K H G → t us G Q E →
    (∀ c d H', LX X.K H G E c d H' → W c d σ H') → wpAny (model X.prog X.w) X.A (isTrue e X.env (eval e X.env)) (TP X pins σ (LB X.K H G Q)) X.xe s
structure AU (X : Cx) (W : WX) (es : List Expr) (t : UTA) : Prop where
  run : ∀ (pos : Pos) (pins : List (Addr × Obj)) (s : Shared) (σ : L2.St) (H : Hp) (us : USt) (G : Gp) (Q : List U → Gp → Prop) (E : UX), Inv X pins σ H s → RelS X.K H us σ → Rep X.K H G → t us G Q E →
    (∀ c d H', LX X.K H G E c d H' → W c d σ H') → wpAny (model X.prog X.w) X.A (spliced (backTo pos (starEach es X.env))) (AP X pins σ (LA X.K H G Q)) X.xe s

def lE (K : PySem.W.Frag) (W : WX) (t : UTE) : TE := fun σ H Q => ∃ us G Qu Eu, RelS K H us σ ∧ Rep K H G ∧ t us G Qu Eu ∧ (∀ v H', LV K H G Qu v H' → Q v H') ∧ ∀ c d H', LX K H G Eu c d H' → W c d σ H'
def lT (K : PySem.W.Frag) (W : WX) (t : UTT) : TT := fun σ H Q => ∃ us G Qu Eu, RelS K H us σ ∧ Rep K H G ∧ t us G Qu Eu ∧ (∀ v H', LB K H G Qu v H' → Q v H') ∧ ∀ c d H', LX K H G Eu c d H' → W c d σ H'
def lA (K : PySem.W.Frag) (W : WX) (t : UTA) : TA := fun σ H Q => ∃ us G Qu Eu, RelS K H us σ ∧ Rep K H G ∧ t us G Qu Eu ∧ (∀ v H', LA K H G Qu v H' → Q v H') ∧ ∀ c d H', LX K H G Eu c d H' → W c d σ H'

section
variable {X : Cx} {W : WX} {e a b : Expr} {es : List Expr} {t ta tb : UTE} {tt : UTT} {tr : UTA} {pos : Pos}
theorem ep_imp {pins : List (Addr × Obj)} {σ : L2.St} {Q Q' : VK} {u : Value} {s : Shared} (h : ∀ v H, Q v H → Q' v H) : EP X pins σ Q u s → EP X pins σ Q' u s := fun ⟨v, H', I, r, q⟩ => ⟨v, H', I, r, h v H' q⟩
theorem EU.pe (h : EU X W e t) : PE X e (lE X.K W t) := ⟨fun pins s σ H Q I ⟨us, G, Qu, Eu, rs, rp, ht, hq, hx⟩ => thn (h.run pins s σ H us G Qu Eu I rs rp ht hx) fun v s' h => ep_imp hq h⟩
theorem EU.of {tv : TE} (h : PE X e tv) (k : ∀ σ H us G Q E, RelS X.K H us σ → Rep X.K H G → t us G Q E → (∀ c d H', LX X.K H G E c d H' → W c d σ H') → tv σ H (LV X.K H G Q)) : EU X W e t :=
  ⟨fun pins s σ H us G Q E I rs rp ht hx => h.run pins s σ H _ I (k σ H us G Q E rs rp ht hx)⟩
theorem TU.pt (h : TU X W e tt) : PT X e (lT X.K W tt) := ⟨fun pins s σ H Q I ⟨us, G, Qu, Eu, rs, rp, ht, hq, hx⟩ => thn (h.run pins s σ H us G Qu Eu I rs rp ht hx) fun v s' ⟨H', I', q⟩ => ⟨H', I', hq _ _ q⟩⟩
theorem TU.of {tv : TT} (h : PT X e tv) (k : ∀ σ H us G Q E, RelS X.K H us σ → Rep X.K H G → tt us G Q E → (∀ c d H', LX X.K H G E c d H' → W c d σ H') → tv σ H (LB X.K H G Q)) : TU X W e tt :=
  ⟨fun pins s σ H us G Q E I rs rp ht hx => h.run pins s σ H _ I (k σ H us G Q E rs rp ht hx)⟩
theorem AU.pa (h : AU X W es tr) : PA X es (lA X.K W tr) := ⟨fun pos pins s σ H Q I ⟨us, G, Qu, Eu, rs, rp, ht, hq, hx⟩ => thn (h.run pos pins s σ H us G Qu Eu I rs rp ht hx) fun v s' ⟨vs, H', I', r, q⟩ => ⟨vs, H', I', r, hq _ _ q⟩⟩
theorem EU.imp {t' : UTE} (h : EU X W e t) (k : ∀ us G Q E, t' us G Q E → t us G Q E) : EU X W e t' := ⟨fun pins s σ H us G Q E I rs rp ht hx => h.run pins s σ H us G Q E I rs rp (k _ _ _ _ ht) hx⟩
theorem TU.imp {t' : UTT} (h : TU X W e tt) (k : ∀ us G Q E, t' us G Q E → tt us G Q E) : TU X W e t' := ⟨fun pins s σ H us G Q E I rs rp ht hx => h.run pins s σ H us G Q E I rs rp (k _ _ _ _ ht) hx⟩

/-! ### names, constants -/
def tUVar (i : Nat) : UTE := fun us G Q _ => match us[i]? with
  | some (some u) => Q u G
  | _ => False
theorem eu_var {i : Nat} {x : Str} (hN : X.N[i]? = some x) (hv : Vis X.env.scope x) (hd : (x == ("__debug__" : Str)) = false) (hcd : (x == ("__classdict__" : Str)) = false) : EU X W (.Name x pos) (tUVar i) :=
  .of (pe_var hN hv hd hcd) fun σ H us G Q E rs rp q _ => by
    unfold tUVar at q
    split at q
    · rename_i u e
      obtain ⟨v, e2, r⟩ := rs.get e
      exact ⟨v, e2, .here rp r q⟩
    · exact q.elim
def tUC (u : U) : UTE := fun _ G Q _ => Q u G
theorem eu_c {u : U} {v : V} (h : PE X e (tC v)) (r : ∀ H, RelU X.K H u v) : EU X W e (tUC u) := .of h fun σ H us G Q E rs rp q _ => LV.here rp (r H) q
theorem eu_int {i j} : EU X W (.Constant (.int i) j pos) (tUC (.int i)) := eu_c pe_int fun _ => rfl
theorem eu_bl {i j} : EU X W (.Constant (.bool i) j pos) (tUC (.bl i)) := eu_c pe_bl fun _ => rfl
theorem eu_non {j} : EU X W (.Constant .none j pos) (tUC .non) := eu_c pe_non fun _ => rfl
theorem eu_str {x : Str} {j} : EU X W (.Constant (.str x) j pos) (tUC (.str x.cps.toList)) := eu_c pe_str fun _ => by
  show V.str x = V.str ⟨x.cps.toList.toArray⟩
  rfl

/-! ### operators by values -/
abbrev UR2 := U → U → Gp → UK → UX → Prop
def OpU (X : Cx) (W : WX) (f : Value → Value → Sem Value) (r : UR2) : Prop :=
  ∀ (pins : List (Addr × Obj)) (s : Shared) (σ : L2.St) (H : Hp) (x y : V) (v u : Value) (a b : U) (G : Gp) (Q : UK) (E : UX), Inv X pins σ H s → RelV x v → RelV y u → RelU X.K H a x → RelU X.K H b y → Rep X.K H G → r a b G Q E →
    (∀ c d H', LX X.K H G E c d H' → W c d σ H') → wpAny (model X.prog X.w) X.A (f v u) (EP X pins σ (LV X.K H G Q)) X.xe s
theorem OpU.of {f : Value → Value → Sem Value} {r : UR2} {rv : R2} (h : OpR X f rv) (k : ∀ x y H a b G Q E, RelU X.K H a x → RelU X.K H b y → Rep X.K H G → r a b G Q E → rv x y H (LV X.K H G Q)) : OpU X W f r :=
  fun pins s σ H x y v u a b G Q E I rx ry ra rb rp hr _ => h pins s σ H x y v u _ I rx ry (k x y H a b G Q E ra rb rp hr)
theorem OpU.imp {f : Value → Value → Sem Value} {r r' : UR2} (h : OpU X W f r) (k : ∀ a b G Q E, r' a b G Q E → r a b G Q E) : OpU X W f r' :=
  fun pins s σ H x y v u a b G Q E I rx ry ra rb rp hr hx => h pins s σ H x y v u a b G Q E I rx ry ra rb rp (k _ _ _ _ _ hr) hx
def tUOp (r : UR2) (ta tb : UTE) : UTE := fun us G Q E => ta us G (fun u G1 => tb us G1 (fun w G2 => r u w G2 Q E) E) E
/-- two expressions in a row -/
theorem bin2 (ha : EU X W a ta) (hb : EU X W b tb) {pins : List (Addr × Obj)} {s : Shared} {σ : L2.St} {H : Hp} {us : USt} {G : Gp} {E : UX} {R : U → U → Gp → Prop} (I : Inv X pins σ H s) (rs : RelS X.K H us σ) (rp : Rep X.K H G)
    (h : ta us G (fun u G1 => tb us G1 (fun w G2 => R u w G2) E) E) (hx : ∀ c d H', LX X.K H G E c d H' → W c d σ H') {Q : Value → Shared → Prop} {f : Value → Value → Sem Value}
    (hf : ∀ v u s2 x y H2 p q G2, Inv X pins σ H2 s2 → RelV x v → RelV y u → Ext H G H2 G2 → Rep X.K H2 G2 → RelS X.K H2 us σ → RelU X.K H2 p x → RelU X.K H2 q y → R p q G2 → (∀ c d H', LX X.K H2 G2 E c d H' → W c d σ H') → wpAny (model X.prog X.w) X.A (f v u) Q X.xe s2) :
    wpAny (model X.prog X.w) X.A (eval a X.env) (fun v s₁ => wpAny (model X.prog X.w) X.A (eval b X.env) (fun u s₂ => wpAny (model X.prog X.w) X.A (f v u) Q X.xe s₂) X.xe s₁) X.xe s := by
  refine thn (ha.run pins s σ H us G _ E I rs rp h hx) fun v s1 ⟨x, H1, I1, r1, p, G1, x1, rp1, rp', q1⟩ => ?_
  refine thn (hb.run pins s1 σ H1 us G1 _ E I1 (rs.ext x1 rp) rp1 q1 fun c d H' h => hx c d H' (h.trans x1)) fun u s2 ⟨y, H2, I2, r2, q, G2, x2, rp2, rq, q2⟩ => ?_
  exact hf v u s2 x y H2 p q G2 I2 r1 r2 (x1.trans x2) rp2 ((rs.ext x1 rp).ext x2 rp1) (rp'.ext x2 rp1) rq q2 fun c d H' h => hx c d H' (h.trans (x1.trans x2))
theorem lv_pins {pins : List (Addr × Obj)} {σ : L2.St} {H H2 : Hp} {G G2 : Gp} {Q : UK} {u : Value} {s : Shared} (x : Ext H G H2 G2) : EP X pins σ (LV X.K H2 G2 Q) u s → EP X pins σ (LV X.K H G Q) u s := ep_imp fun _ _ h => h.trans x
theorem eu_bin {op : Operator} {r : UR2} (ho : OpU X W (binaryOp op) r) (ha : EU X W a ta) (hb : EU X W b tb) : EU X W (.BinOp a op b pos) (tUOp r ta tb) := by
  refine ⟨fun pins s σ H us G Q E I rs rp h hx => ?_⟩
  exact wpAny_BinOp (bin2 ha hb I rs rp h hx fun v u s2 x y H2 p q G2 I2 r1 r2 ex rp2 rs2 rp' rq hr hx2 => thn (ho pins s2 σ H2 x y v u p q G2 Q E I2 r1 r2 rp' rq rp2 hr hx2) fun _ _ h => lv_pins ex h)
theorem eu_cmp {op : CmpOp} {r : UR2} (ho : OpU X W (compareOp op) r) (ha : EU X W a ta) (hb : EU X W b tb) (hm : behindInMarks op b = false) : EU X W (.Compare a [op] [b] pos) (tUOp r ta tb) := by
  refine ⟨fun pins s σ H us G Q E I rs rp h hx => ?_⟩
  exact wpAny_Compare1 (bin2 ha hb I rs rp h hx fun v u s2 x y H2 p q G2 I2 r1 r2 ex rp2 rs2 rp' rq hr hx2 => thn (ho pins s2 σ H2 x y v u p q G2 Q E I2 r1 r2 rp' rq rp2 hr hx2) fun _ _ h => lv_pins ex h) hm
/-- a comparison as a test: its answer is a truth value -/
def kBl (Q : Bool → Gp → Prop) : UK := fun u G => match u with
  | .bl b => Q b G
  | _ => False
theorem tu_cmp {op : CmpOp} {r : UR2} (ho : OpU X W (compareOp op) r) (ha : EU X W a ta) (hb : EU X W b tb) (hm : behindInMarks op b = false) : TU X W (.Compare a [op] [b] pos) (fun us G Q E => tUOp r ta tb us G (kBl Q) E) := by
  refine ⟨fun pins s σ H us G Q E I rs rp h hx => ?_⟩
  refine wpAny_isTrue_Compare1 (thn (bin2 ha hb I rs rp h hx fun v u s2 x y H2 p q G2 I2 r1 r2 ex rp2 rs2 rp' rq hr hx2 => thn (ho pins s2 σ H2 x y v u p q G2 _ E I2 r1 r2 rp' rq rp2 hr hx2) fun _ _ h => lv_pins ex h) fun v s1 h1 => thn h1 fun u s2 h2 => thn h2 fun c s3 h3 => ?_) hm
  obtain ⟨x, H3, I3, rv, u', G3, x3, rp3, ru, q3⟩ := h3
  cases u' with
  | bl b =>
    obtain rfl : x = V.bl b := ru
    cases rv
    exact wpAny_truthy_bool ⟨H3, I3, G3, x3, rp3, q3⟩
  | _ => exact False.elim q3

/-! ### one-place operators -/
abbrev UR1 := U → Gp → UK → UX → Prop
def UnU (X : Cx) (W : WX) (f : Value → Sem Value) (r : UR1) : Prop :=
  ∀ (pins : List (Addr × Obj)) (s : Shared) (σ : L2.St) (H : Hp) (x : V) (v : Value) (a : U) (G : Gp) (Q : UK) (E : UX), Inv X pins σ H s → RelV x v → RelU X.K H a x → Rep X.K H G → r a G Q E →
    (∀ c d H', LX X.K H G E c d H' → W c d σ H') → wpAny (model X.prog X.w) X.A (f v) (EP X pins σ (LV X.K H G Q)) X.xe s
theorem UnU.of {f : Value → Sem Value} {r : UR1} {rv : V → Hp → VK → Prop} (h : UnR X f rv) (k : ∀ x H a G Q E, RelU X.K H a x → Rep X.K H G → r a G Q E → rv x H (LV X.K H G Q)) : UnU X W f r :=
  fun pins s σ H x v a G Q E I rx ra rp hr _ => h pins s σ H x v _ I rx (k x H a G Q E ra rp hr)
def tUUn (r : UR1) (ta : UTE) : UTE := fun us G Q E => ta us G (fun u G1 => r u G1 Q E) E
theorem eu_un {op : UnaryOp} {r : UR1} (ho : UnU X W (unaryOp op) r) (ha : EU X W a ta) : EU X W (.UnaryOp op a pos) (tUUn r ta) := by
  refine ⟨fun pins s σ H us G Q E I rs rp h hx => ?_⟩
  refine UnaryOp_ (thn (ha.run pins s σ H us G _ E I rs rp h hx) fun v s1 ⟨x, H1, I1, r1, p, G1, x1, rp1, rp', q1⟩ => ?_)
  exact thn (ho pins s1 σ H1 x v p G1 Q E I1 r1 rp' rp1 q1 fun c d H' h => hx c d H' (h.trans x1)) fun _ _ h => lv_pins x1 h

/-! ### tests -/
def TrU (X : Cx) (W : WX) (r : U → Gp → (Bool → Gp → Prop) → UX → Prop) : Prop :=
  ∀ (pins : List (Addr × Obj)) (s : Shared) (σ : L2.St) (H : Hp) (x : V) (v : Value) (a : U) (G : Gp) (Q : Bool → Gp → Prop) (E : UX), Inv X pins σ H s → RelV x v → RelU X.K H a x → Rep X.K H G → r a G Q E →
    (∀ c d H', LX X.K H G E c d H' → W c d σ H') → wpAny (model X.prog X.w) X.A (truthy v) (TP X pins σ (LB X.K H G Q)) X.xe s
/-- a value's truth -/
def tUTru (r : U → Gp → (Bool → Gp → Prop) → UX → Prop) (ta : UTE) : UTT := fun us G Q E => ta us G (fun u G1 => r u G1 Q E) E
theorem tu_val {r : U → Gp → (Bool → Gp → Prop) → UX → Prop} (ht : TrU X W r) (ha : EU X W e ta) (he : ∀ whole, isTrue e X.env whole = (do let v ← whole; standAt e.pos; holding [v] (truthy v))) : TU X W e (tUTru r ta) := by
  refine ⟨fun pins s σ H us G Q E I rs rp h hx => ?_⟩
  refine isTrue_plain (thn (ha.run pins s σ H us G _ E I rs rp h hx) fun v s1 ⟨x, H1, I1, r1, p, G1, x1, rp1, rp', q1⟩ => ?_) (he _)
  exact thn (ht pins s1 σ H1 x v p G1 Q E I1 r1 rp' rp1 q1 fun c d H' h => hx c d H' (h.trans x1)) fun _ _ ⟨H', I', q⟩ => ⟨H', I', q.trans x1⟩
def tUNot (t : UTT) : UTT := fun us G Q E => t us G (fun b G1 => Q (!b) G1) E
theorem tu_not (ha : TU X W a tt) : TU X W (.UnaryOp .Not a pos) (tUNot tt) := by
  refine ⟨fun pins s σ H us G Q E I rs rp h hx => ?_⟩
  exact thn (pt_not ha.pt |>.run pins s σ H (LB X.K H G Q) I ⟨us, G, _, E, rs, rp, h, fun b H' q => q, hx⟩) fun _ _ q => q
end
end UL
set_option maxHeartbeats 2000000
namespace UL
open PySem PySem.Spec PyProof.Rows L2

theorem lim_line {n : Nat} (h : n ≤ 1000000) : n ≤ sizeLine := by rw [sizeLine_eq]; omega
theorem lim_lt {n : Nat} (h : n < 1000000) : n < sizeLine := by rw [sizeLine_eq]; omega

/-! ### what U tells -/
section
variable {K : PySem.W.Frag} {H : Hp} {G : Gp}
theorem RelU.int_of {i : Int} {v : V} (h : RelU K H (.int i) v) : v = .int i := h
theorem RelU.tup_of {us : List U} {v : V} (h : RelU K H (.tup us) v) : ∃ a vs, v = .ref a ∧ SqT K H a vs ∧ RelUs K H us vs := h
theorem Rep.lst {a : Addr} {us : List U} (r : Rep K H G) (h : G a = some (.lst us)) : ∃ vs, H a = some (.lst vs) ∧ RelUs K H us vs := r a _ h
theorem Rep.dct {a : Addr} {us : List (U × U)} (r : Rep K H G) (h : G a = some (.dct us)) : ∃ vs, H a = some (.dK vs) ∧ RelKV K H us vs := r a _ h
theorem Rep.ins {a : Addr} {c : String} {fs : List (String × U)} (r : Rep K H G) (h : G a = some (.ins c fs)) : ∃ dx gs, H a = some (.ins (He.ga K (S c)) dx gs) ∧ RelF K H (He.ga K (S c)) fs gs := r a _ h
end

/-! ### new objects -/
section
variable {K : PySem.W.Frag} {H : Hp} {G : Gp} {Q : UK}
theorem lv_int (r : Rep K H G) {i : Int} (q : Q (.int i) G) : LV K H G Q (.int i) H := LV.here (u := .int i) r rfl q
theorem lv_bl (r : Rep K H G) {i : Bool} (q : Q (.bl i) G) : LV K H G Q (.bl i) H := LV.here (u := .bl i) r rfl q
theorem lv_non (r : Rep K H G) (q : Q .non G) : LV K H G Q .non H := LV.here (u := .non) r rfl q
theorem lv_str (r : Rep K H G) {l : List Nat} (q : Q (.str l) G) : LV K H G Q (.str ⟨l.toArray⟩) H := LV.here (u := .str l) r rfl q
theorem lv_ref (r : Rep K H G) {a : Addr} (q : Q (.ref a) G) : LV K H G Q (.ref a) H := LV.here (u := .ref a) r rfl q
theorem lv_old (r : Rep K H G) {us : List U} {a : Addr} {vs : List V} (t : SqT K H a vs) (h : RelUs K H us vs) (q : Q (.tup us) G) : LV K H G Q (.ref a) H := LV.here (u := .tup us) r ⟨a, vs, rfl, t, h⟩ q
theorem lv_tup (r : Rep K H G) {us : List U} {vs : List V} (h : RelUs K H us vs) {p : Addr} (hp : H p = none) (q : Q (.tup us) G) : LV K H G Q (.ref p) (upd H p (.tup vs)) := by
  obtain ⟨r1, x1⟩ := r.laid0 (u := .tup vs) hp
  exact ⟨.tup us, G, x1, r1, ⟨p, vs, rfl, .of upd_same, h.ext x1 r⟩, q⟩
theorem lv_lst (r : Rep K H G) {us : List U} {vs : List V} (h : RelUs K H us vs) {p : Addr} (hp : H p = none) (q : Q (.ref p) (gup G p (.lst us))) : LV K H G Q (.ref p) (upd H p (.lst vs)) := by
  have x0 : Ext H G (upd H p (.lst vs)) G := (r.laid0 hp).2
  obtain ⟨r1, x1⟩ := r.laid (u := .lst vs) (o := .lst us) hp ⟨vs, upd_same, h.ext x0 r⟩
  exact ⟨.ref p, _, x1, r1, rfl, q⟩
theorem lv_setl (r : Rep K H G) {a : Addr} {o : Ob} (ho : G a = some o) {us : List U} {vs : List V} (h : RelUs K H us vs) {u : U} {v : V} (hu : RelU K H u v) (q : Q u (gup G a (.lst us))) : LV K H G Q v (upd H a (.lst vs)) := by
  have ne : ∀ b, G b = none → b ≠ a := fun b g z => by rw [z, ho] at g; cases g
  have x0 : Ext H G (upd H a (.lst vs)) (gup G a (.lst us)) := fun b w h g => ⟨by rw [upd_ne (ne b g)]; exact h, by rw [gup_ne (ne b g)]; exact g⟩
  obtain ⟨r1, x1⟩ := r.write (u := .lst vs) (o := .lst us) ho ⟨vs, upd_same, h.ext x0 r⟩
  exact ⟨u, _, x1, r1, hu.ext x1 r, q⟩
end

/-! ### data -/
mutual
inductive Dat (G : Gp) : U → PyData → Prop
  | non : Dat G .non .none
  | bl (b : Bool) : Dat G (.bl b) (.bool b)
  | int (i : Int) : Dat G (.int i) (.int i)
  | str (l : List Nat) : Dat G (.str l) (.str ⟨l.toArray⟩)
  | tup {us : List U} {ds : List PyData} : Dats G us ds → Dat G (.tup us) (.tuple ds)
  | lst {a : Addr} {us : List U} {ds : List PyData} : G a = some (.lst us) → Dats G us ds → Dat G (.ref a) (.list ds)
inductive Dats (G : Gp) : List U → List PyData → Prop
  | nil : Dats G [] []
  | cons {u : U} {us : List U} {d : PyData} {ds : List PyData} : Dat G u d → Dats G us ds → Dats G (u :: us) (d :: ds)
end
section
variable {K : PySem.W.Frag} {H : Hp} {G : Gp}
mutual
theorem Dat.dp (r : Rep K H G) : ∀ (d : PyData) (u : U) (v : V), Dat G u d → RelU K H u v → Dp K H v d
  | _, _, v, .non, e => by rw [show v = .non from e]; exact .non
  | _, _, v, .bl b, e => by rw [show v = .bl b from e]; exact .bl b
  | _, _, v, .int i, e => by rw [show v = .int i from e]; exact .int i
  | _, _, v, .str l, e => by rw [show v = .str ⟨l.toArray⟩ from e]; exact .str _
  | .tuple ds, _, v, .tup h, e => by
    obtain ⟨a, vs, rfl, ht, hr⟩ := e.tup_of
    exact .tup ht (Dats.dp r ds _ vs h hr)
  | .list ds, _, v, .lst hg h, e => by
    rw [show v = .ref _ from e]
    obtain ⟨vs, e1, hr⟩ := r.lst hg
    exact .lst (.of e1) (Dats.dp r ds _ vs h hr)
theorem Dats.dp (r : Rep K H G) : ∀ (ds : List PyData) (us : List U) (vs : List V), Dats G us ds → RelUs K H us vs → DpAll K H vs ds
  | [], _, vs, .nil, e => by
    have e' : vs = [] := e
    subst e'
    exact .nil
  | d :: ds, _, vs, .cons h t, e => by
    obtain ⟨v, ws, rfl, hv, hs⟩ := e
    exact .cons (Dat.dp r d _ v h hv) (Dats.dp r ds _ ws t hs)
end
end

/-! ### arithmetic -/
def addU : UR2 := fun x y G Q _ => match x, y with
  | .int i, .int j => Q (.int (i + j)) G
  | .str a, .str b => a.length + b.length ≤ 1000000 ∧ Q (.str (a ++ b)) G
  | .tup a, .tup b => a.length + b.length ≤ 1000000 ∧ Q (.tup (a ++ b)) G
  | .ref a, .ref b => ∃ xs ys, G a = some (.lst xs) ∧ G b = some (.lst ys) ∧ xs.length + ys.length ≤ 1000000 ∧ ∀ p, G p = none → Q (.ref p) (gup G p (.lst (xs ++ ys)))
  | _, _ => False
def subU : UR2 := fun x y G Q _ => match x, y with
  | .int i, .int j => Q (.int (i - j)) G
  | _, _ => False
/-- one factor below 2^64 -/
def mulU : UR2 := fun x y G Q _ => match x, y with
  | .int i, .int j => CMul i j ∧ Q (.int (i * j)) G
  | .tup a, .int k => a ≠ [] ∧ a.length ≤ 1000 ∧ 0 ≤ k ∧ k ≤ 1000 ∧ Q (.tup (List.replicate k.toNat a).flatten) G
  | .ref a, .int k => ∃ xs, G a = some (.lst xs) ∧ -(2 ^ 63) ≤ k ∧ k < 2 ^ 63 ∧ xs.length * k.toNat ≤ 1000000 ∧ ∀ p, G p = none → Q (.ref p) (gup G p (.lst (List.replicate k.toNat xs).flatten))
  | _, _ => False
def modU : UR2 := fun x y G Q _ => match x, y with
  | .int i, .int j => 0 < j ∧ Q (.int (i % j)) G
  | _, _ => False
def fdivU : UR2 := fun x y G Q _ => match x, y with
  | .int i, .int j => (0 < j ∧ j < 1073741824) ∧ Q (.int (i / j)) G
  | _, _ => False
def powU : UR2 := fun x y G Q _ => match x, y with
  | .int i, .int j => CPow i j ∧ Q (.int (i ^ j.toNat)) G
  | _, _ => False
def shlU : UR2 := fun x y G Q _ => match x, y with
  | .int i, .int j => CPow i j ∧ Q (.int (i * 2 ^ j.toNat)) G
  | _, _ => False
section
variable {X : Cx} {W : WX}
theorem str_app {a b : List Nat} : (⟨a.toArray⟩ : Str) ++ (⟨b.toArray⟩ : Str) = ⟨(a ++ b).toArray⟩ := by
  show (⟨a.toArray ++ b.toArray⟩ : Str) = _
  simp
theorem ou_add : OpU X W (binaryOp .Add) addU := by
  intro pins s σ H x y v u a b G Q E I rx ry ra rb rp hr hx
  cases a <;> cases b <;> try exact hr.elim
  case int.int i j => exact op_add pins s σ H x y v u _ I rx ry ⟨i, j, ra, rb, lv_int rp hr⟩
  case str.str i j =>
    refine op_add_str pins s σ H x y v u _ I rx ry ⟨_, _, ra, rb, ?_, ?_⟩
    · show i.toArray.size + j.toArray.size ≤ sizeLine
      simp only [List.size_toArray]
      exact lim_line hr.1
    · exact (by rw [str_app]; exact lv_str rp hr.2)
  case tup.tup i j =>
    obtain ⟨pa, vs, ea, ta, sa⟩ := ra.tup_of
    obtain ⟨pb, ws, eb, tb, sb⟩ := rb.tup_of
    refine op_catA pins s σ H x y v u _ I rx ry ⟨pa, pb, vs, ws, ea, eb, ta, tb, by rw [sa.length, sb.length]; exact lim_line hr.1, fun e => ?_, fun ne e => ?_, fun n1 n2 p hp => ?_⟩
    · subst e
      have : i = [] := List.eq_nil_of_length_eq_zero sa.length.symm
      subst this
      exact lv_old rp tb sb (by simpa using hr.2)
    · subst e
      have : j = [] := List.eq_nil_of_length_eq_zero sb.length.symm
      subst this
      exact lv_old rp ta sa (by simpa using hr.2)
    · exact lv_tup rp (sa.append sb) hp hr.2
  case ref.ref i j =>
    obtain ⟨xs, ys, g1, g2, hl, hr⟩ := hr
    obtain ⟨vs, e1, r1⟩ := rp.lst g1
    obtain ⟨ws, e2, r2⟩ := rp.lst g2
    exact op_cat pins s σ H x y v u _ I rx ry ⟨i, j, vs, ws, ra, rb, e1, e2, by rw [r1.length, r2.length]; exact lim_line hl, fun p hp => lv_lst rp (r1.append r2) hp (hr p (rp.fresh hp))⟩
theorem ou_sub : OpU X W (binaryOp .Sub) subU := by
  intro pins s σ H x y v u a b G Q E I rx ry ra rb rp hr hx
  cases a <;> cases b <;> try exact hr.elim
  case int.int i j => exact op_sub pins s σ H x y v u _ I rx ry ⟨i, j, ra, rb, lv_int rp hr⟩
theorem ou_mod : OpU X W (binaryOp .Mod) modU := by
  intro pins s σ H x y v u a b G Q E I rx ry ra rb rp hr hx
  cases a <;> cases b <;> try exact hr.elim
  case int.int i j => exact op_mod pins s σ H x y v u _ I rx ry ⟨i, j, ra, rb, hr.1, lv_int rp hr.2⟩
theorem ou_fdiv : OpU X W (binaryOp .FloorDiv) fdivU := by
  intro pins s σ H x y v u a b G Q E I rx ry ra rb rp hr hx
  cases a <;> cases b <;> try exact hr.elim
  case int.int i j => exact op_fdiv pins s σ H x y v u _ I rx ry ⟨i, j, ra, rb, hr.1, lv_int rp hr.2⟩
theorem ou_pow : OpU X W (binaryOp .Pow) powU := by
  intro pins s σ H x y v u a b G Q E I rx ry ra rb rp hr hx
  cases a <;> cases b <;> try exact hr.elim
  case int.int i j => exact op_pow pins s σ H x y v u _ I rx ry ⟨i, j, ra, rb, hr.1, lv_int rp hr.2⟩
theorem ou_shl : OpU X W (binaryOp .LShift) shlU := by
  intro pins s σ H x y v u a b G Q E I rx ry ra rb rp hr hx
  cases a <;> cases b <;> try exact hr.elim
  case int.int i j => exact op_shl pins s σ H x y v u _ I rx ry ⟨i, j, ra, rb, hr.1, lv_int rp hr.2⟩
end
end UL
set_option maxHeartbeats 400000
namespace UL
open PySem PySem.Spec PyProof.Rows L2
theorem tup_mul1 (l : Addr) (items : Array Value) (n : Nat) (dd : Option Addr) (sl : Array (Option Value)) (u : Tok) :
    Meets (Builtin.«tuple.__mul__» ⟨[.ref l, .int 1 u], []⟩) (fun _ R s => s.heap.get? l = some { cls := .type "tuple", dict := dd, data := .seq items n, slots := sl } ∧ R (.ok (.ret (.ref l))) s) :=
  .of_wp fun prog w A R s h => by
    obtain ⟨hp, g, d, tk, os⟩ := s
    obtain ⟨hl, h⟩ := h
    have f1 := AutoSeq1.idx_int
    wp_walk using wpAny_loadPart' hl
    exact ⟨_, rfl, h⟩
theorem tup_mul0 (l : Addr) (items : Array Value) (n : Nat) (dd : Option Addr) (sl : Array (Option Value)) (x : Int) (u : Tok) (c0 : (decide (x < -(2 ^ 63)) || decide (x ≥ 2 ^ 63)) = false) (c1 : (items.isEmpty || x == 1) = false) (c2 : (decide (x ≤ 0) || items.isEmpty) = true) :
    Meets (Builtin.«tuple.__mul__» ⟨[.ref l, .int x u], []⟩) (fun _ R s => s.heap.get? l = some { cls := .type "tuple", dict := dd, data := .seq items n, slots := sl } ∧
      R (.ok (.ret (Value.ref s.heap.objs.size))) { s with heap := s.heap.push { cls := Value.type "tuple", data := Data.seq #[] }, toks := s.toks }) :=
  .of_wp fun prog w A R s h => by
    obtain ⟨hp, g, d, tk, os⟩ := s
    obtain ⟨hl, h⟩ := h
    have f1 := AutoSeq1.idx_int
    wp_walk using wpAny_loadPart' hl
    repeat (first
      | (refine wpAny_ite_false (decide_eq_false (by rw [c0]; exact Bool.false_ne_true)) ?_; wp_walk using wpAny_loadPart' hl)
      | (refine wpAny_ite_false (decide_eq_false (by rw [c1]; exact Bool.false_ne_true)) ?_; wp_walk using wpAny_loadPart' hl)
      | (refine wpAny_ite_true (decide_eq_true c2) ?_; wp_walk using wpAny_loadPart' hl))
    exact ⟨_, rfl, h⟩
section
variable {X : Cx} {W : WX}
/-- t * 0, t * 1 -/
def rRep01 (K : PySem.W.Frag) : R2 := fun x y H Q => ∃ l xs, x = .ref l ∧ SqT K H l xs ∧ xs ≠ [] ∧ ((y = .int 1 ∧ Q (.ref l) H) ∨ (y = .int 0 ∧ ∀ p, H p = none → Q (.ref p) (upd H p (.tup []))))
theorem op_rep01 : OpR X (binaryOp .Mult) (rRep01 X.K) := by
  intro pins s σ H x y v u Q I rx ry h
  obtain ⟨l, xs, rfl, hT, hne, h⟩ := h
  cases rx
  obtain ⟨its, r, ⟨⟨cls, dd, data, sl⟩, ho, hc, n, hd⟩, hs⟩ := I.tuple hT
  simp only at hc hd
  subst hc hd
  have hn : its ≠ [] := fun e => hne (by
    rw [e] at r
    exact List.eq_nil_of_length_eq_zero r.length)
  have hi : its.toArray.isEmpty = false := by
    cases its with
    | nil => exact absurd rfl hn
    | cons a b => rfl
  rcases h with ⟨rfl, q⟩ | ⟨rfl, q⟩
  · obtain ⟨t, rfl⟩ := ry
    exact wpAny_binaryOp_repeat_ref (T := "tuple") (U := "int") (by decide) ⟨_, ho, rfl⟩ (fun s' => typeIs_int s' 1 t) noFill_tuple_mul F.fills_int_mul F.slot_int_rmul repeat_tuple F.slot_int_index.lookup
      (call_meets F.slot_int_rmul (typeIs_int s 1 t) F.entry_int_rmul (F.args_int_rmul_2 _ _) (int_rmul_tuple 1 t l its.toArray n dd sl)
        ⟨ho, rfl, ⟨_, ho, rfl⟩, call_meets F.slot_tuple_mul ⟨_, ho, rfl⟩ F.entry_tuple_mul (F.args_tuple_mul_2 _ _) (tup_mul1 l its.toArray n dd sl t) ⟨ho, .ref l, H, I, rfl, q⟩⟩)
  · obtain ⟨t, rfl⟩ := ry
    refine wpAny_binaryOp_repeat_ref (T := "tuple") (U := "int") (by decide) ⟨_, ho, rfl⟩ (fun s' => typeIs_int s' 0 t) noFill_tuple_mul F.fills_int_mul F.slot_int_rmul repeat_tuple F.slot_int_index.lookup
      (call_meets F.slot_int_rmul (typeIs_int s 0 t) F.entry_int_rmul (F.args_int_rmul_2 _ _) (int_rmul_tuple 0 t l its.toArray n dd sl)
        ⟨ho, rfl, ⟨_, ho, rfl⟩, call_meets F.slot_tuple_mul ⟨_, ho, rfl⟩ F.entry_tuple_mul (F.args_tuple_mul_2 _ _) (tup_mul0 l its.toArray n dd sl 0 t (by decide) (by rw [hi]; rfl) (by rfl)) ⟨ho, ?_⟩⟩)
    refine ⟨.ref s.heap.objs.size, _, I.laid (t' := s.toks) (o := .tup []) (fun b ob q => Heap.get?_push_of_some _ q) (Nat.le_refl _) ?_, rfl, q _ (I.hok.fresh (Nat.le_refl _))⟩
    exact ⟨Nat.zero_le _, [], .nil, IsTup.new _ _⟩
theorem ou_mul : OpU X W (binaryOp .Mult) mulU := by
  intro pins s σ H x y v u a b G Q E I rx ry ra rb rp hr hx
  cases a <;> cases b <;> try exact hr.elim
  case int.int i j => exact op_mul pins s σ H x y v u _ I rx ry ⟨i, j, ra, rb, hr.1, lv_int rp hr.2⟩
  case tup.int i k =>
    obtain ⟨hne, hl, k0, k1, q⟩ := hr
    obtain ⟨pa, vs, ea, ta, sa⟩ := ra.tup_of
    have hv : vs ≠ [] := fun e => hne (by
      rw [e] at sa
      exact List.eq_nil_of_length_eq_zero sa.length.symm)
    by_cases h0 : k = 0
    · subst h0
      refine op_rep01 pins s σ H x y v u _ I rx ry ⟨pa, vs, ea, ta, hv, .inr ⟨rb, fun p hp => ?_⟩⟩
      exact lv_tup (us := []) rp rfl hp q
    · by_cases h1 : k = 1
      · subst h1
        refine op_rep01 pins s σ H x y v u _ I rx ry ⟨pa, vs, ea, ta, hv, .inl ⟨rb, ?_⟩⟩
        exact lv_old rp ta sa (by simpa using q)
      · exact op_repT pins s σ H x y v u _ I rx ry ⟨pa, k, vs, ea, rb, ta, hv, by omega, k1, by rw [sa.length]; exact hl, fun p hp => lv_tup rp (sa.rep _) hp q⟩
  case ref.int i k =>
    obtain ⟨xs, g1, k0, k1, hl, q⟩ := hr
    obtain ⟨vs, e1, r1⟩ := rp.lst g1
    exact op_rep pins s σ H x y v u _ I rx ry ⟨i, k, vs, ra, rb, e1, k0, k1, by rw [r1.length]; exact lim_line hl, fun p hp => lv_lst rp (r1.rep _) hp (q p (rp.fresh hp))⟩
end
end UL
set_option maxHeartbeats 400000
namespace UL
open PySem PySem.Spec PyProof.Rows L2

/-! ### comparisons -/
def ueq : U → U → Bool
  | .non, .non => true
  | .bl a, .bl b => a == b
  | .bl a, .int b => (if a then 1 else 0) == b
  | .int a, .bl b => a == (if b then 1 else 0)
  | .int a, .int b => a == b
  | .str a, .str b => a == b
  | _, _ => false
def uflat : U → Bool
  | .non => true
  | .bl _ => true
  | .int _ => true
  | .str _ => true
  | _ => false
theorem arr_eq {a b : List Nat} : ((⟨a.toArray⟩ : Str) == (⟨b.toArray⟩ : Str)) = (a == b) := by
  by_cases h : a = b
  · subst h
    rw [beq_self_eq_true, beq_self_eq_true]
  · have h2 : ¬ (⟨a.toArray⟩ : Str) = (⟨b.toArray⟩ : Str) := fun e => h (by
      have e' : a.toArray = b.toArray := congrArg Str.cps e
      simpa using e')
    rw [beq_eq_false_iff_ne.mpr h, beq_eq_false_iff_ne.mpr h2]
section
variable {K : PySem.W.Frag} {H : Hp} {G : Gp}
theorem flat_of {u : U} {v : V} (r : RelU K H u v) (h : uflat u = true) : flatV v = true := by
  cases u with
  | non => rw [show v = .non from r]; rfl
  | bl b => rw [show v = .bl b from r]; rfl
  | int b => rw [show v = .int b from r]; rfl
  | str b => rw [show v = .str ⟨b.toArray⟩ from r]; rfl
  | _ => cases h
theorem eqV_of {u w : U} {v z : V} (r : RelU K H u v) (q : RelU K H w z) (h : uflat u = true) (h2 : uflat w = true) : eqV v z = ueq u w := by
  cases u <;> first | (cases h; done) | skip
  all_goals (cases w <;> first | (cases h2; done) | skip)
  all_goals (have r' := r; have q' := q; simp only [RelU] at r' q'; subst r' q'; first | rfl | exact arr_eq)
theorem flatAll_of : ∀ {us : List U} {vs : List V}, RelUs K H us vs → us.all uflat = true → vs.all flatV = true
  | [], _, e, _ => by
    have e' : _ = ([] : List V) := e
    subst e'
    rfl
  | u :: us, _, ⟨v, ws, rfl, h, t⟩, a => by
    rw [List.all_cons, Bool.and_eq_true] at a
    rw [List.all_cons, flat_of h a.1, flatAll_of t a.2]
    rfl
theorem inV_of {x : U} {z : V} (rx : RelU K H x z) (fx : uflat x = true) : ∀ {us : List U} {vs : List V}, RelUs K H us vs → us.all uflat = true → inV z vs = us.any fun y => ueq y x
  | [], _, e, _ => by
    have e' : _ = ([] : List V) := e
    subst e'
    rfl
  | u :: us, _, ⟨v, ws, rfl, h, t⟩, a => by
    rw [List.all_cons, Bool.and_eq_true] at a
    have ih := inV_of rx fx t a.2
    unfold inV at ih ⊢
    rw [List.any_cons, List.any_cons, eqV_of h rx a.1 fx, ih]
end

def eqU : UR2 := fun x y G Q _ => match x, y with
  | .int i, .int j => Q (.bl (decide (i = j))) G
  | .str i, .str j => Q (.bl (decide (i = j))) G
  | .non, .non => Q (.bl true) G
  | x, y => ∃ d e, Dat G x d ∧ Dat G y e ∧ SeqAt.shaped d = true ∧ SeqAt.shaped e = true ∧ Q (.bl (PyData.eqv d e)) G
def neU : UR2 := fun x y G Q _ => match x, y with
  | .int i, .int j => Q (.bl (!decide (i = j))) G
  | .str i, .str j => Q (.bl (!decide (i = j))) G
  | .non, .non => Q (.bl false) G
  | x, y => ∃ d e, Dat G x d ∧ Dat G y e ∧ SeqAt.shaped d = true ∧ SeqAt.shaped e = true ∧ Q (.bl (!PyData.eqv d e)) G
def ltU : UR2 := fun x y G Q _ => match x, y with
  | .int i, .int j => Q (.bl (decide (i < j))) G
  | .str i, .str j => Q (.bl (decide (i < j))) G
  | _, _ => False
def leU : UR2 := fun x y G Q _ => match x, y with
  | .int i, .int j => Q (.bl (decide (i ≤ j))) G
  | .str i, .str j => Q (.bl (!decide (j < i))) G
  | _, _ => False
def gtU : UR2 := fun x y G Q _ => match x, y with
  | .int i, .int j => Q (.bl (decide (j < i))) G
  | .str i, .str j => Q (.bl (decide (j < i))) G
  | _, _ => False
def geU : UR2 := fun x y G Q _ => match x, y with
  | .int i, .int j => Q (.bl (decide (j ≤ i))) G
  | .str i, .str j => Q (.bl (!decide (i < j))) G
  | _, _ => False
def inU : UR2 := fun x y G Q _ => match x, y with
  | .str c, .str l => ∃ k, c = [k] ∧ Q (.bl (decide (k ∈ l))) G
  | x, .tup us => uflat x = true ∧ us.all uflat = true ∧ Q (.bl (us.any fun y => ueq y x)) G
  | x, .ref a => ∃ us, G a = some (.lst us) ∧ uflat x = true ∧ us.all uflat = true ∧ Q (.bl (us.any fun y => ueq y x)) G
  | _, _ => False
def notInU : UR2 := fun x y G Q _ => match x, y with
  | .str c, .str l => ∃ k, c = [k] ∧ Q (.bl (!decide (k ∈ l))) G
  | x, .tup us => uflat x = true ∧ us.all uflat = true ∧ Q (.bl (!us.any fun y => ueq y x)) G
  | x, .ref a => ∃ us, G a = some (.lst us) ∧ uflat x = true ∧ us.all uflat = true ∧ Q (.bl (!us.any fun y => ueq y x)) G
  | _, _ => False
def isNonU : U → Bool
  | .non => true
  | _ => false
def isU : UR2 := fun x y G Q _ => match x, y with
  | .bl i, .bl j => Q (.bl (decide (i = j))) G
  | .ref a, .ref b => ∃ oa ob, G a = some oa ∧ G b = some ob ∧ (∀ k, oa ≠ .dct k) ∧ (∀ k, ob ≠ .dct k) ∧ Q (.bl (decide (a = b))) G
  | x, .non => Q (.bl (isNonU x)) G
  | _, _ => False
def isNotU : UR2 := fun x y G Q _ => match x, y with
  | .bl i, .bl j => Q (.bl (!decide (i = j))) G
  | .ref a, .ref b => ∃ oa ob, G a = some oa ∧ G b = some ob ∧ (∀ k, oa ≠ .dct k) ∧ (∀ k, ob ≠ .dct k) ∧ Q (.bl (!decide (a = b))) G
  | x, .non => Q (.bl (!isNonU x)) G
  | _, _ => False
section
variable {X : Cx} {W : WX}
theorem dec_strU {i j : List Nat} : decide (V.str ⟨i.toArray⟩ = V.str ⟨j.toArray⟩) = decide (i = j) := by
  by_cases h : i = j
  · subst h
    simp
  · have h2 : ¬ V.str ⟨i.toArray⟩ = V.str ⟨j.toArray⟩ := fun e => h (by
      have e' : i.toArray = j.toArray := congrArg Str.cps (V.str.inj e)
      simpa using e')
    rw [decide_eq_false h, decide_eq_false h2]
theorem dec_intU {i j : Int} : decide (V.int i = V.int j) = decide (i = j) := by
  by_cases h : i = j
  · subst h
    simp
  · have h2 : ¬ V.int i = V.int j := fun e => h (V.int.inj e)
    rw [decide_eq_false h, decide_eq_false h2]
theorem ou_eq (hu : X.A.units + 64 < cLine) : OpU X W (compareOp .Eq) eqU := by
  intro pins s σ H x y v u a b G Q E I rx ry ra rb rp hr hx
  unfold eqU at hr
  split at hr
  · exact op_eq pins s σ H x y v u _ I rx ry (by
      rw [show x = .int _ from ra, show y = .int _ from rb]
      exact ⟨rfl, by rw [dec_intU]; exact lv_bl rp hr⟩)
  · exact op_eq pins s σ H x y v u _ I rx ry (by
      rw [show x = .str _ from ra, show y = .str _ from rb]
      exact ⟨rfl, by rw [dec_strU]; exact lv_bl rp hr⟩)
  · exact op_eq pins s σ H x y v u _ I rx ry (by
      rw [show x = .non from ra, show y = .non from rb]
      exact ⟨rfl, lv_bl rp hr⟩)
  · obtain ⟨d, e, h1, h2, h3, h4, q⟩ := hr
    exact op_eqD hu pins s σ H x y v u _ I rx ry ⟨d, e, h1.dp rp _ _ _ ra, h2.dp rp _ _ _ rb, h3, h4, lv_bl rp q⟩
theorem ou_ne (hu : X.A.units + 64 < cLine) : OpU X W (compareOp .NotEq) neU := by
  intro pins s σ H x y v u a b G Q E I rx ry ra rb rp hr hx
  unfold neU at hr
  split at hr
  · exact op_ne pins s σ H x y v u _ I rx ry (by
      rw [show x = .int _ from ra, show y = .int _ from rb]
      exact ⟨rfl, by rw [dec_intU]; exact lv_bl rp hr⟩)
  · exact op_ne pins s σ H x y v u _ I rx ry (by
      rw [show x = .str _ from ra, show y = .str _ from rb]
      exact ⟨rfl, by rw [dec_strU]; exact lv_bl rp hr⟩)
  · exact op_ne pins s σ H x y v u _ I rx ry (by
      rw [show x = .non from ra, show y = .non from rb]
      exact ⟨rfl, lv_bl rp hr⟩)
  · obtain ⟨d, e, h1, h2, h3, h4, q⟩ := hr
    exact op_neD hu pins s σ H x y v u _ I rx ry ⟨d, e, h1.dp rp _ _ _ ra, h2.dp rp _ _ _ rb, h3, h4, lv_bl rp q⟩
theorem ou_lt : OpU X W (compareOp .Lt) ltU := by
  intro pins s σ H x y v u a b G Q E I rx ry ra rb rp hr hx
  cases a <;> cases b <;> try exact hr.elim
  case int.int i j => exact op_lt pins s σ H x y v u _ I rx ry ⟨i, j, ra, rb, lv_bl rp hr⟩
  case str.str i j => exact op_lt_str pins s σ H x y v u _ I rx ry ⟨_, _, ra, rb, lv_bl rp hr⟩
theorem ou_le : OpU X W (compareOp .LtE) leU := by
  intro pins s σ H x y v u a b G Q E I rx ry ra rb rp hr hx
  cases a <;> cases b <;> try exact hr.elim
  case int.int i j => exact op_le pins s σ H x y v u _ I rx ry ⟨i, j, ra, rb, lv_bl rp hr⟩
  case str.str i j => exact op_le_str pins s σ H x y v u _ I rx ry ⟨_, _, ra, rb, lv_bl rp hr⟩
theorem ou_gt : OpU X W (compareOp .Gt) gtU := by
  intro pins s σ H x y v u a b G Q E I rx ry ra rb rp hr hx
  cases a <;> cases b <;> try exact hr.elim
  case int.int i j => exact op_gt pins s σ H x y v u _ I rx ry ⟨i, j, ra, rb, lv_bl rp hr⟩
  case str.str i j => exact op_gt_str pins s σ H x y v u _ I rx ry ⟨_, _, ra, rb, lv_bl rp hr⟩
theorem ou_ge : OpU X W (compareOp .GtE) geU := by
  intro pins s σ H x y v u a b G Q E I rx ry ra rb rp hr hx
  cases a <;> cases b <;> try exact hr.elim
  case int.int i j => exact op_ge pins s σ H x y v u _ I rx ry ⟨i, j, ra, rb, lv_bl rp hr⟩
  case str.str i j => exact op_ge_str pins s σ H x y v u _ I rx ry ⟨_, _, ra, rb, lv_bl rp hr⟩
theorem inU_cases {neg : Bool} {x y : U} {v z : V} {H : Hp} {G : Gp} {Q : VK} (rp : Rep X.K H G) (ra : RelU X.K H x v) (rb : RelU X.K H y z) {us : List U}
    (hy : y = .tup us ∨ ∃ a, y = .ref a ∧ G a = some (.lst us)) (fx : uflat x = true) (fu : us.all uflat = true) (q : Q (.bl (if neg then !us.any fun y => ueq y x else us.any fun y => ueq y x)) H) : rIn X.K neg v z H Q := by
  rcases hy with rfl | ⟨a, rfl, hg⟩
  · obtain ⟨p, vs, rfl, t, r⟩ := rb.tup_of
    exact ⟨p, vs, rfl, .inr t, flat_of ra fx, flatAll_of r fu, by rw [inV_of ra fx r fu]; exact q⟩
  · obtain ⟨vs, e, r⟩ := rp.lst hg
    rw [show z = .ref a from rb]
    exact ⟨a, vs, rfl, .inl (.of e), flat_of ra fx, flatAll_of r fu, by rw [inV_of ra fx r fu]; exact q⟩
theorem ou_in : OpU X W (compareOp .In) inU := by
  intro pins s σ H x y v u a b G Q E I rx ry ra rb rp hr hx
  cases b with
  | str l =>
    cases a with
    | str c =>
      obtain ⟨k, rfl, q⟩ := hr
      exact op_in_sign pins s σ H x y v u _ I rx ry ⟨k, _, ra, rb, lv_bl rp q⟩
    | _ => exact hr.elim
  | tup us =>
    have hr' : uflat a = true ∧ us.all uflat = true ∧ Q (.bl (us.any fun y => ueq y a)) G := by cases a <;> exact hr
    exact op_in_seq pins s σ H x y v u _ I rx ry (inU_cases rp ra rb (.inl rfl) hr'.1 hr'.2.1 (lv_bl rp hr'.2.2))
  | ref p =>
    have hr' : ∃ us, G p = some (.lst us) ∧ uflat a = true ∧ us.all uflat = true ∧ Q (.bl (us.any fun y => ueq y a)) G := by cases a <;> exact hr
    obtain ⟨us, g, h1, h2, q⟩ := hr'
    exact op_in_seq pins s σ H x y v u _ I rx ry (inU_cases rp ra rb (.inr ⟨p, rfl, g⟩) h1 h2 (lv_bl rp q))
  | _ => exact (show False by cases a <;> exact hr).elim
theorem ou_notIn : OpU X W (compareOp .NotIn) notInU := by
  intro pins s σ H x y v u a b G Q E I rx ry ra rb rp hr hx
  cases b with
  | str l =>
    cases a with
    | str c =>
      obtain ⟨k, rfl, q⟩ := hr
      exact op_notIn_sign pins s σ H x y v u _ I rx ry ⟨k, _, ra, rb, lv_bl rp q⟩
    | _ => exact hr.elim
  | tup us =>
    have hr' : uflat a = true ∧ us.all uflat = true ∧ Q (.bl (!us.any fun y => ueq y a)) G := by cases a <;> exact hr
    exact op_notIn_seq pins s σ H x y v u _ I rx ry (inU_cases rp ra rb (.inl rfl) hr'.1 hr'.2.1 (lv_bl rp hr'.2.2))
  | ref p =>
    have hr' : ∃ us, G p = some (.lst us) ∧ uflat a = true ∧ us.all uflat = true ∧ Q (.bl (!us.any fun y => ueq y a)) G := by cases a <;> exact hr
    obtain ⟨us, g, h1, h2, q⟩ := hr'
    exact op_notIn_seq pins s σ H x y v u _ I rx ry (inU_cases rp ra rb (.inr ⟨p, rfl, g⟩) h1 h2 (lv_bl rp q))
  | _ => exact (show False by cases a <;> exact hr).elim
theorem isObj_of {K : PySem.W.Frag} {H : Hp} {G : Gp} (rp : Rep K H G) {a : Addr} {o : Ob} (h : G a = some o) (n : ∀ k, o ≠ .dct k) : ∃ u, H a = some u ∧ isObj u = true := by
  cases o with
  | lst us => obtain ⟨vs, e, _⟩ := rp.lst h; exact ⟨_, e, rfl⟩
  | dct us => exact absurd rfl (n us)
  | ins c fs => obtain ⟨dx, gs, e, _⟩ := rp.ins h; exact ⟨_, e, rfl⟩
theorem ou_is : OpU X W (compareOp .Is) isU := by
  intro pins s σ H x y v u a b G Q E I rx ry ra rb rp hr hx
  cases b with
  | bl j =>
    cases a with
    | bl i => exact op_is_bl pins s σ H x y v u _ I rx ry ⟨i, j, ra, rb, lv_bl rp hr⟩
    | _ => exact hr.elim
  | ref q =>
    cases a with
    | ref p =>
      obtain ⟨oa, ob, h1, h2, n1, n2, hr⟩ := hr
      obtain ⟨ua, e1, i1⟩ := isObj_of rp h1 n1
      obtain ⟨ub, e2, i2⟩ := isObj_of rp h2 n2
      exact op_is_ref pins s σ H x y v u _ I rx ry ⟨p, q, ua, ub, ra, rb, e1, i1, e2, i2, lv_bl rp hr⟩
    | _ => exact hr.elim
  | non =>
    have hr' : Q (.bl (isNonU a)) G := by cases a <;> exact hr
    refine op_isN pins s σ H x y v u _ I rx ry ⟨rb, ?_⟩
    have e : decide (x = .non) = isNonU a := by
      cases a <;> simp only [RelU] at ra <;> first | (obtain ⟨_, _, rfl, _⟩ := ra; rfl) | (subst ra; rfl)
    rw [e]
    exact lv_bl rp hr'
  | _ => exact (show False by cases a <;> exact hr).elim
theorem ou_isNot : OpU X W (compareOp .IsNot) isNotU := by
  intro pins s σ H x y v u a b G Q E I rx ry ra rb rp hr hx
  cases b with
  | bl j =>
    cases a with
    | bl i => exact op_isnot_bl pins s σ H x y v u _ I rx ry ⟨i, j, ra, rb, lv_bl rp hr⟩
    | _ => exact hr.elim
  | ref q =>
    cases a with
    | ref p =>
      obtain ⟨oa, ob, h1, h2, n1, n2, hr⟩ := hr
      obtain ⟨ua, e1, i1⟩ := isObj_of rp h1 n1
      obtain ⟨ub, e2, i2⟩ := isObj_of rp h2 n2
      exact op_isnot_ref pins s σ H x y v u _ I rx ry ⟨p, q, ua, ub, ra, rb, e1, i1, e2, i2, lv_bl rp hr⟩
    | _ => exact hr.elim
  | non =>
    have hr' : Q (.bl (!isNonU a)) G := by cases a <;> exact hr
    refine op_notN pins s σ H x y v u _ I rx ry ⟨rb, ?_⟩
    have e : (!decide (x = .non)) = (!isNonU a) := by
      cases a <;> simp only [RelU] at ra <;> first | (obtain ⟨_, _, rfl, _⟩ := ra; rfl) | (subst ra; rfl)
    rw [e]
    exact lv_bl rp hr'
  | _ => exact (show False by cases a <;> exact hr).elim
/-! ### truth -/
def truU (u : U) (G : Gp) (Q : Bool → Gp → Prop) : Prop := match u with
  | .non => Q false G
  | .bl b => Q b G
  | .int i => Q (i != 0) G
  | .str l => l.length ≤ 1000000 ∧ Q (!l.isEmpty) G
  | .tup us => Q (!us.isEmpty) G
  | .ref a => (∃ us, G a = some (.lst us) ∧ Q (!us.isEmpty) G) ∨ ∃ kvs, G a = some (.dct kvs) ∧ Q (!kvs.isEmpty) G
  | _ => False
theorem isEmptyUs {K : PySem.W.Frag} {H : Hp} {us : List U} {vs : List V} (h : RelUs K H us vs) : vs.isEmpty = us.isEmpty := by
  cases us with
  | nil =>
    have e' : vs = [] := h
    subst e'
    rfl
  | cons u us =>
    obtain ⟨v, ws, rfl, _⟩ := h
    rfl
theorem isEmptyKv {K : PySem.W.Frag} {H : Hp} {us : List (U × U)} {vs : List (Key × V)} (h : RelKV K H us vs) : vs.isEmpty = us.isEmpty := by
  cases us with
  | nil =>
    have e' : vs = [] := h
    subst e'
    rfl
  | cons u us =>
    obtain ⟨k, u⟩ := u
    obtain ⟨kk, v, ws, rfl, _⟩ := h
    rfl
theorem tr_u : TrU X W (fun u G Q _ => truU u G Q) := by
  intro pins s σ H x v a G Q E I rx ra rp hr hx
  have key : ∀ k, TruV X.K x H k → Q k G → wpAny (model X.prog X.w) X.A (truthy v) (TP X pins σ (LB X.K H G Q)) X.xe s := fun k t q => tru_ok pins s σ H x v _ I rx ⟨k, t, G, .refl _ _, rp, q⟩
  cases a with
  | non =>
    rw [show x = .non from ra] at key
    exact key false rfl hr
  | bl b =>
    rw [show x = .bl b from ra] at key
    exact key b rfl hr
  | int i =>
    rw [show x = .int i from ra] at key
    exact key _ rfl hr
  | str l =>
    rw [show x = .str ⟨l.toArray⟩ from ra] at key
    refine key _ ⟨?_, ?_⟩ hr.2
    · show l.toArray.size ≤ sizeLine
      rw [List.size_toArray]
      exact lim_line hr.1
    · show (!l.isEmpty) = (((l.toArray.size : Nat) : Int) != 0)
      rw [List.size_toArray]
      cases l with
      | nil => rfl
      | cons c l =>
        have : (((c :: l).length : Nat) : Int) ≠ 0 := by simp only [List.length_cons]; omega
        rw [bne_iff_ne.mpr this]
        rfl
  | tup us =>
    obtain ⟨p, vs, rfl, t, r⟩ := ra.tup_of
    exact key _ (.inr (.inl ⟨vs, t, by rw [isEmptyUs r]⟩)) hr
  | ref a =>
    rw [show x = .ref a from ra] at key
    rcases hr with ⟨us, g, q⟩ | ⟨kvs, g, q⟩
    · obtain ⟨vs, e, r⟩ := rp.lst g
      exact key _ (.inl ⟨vs, .of e, by rw [isEmptyUs r]⟩) q
    · obtain ⟨vs, e, r⟩ := rp.dct g
      exact key _ (.inr (.inr ⟨vs, e, by rw [isEmptyKv r]⟩)) q
  | _ => exact hr.elim
def negU : UR1 := fun u G Q _ => match u with
  | .int i => Q (.int (-i)) G
  | _ => False
theorem nu_neg : UnU X W (unaryOp .USub) negU := by
  intro pins s σ H x v a G Q E I rx ra rp hr hx
  cases a with
  | int i => exact un_neg pins s σ H x v _ I rx ⟨i, ra, lv_int rp hr⟩
  | _ => exact hr.elim
def notU : UR1 := fun u G Q _ => truU u G fun b G1 => Q (.bl (!b)) G1
theorem nu_not : UnU X W (unaryOp .Not) notU := by
  intro pins s σ H x v a G Q E I rx ra rp hr hx
  exact not_of (thn (tr_u pins s σ H x v a G _ E I rx ra rp hr hx) fun c s2 ⟨H2, I2, G2, x2, r2, q2⟩ => ⟨.bl (!c), H2, I2, rfl, .bl (!c), G2, x2, r2, rfl, q2⟩)
end
end UL
set_option maxHeartbeats 400000
namespace UL
open PySem PySem.Spec PyProof.Rows L2

section
variable {X : Cx} {W : WX} {e a b c o : Expr} {es : List Expr} {t ta tb : UTE} {tt tt' : UTT} {tr : UTA} {pos : Pos}
/-! ### and, or, conditional expressions -/
def tUAnd (ta tb : UTE) : UTE := fun us G Q E => ta us G (fun u G1 => match u with
  | .bl true => tb us G1 Q E
  | .bl false => Q (.bl false) G1
  | _ => False) E
def tUOr (ta tb : UTE) : UTE := fun us G Q E => ta us G (fun u G1 => match u with
  | .bl true => Q (.bl true) G1
  | .bl false => tb us G1 Q E
  | _ => False) E
theorem eu_and {rest : List Expr} (ha : EU X W a ta) (hb : EU X W (.BoolOp .And (b :: rest) pos) tb) : EU X W (.BoolOp .And (a :: b :: rest) pos) (tUAnd ta tb) := by
  refine .of (pe_and ha.pe hb.pe) fun σ H us G Q E rs rp h hx => ⟨us, G, _, E, rs, rp, h, fun v H1 ⟨u, G1, x1, r1, ru, q1⟩ => ?_, hx⟩
  cases u with
  | bl b =>
    refine ⟨b, ru, ?_⟩
    cases b with
    | true =>
      rw [if_pos rfl]
      exact ⟨us, G1, Q, E, rs.ext x1 rp, r1, q1, fun v H' h' => h'.trans x1, fun c d H' h' => hx c d H' (h'.trans x1)⟩
    | false =>
      rw [if_neg Bool.false_ne_true]
      exact (lv_bl r1 q1).trans x1
  | _ => exact False.elim q1
theorem eu_or {rest : List Expr} (ha : EU X W a ta) (hb : EU X W (.BoolOp .Or (b :: rest) pos) tb) : EU X W (.BoolOp .Or (a :: b :: rest) pos) (tUOr ta tb) := by
  refine .of (pe_or ha.pe hb.pe) fun σ H us G Q E rs rp h hx => ⟨us, G, _, E, rs, rp, h, fun v H1 ⟨u, G1, x1, r1, ru, q1⟩ => ?_, hx⟩
  cases u with
  | bl b =>
    refine ⟨b, ru, ?_⟩
    cases b with
    | false =>
      rw [if_neg Bool.false_ne_true]
      exact ⟨us, G1, Q, E, rs.ext x1 rp, r1, q1, fun v H' h' => h'.trans x1, fun c d H' h' => hx c d H' (h'.trans x1)⟩
    | true =>
      rw [if_pos rfl]
      exact (lv_bl r1 q1).trans x1
  | _ => exact False.elim q1
theorem eu_one {op} (h : EU X W a ta) : EU X W (.BoolOp op [a] pos) ta := ⟨fun pins s σ H us G Q E I rs rp ht hx => BoolOp_one (h.run pins s σ H us G Q E I rs rp ht hx)⟩
/-- tests -/
structure WU (X : Cx) (W : WX) (e : Expr) (t : UTT) : Prop where
  run : ∀ (whole : Sem Value) (pins : List (Addr × Obj)) (s : Shared) (σ : L2.St) (H : Hp) (us : USt) (G : Gp) (Q : Bool → Gp → Prop) (E : UX), Inv X pins σ H s → RelS X.K H us σ → Rep X.K H G → t us G Q E →
    (∀ c d H', LX X.K H G E c d H' → W c d σ H') → wpAny (model X.prog X.w) X.A (isTrue e X.env whole) (TP X pins σ (LB X.K H G Q)) X.xe s
theorem WU.tu (h : WU X W e tt) : TU X W e tt := ⟨h.run _⟩
def tBAnd (ta tb : UTT) : UTT := fun us G Q E => ta us G (fun b G1 => bif b then tb us G1 Q E else Q false G1) E
def tBOr (ta tb : UTT) : UTT := fun us G Q E => ta us G (fun b G1 => bif b then Q true G1 else tb us G1 Q E) E
theorem wu_and1 (ha : TU X W a tt) : WU X W (.BoolOp .And [a] pos) tt := by
  refine ⟨fun wh pins s σ H us G Q E I rs rp h hx => ?_⟩
  refine isTrue_and (thn (ha.run pins s σ H us G Q E I rs rp h hx) fun c s1 e => ?_)
  cases c with
  | true => exact isTrue_and_nil e
  | false => exact e
theorem wu_or1 (ha : TU X W a tt) : WU X W (.BoolOp .Or [a] pos) tt := by
  refine ⟨fun wh pins s σ H us G Q E I rs rp h hx => ?_⟩
  refine isTrue_or (thn (ha.run pins s σ H us G Q E I rs rp h hx) fun c s1 e => ?_)
  cases c with
  | false => exact isTrue_or_nil e
  | true => exact e
theorem tp_trans {pins : List (Addr × Obj)} {σ : L2.St} {H H2 : Hp} {G G2 : Gp} {Q : Bool → Gp → Prop} {u : Bool} {s : Shared} (x : Ext H G H2 G2) : TP X pins σ (LB X.K H2 G2 Q) u s → TP X pins σ (LB X.K H G Q) u s := fun ⟨H', I, q⟩ => ⟨H', I, q.trans x⟩
theorem wu_and {rest : List Expr} (ha : TU X W a tt) (hb : WU X W (.BoolOp .And (b :: rest) pos) tt') : WU X W (.BoolOp .And (a :: b :: rest) pos) (tBAnd tt tt') := by
  refine ⟨fun wh pins s σ H us G Q E I rs rp h hx => ?_⟩
  refine isTrue_and (thn (ha.run pins s σ H us G _ E I rs rp h hx) fun c s1 ⟨H1, I1, G1, x1, r1, q1⟩ => ?_)
  cases c with
  | true => exact thn (hb.run wh pins s1 σ H1 us G1 Q E I1 (rs.ext x1 rp) r1 q1 fun c d H' h' => hx c d H' (h'.trans x1)) fun _ _ h => tp_trans x1 h
  | false => exact ⟨H1, I1, G1, x1, r1, q1⟩
theorem wu_or {rest : List Expr} (ha : TU X W a tt) (hb : WU X W (.BoolOp .Or (b :: rest) pos) tt') : WU X W (.BoolOp .Or (a :: b :: rest) pos) (tBOr tt tt') := by
  refine ⟨fun wh pins s σ H us G Q E I rs rp h hx => ?_⟩
  refine isTrue_or (thn (ha.run pins s σ H us G _ E I rs rp h hx) fun c s1 ⟨H1, I1, G1, x1, r1, q1⟩ => ?_)
  cases c with
  | false => exact thn (hb.run wh pins s1 σ H1 us G1 Q E I1 (rs.ext x1 rp) r1 q1 fun c d H' h' => hx c d H' (h'.trans x1)) fun _ _ h => tp_trans x1 h
  | true => exact ⟨H1, I1, G1, x1, r1, q1⟩
def tUIf (t : UTT) (ta tb : UTE) : UTE := fun us G Q E => t us G (fun b G1 => bif b then ta us G1 Q E else tb us G1 Q E) E
theorem eu_ifExp (hc : TU X W c tt) (ha : EU X W a ta) (hb : EU X W b tb) : EU X W (.IfExp c a b pos) (tUIf tt ta tb) := by
  refine ⟨fun pins s σ H us G Q E I rs rp h hx => ?_⟩
  refine wpAny_IfExp (thn (hc.run pins s σ H us G _ E I rs rp h hx) fun d s1 ⟨H1, I1, G1, x1, r1, q1⟩ => ?_)
  cases d with
  | true => exact thn (ha.run pins s1 σ H1 us G1 Q E I1 (rs.ext x1 rp) r1 q1 fun c d H' h' => hx c d H' (h'.trans x1)) fun _ _ h => lv_pins x1 h
  | false => exact thn (hb.run pins s1 σ H1 us G1 Q E I1 (rs.ext x1 rp) r1 q1 fun c d H' h' => hx c d H' (h'.trans x1)) fun _ _ h => lv_pins x1 h

/-! ### argument lists, displays -/
def tUNil : UTA := fun _ G Q _ => Q [] G
def tUCons (ta : UTE) (tr : UTA) : UTA := fun us G Q E => ta us G (fun u G1 => tr us G1 (fun ws G2 => Q (u :: ws) G2) E) E
theorem au_nil : AU X W [] tUNil := ⟨fun _ _ s σ H us G Q E I rs rp h _ => Calls.spliced_nil ⟨[], H, I, .nil, [], G, .refl _ _, rp, rfl, h⟩⟩
theorem au_cons (ha : EU X W e t) (hr : AU X W es tr) (hs : starEach (e :: es) X.env = (false, eval e X.env) :: starEach es X.env) : AU X W (e :: es) (tUCons t tr) := by
  refine ⟨fun pos pins s σ H us G Q E I rs rp h hx => ?_⟩
  rw [hs]
  show wpAny _ _ (spliced ((false, eval e X.env) :: backTo pos (starEach es X.env))) _ _ s
  refine Calls.spliced_cons (thn (ha.run pins s σ H us G _ E I rs rp h hx) fun u s1 ⟨x, H1, I1, r1, p, G1, x1, rp1, ru, q1⟩ => ?_)
  exact thn (hr.run pos pins s1 σ H1 us G1 _ E I1 (rs.ext x1 rp) rp1 q1 fun c d H' h' => hx c d H' (h'.trans x1)) fun us' s2 ⟨xs, H2, I2, r2, ps, G2, x2, rp2, rs2, q2⟩ =>
    ⟨x :: xs, H2, I2, .cons r1 r2, p :: ps, G2, x1.trans x2, rp2, ⟨x, xs, rfl, ru.ext x2 rp1, rs2⟩, q2⟩
def tUTup (t : UTA) : UTE := fun us G Q E => t us G (fun ws G1 => ws.length ≤ 1000000 ∧ Q (.tup ws) G1) E
def tULst (t : UTA) : UTE := fun us G Q E => t us G (fun ws G1 => ws.length ≤ 1000000 ∧ ∀ p, G1 p = none → Q (.ref p) (gup G1 p (.lst ws))) E
theorem eu_tup {x1} (h : AU X W es tr) : EU X W (.Tuple es x1 pos) (tUTup tr) :=
  .of (pe_tup h.pa) fun σ H us G Q E rs rp ht hx => ⟨us, G, _, E, rs, rp, ht, fun vs H1 ⟨ws, G1, x1, r1, rw', q1⟩ => ⟨by rw [rw'.length]; exact lim_line q1.1, fun p hp => (lv_tup r1 rw' hp q1.2).trans x1⟩, hx⟩
theorem eu_lst (h : AU X W es tr) : EU X W (.List es pos) (tULst tr) :=
  .of (pe_lst h.pa) fun σ H us G Q E rs rp ht hx => ⟨us, G, _, E, rs, rp, ht, fun vs H1 ⟨ws, G1, x1, r1, rw', q1⟩ => ⟨by rw [rw'.length]; exact lim_line q1.1, fun p hp => (lv_lst r1 rw' hp (q1.2 p (r1.fresh hp))).trans x1⟩, hx⟩

/-! ### subscripts -/
def IxU (X : Cx) (W : WX) (r : UR2) : Prop :=
  ∀ (value slice : Expr) (pins : List (Addr × Obj)) (s : Shared) (σ : L2.St) (H : Hp) (x y : V) (v u : Value) (a b : U) (G : Gp) (Q : UK) (E : UX), Inv X pins σ H s → RelV x v → RelV y u → RelU X.K H a x → RelU X.K H b y → Rep X.K H G → r a b G Q E →
    (∀ c d H', LX X.K H G E c d H' → W c d σ H') → subscripted slice false v u = operate [v, u] (getItem v u) → wpAny (model X.prog X.w) X.A (subscriptTail value slice v u) (EP X pins σ (LV X.K H G Q)) X.xe s
theorem eu_ix {r : UR2} (hr : IxU X W r) (ha : EU X W a ta) (hb : EU X W b tb) (hs : PlainIx b) : EU X W (.Subscript a b pos) (tUOp r ta tb) := by
  refine ⟨fun pins s σ H us G Q E I rs rp h hx => ?_⟩
  exact Subscript_ (bin2 ha hb I rs rp h hx fun v u s2 x y H2 p q G2 I2 r1 r2 ex rp2 rs2 rp' rq hq hx2 => thn (hr a b pins s2 σ H2 x y v u p q G2 Q E I2 r1 r2 rp' rq rp2 hq hx2 (hs _ _)) fun _ _ h => lv_pins ex h)
theorem atI_rel {K : PySem.W.Frag} {H : Hp} {us : List U} {vs : List V} {i : Int} {u : U} (r : RelUs K H us vs) (h : atI us i = some u) : ∃ v, atI vs i = some v ∧ RelU K H u v := by
  unfold atI at h ⊢
  rw [r.length]
  cases hi : ixN us.length i with
  | none =>
    rw [hi] at h
    cases h
  | some j =>
    rw [hi] at h
    exact r.get h
def ixU0 : UR2 := fun x y G Q _ => match x, y with
  | .ref a, .int i => ∃ us u, G a = some (.lst us) ∧ atI us i = some u ∧ Q u G
  | .tup us, .int i => ∃ u, atI us i = some u ∧ Q u G
  | .rol us, .int i => ∃ u, atI us i = some u ∧ Q u G
  | .str l, .int i => l.length ≤ 1000000 ∧ ∃ c, atI l i = some c ∧ Q (.str [c]) G
  | _, _ => False
theorem iu0 : IxU X W ixU0 := by
  intro value slice pins s σ H x y v u a b G Q E I rx ry ra rb rp hr hx hs
  cases b with
  | int i =>
    cases a with
    | ref p =>
      obtain ⟨us, w, g, hi, q⟩ := hr
      obtain ⟨vs, e, r⟩ := rp.lst g
      obtain ⟨z, hz, rz⟩ := atI_rel r hi
      exact ix_list value slice pins s σ H x y v u _ I rx ry ⟨p, vs, i, z, ra, rb, .of e, hz, .here rp rz q⟩ hs
    | tup us =>
      obtain ⟨w, hi, q⟩ := hr
      obtain ⟨p, vs, e, t, r⟩ := ra.tup_of
      obtain ⟨z, hz, rz⟩ := atI_rel r hi
      exact ix_tup value slice pins s σ H x y v u _ I rx ry ⟨p, vs, i, z, e, rb, t, hz, .here rp rz q⟩ hs
    | rol us =>
      obtain ⟨w, hi, q⟩ := hr
      obtain ⟨p, vs, e, t, r⟩ := (show ∃ a vs, x = .ref a ∧ RoL X.K H a vs ∧ RelUs X.K H us vs from ra)
      obtain ⟨z, hz, rz⟩ := atI_rel r hi
      exact ix_list value slice pins s σ H x y v u _ I rx ry ⟨p, vs, i, z, e, rb, t.sq, hz, .here rp rz q⟩ hs
    | str l =>
      obtain ⟨hl, c, hi, q⟩ := hr
      exact ix_str value slice pins s σ H x y v u _ I rx ry ⟨_, i, c, ra, rb, by show l.toArray.size ≤ sizeLine; rw [List.size_toArray]; exact lim_line hl, hi, lv_str (l := [c]) rp q⟩ hs
    | _ => exact hr.elim
  | _ => exact (show False by cases a <;> exact hr).elim

/-! ### slices -/
abbrev UTO := USt → Gp → (Option Int → Gp → Prop) → UX → Prop
def LO (K : PySem.W.Frag) (H : Hp) (G : Gp) (Q : Option Int → Gp → Prop) : Option Int → Hp → Prop := fun o H' => ∃ G', Ext H G H' G' ∧ Rep K H' G' ∧ Q o G'
def lO (K : PySem.W.Frag) (W : WX) (t : UTO) : TO := fun σ H Q => ∃ us G Qu Eu, RelS K H us σ ∧ Rep K H G ∧ t us G Qu Eu ∧ (∀ v H', LO K H G Qu v H' → Q v H') ∧ ∀ c d H', LX K H G Eu c d H' → W c d σ H'
def tUNoPart : UTO := fun _ G Q _ => Q none G
def tUPart (t : UTE) : UTO := fun us G Q E => t us G (fun u G1 => match u with
  | .int i => Q (some i) G1
  | _ => False) E
theorem pou_none : PO X none (lO X.K W tUNoPart) := ⟨fun pins s σ H Q I ⟨us, G, Qu, Eu, rs, rp, h, hq, _⟩ => po_none.run pins s σ H Q I (hq none H ⟨G, .refl _ _, rp, h⟩)⟩
theorem pou_some (h : EU X W e t) : PO X (some e) (lO X.K W (tUPart t)) := by
  refine ⟨fun pins s σ H Q I ⟨us, G, Qu, Eu, rs, rp, ht, hq, hx⟩ => (po_some h.pe).run pins s σ H Q I ⟨us, G, _, Eu, rs, rp, ht, fun v H' ⟨u, G', x1, r1, ru, q1⟩ => ?_, hx⟩⟩
  cases u with
  | int i => exact ⟨i, ru, hq _ _ ⟨G', x1, r1, q1⟩⟩
  | _ => exact False.elim q1
def cutU (xs : List U) (lo hi : Option Int) : List U := (xs.drop (HT.sIx xs.length 0 lo)).take (HT.sIx xs.length xs.length hi - HT.sIx xs.length 0 lo)
def cutN (xs : List Nat) (lo hi : Option Int) : List Nat := (xs.drop (HT.sIx xs.length 0 lo)).take (HT.sIx xs.length xs.length hi - HT.sIx xs.length 0 lo)
theorem RelUs.cut {K : PySem.W.Frag} {H : Hp} {us : List U} {vs : List V} (r : RelUs K H us vs) (lo hi : Option Int) : RelUs K H (cutU us lo hi) (cutV vs lo hi) := by
  unfold cutU cutV
  rw [r.length]
  exact (r.drop _).take _
def slU (x : U) (lo hi : Option Int) (G : Gp) (Q : UK) : Prop := match x with
  | .ref a => ∃ us, G a = some (.lst us) ∧ ∀ p, G p = none → Q (.ref p) (gup G p (.lst (cutU us lo hi)))
  | .rol us => ∀ p, G p = none → Q (.ref p) (gup G p (.lst (cutU us lo hi)))
  | .tup us => Q (.tup (cutU us lo hi)) G
  | .str l => l.length ≤ 1000000 ∧ Q (.str (cutN l lo hi)) G
  | _ => False
def tUSl (te : UTE) (tl th : UTO) : UTE := fun us G Q E => te us G (fun x G1 => tl us G1 (fun l G2 => th us G2 (fun h G3 => slU x l h G3 Q) E) E) E
theorem eu_slice {p2 : Pos} {lo hi : Option Expr} {tl th : UTO} (he : EU X W e t) (hl : PO X lo (lO X.K W tl)) (hh : PO X hi (lO X.K W th)) : EU X W (.Subscript e (.Slice lo hi none p2) pos) (tUSl t tl th) := by
  refine .of (pe_slice (sl_list.or (sl_tupA.or sl_str)) he.pe hl hh) fun σ H us G Q E rs rp h hx => ?_
  refine ⟨us, G, _, E, rs, rp, h, fun v H1 ⟨u, G1, x1, r1, ru, q1⟩ => ?_, hx⟩
  have hx1 : ∀ c d H', LX X.K H1 G1 E c d H' → W c d σ H' := fun c d H' h' => hx c d H' (h'.trans x1)
  refine ⟨us, G1, _, E, rs.ext x1 rp, r1, q1, fun l H2 ⟨G2, x2, r2, q2⟩ => ?_, hx1⟩
  refine ⟨us, G2, _, E, (rs.ext x1 rp).ext x2 r1, r2, q2, fun h' H3 ⟨G3, x3, r3, q3⟩ => ?_, fun c d H' h' => hx1 c d H' (h'.trans x2)⟩
  have ru3 := (ru.ext x2 r1).ext x3 r2
  have ex := (x1.trans x2).trans x3
  cases u with
  | ref a =>
    obtain ⟨us', g, q⟩ := q3
    obtain ⟨vs, e1, r⟩ := r3.lst g
    exact .inl ⟨a, vs, ru3, .of e1, fun p hp => (lv_lst r3 (r.cut l h') hp (q p (r3.fresh hp))).trans ex⟩
  | rol us' =>
    obtain ⟨p, vs, e1, t1, r⟩ := (show ∃ a vs, v = .ref a ∧ RoL X.K H3 a vs ∧ RelUs X.K H3 us' vs from ru3)
    exact .inl ⟨p, vs, e1, t1.sq, fun p hp => (lv_lst r3 (r.cut l h') hp (q3 p (r3.fresh hp))).trans ex⟩
  | tup us' =>
    obtain ⟨p, vs, e1, t1, r⟩ := ru3.tup_of
    have hl := r.length
    refine .inr (.inl ⟨p, vs, e1, t1, fun hw => ?_, fun _ p hp => (lv_tup r3 (r.cut l h') hp q3).trans ex⟩)
    refine (lv_old r3 t1 r ?_).trans ex
    have hc : cutU us' l h' = us' := by
      unfold cutU
      rw [hl] at hw
      rw [hw.1, hw.2]
      simp
    have q4 : Q (.tup (cutU us' l h')) G3 := q3
    rw [hc] at q4
    exact q4
  | str x =>
    refine .inr (.inr ⟨_, ru3, ?_, ?_⟩)
    · show x.toArray.size ≤ sizeLine
      rw [List.size_toArray]
      exact lim_line q3.1
    · have q4 := (lv_str (l := cutN x l h') r3 q3.2).trans ex
      have hz : L2.cutS ⟨x.toArray⟩ l h' = ⟨(cutN x l h').toArray⟩ := by
        unfold L2.cutS cutN
        show (⟨((x.toArray.toList.drop (HT.sIx x.toArray.size 0 l)).take (HT.sIx x.toArray.size x.toArray.size h' - HT.sIx x.toArray.size 0 l)).toArray⟩ : Str) = _
        rw [List.size_toArray]
      rw [hz]
      exact q4
  | _ => exact False.elim q3
end

/-! ### calls of builtins by values -/
abbrev URC := List U → Gp → UK → UX → Prop
def CallU (X : Cx) (W : WX) (f : Value) (r : URC) : Prop :=
  ∀ (pins : List (Addr × Obj)) (s : Shared) (σ : L2.St) (H : Hp) (xs : List V) (us : List Value) (as : List U) (G : Gp) (Q : UK) (E : UX), Inv X pins σ H s → Vals xs us → RelUs X.K H as xs → Rep X.K H G → r as G Q E →
    (∀ c d H', LX X.K H G E c d H' → W c d σ H') → wpAny (model X.prog X.w) X.A (call f us) (EP X pins σ (LV X.K H G Q)) X.xe s
theorem CallU.of {X : Cx} {W : WX} {f : Value} {r : URC} {rv : List V → Hp → VK → Prop} (h : CallR X f rv) (k : ∀ xs H as G Q E, RelUs X.K H as xs → Rep X.K H G → r as G Q E → rv xs H (LV X.K H G Q)) : CallU X W f r :=
  fun pins s σ H xs us as G Q E I rx ra rp hr _ => h pins s σ H xs us _ I rx (k xs H as G Q E ra rp hr)
def tUCall (r : URC) (t : UTA) : UTE := fun us G Q E => t us G (fun as G1 => r as G1 Q E) E
section
variable {X : Cx} {W : WX} {x : Str} {p pos : Pos} {e : Expr} {es : List Expr} {tr : UTA} {id T : String} {r : URC}
theorem eu_callB (hc : CallU X W (.builtin id) r) (hg : Gl X x) (hm : X.mg x = none) (hv : bootBuiltins x = some (.builtin id)) (ha : AU X W (e :: es) tr) (hn : x ≠ "__name__") (hdb : (x == ("__debug__" : Str)) = false)
    (he : starEach (e :: es) X.env = (false, eval e X.env) :: starEach es X.env) (hpl : (backTo pos (starEach es X.env)).any (·.1) = false) : EU X W (.Call (.Name x p) (e :: es) [] pos) (tUCall r tr) := by
  refine ⟨fun pins s σ H us G Q E I rs rp h hx => ?_⟩
  refine wpAny_Call_Name_kw (ld_blt I hg hm hv ?_ hn hdb)
  refine PyProof.Rows.callWith_builtin1 (thn (ha.run pos pins s σ H us G _ E I rs rp h hx) fun us' s1 ⟨vs, H1, I1, r1, as, G1, x1, rp1, ra, q1⟩ => ?_) he hpl
  exact thn (hc pins s1 σ H1 vs us' as G1 Q E I1 r1 ra rp1 q1 fun c d H' h' => hx c d H' (h'.trans x1)) fun _ _ h => lv_pins x1 h
theorem eu_callTy (hc : CallU X W (.type T) r) (hg : Gl X x) (hm : X.mg x = none) (hv : bootBuiltins x = some (.type T)) (ha : AU X W (e :: es) tr) (hn : x ≠ "__name__") (hdb : (x == ("__debug__" : Str)) = false)
    (he : starEach (e :: es) X.env = (false, eval e X.env) :: starEach es X.env) (hpl : (backTo pos (starEach es X.env)).any (·.1) = false) : EU X W (.Call (.Name x p) (e :: es) [] pos) (tUCall r tr) := by
  refine ⟨fun pins s σ H us G Q E I rs rp h hx => ?_⟩
  refine wpAny_Call_Name_kw (ld_blt I hg hm hv ?_ hn hdb)
  refine PyProof.Rows.callWith_type1 (thn (ha.run pos pins s σ H us G _ E I rs rp h hx) fun us' s1 ⟨vs, H1, I1, r1, as, G1, x1, rp1, ra, q1⟩ => ?_) he hpl
  exact thn (hc pins s1 σ H1 vs us' as G1 Q E I1 r1 ra rp1 q1 fun c d H' h' => hx c d H' (h'.trans x1)) fun _ _ h => lv_pins x1 h
/-! ### methods of builtin types -/
def MtU (X : Cx) (W : WX) (id : String) (r : U → List U → Gp → UK → UX → Prop) : Prop :=
  ∀ (pins : List (Addr × Obj)) (s : Shared) (σ : L2.St) (H : Hp) (x : V) (xs : List V) (v : Value) (us : List Value) (a : U) (as : List U) (G : Gp) (Q : UK) (E : UX), Inv X pins σ H s → RelV x v → Vals xs us → RelU X.K H a x → RelUs X.K H as xs → Rep X.K H G → r a as G Q E →
    (∀ c d H', LX X.K H G E c d H' → W c d σ H') → wpAny (model X.prog X.w) X.A (call (.builtin id) (v :: us)) (EP X pins σ (LV X.K H G Q)) X.xe s
/-- of which builtin type a value is -/
def tyU (T : String) (x : U) (G : Gp) : Prop := match x with
  | .str _ => T = "str"
  | .int _ => T = "int"
  | .ref p => (T = "list" ∧ ∃ us, G p = some (.lst us)) ∨ (T = "dict" ∧ ∃ us, G p = some (.dct us))
  | _ => False
theorem tyU_v {K : PySem.W.Frag} {H : Hp} {G : Gp} {T : String} {a : U} {x : V} (rp : Rep K H G) (r : RelU K H a x) (h : tyU T a G) : tyV K T x H := by
  cases a with
  | str l => rw [show x = .str ⟨l.toArray⟩ from r]; exact h
  | int l => rw [show x = .int l from r]; exact h
  | ref p =>
    rw [show x = .ref p from r]
    rcases h with ⟨rfl, us, g⟩ | ⟨rfl, us, g⟩
    · obtain ⟨vs, e, _⟩ := rp.lst g
      exact .inl ⟨rfl, vs, .of e⟩
    · obtain ⟨vs, e, _⟩ := rp.dct g
      exact .inr (.inr (.inl ⟨rfl, .inl ⟨vs, e⟩⟩))
  | _ => exact h.elim
variable {o : Expr} {to : UTE} {name : Str} {apos cpos : Pos} {rm : U → List U → Gp → UK → UX → Prop}
def tUBM (T : String) (rm : U → List U → Gp → UK → UX → Prop) (to : UTE) (t : UTA) : UTE := fun us G Q E => to us G (fun u G1 => tyU T u G1 ∧ t us G1 (fun as G2 => rm u as G2 Q E) E) E
theorem eu_bm0 (pa : PlainAttrs T) (slot : Slot T name id) (hty : typeOf (.builtin id) = pure (.type "method_descriptor")) (hm : MtU X W id rm) (ho : EU X W o to)
    (hbase : attributeBase o name X.env (eval o X.env) = eval o X.env) (hline : (apos.endLine == cpos.line) = true) : EU X W (.Call (.Attribute o name apos) [] [] cpos) (tUBM T rm to tUNil) := by
  refine ⟨fun pins s σ H us G Q E I rs rp h hx => ?_⟩
  refine wpAny_Call_method0_late hbase hline (thn (ho.run pins s σ H us G _ E I rs rp h hx) fun v s1 ⟨x, H1, I1, r1, u, G1, x1, rp1, ru, ty, q1⟩ => ?_)
  obtain ⟨h1, h2⟩ := tyV_is I1 r1 (tyU_v rp1 ru ty)
  refine ⟨T, id, pa, slot, hty, h1, h2, Calls.callWith_builtin rfl (PySem.evalArgs_none ?_)⟩
  exact thn (hm pins s1 σ H1 x [] v [] u [] G1 Q E I1 r1 .nil ru rfl rp1 q1 fun c d H' h' => hx c d H' (h'.trans x1)) fun _ _ h => lv_pins x1 h
theorem eu_bm (pa : PlainAttrs T) (slot : Slot T name id) (hty : typeOf (.builtin id) = pure (.type "method_descriptor")) (hm : MtU X W id rm) (ho : EU X W o to) (ha : AU X W (e :: es) tr)
    (hbase : attributeBase o name X.env (eval o X.env) = eval o X.env)
    (hfew : ((backTo cpos (starEach (e :: es) X.env)).all (fun x => !x.1) && (backToKw cpos (keywordEach [] X.env)).all (fun x => x.1.isSome)
      && decide ((e :: es).length + ([] : List Keyword).length + (if ([] : List Keyword).isEmpty then 0 else 1) < 30)) = true)
    (hline : (apos.endLine == cpos.line) = true) (hs : starEach (e :: es) X.env = (false, eval e X.env) :: starEach es X.env) (hplain : (backTo cpos (starEach es X.env)).any (·.1) = false) :
    EU X W (.Call (.Attribute o name apos) (e :: es) [] cpos) (tUBM T rm to tr) := by
  refine ⟨fun pins s σ H us G Q E I rs rp h hx => ?_⟩
  refine wpAny_Call_method_late hbase hfew hline rfl (thn (ho.run pins s σ H us G _ E I rs rp h hx) fun v s1 ⟨x, H1, I1, r1, u, G1, x1, rp1, ru, ty, q1⟩ => ?_)
  obtain ⟨h1, h2⟩ := tyV_is I1 r1 (tyU_v rp1 ru ty)
  refine ⟨T, id, pa, slot, hty, h1, h2, ?_⟩
  have hx1 : ∀ c d H', LX X.K H1 G1 E c d H' → W c d σ H' := fun c d H' h' => hx c d H' (h'.trans x1)
  have hA := ha.run cpos pins s1 σ H1 us G1 _ E I1 (rs.ext x1 rp) rp1 q1 hx1
  rw [hs] at hA ⊢
  refine Calls.callWith_builtin (by show (false || (backTo cpos (starEach es X.env)).any (·.1)) = false; rw [hplain] <;> rfl) (Calls.evalArgs_plain ?_)
  exact thn hA fun us' s2 ⟨vs, H2, I2, r2, as, G2, x2, rp2, ra, q2⟩ => thn (hm pins s2 σ H2 x vs v us' u as G2 Q E I2 r1 r2 (ru.ext x2 rp1) ra rp2 q2 fun c d H' h' => hx1 c d H' (h'.trans x2)) fun _ _ h => lv_pins (x1.trans x2) h
end
end UL
set_option maxHeartbeats 400000
namespace UL
open PySem PySem.Spec PyProof.Rows L2

/-! ### statements -/
structure UEnds where
  nx : USt → Gp → Prop
  rt : UK
  bk : USt → Gp → Prop
  ct : USt → Gp → Prop
  ex : UExc → USt → Gp → Prop
abbrev UTS := UEnds → USt → Gp → Prop
def LS (K : PySem.W.Frag) (H : Hp) (G : Gp) (P : USt → Gp → Prop) : L2.St → Hp → Prop := fun σ' H' => ∃ us' G', Ext H G H' G' ∧ Rep K H' G' ∧ RelS K H' us' σ' ∧ P us' G'
def LXS (K : PySem.W.Frag) (H : Hp) (G : Gp) (E : UExc → USt → Gp → Prop) : WX := fun c d σ' H' => ∃ x us' G', Ext H G H' G' ∧ Rep K H' G' ∧ RelS K H' us' σ' ∧ ExcR K H' x c d ∧ E x us' G'
def lD (K : PySem.W.Frag) (H : Hp) (G : Gp) (D : UEnds) : Ends := { nx := LS K H G D.nx, rt := LV K H G D.rt, bk := LS K H G D.bk, ct := LS K H G D.ct }
theorem LS.trans {K : PySem.W.Frag} {H H1 : Hp} {G G1 : Gp} (x : Ext H G H1 G1) {P : USt → Gp → Prop} {σ' : L2.St} {H' : Hp} : LS K H1 G1 P σ' H' → LS K H G P σ' H' := fun ⟨us, G', e, r⟩ => ⟨us, G', x.trans e, r⟩
theorem LXS.trans {K : PySem.W.Frag} {H H1 : Hp} {G G1 : Gp} (x : Ext H G H1 G1) {E : UExc → USt → Gp → Prop} {c : Value} {d : Option Addr} {σ' : L2.St} {H' : Hp} : LXS K H1 G1 E c d σ' H' → LXS K H G E c d σ' H' := fun ⟨y, us, G', e, r⟩ => ⟨y, us, G', x.trans e, r⟩
theorem LXS.of {K : PySem.W.Frag} {H : Hp} {G : Gp} {E : UExc → USt → Gp → Prop} {c : Value} {d : Option Addr} {us : USt} {σ : L2.St} {H' : Hp} (rs : RelS K H us σ) (rp : Rep K H G) : LX K H G (fun x G' => E x us G') c d H' → LXS K H G E c d σ H' :=
  fun ⟨x, G', e, r, q, h⟩ => ⟨x, us, G', e, r, rs.ext e rp, q, h⟩
structure SU (X : Cx) (W : WX) (st : Stmt) (t : UTS) : Prop where
  run : ∀ (pins : List (Addr × Obj)) (s : Shared) (σ : L2.St) (H : Hp) (us : USt) (G : Gp) (D : UEnds), Inv X pins σ H s → RelS X.K H us σ → Rep X.K H G → t D us G → (∀ c d σ' H', LXS X.K H G D.ex c d σ' H' → W c d σ' H') →
    wpAny (model X.prog X.w) X.A (exec st X.env) (SP X pins (lD X.K H G D)) X.xe s
structure SsU (X : Cx) (W : WX) (st : List Stmt) (t : UTS) : Prop where
  run : ∀ (pins : List (Addr × Obj)) (s : Shared) (σ : L2.St) (H : Hp) (us : USt) (G : Gp) (D : UEnds), Inv X pins σ H s → RelS X.K H us σ → Rep X.K H G → t D us G → (∀ c d σ' H', LXS X.K H G D.ex c d σ' H' → W c d σ' H') →
    wpAny (model X.prog X.w) X.A (execs st X.env) (SP X pins (lD X.K H G D)) X.xe s
def lS (K : PySem.W.Frag) (W : WX) (t : UTS) : TS := fun D σ H => ∃ us G Du, RelS K H us σ ∧ Rep K H G ∧ t Du us G ∧ (∀ σ' H', LS K H G Du.nx σ' H' → D.nx σ' H') ∧ (∀ v H', LV K H G Du.rt v H' → D.rt v H') ∧ (∀ σ' H', LS K H G Du.bk σ' H' → D.bk σ' H') ∧ (∀ σ' H', LS K H G Du.ct σ' H' → D.ct σ' H') ∧
  ∀ c d σ' H', LXS K H G Du.ex c d σ' H' → W c d σ' H'
theorem sp_imp {X : Cx} {pins : List (Addr × Obj)} {D D' : Ends} {f : Flow} {s : Shared} (h1 : ∀ σ H, D.nx σ H → D'.nx σ H) (h2 : ∀ v H, D.rt v H → D'.rt v H) (h3 : ∀ σ H, D.bk σ H → D'.bk σ H) (h4 : ∀ σ H, D.ct σ H → D'.ct σ H) : SP X pins D f s → SP X pins D' f s := by
  intro h
  cases f with
  | next => obtain ⟨σ', H', I, q⟩ := h; exact ⟨σ', H', I, h1 _ _ q⟩
  | ret v => obtain ⟨x, σ', H', I, r, q⟩ := h; exact ⟨x, σ', H', I, r, h2 _ _ q⟩
  | brk => obtain ⟨σ', H', I, q⟩ := h; exact ⟨σ', H', I, h3 _ _ q⟩
  | cont => obtain ⟨σ', H', I, q⟩ := h; exact ⟨σ', H', I, h4 _ _ q⟩
theorem sp_trans {X : Cx} {pins : List (Addr × Obj)} {H H1 : Hp} {G G1 : Gp} {D : UEnds} {f : Flow} {s : Shared} (x : Ext H G H1 G1) : SP X pins (lD X.K H1 G1 D) f s → SP X pins (lD X.K H G D) f s :=
  sp_imp (fun _ _ h => h.trans x) (fun _ _ h => h.trans x) (fun _ _ h => h.trans x) (fun _ _ h => h.trans x)
section
variable {X : Cx} {W : WX} {st : Stmt} {rest : List Stmt} {t u : UTS} {e : Expr} {te : UTE} {pos : Pos}
theorem SU.ps (h : SU X W st t) : PS X st (lS X.K W t) := ⟨fun pins s σ H D I ⟨us, G, Du, rs, rp, ht, h1, h2, h3, h4, hx⟩ => thn (h.run pins s σ H us G Du I rs rp ht hx) fun f s' q => sp_imp h1 h2 h3 h4 q⟩
theorem SsU.pss (h : SsU X W rest t) : PSs X rest (lS X.K W t) := ⟨fun pins s σ H D I ⟨us, G, Du, rs, rp, ht, h1, h2, h3, h4, hx⟩ => thn (h.run pins s σ H us G Du I rs rp ht hx) fun f s' q => sp_imp h1 h2 h3 h4 q⟩
theorem SU.of {tv : TS} (h : PS X st tv) (k : ∀ σ H us G D, RelS X.K H us σ → Rep X.K H G → t D us G → (∀ c d σ' H', LXS X.K H G D.ex c d σ' H' → W c d σ' H') → tv (lD X.K H G D) σ H) : SU X W st t :=
  ⟨fun pins s σ H us G D I rs rp ht hx => h.run pins s σ H _ I (k σ H us G D rs rp ht hx)⟩
theorem SU.imp {t' : UTS} (h : SU X W st t) (k : ∀ D us G, t' D us G → t D us G) : SU X W st t' := ⟨fun pins s σ H us G D I rs rp ht hx => h.run pins s σ H us G D I rs rp (k _ _ _ ht) hx⟩
def tUNext : UTS := fun D us G => D.nx us G
def tUSeq (t u : UTS) : UTS := fun D us G => t { D with nx := u D } us G
theorem ssu_nil : SsU X W [] tUNext := ⟨fun pins s σ H us G D I rs rp h _ => wpAny_execs_nil ⟨σ, H, I, us, G, .refl _ _, rp, rs, h⟩⟩
theorem ssu_cons (h1 : SU X W st t) (h2 : SsU X W rest u) : SsU X W (st :: rest) (tUSeq t u) := by
  refine ⟨fun pins s σ H us G D I rs rp h hx => ?_⟩
  refine wpAny_execs_cons (thn (h1.run pins s σ H us G { D with nx := u D } I rs rp h hx) fun f s1 q => ?_)
  cases f with
  | next =>
    obtain ⟨σ', H', I', us', G', x1, rp', rs', q⟩ := q
    exact thn (h2.run pins s1 σ' H' us' G' D I' rs' rp' q fun c d σ2 H2 h' => hx c d σ2 H2 (h'.trans x1)) fun _ _ q => sp_trans x1 q
  | ret v => exact q
  | brk => exact q
  | cont => exact q
theorem su_pass : SU X W (.Pass pos) tUNext := ⟨fun pins s σ H us G D I rs rp h _ => wpAny_Pass ⟨σ, H, I, us, G, .refl _ _, rp, rs, h⟩⟩
theorem su_break : SU X W (.Break pos) (fun D us G => D.bk us G) := ⟨fun pins s σ H us G D I rs rp h _ => wpAny_Break ⟨σ, H, I, us, G, .refl _ _, rp, rs, h⟩⟩
theorem su_continue : SU X W (.Continue pos) (fun D us G => D.ct us G) := ⟨fun pins s σ H us G D I rs rp h _ => wpAny_Continue ⟨σ, H, I, us, G, .refl _ _, rp, rs, h⟩⟩
def tUDrop (te : UTE) : UTS := fun D us G => te us G (fun _ G1 => D.nx us G1) (fun x G1 => D.ex x us G1)
theorem su_expr (he : EU X W e te) (hs : swapsWith e none pos.line X.env = pure false) : SU X W (.Expr e pos) (tUDrop te) :=
  .of (ps_expr he.pe hs) fun σ H us G D rs rp h hx => ⟨us, G, _, _, rs, rp, h, fun v H' ⟨u, G1, x1, r1, _, q⟩ => ⟨us, G1, x1, r1, rs.ext x1 rp, q⟩, fun c d H' h' => hx c d σ H' (LXS.of rs rp h')⟩
def tURet (te : UTE) : UTS := fun D us G => te us G D.rt (fun x G1 => D.ex x us G1)
theorem su_ret (he : EU X W e te) : SU X W (.Return (some e) pos) (tURet te) :=
  .of (ps_ret he.pe) fun σ H us G D rs rp h hx => ⟨us, G, _, _, rs, rp, h, fun v H' h => h, fun c d H' h' => hx c d σ H' (LXS.of rs rp h')⟩
theorem su_retN : SU X W (.Return none pos) (fun D _ G => D.rt .non G) := .of ps_retN fun σ H us G D rs rp h hx => lv_non rp h
/-- the ways behind a test -/
def tUIfS (c : UTT) (t u : UTS) : UTS := fun D us G => c us G (fun b G1 => bif b then t D us G1 else u D us G1) (fun x G1 => D.ex x us G1)
theorem su_if {c : Expr} {a b : List Stmt} {tc : UTT} (hc : TU X W c tc) (ha : SsU X W a t) (hb : SsU X W b u) : SU X W (.If c a b pos) (tUIfS tc t u) := by
  refine .of (ps_if hc.pt ha.pss hb.pss) fun σ H us G D rs rp h hx => ⟨us, G, _, _, rs, rp, h, fun v H' ⟨G1, x1, r1, q⟩ => ?_, fun c d H' h' => hx c d σ H' (LXS.of rs rp h')⟩
  cases v with
  | true =>
    rw [if_pos rfl]
    exact ⟨us, G1, D, rs.ext x1 rp, r1, q, fun _ _ h => h.trans x1, fun _ _ h => h.trans x1, fun _ _ h => h.trans x1, fun _ _ h => h.trans x1, fun c d σ' H' h' => hx c d σ' H' (h'.trans x1)⟩
  | false =>
    rw [if_neg Bool.false_ne_true]
    exact ⟨us, G1, D, rs.ext x1 rp, r1, q, fun _ _ h => h.trans x1, fun _ _ h => h.trans x1, fun _ _ h => h.trans x1, fun _ _ h => h.trans x1, fun c d σ' H' h' => hx c d σ' H' (h'.trans x1)⟩

/-! ### targets -/
abbrev UTG := U → USt → Gp → (USt → Gp → Prop) → UX → Prop
abbrev UTGs := List U → USt → Gp → (USt → Gp → Prop) → UX → Prop
/-- the slots outside sl are as they were -/
def Out (sl : List Nat) (σ σ' : L2.St) : Prop := σ'.length = σ.length ∧ ∀ i, i ∉ sl → σ'[i]? = σ[i]?
theorem Out.refl (sl : List Nat) (σ : L2.St) : Out sl σ σ := ⟨rfl, fun _ _ => rfl⟩
theorem Out.trans {sl sl' : List Nat} {σ σ1 σ2 : L2.St} (a : Out sl σ σ1) (b : Out sl' σ1 σ2) : Out (sl ++ sl') σ σ2 :=
  ⟨b.1.trans a.1, fun i hi => (b.2 i fun z => hi (List.mem_append_right _ z)).trans (a.2 i fun z => hi (List.mem_append_left _ z))⟩
theorem Out.set (i : Nat) (σ : L2.St) (v : Option V) : Out [i] σ (σ.set i v) := ⟨List.length_set, fun j hj => List.getElem?_set_ne fun z => hj (by simp [z])⟩
theorem wipe_get (σ : L2.St) : ∀ (vs : List Nat) (i : Nat), (wipe σ vs)[i]? = if i ∈ vs then (if i < σ.length then some none else none) else σ[i]?
  | [], i => by simp [wipe]
  | v :: vs, i => by
    unfold wipe
    have hl : (wipe σ vs).length = σ.length := wipe_length σ vs
    by_cases h : v = i
    · subst h
      by_cases hv : v < σ.length
      · rw [List.getElem?_set_self (by omega)]
        simp [hv]
      · rw [List.getElem?_eq_none (by simp [hl]; omega)]
        simp [hv]
    · rw [List.getElem?_set_ne h, wipe_get σ vs i]
      have : (i ∈ v :: vs) = (i ∈ vs) := by
        simp only [List.mem_cons, eq_iff_iff]
        constructor
        · rintro (z | z)
          · exact absurd z.symm h
          · exact z
        · exact Or.inr
      simp only [this]
theorem Out.wipe {sl vs : List Nat} {σ σ' : L2.St} (a : Out sl σ σ') (h : ∀ i ∈ sl, i ∈ vs) : wipe σ' vs = wipe σ vs := by
  apply List.ext_getElem?
  intro i
  rw [wipe_get, wipe_get, a.1]
  by_cases hi : i ∈ vs
  · rw [if_pos hi, if_pos hi]
  · rw [if_neg hi, if_neg hi]
    exact a.2 i fun z => hi (h i z)
theorem wipe_wipe (σ : L2.St) (vs : List Nat) : L2.wipe (L2.wipe σ vs) vs = L2.wipe σ vs := by
  apply List.ext_getElem?
  intro i
  rw [wipe_get, wipe_get, wipe_length]
  by_cases hi : i ∈ vs
  · rw [if_pos hi, if_pos hi]
  · rw [if_neg hi, if_neg hi]
structure GU (X : Cx) (W : WX) (tg : Expr) (t : UTG) (sl : List Nat) : Prop where
  run : ∀ (pins : List (Addr × Obj)) (s : Shared) (σ : L2.St) (H : Hp) (v : V) (u : Value) (w : U) (us : USt) (G : Gp) (Q : USt → Gp → Prop) (E : UX), Inv X pins σ H s → RelV v u → RelU X.K H w v → RelS X.K H us σ → Rep X.K H G → t w us G Q E →
    (∀ c d H', LX X.K H G E c d H' → W c d σ H') → wpAny (model X.prog X.w) X.A (assign tg X.env u) (fun _ s' => ∃ σ' H', Inv X pins σ' H' s' ∧ LS X.K H G Q σ' H' ∧ Out sl σ σ') X.xe s
structure GsU (X : Cx) (W : WX) (ts : List Expr) (t : UTGs) (sl : List Nat) : Prop where
  run : ∀ (pins : List (Addr × Obj)) (s : Shared) (σ : L2.St) (H : Hp) (vs : List V) (us : List Value) (ws : List U) (ss : USt) (G : Gp) (Q : USt → Gp → Prop), Inv X pins σ H s → Vals vs us → RelUs X.K H ws vs → RelS X.K H ss σ → Rep X.K H G → t ws ss G Q (fun _ _ => False) →
    wpAny (model X.prog X.w) X.A (assignInOrder ((assignEach ts X.env).map (·.2)) us) (fun _ s' => ∃ σ' H', Inv X pins σ' H' s' ∧ LS X.K H G Q σ' H' ∧ Out sl σ σ') X.xe s
def gUName (i : Nat) : UTG := fun w us G Q _ => Q (us.set i (some w)) G
theorem gu_name {i : Nat} {x : Str} (hN : X.N.Nodup) (hi : X.N[i]? = some x) (hx : Loc X.env.scope x) (hf : X.fn x = true ∨ X.env.scope.names.lookup x = some .local) : GU X W (.Name x pos) (gUName i) [i] :=
  ⟨fun pins s σ H v u w us G Q E I r ru rs rp h _ => wpAny_assign_Name (store_ok I hN hi hx r (fun s' I' => ⟨_, H, I', ⟨us.set i (some w), G, .refl _ _, rp, RelS.set ru i rs, h⟩, Out.set i σ _⟩) hf)⟩
def gUNil : UTGs := fun ws us G Q _ => ws = [] ∧ Q us G
def gUCons (t : UTG) (tr : UTGs) : UTGs := fun ws us G Q E => match ws with
  | w :: r => t w us G (fun us1 G1 => tr r us1 G1 Q E) E
  | [] => False
theorem gsu_nil : GsU X W [] gUNil [] := ⟨fun pins s σ H vs us ws ss G Q I r ru rs rp ⟨e, q⟩ => by
  subst e
  have e' : vs = [] := ru
  subst e'
  cases r
  exact assignInOrder_nil ⟨σ, H, I, ⟨ss, G, .refl _ _, rp, rs, q⟩, Out.refl _ _⟩⟩
theorem gsu_cons {e : Expr} {es : List Expr} {t : UTG} {tr : UTGs} {sl sl' : List Nat} (h1 : GU X W e t sl) (h2 : GsU X W es tr sl') (hs : (assignEach (e :: es) X.env).map (·.2) = assign e X.env :: (assignEach es X.env).map (·.2)) : GsU X W (e :: es) (gUCons t tr) (sl ++ sl') := by
  refine ⟨fun pins s σ H vs us ws ss G Q I r ru rs rp h => ?_⟩
  cases ws with
  | nil => exact h.elim
  | cons w wr =>
    obtain ⟨v, vr, rfl, hw, hr⟩ := ru
    cases r with
    | cons r rr =>
      rw [hs]
      refine assignInOrder_cons (thn (h1.run pins s σ H v _ w ss G _ _ I r hw rs rp h fun c d H' ⟨_, _, _, _, _, z⟩ => z.elim) fun _ s1 ⟨σ1, H1, I1, ⟨us1, G1, x1, rp1, rs1, q1⟩, o1⟩ => ?_)
      exact thn (h2.run pins s1 σ1 H1 vr _ wr us1 G1 Q I1 rr (hr.ext x1 rp) rs1 rp1 q1) fun _ s2 ⟨σ2, H2, I2, q2, o2⟩ => ⟨σ2, H2, I2, q2.trans x1, o1.trans o2⟩
def gUTup (n : Nat) (t : UTGs) : UTG := fun w us G Q _ => match w with
  | .tup ws => ws.length = n ∧ t ws us G Q (fun _ _ => False)
  | _ => False
theorem gu_tup {es : List Expr} {k : Nat} {t : UTGs} {n : Nat} {sl : List Nat} (hc : X.calm = true) (h : GsU X W es t sl) (hn : (assignEach es X.env).length = n) (hst : (assignEach es X.env).findIdx? (·.1) = none) : GU X W (.Tuple es k pos) (gUTup n t) sl := by
  refine ⟨fun pins s σ H v u w us G Q E I r ru rs rp hw _ => ?_⟩
  cases w with
  | tup ws =>
    obtain ⟨hl, hw⟩ := hw
    obtain ⟨a, xs, e1, hq, hr⟩ := ru.tup_of
    subst e1
    cases r
    obtain ⟨its, rv, ht, hz⟩ := I.tuple hq
    refine assign_Tuple_tuple (I.ok.hd hc) ht (by simp [hn, ← hl, ← hr.length, rv.length]) hst fun h' hx => ?_
    have I1 : Inv X pins σ H { s with heap := h' } := I.kept (t' := s.toks) fun b o e => hx b o (Nat.ne_of_lt (Heap.lt_size e)) e
    exact h.run pins _ σ H xs _ ws us G Q I1 (by simpa using rv) hr rs rp hw
  | _ => exact hw.elim
def StU (X : Cx) (W : WX) (t : U → U → U → Gp → (Gp → Prop) → UX → Prop) : Prop :=
  ∀ (pins : List (Addr × Obj)) (s : Shared) (σ : L2.St) (H : Hp) (o i v : V) (ov iv u : Value) (a b c : U) (G : Gp) (Q : Gp → Prop) (E : UX), Inv X pins σ H s → RelV o ov → RelV i iv → RelV v u → RelU X.K H a o → RelU X.K H b i → RelU X.K H c v → Rep X.K H G → t a b c G Q E →
    (∀ c d H', LX X.K H G E c d H' → W c d σ H') → wpAny (model X.prog X.w) X.A (setItem ov iv u) (fun _ s' => ∃ H' G', Inv X pins σ H' s' ∧ Ext H G H' G' ∧ Rep X.K H' G' ∧ Q G') X.xe s
def gUSub (to ti : UTE) (t : U → U → U → Gp → (Gp → Prop) → UX → Prop) : UTG := fun w us G Q E => to us G (fun o G1 => ti us G1 (fun i G2 => t o i w G2 (fun G3 => Q us G3) E) E) E
theorem gu_sub {o i : Expr} {to ti : UTE} {t : U → U → U → Gp → (Gp → Prop) → UX → Prop} (ho : EU X W o to) (hi : EU X W i ti) (hs : StU X W t)
    (ha : ∀ v, assign (.Subscript o i pos) X.env v = (do
      let ov ← holding [v] (eval o X.env)
      let iv ← holding [v, ov] (eval i X.env)
      standAt pos
      holding [v, ov, iv] (setItem ov iv v)
      release [v, ov, iv] [])) : GU X W (.Subscript o i pos) (gUSub to ti t) [] := by
  refine ⟨fun pins s σ H v u w us G Q E I r ru rs rp h hx => ?_⟩
  rw [ha]
  refine wpAny_bind (wpAny_holding (thn (ho.run pins s σ H us G _ E I rs rp h hx) fun ov s1 ⟨x, H1, I1, r1, p, G1, x1, rp1, rup, q1⟩ => ?_))
  have hx1 : ∀ c d H', LX X.K H1 G1 E c d H' → W c d σ H' := fun c d H' h' => hx c d H' (h'.trans x1)
  refine wpAny_bind (wpAny_holding (thn (hi.run pins s1 σ H1 us G1 _ E I1 (rs.ext x1 rp) rp1 q1 hx1) fun iv s2 ⟨y, H2, I2, r2, q, G2, x2, rp2, ruq, q2⟩ => ?_))
  refine wpAny_bind (wpAny_standAt (wpAny_bind (wpAny_holding (thn (hs pins s2 σ H2 x y v ov iv u p q w G2 _ E I2 r1 r2 r (rup.ext x2 rp1) ruq ((ru.ext x1 rp).ext x2 rp1) rp2 q2 fun c d H' h' => hx1 c d H' (h'.trans x2)) fun _ s3 ⟨H3, G3, I3, x3, rp3, q3⟩ => ?_))))
  exact wpAny_release ⟨σ, H3, I3, ⟨us, G3, (x1.trans x2).trans x3, rp3, ((rs.ext x1 rp).ext x2 rp1).ext x3 rp2, q3⟩, Out.refl _ _⟩
def setU0 (o i v : U) (G : Gp) (Q : Gp → Prop) (_ : UX) : Prop := match o, i with
  | .ref a, .int k => ∃ us j, G a = some (.lst us) ∧ ixN us.length k = some j ∧ Q (gup G a (.lst (us.set j v)))
  | _, _ => False
theorem stu0 : StU X W setU0 := by
  intro pins s σ H o i v ov iv u a b c G Q E I ro ri rv ra rb rc rp h hx
  cases a with
  | ref p =>
    cases b with
    | int k =>
      obtain ⟨us, j, g, hj, q⟩ := h
      obtain ⟨vs, e, r⟩ := rp.lst g
      refine thn (set_list pins s σ H o i v ov iv u (fun H' => ∃ G', Ext H G H' G' ∧ Rep X.K H' G' ∧ Q G') I ro ri rv ⟨p, vs, k, j, ra, rb, e, by rw [r.length]; exact hj, ?_⟩) fun _ s' ⟨H', I', G', x1, r1, q1⟩ => ⟨H', G', I', x1, r1, q1⟩
      obtain ⟨u', G', x1, r1, _, q1⟩ := lv_setl (Q := fun _ G' => Q G') (u := .non) (v := .non) rp g (r.set rc j) rfl q
      exact ⟨G', x1, r1, q1⟩
    | _ => exact h.elim
  | _ => exact (show False by cases b <;> exact h).elim
def tUAsg (te : UTE) (g : UTG) : UTS := fun D us G => te us G (fun x G1 => g x us G1 D.nx (fun x G1 => D.ex x us G1)) (fun x G1 => D.ex x us G1)
theorem su_asg {tg e : Expr} {te : UTE} {g : UTG} {sl : List Nat} (he : EU X W e te) (hg : GU X W tg g sl) (hs : swapsWithSole [tg] e pos.line X.env = pure false) (hw : swappedStores [tg] e X.env = pure none)
    (h1 : (assignEach [tg] X.env).map (·.2) = [assign tg X.env]) : SU X W (.Assign [tg] e pos) (tUAsg te g) := by
  refine ⟨fun pins s σ H us G D I rs rp h hx => ?_⟩
  have hx0 : ∀ c d H', LX X.K H G (fun x G1 => D.ex x us G1) c d H' → W c d σ H' := fun c d H' h' => hx c d σ H' (LXS.of rs rp h')
  refine wpAny_Assign_stores (thn (he.run pins s σ H us G _ _ I rs rp h hx0) fun v s1 ⟨x, H1, I1, r1, p, G1, x1, rp1, ru, q1⟩ => ?_) hs hw
  rw [h1]
  exact thn (hg.run pins s1 σ H1 x v p us G1 _ _ I1 r1 ru (rs.ext x1 rp) rp1 q1 fun c d H' h' => hx0 c d H' (h'.trans x1)) fun _ s2 ⟨σ2, H2, I2, q2, _⟩ => ⟨σ2, H2, I2, q2.trans x1⟩
theorem su_set {i : Nat} {x : Str} {pos' : Pos} (hN : X.N.Nodup) (hi : X.N[i]? = some x) (hx : Loc X.env.scope x) (he : EU X W e te) (hs : swapsWith e (some (.Name x pos')) pos.line X.env = pure false) (hf : X.fn x = true ∨ X.env.scope.names.lookup x = some .local) :
    SU X W (.Assign [.Name x pos'] e pos) (tUAsg te (gUName i)) :=
  .of (ps_set hN hi hx he.pe hs hf) fun σ H us G D rs rp h hx => ⟨us, G, _, _, rs, rp, h, fun v H' ⟨u, G1, x1, r1, ru, q⟩ => ⟨us.set i (some u), G1, x1, r1, RelS.set ru i (rs.ext x1 rp), q⟩, fun c d H' h' => hx c d σ H' (LXS.of rs rp h')⟩
/-! a, b = x, y with plain local names -/
def setAll (us : USt) : List Nat → List U → USt
  | i :: is, w :: ws => setAll (us.set i (some w)) is ws
  | _, _ => us
def tUPar (is : List Nat) (ta : UTA) : UTS := fun D us G => ta us G (fun ws G1 => ws.length = is.length ∧ D.nx (setAll us is.reverse ws.reverse) G1) (fun x G1 => D.ex x us G1)
theorem par_store {E : Value → Shared → Prop} {pins : List (Addr × Obj)} (hN : X.N.Nodup) {Q : Unit → Shared → Prop} : ∀ (xs : List Str) (is : List Nat) (vs : List V) (us : List Value) (ws : List U) (ss : USt) (G : Gp) (s : Shared) (σ : L2.St) (H : Hp),
    xs.length = is.length → ws.length = is.length → (∀ (k : Nat) x i, xs[k]? = some x → is[k]? = some i → X.N[i]? = some x ∧ X.env.scope.names.lookup x = some .local) → Inv X pins σ H s → Vals vs us → RelUs X.K H ws vs → RelS X.K H ss σ → Rep X.K H G →
    (∀ s' σ', Inv X pins σ' H s' → RelS X.K H (setAll ss is ws) σ' → Q () s') → wpAny (model X.prog X.w) X.A (assignInOrder (xs.map fun n v => bindName X.env n v) us) Q E s
  | [], [], vs, us, ws, ss, G, s, σ, H, _, h2, _, I, rv, rw', rs, rp, q => by
    have : ws = [] := List.eq_nil_of_length_eq_zero h2
    subst this
    have e' : vs = [] := rw'
    subst e'
    cases rv
    exact assignInOrder_nil (q s σ I rs)
  | x :: xs, i :: is, vs, us, [], ss, G, s, σ, H, _, h2, _, I, rv, rw', rs, rp, q => by cases h2
  | x :: xs, i :: is, vs, us, w :: ws, ss, G, s, σ, H, h1, h2, hk, I, rv, rw', rs, rp, q => by
    obtain ⟨v, vr, rfl, hv, hr⟩ := rw'
    cases rv with
    | cons r rr =>
      obtain ⟨hi, hl⟩ := hk 0 x i rfl rfl
      rw [List.map_cons]
      refine assignInOrder_cons (wpAny_bindName (store_ok I hN hi (.inl hl) r (fun s2 I2 => ?_) (.inr hl)))
      exact par_store hN xs is vr _ ws _ G s2 _ H (by simpa using h1) (by simpa using h2) (fun k y j e1 e2 => hk (k + 1) y j e1 e2) I2 rr hr (RelS.set hv i rs) rp q
  | [], _ :: _, _, _, _, _, _, _, _, _, h1, _, _, _, _, _, _, _, _ => by cases h1
  | _ :: _, [], _, _, _, _, _, _, _, _, h1, _, _, _, _, _, _, _, _ => by cases h1
theorem su_par {ts es : List Expr} {kt k2 : Nat} {pt pt2 : Pos} {xs : List Str} {is : List Nat} {ta : UTA} (hc : X.calm = true) (hN : X.N.Nodup) (hl : xs.length = is.length) (h23 : is.length ≤ 3)
    (hk : ∀ (k : Nat) x i, xs[k]? = some x → is[k]? = some i → X.N[i]? = some x ∧ X.env.scope.names.lookup x = some .local) (ha : AU X W es ta)
    (hw : swappedStores [.Tuple ts kt pt] (.Tuple es k2 pt2) X.env = pure (some xs)) (hs : swapsWithSole [.Tuple ts kt pt] (.Tuple es k2 pt2) pos.line X.env = pure false) : SU X W (.Assign [.Tuple ts kt pt] (.Tuple es k2 pt2) pos) (tUPar is ta) := by
  refine ⟨fun pins s σ H us G D I rs rp h hx => ?_⟩
  have hx0 : ∀ c d H', LX X.K H G (fun x G1 => D.ex x us G1) c d H' → W c d σ H' := fun c d H' h' => hx c d σ H' (LXS.of rs rp h')
  rw [exec_Assign_arm]
  refine wpAny_bind (wpAny_standAt ?_)
  rw [hs]
  refine wpAny_bind (wpAny_pure ?_)
  rw [if_neg (by decide)]
  refine wpAny_bind (Tuple_ (thn (ha.run _ pins s σ H us G _ _ I rs rp h hx0) fun vals s1 ⟨vs, H1, I1, r1, ws, G1, x1, rp1, ru, hlen, q1⟩ => ?_))
  have lv : vals.length = is.length := by rw [← r1.length, ru.length, hlen]
  refine wpAny_newObj_type ?_ (by show vals.toArray.size ≤ sizeLine; rw [List.size_toArray, lv, sizeLine_eq]; omega)
  have I2 : Inv X pins σ H1 { s1 with heap := s1.heap.push { cls := .type "tuple", data := .seq vals.toArray } } := I1.kept (t' := s1.toks) fun b o e => Heap.get?_push_of_some _ e
  rw [hw]
  refine wpAny_bind (wpAny_pure ?_)
  show wpAny (model X.prog X.w) X.A (do rule "assign.swapped-stores"; let items ← unpackItems (.ref s1.heap.objs.size) xs.length none; assignInOrder (xs.reverse.map fun n v => bindName X.env n v) items.reverse; pure Flow.next) _ _ _
  have e1 : vals.toArray.size = xs.length := by rw [List.size_toArray, lv, hl]
  rw [← e1]
  refine wpAny_bind (wpAny_rule (wpAny_bind (unpackItems_tuple (items := vals.toArray) (I.ok.hd hc) (IsTup.new s1.heap _) fun h' hx' => ?_)))
  have I3 := I2.kept (h' := h') (t' := s1.toks) fun b o e => hx' b o (Nat.ne_of_lt (Heap.lt_size e)) e
  refine wpAny_bind (par_store hN xs.reverse is.reverse vs.reverse _ ws.reverse us G1 _ σ H1 (by simp [hl]) (by simp [hlen]) (fun k y j h1 h2 => ?_) I3 (by simpa using r1.reverse) ru.reverse (rs.ext x1 rp) rp1 fun s2 σ' I4 rs4 => wpAny_pure ⟨σ', H1, I4, _, G1, x1, rp1, rs4, q1⟩)
  have kl : k < xs.length := by
    have := (List.getElem?_eq_some_iff.mp h1).1
    simpa using this
  rw [List.getElem?_reverse (by omega)] at h1
  rw [List.getElem?_reverse (by omega), ← hl] at h2
  exact hk _ y j h1 h2
end
end UL
set_option maxHeartbeats 400000
namespace UL
open PySem PySem.Spec PyProof.Rows L2

/-! ### what is walked -/
abbrev UKI := (Gp → Prop) → List U → Gp → Prop
abbrev UTI := USt → Gp → UKI → UX → Prop
/-- the iterator J gives just these items while chk holds -/
structure ItU (K : PySem.W.Frag) (J : It) (chk : Gp → Prop) (items : List U) (H0 : Hp) (G0 : Gp) : Prop where
  go : ∀ (i : Nat) H G, Ext H0 G0 H G → Rep K H G → chk G → i < items.length → J.go i H ∧ ∀ x H', J.yld i H x H' → ∃ u, items[i]? = some u ∧ Ext H G H' G ∧ Rep K H' G ∧ RelU K H' u x
  stop : ∀ H G, Ext H0 G0 H G → Rep K H G → chk G → J.stop items.length H
def RI (K : PySem.W.Frag) (H : Hp) (G : Gp) (Q : UKI) : It → Hp → Prop := fun J H1 => ∃ chk items G1, Ext H G H1 G1 ∧ Rep K H1 G1 ∧ ItU K J chk items H1 G1 ∧ Q chk items G1
theorem RI.trans {K : PySem.W.Frag} {H H1 : Hp} {G G1 : Gp} (x : Ext H G H1 G1) {Q : UKI} {J : It} {H' : Hp} : RI K H1 G1 Q J H' → RI K H G Q J H' := fun ⟨c, i, G', e, r⟩ => ⟨c, i, G', x.trans e, r⟩
structure IU (X : Cx) (W : WX) (tg iter : Expr) (t : UTI) : Prop where
  run : ∀ (pins : List (Addr × Obj)) (s : Shared) (σ : L2.St) (H : Hp) (us : USt) (G : Gp) (Q : UKI) (E : UX), Inv X pins σ H s → RelS X.K H us σ → Rep X.K H G → t us G Q E → (∀ c d H', LX X.K H G E c d H' → W c d σ H') →
    wpAny (model X.prog X.w) X.A (eval iter X.env) (fun v s1 => wpAny (model X.prog X.w) X.A (pyIter v) (PIE X pins σ tg (RI X.K H G Q)) X.xe s1) X.xe s
def lI (K : PySem.W.Frag) (W : WX) (t : UTI) : TI := fun σ H R => ∃ us G Qu Eu, RelS K H us σ ∧ Rep K H G ∧ t us G Qu Eu ∧ (∀ J H', RI K H G Qu J H' → R J H') ∧ ∀ c d H', LX K H G Eu c d H' → W c d σ H'
theorem pie_imp {X : Cx} {pins : List (Addr × Obj)} {σ : L2.St} {tg : Expr} {R R' : It → Hp → Prop} {v : Value} {s : Shared} (h : ∀ J H, R J H → R' J H) : PIE X pins σ tg R v s → PIE X pins σ tg R' v s :=
  fun ⟨it, fp, tn, J, H', e, I, T, st, f, r⟩ => ⟨it, fp, tn, J, H', e, I, T, st, f, h _ _ r⟩
theorem IU.pi {X : Cx} {W : WX} {tg iter : Expr} {t : UTI} (h : IU X W tg iter t) : PI X tg iter (lI X.K W t) :=
  ⟨fun pins s σ H R I ⟨us, G, Qu, Eu, rs, rp, ht, hq, hx⟩ => thn (h.run pins s σ H us G Qu Eu I rs rp ht hx) fun v s1 h1 => thn h1 fun _ _ h2 => pie_imp hq h2⟩
section
variable {K : PySem.W.Frag} {H0 : Hp} {G0 : Gp}
theorem itu_list {a : Addr} {us : List U} : ItU K (Itl K a) (fun G => G a = some (.lst us)) us H0 G0 := by
  refine ⟨fun i H G x r g hi => ?_, fun H G x r g => ?_⟩
  · obtain ⟨vs, e, rv⟩ := r.lst g
    obtain ⟨v, ev, ru⟩ := rv.get (List.getElem?_eq_getElem hi)
    refine ⟨⟨vs, v, .of e, ev⟩, fun y H' ⟨eH, hy⟩ => ?_⟩
    subst eH
    have := hy vs (.of e)
    rw [ev] at this
    cases this
    exact ⟨_, List.getElem?_eq_getElem hi, .refl _ _, r, ru⟩
  · obtain ⟨vs, e, rv⟩ := r.lst g
    exact ⟨vs, .of e, by rw [rv.length]; exact Nat.le_refl _⟩
theorem itu_rol {a : Addr} {us : List U} {vs : List V} (h : RoL K H0 a vs) (rv : RelUs K H0 us vs) (r0 : Rep K H0 G0) : ItU K (Itl K a) (fun _ => True) us H0 G0 := by
  refine ⟨fun i H G x r _ hi => ?_, fun H G x r _ => ?_⟩
  · obtain ⟨v, ev, ru⟩ := rv.get (List.getElem?_eq_getElem hi)
    have h' := (x.roL r0 h).sq
    refine ⟨⟨vs, v, h', ev⟩, fun y H' ⟨eH, hy⟩ => ?_⟩
    subst eH
    have := hy vs h'
    rw [ev] at this
    cases this
    exact ⟨_, List.getElem?_eq_getElem hi, .refl _ _, r, ru.ext x r0⟩
  · exact ⟨vs, (x.roL r0 h).sq, by rw [rv.length]; exact Nat.le_refl _⟩
theorem itu_tup {a : Addr} {us : List U} {vs : List V} (h : SqT K H0 a vs) (rv : RelUs K H0 us vs) (r0 : Rep K H0 G0) : ItU K (Itt K a) (fun _ => True) us H0 G0 := by
  refine ⟨fun i H G x r _ hi => ?_, fun H G x r _ => ?_⟩
  · obtain ⟨v, ev, ru⟩ := rv.get (List.getElem?_eq_getElem hi)
    have h' := x.sqT r0 h
    refine ⟨⟨vs, v, h', ev⟩, fun y H' ⟨eH, hy⟩ => ?_⟩
    subst eH
    have := hy vs h'
    rw [ev] at this
    cases this
    exact ⟨_, List.getElem?_eq_getElem hi, .refl _ _, r, ru.ext x r0⟩
  · exact ⟨vs, x.sqT r0 h, by rw [rv.length]; exact Nat.le_refl _⟩
def signs (l : List Nat) : List U := l.map fun c => .str [c]
theorem itu_str {l : List Nat} : ItU K (Its ⟨l.toArray⟩) (fun _ => True) (signs l) H0 G0 := by
  have sz : (signs l).length = l.length := List.length_map _
  refine ⟨fun i H G x r _ hi => ?_, fun H G x r _ => ?_⟩
  · refine ⟨show i < l.toArray.size by rw [List.size_toArray]; omega, fun y H' ⟨eH, c, hc, hy⟩ => ?_⟩
    subst eH hy
    have hc' : l[i]? = some c := by simpa using hc
    exact ⟨.str [c], by unfold signs; rw [List.getElem?_map, hc']; rfl, .refl _ _, r, rfl⟩
  · show l.toArray.size ≤ (signs l).length
    rw [List.size_toArray, sz]
    exact Nat.le_refl _
def rngs (lo : Int) (n : Nat) : List U := (List.range n).map fun i => .int (lo + (i : Nat))
theorem itu_range {lo : Int} {n : Nat} : ItU K (Itr lo n) (fun _ => True) (rngs lo n) H0 G0 := by
  have sz : (rngs lo n).length = n := by unfold rngs; simp
  refine ⟨fun i H G x r _ hi => ?_, fun H G x r _ => ?_⟩
  · refine ⟨by rw [sz] at hi; exact hi, fun y H' ⟨eH, hy⟩ => ?_⟩
    subst eH hy
    refine ⟨.int (lo + (i : Nat)), ?_, .refl _ _, r, rfl⟩
    unfold rngs
    rw [List.getElem?_map, List.getElem?_range (by omega)]
    rfl
  · show n ≤ (rngs lo n).length
    rw [sz]
    exact Nat.le_refl _
theorem ext_tup {H : Hp} {G : Gp} (r : Rep K H G) {T : Addr} {xs : List V} (hT : H T = none) : Ext H G (upd H T (.tup xs)) G ∧ Rep K (upd H T (.tup xs)) G := ⟨(r.laid0 hT).2, (r.laid0 hT).1⟩
def enumU : Nat → List U → List U
  | _, [] => []
  | n, u :: us => .tup [.int (n : Nat), u] :: enumU (n + 1) us
theorem enumU_len : ∀ (n : Nat) (us : List U), (enumU n us).length = us.length
  | _, [] => rfl
  | n, u :: us => by rw [enumU, List.length_cons, List.length_cons, enumU_len]
theorem enumU_get : ∀ (n : Nat) (us : List U) (i : Nat) (u : U), us[i]? = some u → (enumU n us)[i]? = some (.tup [.int ((n + i : Nat)), u])
  | _, [], _, _, h => by cases h
  | n, w :: us, 0, _, h => by
    cases h
    rfl
  | n, w :: us, i + 1, u, h => by
    rw [enumU, List.getElem?_cons_succ, enumU_get (n + 1) us i u (by simpa using h)]
    congr 5
    omega
theorem itu_enum {a : Addr} {us : List U} : ItU K (Ite K a) (fun G => G a = some (.lst us)) (enumU 0 us) H0 G0 := by
  refine ⟨fun i H G x r g hi => ?_, fun H G x r g => ?_⟩
  · rw [enumU_len] at hi
    obtain ⟨vs, e, rv⟩ := r.lst g
    obtain ⟨v, ev, ru⟩ := rv.get (List.getElem?_eq_getElem hi)
    refine ⟨⟨vs, v, .of e, ev⟩, fun y H' ⟨T, z, ey, hT, eH, hz⟩ => ?_⟩
    subst eH ey
    have := hz vs (.of e)
    rw [ev] at this
    cases this
    obtain ⟨x1, r1⟩ := ext_tup r hT (xs := [.int (i : Nat), v])
    refine ⟨_, enumU_get 0 us i _ (List.getElem?_eq_getElem hi), x1, r1, T, _, rfl, .of upd_same, .int (i : Nat), [v], rfl, ?_, v, [], rfl, ru.ext x1 r, rfl⟩
    show V.int (i : Nat) = V.int ((0 + i : Nat))
    rw [Nat.zero_add]
  · obtain ⟨vs, e, rv⟩ := r.lst g
    exact ⟨vs, .of e, by rw [rv.length, enumU_len]; exact Nat.le_refl _⟩
end
section
variable {X : Cx} {W : WX} {tg e : Expr} {te : UTE} {ta : UTA} {pos p : Pos}
/-- any value that may be walked -/
def iterU (u : U) (G : Gp) (Q : UKI) : Prop := match u with
  | .ref a => ∃ us, G a = some (.lst us) ∧ Q (fun G => G a = some (.lst us)) us G
  | .tup us => Q (fun _ => True) us G
  | .rol us => Q (fun _ => True) us G
  | .str l => Q (fun _ => True) (signs l) G
  | _ => False
theorem pit_list {pins : List (Addr × Obj)} {σ : L2.St} {H : Hp} {s : Shared} {R : It → Hp → Prop} {E : Value → Shared → Prop} {a : Addr} {xs : List V} (I : Inv X pins σ H s) (hq : SqL X.K H a xs) (q : R (Itl X.K a) H) : wpAny (model X.prog X.w) X.A (pyIter (.ref a)) (PIE X pins σ tg R) E s := by
  obtain ⟨its, rv, pl, hz⟩ := I.list hq
  exact wpAny_pyIter_list pl.isList (pi_one (tk := s.toks) I _ (turn_list a _) ⟨_, Heap.get?_push_size _ rfl, rfl, rfl⟩ q)
theorem pit_tup {pins : List (Addr × Obj)} {σ : L2.St} {H : Hp} {s : Shared} {R : It → Hp → Prop} {E : Value → Shared → Prop} {a : Addr} {xs : List V} (I : Inv X pins σ H s) (hq : SqT X.K H a xs) (q : R (Itt X.K a) H) : wpAny (model X.prog X.w) X.A (pyIter (.ref a)) (PIE X pins σ tg R) E s := by
  obtain ⟨its, rv, pl, hz⟩ := I.tuple hq
  exact wpAny_pyIter_tuple (show s.heap.IsTuple a its.toArray from pl) (pi_one (tk := s.toks) I _ (turn_tuple a _) ⟨_, Heap.get?_push_size _ rfl, rfl, rfl⟩ q)
theorem pit_str {pins : List (Addr × Obj)} {σ : L2.St} {H : Hp} {s : Shared} {R : It → Hp → Prop} {E : Value → Shared → Prop} {x : Str} {t : Tok} (I : Inv X pins σ H s) (q : R (Its x) H) : wpAny (model X.prog X.w) X.A (pyIter (.str x t)) (PIE X pins σ tg R) E s := by
  cases ha : x.cps.all (· < 128)
  · exact wpAny_pyIter_wide ha (pi_one (tk := s.toks) I _ (turn_str _ x t "str_iterator" (.inr rfl)) ⟨_, Heap.get?_push_size _ rfl, rfl, rfl⟩ q)
  · exact wpAny_pyIter_ascii ha (pi_one (tk := s.toks) I _ (turn_str _ x t "str_ascii_iterator" (.inl rfl)) ⟨_, Heap.get?_push_size _ rfl, rfl, rfl⟩ q)
theorem pit_any {pins : List (Addr × Obj)} {σ : L2.St} {H : Hp} {s : Shared} {E : Value → Shared → Prop} {u : U} {v : V} {w : Value} {G : Gp} {Q : UKI} (I : Inv X pins σ H s) (rp : Rep X.K H G) (ru : RelU X.K H u v) (rv : RelV v w) (h : iterU u G Q) :
    wpAny (model X.prog X.w) X.A (pyIter w) (PIE X pins σ tg (RI X.K H G Q)) E s := by
  cases u with
  | ref a =>
    obtain ⟨us, g, q⟩ := h
    rw [show v = .ref a from ru] at rv
    obtain rfl : w = Value.ref a := rv
    obtain ⟨vs, e, r⟩ := rp.lst g
    exact pit_list I (.of e) ⟨_, us, G, .refl _ _, rp, itu_list, q⟩
  | tup us =>
    obtain ⟨a, vs, rfl, t, r⟩ := ru.tup_of
    obtain rfl : w = Value.ref a := rv
    exact pit_tup I t ⟨_, us, G, .refl _ _, rp, itu_tup t r rp, h⟩
  | rol us =>
    obtain ⟨a, vs, rfl, t, r⟩ := (show ∃ a vs, v = .ref a ∧ RoL X.K H a vs ∧ RelUs X.K H us vs from ru)
    obtain rfl : w = Value.ref a := rv
    exact pit_list I t.sq ⟨_, us, G, .refl _ _, rp, itu_rol t r rp, h⟩
  | str l =>
    rw [show v = .str ⟨l.toArray⟩ from ru] at rv
    obtain ⟨t, rfl⟩ := rv
    exact pit_str I ⟨_, signs l, G, .refl _ _, rp, itu_str, h⟩
  | _ => exact h.elim
def tIAny (te : UTE) : UTI := fun us G Q E => te us G (fun u G1 => iterU u G1 Q) E
theorem iu_any (he : EU X W e te) : IU X W tg e (tIAny te) := by
  refine ⟨fun pins s σ H us G Q E I rs rp h hx => ?_⟩
  refine thn (he.run pins s σ H us G _ E I rs rp h hx) fun v s1 ⟨x, H1, I1, r1, u, G1, x1, rp1, ru, q1⟩ => ?_
  exact thn (pit_any I1 rp1 ru r1 q1) fun _ _ h => pie_imp (fun _ _ h => h.trans x1) h
def rngA (u : U) (G : Gp) (Q : UKI) : Prop := match u with
  | .int j => (-(2 ^ 62) ≤ j ∧ j < 2 ^ 62) ∧ Q (fun _ => True) (rngs 0 j.toNat) G
  | _ => False
def rngB (u w : U) (G : Gp) (Q : UKI) : Prop := match u, w with
  | .int i, .int j => (-(2 ^ 62) ≤ i ∧ i < 2 ^ 62 ∧ -(2 ^ 62) ≤ j ∧ j < 2 ^ 62) ∧ Q (fun _ => True) (rngs i (j - i).toNat) G
  | _, _ => False
def rngQ1 (Q : UKI) (ws : List U) (G : Gp) : Prop := match ws with
  | [u] => rngA u G Q
  | _ => False
def rngQ2 (Q : UKI) (ws : List U) (G : Gp) : Prop := match ws with
  | [u, w] => rngB u w G Q
  | _ => False
def tIRng1 (ta : UTE) : UTI := fun us G Q E => ta us G (fun u G1 => rngA u G1 Q) E
def tIRng2 (ta tb : UTE) : UTI := fun us G Q E => ta us G (fun u G1 => tb us G1 (fun w G2 => rngB u w G2 Q) E) E
theorem iu_range1 {a : Expr} (hg : Gl X "range") (hm : X.mg "range" = none) (ha : EU X W a te) (hs : starEach [a] X.env = (false, eval a X.env) :: starEach [] X.env) : IU X W tg (.Call (.Name "range" p) [a] [] pos) (tIRng1 te) := by
  refine ⟨fun pins s σ H us G Q E I rs rp h hx => ?_⟩
  refine Call_ (ld_blt I hg hm boot_range (PyProof.Rows.callWith_type1 (thn ((au_cons ha au_nil hs).run pos pins s σ H us G (rngQ1 Q) E I rs rp h hx) fun vals s1 ⟨vs, H1, I1, r1, ws, G1, x1, rp1, ru, q1⟩ => ?_) hs rfl))
  cases ws with
  | nil => exact q1.elim
  | cons u r =>
    cases r with
    | cons _ _ => exact q1.elim
    | nil =>
      obtain ⟨v, vr, e1, ev, e2⟩ := ru
      have e2' : vr = [] := e2
      subst e1 e2'
      cases u with
      | int j =>
        rw [show v = .int j from ev] at r1
        cases r1 with
        | cons r rr =>
          cases rr
          obtain ⟨t, rfl⟩ := r
          obtain ⟨⟨q2, q3⟩, q⟩ := q1
          exact call_range_1 (range_it I1 (by omega) (by omega) q2 q3 ⟨_, _, G1, x1, rp1, itu_range, by simpa using q⟩)
      | _ => exact q1.elim
theorem iu_range2 {a b : Expr} {tb : UTE} (hg : Gl X "range") (hm : X.mg "range" = none) (ha : EU X W a te) (hb : EU X W b tb) (hs : starEach [a, b] X.env = (false, eval a X.env) :: starEach [b] X.env) (hs2 : starEach [b] X.env = (false, eval b X.env) :: starEach [] X.env) :
    IU X W tg (.Call (.Name "range" p) [a, b] [] pos) (tIRng2 te tb) := by
  refine ⟨fun pins s σ H us G Q E I rs rp h hx => ?_⟩
  refine Call_ (ld_blt I hg hm boot_range (PyProof.Rows.callWith_type1 (thn ((au_cons ha (au_cons hb au_nil hs2) hs).run pos pins s σ H us G (rngQ2 Q) E I rs rp h hx) fun vals s1 ⟨vs, H1, I1, r1, ws, G1, x1, rp1, ru, q1⟩ => ?_) hs (by rw [hs2]; rfl)))
  cases ws with
  | nil => exact q1.elim
  | cons u r =>
    cases r with
    | nil => exact q1.elim
    | cons u2 r =>
      cases r with
      | cons _ _ => exact q1.elim
      | nil =>
        obtain ⟨v, vr, e1, ev, v2, vr2, e3, ev2, e4⟩ := ru
        have e4' : vr2 = [] := e4
        subst e1 e3 e4'
        cases u with
        | int i =>
          cases u2 with
          | int j =>
            rw [show v = .int i from ev, show v2 = .int j from ev2] at r1
            cases r1 with
            | cons r rr =>
              cases rr with
              | cons r' rr =>
                cases rr
                obtain ⟨t, rfl⟩ := r
                obtain ⟨t', rfl⟩ := r'
                obtain ⟨⟨q2, q3, q4, q5⟩, q⟩ := q1
                exact call_range_2 (range_it I1 q2 q3 q4 q5 ⟨_, _, G1, x1, rp1, itu_range, q⟩)
          | _ => exact q1.elim
        | _ => exact (show False by cases u2 <;> exact q1).elim
end

/-! ### for -/
def forU (tg : UTG) (body : UTS) (chk : Gp → Prop) : List U → UTS
  | [] => fun D us G => chk G ∧ D.nx us G
  | x :: xs => fun D us G => chk G ∧ tg x us G (fun us1 G1 => body { D with nx := forU tg body chk xs D, ct := forU tg body chk xs D, bk := D.nx } us1 G1) (fun x G1 => D.ex x us G1)
def tUFor (ti : UTI) (tg : UTG) (body : UTS) : UTS := fun D us G => ti us G (fun chk items G1 => forU tg body chk items D us G1) (fun x G1 => D.ex x us G1)
def lG (K : PySem.W.Frag) (W : WX) (t : UTG) (sl : List Nat) : TG := fun v σ H Q => ∃ w us G Qu Eu, RelU K H w v ∧ RelS K H us σ ∧ Rep K H G ∧ t w us G Qu Eu ∧ (∀ σ' H', LS K H G Qu σ' H' → Out sl σ σ' → Q σ' H') ∧ ∀ c d H', LX K H G Eu c d H' → W c d σ H'
theorem GU.pg {X : Cx} {W : WX} {tg : Expr} {t : UTG} {sl : List Nat} (h : GU X W tg t sl) : PG X tg (lG X.K W t sl) :=
  ⟨fun pins s σ H v u Q I r ⟨w, us, G, Qu, Eu, ru, rs, rp, ht, hq, hx⟩ => thn (h.run pins s σ H v u w us G Qu Eu I r ru rs rp ht hx) fun _ s' ⟨σ', H', I', q, o⟩ => ⟨σ', H', I', hq _ _ q o⟩⟩
theorem drop_cons {α : Type} {xs : List α} {i : Nat} {x : α} (h : xs[i]? = some x) : xs.drop i = x :: xs.drop (i + 1) := by
  obtain ⟨hi, e⟩ := List.getElem?_eq_some_iff.mp h
  rw [List.drop_eq_getElem_cons hi, e]
theorem su_for {X : Cx} {W : WX} {iter tg : Expr} {body : List Stmt} {ti : UTI} {g : UTG} {sl : List Nat} {tb : UTS} {pos : Pos} (hp : PassesOwn (model X.prog X.w) X.A X.env X.xe) (hc : X.calm = true) (hi : IU X W tg iter ti) (hg : GU X W tg g sl) (hb : SsU X W body tb)
    (hs : ∀ x, foldedSetIterable iter X.env x = pure x) : SU X W (.For tg iter body [] pos) (tUFor ti g tb) := by
  refine .of (ps_for hp hc hi.pi hg.pg hb.pss hs) fun σ H us G D rs rp h hx => ⟨us, G, _, _, rs, rp, h, fun J H1 ⟨chk, items, G1, x1, rp1, it, q⟩ => ?_, fun c d H' h' => hx c d σ H' (LXS.of rs rp h')⟩
  refine ⟨fun i m σ' H' => m = items.length - i ∧ i ≤ items.length ∧ ∃ us' G', Ext H1 G1 H' G' ∧ RelS X.K H' us' σ' ∧ Rep X.K H' G' ∧ forU g tb chk (items.drop i) D us' G', ⟨_, rfl, Nat.zero_le _, us, G1, .refl _ _, rs.ext x1 rp, rp1, by simpa using q⟩, ?_⟩
  rintro i m σ' H' ⟨rfl, hi, us', G', x2, rs', rp', q'⟩
  by_cases hlt : i < items.length
  · obtain ⟨u, eu⟩ : ∃ u, items[i]? = some u := ⟨_, List.getElem?_eq_getElem hlt⟩
    rw [drop_cons eu] at q'
    obtain ⟨hchk, q'⟩ := q'
    obtain ⟨hgo, hy⟩ := it.go i H' G' x2 rp' hchk hlt
    refine .inr ⟨hgo, LS X.K H' G' (forU g tb chk (items.drop (i + 1)) D), fun σ2 H2 ⟨us2, G2, x3, rp2, rs2, q2⟩ => ⟨items.length - (i + 1), by omega, rfl, hlt, us2, G2, x2.trans x3, rs2, rp2, q2⟩, fun x H2 y => ?_⟩
    obtain ⟨w, ew, x3, rp3, rw'⟩ := hy x H2 y
    rw [eu] at ew
    cases ew
    have rs3 := rs'.ext x3 rp'
    refine ⟨u, us', G', _, _, rw', rs3, rp3, q', fun σ4 H4 ⟨us4, G4, x4, rp4, rs4, q4⟩ _ => ?_, fun c d H4 h' => hx c d _ H4 (((LXS.of rs3 rp3 h').trans x3).trans (x1.trans x2))⟩
    have xa := x3.trans x4
    have xb := (x1.trans x2).trans xa
    exact ⟨us4, G4, _, rs4, rp4, q4, fun _ _ h => h.trans xa, fun _ _ h => h.trans xb, fun _ _ h => h.trans xb, fun _ _ h => h.trans xa, fun c d σ5 H5 h' => hx c d σ5 H5 (h'.trans xb)⟩
  · have e : i = items.length := by omega
    subst e
    rw [List.drop_length] at q'
    exact .inl ⟨it.stop H' G' x2 rp' q'.1, us', G', x1.trans x2, rp', rs', q'.2⟩

/-! ### while -/
def whileU (c : UTT) (body : UTS) : Nat → UTS
  | 0 => fun _ _ _ => False
  | n + 1 => fun D us G => c us G (fun b G1 => bif b then body { D with nx := whileU c body n D, ct := whileU c body n D, bk := D.nx } us G1 else D.nx us G1) (fun x G1 => D.ex x us G1)
theorem su_while {X : Cx} {W : WX} {c : Expr} {body : List Stmt} {tc : UTT} {tb : UTS} {pos : Pos} (hp : PassesOwn (model X.prog X.w) X.A X.env X.xe) (hc : TU X W c tc) (hb : SsU X W body tb) : SU X W (.While c body [] pos) (fun D us G => ∃ n, whileU tc tb n D us G) := by
  refine .of (ps_while hp hc.pt hb.pss) fun σ H us G D rs rp h hx => ?_
  obtain ⟨n, h⟩ := h
  refine ⟨fun m σ' H' => ∃ us' G', Ext H G H' G' ∧ RelS X.K H' us' σ' ∧ Rep X.K H' G' ∧ whileU tc tb m D us' G', ⟨n, us, G, .refl _ _, rs, rp, h⟩, ?_⟩
  rintro m σ' H' ⟨us', G', x1, rs', rp', q⟩
  cases m with
  | zero => exact q.elim
  | succ m =>
    refine ⟨us', G', _, _, rs', rp', q, fun b H2 ⟨G2, x2, rp2, q2⟩ => ?_, fun c d H2 h' => hx c d σ' H2 ((LXS.of rs' rp' h').trans x1)⟩
    have xa := x1.trans x2
    cases b with
    | true =>
      refine iteT ?_
      refine ⟨LS X.K H' G' (whileU tc tb m D), fun σ3 H3 ⟨us3, G3, x3, rp3, rs3, q3⟩ => ⟨m, Nat.lt_succ_self _, us3, G3, x1.trans x3, rs3, rp3, q3⟩, ?_⟩
      exact ⟨us', G2, _, rs'.ext x2 rp', rp2, q2, fun _ _ h => h.trans x2, fun _ _ h => h.trans xa, fun _ _ h => h.trans xa, fun _ _ h => h.trans x2, fun c d σ5 H5 h' => hx c d σ5 H5 (h'.trans xa)⟩
    | false =>
      refine iteF ?_
      exact ⟨us', G2, xa, rp2, rs'.ext x2 rp', q2⟩

/-! ### list comprehensions -/
def F0 : UX := fun _ _ => False
def W0 : WX := fun _ _ _ _ => False
def lcU (tg : UTG) (tt : UTT) (te : UTE) (chk : Gp → Prop) (us : USt) (Q : List U → Gp → Prop) : List U → List U → Gp → Prop
  | [], acc, G => chk G ∧ Q acc G
  | x :: xs, acc, G => chk G ∧ tg x us G (fun us1 G1 => tt us1 G1 (fun b G2 => bif b then te us1 G2 (fun y G3 => acc.length < 1000000 ∧ lcU tg tt te chk us Q xs (acc ++ [y]) G3) F0 else lcU tg tt te chk us Q xs acc G2) F0) F0
def tULc (ti : UTI) (tg : UTG) (tt : UTT) (te : UTE) (own : List Nat) : UTE := fun us G Q E => ti us G (fun chk items G1 => lcU tg tt te chk (uwipe us own) (fun acc G2 => ∀ p, G2 p = none → Q (.ref p) (gup G2 p (.lst acc))) items [] G1) E
/-- a clause's tests -/
structure FsU (X : Cx) (W : WX) (ifs : List Expr) (t : UTT) : Prop where
  run : ∀ (pins : List (Addr × Obj)) (s : Shared) (σ : L2.St) (H : Hp) (us : USt) (G : Gp) (Q : Bool → Gp → Prop) (E : UX), Inv X pins σ H s → RelS X.K H us σ → Rep X.K H G → t us G Q E → (∀ c d H', LX X.K H G E c d H' → W c d σ H') →
    wpAny (model X.prog X.w) X.A (forIn ifs true fun c r => if r = true then do let ok ← isTrue c X.env (eval c X.env); pure (ForInStep.yield ok) else pure (ForInStep.yield r)) (TP X pins σ (LB X.K H G Q)) X.xe s
theorem fsu_nil {X : Cx} {W : WX} : FsU X W [] (fun _ G Q _ => Q true G) := ⟨fun _ _ _ H _ G Q E I _ rp h _ => wpAny_tests_nil ⟨H, I, G, .refl _ _, rp, h⟩⟩
theorem fsu_one {X : Cx} {W : WX} {c : Expr} {t : UTT} (h : TU X W c t) : FsU X W [c] t := ⟨fun pins s σ H us G Q E I rs rp hw hx => wpAny_tests_one (h.run pins s σ H us G Q E I rs rp hw hx)⟩
theorem FsU.pts {X : Cx} {W : WX} {ifs : List Expr} {t : UTT} (h : FsU X W ifs t) : PTs X ifs (lT X.K W t) := ⟨fun pins s σ H Q I ⟨us, G, Qu, Eu, rs, rp, ht, hq, hx⟩ => thn (h.run pins s σ H us G Qu Eu I rs rp ht hx) fun v s' ⟨H', I', q⟩ => ⟨H', I', hq _ _ q⟩⟩
theorem lx_false {K : PySem.W.Frag} {H : Hp} {G : Gp} {c : Value} {d : Option Addr} {H' : Hp} : LX K H G F0 c d H' → False := fun ⟨_, _, _, _, _, z⟩ => z
section
variable {X : Cx} {W : WX} {elt tg iter : Expr} {ifs : List Expr} {scope : Scope} {own : List (Str × Nat)} {pos spos : Pos} {ti : UTI} {g : UTG} {tt : UTT} {te : UTE} {sl : List Nat}
theorem lc_read {K : PySem.W.Frag} {σ : L2.St} {H H1 : Hp} {us : USt} {G G1 : Gp} {J : It} {chk : Gp → Prop} {items : List U} {vs : List Nat} {Q : UK} (hsl : ∀ i ∈ sl, i ∈ vs) (rs : RelS K H us σ) (rp : Rep K H G) (x1 : Ext H G H1 G1) (rp1 : Rep K H1 G1) (it : ItU K J chk items H1 G1)
    (q : lcU g tt te chk (uwipe us vs) (fun acc G2 => ∀ p, G2 p = none → Q (.ref p) (gup G2 p (.lst acc))) items [] G1) : ∀ D, H1 D = none → ∃ Wv : Nat → Nat → Hp → Prop, (∃ m, Wv 0 m (upd H1 D (.lst []))) ∧ ∀ i m H, Wv i m H →
      (J.stop i H ∧ LV K H1 G1 Q (.ref D) H) ∨ (J.go i H ∧ ∃ Nx : Hp → Prop, (∀ H', Nx H' → ∃ m', m' < m ∧ Wv (i + 1) m' H') ∧ ∀ x H', J.yld i H x H' → lG K W0 g sl x (wipe σ vs) H' fun σ2 H2 => wipe σ2 vs = wipe σ vs ∧ lT K W0 tt σ2 H2 fun b H3 =>
        if b = true then lE K W0 te σ2 H3 fun y H4 => ∃ acc, H4 D = some (.lst acc) ∧ acc.length < sizeLine ∧ Nx (upd H4 D (.lst (acc ++ [y]))) else Nx H3) := by
  intro D hD
  have x0 : Ext H1 G1 (upd H1 D (.lst [])) G1 := (rp1.laid0 hD).2
  have r0 : Rep K (upd H1 D (.lst [])) G1 := (rp1.laid0 hD).1
  have gD : G1 D = none := rp1.fresh hD
  have rsw : RelS K H1 (uwipe us vs) (L2.wipe σ vs) := (rs.ext x1 rp).wipe vs
  have grow : ∀ {H5 : Hp} {G5 : Gp} {o : HO}, Ext H1 G1 H5 G5 → Ext H1 G1 (upd H5 D o) G5 := fun {H5 G5 o} x b u hb gb => by
    obtain ⟨z1, z2⟩ := x b u hb gb
    exact ⟨by rw [upd_ne (ne_of_none hb hD)]; exact z1, z2⟩
  refine ⟨fun i m H' => m = items.length - i ∧ i ≤ items.length ∧ ∃ G' acc accv, Ext H1 G1 H' G' ∧ Rep K H' G' ∧ G' D = none ∧ H' D = some (.lst accv) ∧ RelUs K H' acc accv ∧ lcU g tt te chk (uwipe us vs) (fun acc G2 => ∀ p, G2 p = none → Q (.ref p) (gup G2 p (.lst acc))) (items.drop i) acc G',
    ⟨_, rfl, Nat.zero_le _, G1, [], [], x0, r0, gD, upd_same, rfl, by simpa using q⟩, ?_⟩
  rintro i m H' ⟨rfl, hi, G', acc, accv, x2, rp2, gD2, hD2, ra, q2⟩
  by_cases hlt : i < items.length
  · obtain ⟨u, eu⟩ : ∃ u, items[i]? = some u := ⟨_, List.getElem?_eq_getElem hlt⟩
    rw [drop_cons eu] at q2
    obtain ⟨hchk, q2⟩ := q2
    obtain ⟨hgo, hy⟩ := it.go i H' G' x2 rp2 hchk hlt
    refine .inr ⟨hgo, fun H5 => ∃ G5 acc5 accv5, Ext H1 G1 H5 G5 ∧ Rep K H5 G5 ∧ G5 D = none ∧ H5 D = some (.lst accv5) ∧ RelUs K H5 acc5 accv5 ∧ lcU g tt te chk (uwipe us vs) (fun acc G2 => ∀ p, G2 p = none → Q (.ref p) (gup G2 p (.lst acc))) (items.drop (i + 1)) acc5 G5,
      fun H5 ⟨G5, a5, v5, x5, r5, g5, h5, ra5, q5⟩ => ⟨items.length - (i + 1), by omega, rfl, hlt, G5, a5, v5, x5, r5, g5, h5, ra5, q5⟩, fun x H3 y => ?_⟩
    obtain ⟨w, ew, x3, rp3, rw'⟩ := hy x H3 y
    rw [eu] at ew
    cases ew
    have rs3 : RelS K H3 (uwipe us vs) (L2.wipe σ vs) := (rsw.ext x2 rp1).ext x3 rp2
    refine ⟨u, uwipe us vs, G', _, _, rw', rs3, rp3, q2, fun σ4 H4 ⟨us4, G4, x4, rp4, rs4, q4⟩ ho => ⟨by rw [ho.wipe hsl, wipe_wipe], us4, G4, _, _, rs4, rp4, q4, fun b H5 ⟨G5, x5, rp5, q5⟩ => ?_, fun c d H' h' => (lx_false h').elim⟩, fun c d H' h' => (lx_false h').elim⟩
    have xa := (x3.trans x4).trans x5
    have hD5 := xa D _ hD2 gD2
    cases b with
    | true =>
      refine iteT ?_
      refine ⟨us4, G5, _, _, rs4.ext x5 rp4, rp5, q5, fun y H6 ⟨z, G6, x6, rp6, rz, hz, q6⟩ => ?_, fun c d H' h' => (lx_false h').elim⟩
      have xb := xa.trans x6
      have hD6 := xb D _ hD2 gD2
      have ra6 : RelUs K H6 acc accv := ra.ext xb rp2
      obtain ⟨hT, hR⟩ := own_upd (K := K) (ys := accv ++ [y]) hD6.1
      exact ⟨accv, hD6.1, by rw [ra.length]; exact lim_lt hz, G6, acc ++ [z], accv ++ [y], grow (x2.trans xb), rp6.own hD6.1 hD6.2, hD6.2, upd_same, (ra6.append (.one rz)).mono hT hR, q6⟩
    | false =>
      refine iteF ?_
      exact ⟨G5, acc, accv, x2.trans xa, rp5, hD5.2, hD5.1, ra.ext xa rp2, q5⟩
  · have e : i = items.length := by omega
    subst e
    rw [List.drop_length] at q2
    refine .inl ⟨it.stop H' G' x2 rp2 q2.1, .ref D, gup G' D (.lst acc), fun b o hb gb => ?_, fun b o e => ?_, rfl, q2.2 D gD2⟩
    · obtain ⟨z1, z2⟩ := x2 b o hb gb
      exact ⟨z1, by rw [gup_ne (ne_of_none hb hD)]; exact z2⟩
    · by_cases hb : b = D
      · subst hb
        rw [gup_same] at e
        cases e
        exact ⟨accv, hD2, ra⟩
      · rw [gup_ne hb] at e
        exact rp2 b o e
theorem eu_lc (hc : X.calm = true) (hN : X.N.Nodup) (hi : IU X W tg iter ti) (ok : BlkOk X.N X.env.scope scope own) (hsl : ∀ i ∈ sl, i ∈ own.map (·.2))
    (hg : ∀ (s : Shared) (H : Hp) (C : Addr) (cl : List (Str × Addr)) (fp : List Addr), GU (X.blk s H scope (compEnvC scope cl C X.env) fp) W0 tg g sl) (ht : ∀ (s : Shared) (H : Hp) (C : Addr) (cl : List (Str × Addr)) (fp : List Addr), FsU (X.blk s H scope (compEnvC scope cl C X.env) fp) W0 ifs tt)
    (he : ∀ (s : Shared) (H : Hp) (C : Addr) (cl : List (Str × Addr)) (fp : List Addr), EU (X.blk s H scope (compEnvC scope cl C X.env) fp) W0 elt te) (hs : ∀ x, foldedSetIterable iter X.env x = pure x) :
    EU X W (.ListComp elt [⟨tg, iter, ifs, 0⟩] scope pos) (tULc ti g tt te (own.map (·.2))) := by
  refine .of (pe_lc (te := lE X.K W0 te) (tt := lT X.K W0 tt) (g := lG X.K W0 g sl) hc hN hi.pi ok (fun s H C cl fp => (hg s H C cl fp).pg) (fun s H C cl fp => (ht s H C cl fp).pts) (fun s H C cl fp => (he s H C cl fp).pe) hs) fun σ H us G Q E rs rp h hx => ?_
  refine ⟨us, G, _, _, rs, rp, h, fun J H1 ⟨chk, items, G1, x1, rp1, it, q⟩ => fun D hD => ?_, hx⟩
  obtain ⟨Wv, h1, h2⟩ := lc_read hsl rs rp x1 rp1 it q D hD
  refine ⟨Wv, h1, fun i m H' w => ?_⟩
  rcases h2 i m H' w with ⟨a, b⟩ | z
  · exact .inl ⟨a, b.trans x1⟩
  · exact .inr z
theorem su_setLc {i : Nat} {y : Str} {py : Pos} (hc : X.calm = true) (hN : X.N.Nodup) (hy : X.N[i]? = some y) (hyl : X.env.scope.names.lookup y = some .local)
    (hsw : swapsWith (.ListComp elt [⟨tg, iter, ifs, 0⟩] scope pos) (some (.Name y py)) spos.line X.env = pure true) (hi : IU X W tg iter ti) (ok : BlkOk X.N X.env.scope scope own) (hsl : ∀ i ∈ sl, i ∈ own.map (·.2))
    (hg : ∀ (s : Shared) (H : Hp) (C : Addr) (cl : List (Str × Addr)) (fp : List Addr), GU (X.blk s H scope (compEnvC scope cl C X.env) fp) W0 tg g sl) (ht : ∀ (s : Shared) (H : Hp) (C : Addr) (cl : List (Str × Addr)) (fp : List Addr), FsU (X.blk s H scope (compEnvC scope cl C X.env) fp) W0 ifs tt)
    (he : ∀ (s : Shared) (H : Hp) (C : Addr) (cl : List (Str × Addr)) (fp : List Addr), EU (X.blk s H scope (compEnvC scope cl C X.env) fp) W0 elt te) (hs : ∀ x, foldedSetIterable iter X.env x = pure x) :
    SU X W (.Assign [.Name y py] (.ListComp elt [⟨tg, iter, ifs, 0⟩] scope pos) spos) (tUAsg (tULc ti g tt te (own.map (·.2))) (gUName i)) := by
  refine .of (ps_setLc (te := lE X.K W0 te) (tt := lT X.K W0 tt) (g := lG X.K W0 g sl) hc hN hy hyl hsw hi.pi ok (fun s H C cl fp => (hg s H C cl fp).pg) (fun s H C cl fp => (ht s H C cl fp).pts) (fun s H C cl fp => (he s H C cl fp).pe) hs) fun σ H us G D rs rp h hx => ?_
  refine ⟨us, G, _, _, rs, rp, h, fun J H1 ⟨chk, items, G1, x1, rp1, it, q⟩ => fun B hB => ?_, fun c d H' h' => hx c d σ H' (LXS.of rs rp h')⟩
  obtain ⟨Wv, h1, h2⟩ := lc_read (Q := fun v G1 => D.nx (us.set i (some v)) G1) hsl rs rp x1 rp1 it q B hB
  refine ⟨Wv, h1, fun j m H' w => ?_⟩
  rcases h2 j m H' w with ⟨a, u, G', x2, rp2, ru, b⟩ | z
  · exact .inl ⟨a, us.set i (some u), G', x1.trans x2, rp2, RelS.set ru i ((rs.ext x1 rp).ext x2 rp1), b⟩
  · exact .inr z
end
end UL
set_option maxHeartbeats 400000
namespace UL
open PySem PySem.Spec PyProof.Rows L2 PySem.W

/-! ### how arguments come to parameters -/
section
variable {α : Type}
/-- the keywords' values behind the positional ones; none where one is refused -/
def kwAdd (names : List Str) : List (Str × α) → List (Str × α) → Option (List (Str × α))
  | slots, [] => some slots
  | slots, (k, v) :: r => if names.contains k then (if (slots.lookup k).isSome then none else kwAdd names (slots ++ [(k, v)]) r) else none
def dfAdd : List (Str × α) → List (Str × α) → List (Str × α)
  | slots, [] => slots
  | slots, (k, v) :: r => dfAdd (if (slots.lookup k).isNone then slots ++ [(k, v)] else slots) r
def kdAdd (kd : List (Str × α)) : List (Str × α) → List Str → Option (List (Str × α))
  | slots, [] => some slots
  | slots, k :: r => if (slots.lookup k).isNone then (match kd.lookup k with
    | some v => kdAdd kd (slots ++ [(k, v)]) r
    | none => none) else kdAdd kd slots r
def getAll (slots : List (Str × α)) : List Str → Option (List α)
  | [] => some []
  | n :: r => match slots.lookup n, getAll slots r with
    | some v, some vs => some (v :: vs)
    | _, _ => none
def bindV (normal kwonly : List Str) (us : List α) (kws : List (Str × α)) (dv : List α) (kd : List (Str × α)) : Option (List α) :=
  if us.length ≤ normal.length ∧ dv.length ≤ normal.length then
    match kwAdd (normal ++ kwonly) (normal.zip us) kws with
    | none => none
    | some s1 => if ((normal.take (normal.length - dv.length)).filter fun n => (s1.lookup n).isNone).isEmpty then
        match kdAdd kd (dfAdd s1 ((normal.drop (normal.length - dv.length)).zip dv)) kwonly with
        | none => none
        | some s2 => getAll s2 (normal ++ kwonly)
      else none
  else none
end
theorem forIn_pure {α β : Type} {f : α → β → Sem (ForInStep β)} : ∀ (l : List α) (b r : β) (g : β → List α → β → Prop) (hnil : ∀ b, g b [] b) , (∀ b x l r, g b (x :: l) r → ∃ b', f x b = pure (.yield b') ∧ g b' l r) → (∀ b r, g b [] r → b = r) → g b l r → forIn l b f = pure r
  | [], b, r, g, _, _, h0, h => by
    rw [List.forIn_nil, h0 b r h]
  | x :: l, b, r, g, hn, hs, h0, h => by
    obtain ⟨b', e, h'⟩ := hs b x l r h
    rw [List.forIn_cons, e]
    show (match ForInStep.yield b' with | .done b => pure b | .yield b => forIn l b f) = _
    exact forIn_pure l b' r g hn hs h0 h'
theorem getAll_zip {α : Type} {slots : List (Str × α)} : ∀ {ns : List Str} {vs : List α}, getAll slots ns = some vs → (ns.filterMap fun n => (slots.lookup n).map (n, ·)) = ns.zip vs
  | [], vs, h => by
    cases h
    rfl
  | n :: ns, vs, h => by
    unfold getAll at h
    cases e1 : slots.lookup n with
    | none =>
      rw [e1] at h
      cases h
    | some v =>
      cases e2 : getAll slots ns with
      | none =>
        rw [e1, e2] at h
        cases h
      | some ws =>
        rw [e1, e2] at h
        cases h
        rw [List.filterMap_cons, e1]
        show (n, v) :: _ = _
        rw [getAll_zip e2]
        rfl
theorem looks_forIn {M : Model} {h : Heap} {α β : Type} {f : α → β → Sem (ForInStep β)} : ∀ (l : List α) (b r : β) (g : β → List α → β → Prop), (∀ b x l r, g b (x :: l) r → ∃ b', Looks M h (f x b) (.yield b') ∧ g b' l r) → (∀ b r, g b [] r → b = r) → g b l r → Looks M h (forIn l b f) r
  | [], b, r, g, _, h0, hh => by
    rw [List.forIn_nil, h0 b r hh]
    exact .now
  | x :: l, b, r, g, hs, h0, hh => by
    obtain ⟨b', e, h'⟩ := hs b x l r hh
    rw [List.forIn_cons]
    exact e.andThen (looks_forIn l b' r g hs h0 h')
theorem bind_gen {M : Model} {h : Heap} {fd : FuncData} {us : List Value} {kws : List (Str × Value)} {normal kwonly : List Str} {dv : List Value} {kd : List (Str × Value)} {zs : List Value}
    (h1 : fd.params.posonlyargs = []) (h2 : fd.params.args.map (·.arg) = normal) (h3 : fd.params.kwonlyargs.map (·.arg) = kwonly) (h4 : fd.params.vararg = none) (h5 : fd.params.kwarg = none)
    (hd : ∃ o : Option (Array Value), Looks M h (seqItems? fd.defaults) o ∧ (o.getD #[]).toList = dv)
    (hk : ∀ k v, kd.lookup k = some v → ∃ D, fd.kwdefaults = .ref D ∧ Looks M h (nsGet D k) (some v))
    (e : bindV normal kwonly us kws dv kd = some zs) : Looks M h (bindArgs fd ⟨us, kws⟩) ((normal ++ kwonly).zip zs) := by
  unfold bindV at e
  split at e
  · rename_i hl
    obtain ⟨hl1, hl2⟩ := hl
    split at e
    · cases e
    · rename_i s1 e1
      split at e
      · rename_i hm
        split at e
        · cases e
        · rename_i s2 e2
          obtain ⟨o, ho, eo⟩ := hd
          unfold bindArgs
          simp only [h1, h2, h3, h4, h5, List.map_nil, List.nil_append]
          refine Looks.andThen (a := (s1, [])) (looks_forIn _ _ _ (fun b l r => b.2 = [] ∧ r.2 = [] ∧ kwAdd (normal ++ kwonly) b.1 l = some r.1) ?_ ?_ ⟨rfl, rfl, e1⟩) ?_
          · rintro ⟨b1, b2⟩ ⟨k, v⟩ l ⟨r1, r2⟩ ⟨hb, hr, hh⟩
            dsimp only at hb hr hh
            subst hb hr
            unfold kwAdd at hh
            split at hh
            · rename_i hc
              split at hh
              · cases hh
              · rename_i hn
                refine ⟨(b1 ++ [(k, v)], []), ?_, rfl, rfl, hh⟩
                have hc' : (normal.contains k || kwonly.contains k) = true := by
                  rw [List.contains_append] at hc
                  exact hc
                simp only [hc', if_true]
                rw [if_neg hn]
                exact .now
            · cases hh
          · rintro ⟨b1, b2⟩ ⟨r1, r2⟩ ⟨hb, hr, hh⟩
            dsimp only at hb hr hh
            subst hb hr
            cases hh
            rfl
          · dsimp only
            refine ho.andThen ?_
            simp only [eo]
            have hg : (decide (us.length > normal.length) && (none : Option Arg).isNone) = false := by
              rw [decide_eq_false (by omega)]
              rfl
            rw [if_neg (by rw [hg]; exact Bool.false_ne_true)]
            have hdrop : List.drop (dv.length - normal.length) dv = dv := by
              rw [show dv.length - normal.length = 0 by omega]
              rfl
            simp only [hdrop]
            rw [if_neg (by rw [hm]; decide)]
            refine Looks.andThen (a := dfAdd s1 ((normal.drop (normal.length - dv.length)).zip dv)) (looks_forIn _ _ _ (fun b l r => dfAdd b l = r) ?_ ?_ rfl) ?_
            · rintro b ⟨k, v⟩ l r hh
              unfold dfAdd at hh
              refine ⟨_, ?_, hh⟩
              dsimp only
              split
              · exact .now
              · exact .now
            · intro b r hh
              exact hh
            · refine Looks.andThen (a := (s2, [])) (looks_forIn _ _ _ (fun b l r => b.2 = [] ∧ r.2 = [] ∧ kdAdd kd b.1 l = some r.1) ?_ ?_ ⟨rfl, rfl, e2⟩) ?_
              · rintro ⟨b1, b2⟩ k l ⟨r1, r2⟩ ⟨hb, hr, hh⟩
                dsimp only at hb hr hh
                subst hb hr
                unfold kdAdd at hh
                dsimp only
                split at hh
                · rename_i hn
                  rw [if_pos hn]
                  split at hh
                  · rename_i v hv
                    obtain ⟨D, eD, lD⟩ := hk k v hv
                    refine ⟨(b1 ++ [(k, v)], []), ?_, rfl, rfl, hh⟩
                    rw [eD]
                    exact lD.andThen .now
                  · cases hh
                · rename_i hn
                  rw [if_neg hn]
                  exact ⟨(b1, []), .now, rfl, rfl, hh⟩
              · rintro ⟨b1, b2⟩ ⟨r1, r2⟩ ⟨hb, hr, hh⟩
                dsimp only at hb hr hh
                subst hb hr
                cases hh
                rfl
              · dsimp only
                rw [if_neg (by decide)]
                exact .of_pure (by rw [getAll_zip e])
      · cases e
  · cases e
end UL
set_option maxHeartbeats 400000
namespace UL
open PySem PySem.Spec PyProof.Rows L2 PySem.W

/-! ### room, with no repr under way -/
structure RoomU (k : Nat) (A : Around) : Prop where
  rm : Room k A
  gd : A.guards = some []
theorem RoomU.mono {j k : Nat} {A : Around} (r : RoomU k A) (h : j ≤ k) : RoomU j A := ⟨r.rm.mono h, r.gd⟩
theorem RoomU.deeper {k : Nat} {A : Around} (r : RoomU (k + 1) A) (env : Env) : RoomU k (A.deeper env) := ⟨r.rm.deeper env, r.gd⟩
theorem RoomU.in1 {k : Nat} {A : Around} (r : RoomU (k + 1) A) : RoomU k A.in1 := ⟨r.rm.in1, r.gd⟩
theorem make_guards {A : Around} {C : Addr} {us : List Value} {kw : List (Str × Value)} (h : A.guards = some []) : (A.under (.builtin "type.__call__" ⟨.ref C :: us, kw⟩)).guards = some [] := by
  simp [Around.under, Code.guards, Code.isGuard, guardIds, pushGuards, h]
theorem RoomU.make {k : Nat} {A : Around} (r : RoomU (k + 1) A) (C : Addr) (us : List Value) (kw : List (Str × Value)) : RoomU k (A.under (.builtin "type.__call__" ⟨.ref C :: us, kw⟩)) := ⟨r.rm.make C us kw, make_guards r.gd⟩

/-! ### promises -/
abbrev USp := List U → Gp → UK → UX → Prop
structure FnU (P : Program) (w : World) (K : PySem.W.Frag) (mg : Str → Option Value) (base : Heap) (k : Nat) (f : Addr) (fd : FuncData) (ps : List Str) (sp : USp) : Prop where
  run : ∀ (A : Around) (outer : List Env) (s : Shared) (H : Hp) (args : Args) (us : List Value) (vs : List V) (ws : List U) (G : Gp) (Q : UK) (E : UX), RoomU k A → Env0 P w K mg base A outer s H → BindsTo s fd args (ps.zip us) →
    Vals vs us → RelUs K H ws vs → ws.length = ps.length → Rep K H G → sp ws G Q E → codeAny (model P w) A (.call (.ref f) args) (CR (L2.CX P w) outer P w H s (LV K H G Q) (LX K H G E)) s
theorem FnU.mono {P : Program} {w : World} {K : PySem.W.Frag} {mg : Str → Option Value} {base : Heap} {j k : Nat} {f : Addr} {fd : FuncData} {ps : List Str} {sp : USp} (F : FnU P w K mg base j f fd ps sp) (h : j ≤ k) : FnU P w K mg base k f fd ps sp :=
  ⟨fun A outer s H args us vs ws G Q E hr => F.run A outer s H args us vs ws G Q E (hr.mono h)⟩

def ustart (n : Nat) (ws : List U) : USt := ws.map some ++ List.replicate (n - ws.length) none
theorem RelS.nones {K : PySem.W.Frag} {H : Hp} : ∀ m : Nat, RelS K H (List.replicate m none) (List.replicate m none)
  | 0 => rfl
  | m + 1 => by
    rw [List.replicate_succ, List.replicate_succ]
    exact ⟨none, List.replicate m none, rfl, RelS.nones m⟩
theorem relS_start {K : PySem.W.Frag} {H : Hp} {n : Nat} {N : List Str} (hn : N.length = n) {ws : List U} {vs : List V} (h : RelUs K H ws vs) : RelS K H (ustart n ws) (L2.start N vs) := by
  have go : ∀ (m : Nat) {ws : List U} {vs : List V}, RelUs K H ws vs → RelS K H (ws.map some ++ List.replicate m none) (vs.map some ++ List.replicate m none) := by
    intro m ws
    induction ws with
    | nil =>
      intro vs h
      have e : vs = [] := h
      subst e
      exact RelS.nones m
    | cons w ws ih =>
      intro vs h
      obtain ⟨v, r, rfl, h1, h2⟩ := h
      exact ⟨v, _, rfl, h1, ih h2⟩
  unfold ustart L2.start
  rw [h.length, hn]
  exact go _ h

/-- a part of what is known -/
def Sub (G2 G1 : Gp) : Prop := ∀ a o, G2 a = some o → G1 a = some o
theorem Sub.refl (G : Gp) : Sub G G := fun _ _ h => h
theorem Sub.trans {G1 G2 G3 : Gp} (x : Sub G1 G2) (y : Sub G2 G3) : Sub G1 G3 := fun a o h => y a o (x a o h)
theorem Sub.rep {K : PySem.W.Frag} {H : Hp} {G1 G2 : Gp} (x : Sub G2 G1) (r : Rep K H G1) : Rep K H G2 := fun a o h => r a o (x a o h)
theorem Sub.ext {H H' : Hp} {G G1 G2 : Gp} (x : Sub G2 G1) (e : Ext H G H' G1) : Ext H G H' G2 := fun a o h g => by
  obtain ⟨h1, h2⟩ := e a o h g
  refine ⟨h1, ?_⟩
  cases z : G2 a with
  | none => rfl
  | some u =>
    rw [x a u z] at h2
    cases h2
/-- at the end a def may forget -/
def KF (Q : UK) : UK := fun u G => ∃ G2, Sub G2 G ∧ Q u G2
theorem KF.now {Q : UK} {u : U} {G : Gp} (h : Q u G) : KF Q u G := ⟨G, .refl G, h⟩
theorem lv_forget {K : PySem.W.Frag} {H H' : Hp} {G : Gp} {Q : UK} {v : V} : LV K H G (KF Q) v H' → LV K H G Q v H' := fun ⟨u, G', x, r, ru, G2, s, q⟩ => ⟨u, G2, s.ext x, s.rep r, ru, q⟩
def endsU (Q : UK) (E : UX) : UEnds := { nx := fun _ G => KF Q .non G, rt := KF Q, bk := fun _ _ => False, ct := fun _ _ => False, ex := fun x _ G => E x G }
/-- the frame of a def's body -/
abbrev wOf (K : PySem.W.Frag) (H : Hp) (G : Gp) (E : UX) : WX := fun c d _ H' => LX K H G E c d H'
abbrev cxU (P : Program) (w : World) (K : PySem.W.Frag) (mg : Str → Option Value) (base : Heap) (N : List Str) (qual : Str) (scope : Scope) (f : Addr) (cdv : Value) (A : Around) (outer : List Env) (s : Shared) (H : Hp) (E : XK) : Cx :=
  cxOf (L2.CX P w) P w K mg base N qual scope f cdv A outer s H E
theorem takes_u {P : Program} {w : World} {K : PySem.W.Frag} {mg : Str → Option Value} {base : Heap} {N : List Str} {qual : Str} {scope : Scope} {f : Addr} {cdv : Value} {A : Around} {outer : List Env} {s : Shared} {H : Hp} {G : Gp} {E : UX} :
    Takes (cxU P w K mg base N qual scope f cdv A outer s H (LX K H G E)) (wOf K H G E) := takes_of rfl rfl rfl rfl

theorem fn_u {P : Program} {w : World} {K : PySem.W.Frag} {mg : Str → Option Value} {base : Heap} {k n : Nat} {f : Addr} {fd : FuncData} {name qual : Str} {params : Arguments} {body : List Stmt} {scope : Scope} {dvs : List V} {kws : List (Str × V)} {N ps : List Str} {sp : USp} {t : UTS}
    (F : FunD K name qual params body scope dvs kws f fd) (S : FnScope N ps scope) (hn : N.length = n)
    (hb : ∀ (cdv : Value) (A : Around) (outer : List Env) (s : Shared) (H : Hp) (G : Gp) (E : UX), RoomU k (A.deeper (envOfC qual scope s.heap.objs.size f cdv)) →
      SsU (cxU P w K mg base N qual scope f cdv A outer s H (LX K H G E)) (wOf K H G E) body t)
    (hsp : ∀ ws G Q E, sp ws G Q E → ws.length = ps.length → t (endsU Q E) (ustart n ws) G) : FnU P w K mg base (k + 1) f fd ps sp := by
  obtain ⟨oc, od, dV, kV, doc, pm, an, cdv, ct, osl, rfl, lk, hcd, _, _⟩ := F.ex
  refine ⟨fun A outer s H args us vs ws G Q E room at0 binds rv ru hlen rp want => ?_⟩
  have hvs : vs.length = ps.length := ru.length.trans hlen
  have inK : K.In s.heap := at0.mod.kin.keeps fun b o e => (at0.bs b o e).1
  have noLim : s.heap.NoLimit := at0.mod.nolimit.keeps fun b o e => (at0.bs b o e).1
  refine codeAny_call_function room.rm.depth (inK _ _ lk) rfl S.co S.gen rfl (PySem.W.codeRec_of inK hcd) (binds _ _ _ _ ?_)
  refine wpAny_newFunctionEnv_cells S.kind (fun q hq => ?_) fun env he s1 x => ?_
  · rcases S.par q.1 (List.of_mem_zip (show (q.1, q.2) ∈ ps.zip us from hq)).1 with z | z
    · exact .inl z
    · exact .inr ⟨z, PySem.W.cellsFrom_some _ _ _ (.inl z)⟩
  subst he
  refine ⟨noLim.keeps x.toInCall.keep, codeAny_func ?_⟩
  have I0 : Inv (cxU P w K mg base N qual scope f cdv A outer s H (LX K H G E)) [] (L2.start N vs) H s1 := inv_start S room.rm.hd at0 hvs rv x
  have body_ := (hb cdv A outer s H G E (room.deeper _)).run [] s1 (L2.start N vs) H (ustart n ws) G (endsU Q E) I0 (relS_start hn ru) rp (hsp ws G Q E want hlen)
    fun c d σ' H' ⟨y, us', G', x1, rp', _, q, z⟩ => ⟨y, G', x1, rp', q, z⟩
  have done_ : ∀ {σ' : L2.St} {H' : Hp} {v : V} {u : Value} {s' : Shared}, Inv (cxU P w K mg base N qual scope f cdv A outer s H (LX K H G E)) [] σ' H' s' → RelV v u → LV K H G (KF Q) v H' → L2.CE outer P w H s (LV K H G Q) u s' :=
    fun {σ' H' v u s'} J r q => ⟨v, H', J.os, J.bare, J.base, J.hok, r, lv_forget q⟩
  refine wpAny_mono body_ (fun fl s' hs => ?_) fun e s' hs => hs
  cases fl with
  | next =>
    obtain ⟨σ', H', J, us', G', x1, rp', _, q⟩ := hs
    exact done_ (v := V.non) (u := Value.none) J rfl ⟨.non, G', x1, rp', rfl, q⟩
  | ret u =>
    obtain ⟨v, σ', H', J, r, q⟩ := hs
    exact done_ J r q
  | brk =>
    obtain ⟨_, _, _, _, _, _, _, _, q⟩ := hs
    exact q.elim
  | cont =>
    obtain ⟨_, _, _, _, _, _, _, _, q⟩ := hs
    exact q.elim
end UL
set_option maxHeartbeats 400000
namespace UL
open PySem PySem.Spec PyProof.Rows L2 PySem.W

/-! ### the plan of a call: where each parameter's value comes from -/
inductive Src where | p (i : Nat) | k (i : Nat) | d (i : Nat) | q (i : Nat)
  deriving DecidableEq
def Src.get {α : Type} (z : α) (us ws dv kv : List α) : Src → α
  | .p i => us.getD i z
  | .k i => ws.getD i z
  | .d i => dv.getD i z
  | .q i => kv.getD i z
section
variable {α β : Type} (f : α → β)
def mp (l : List (Str × α)) : List (Str × β) := l.map fun q => (q.1, f q.2)
theorem lookup_mp (k : Str) : ∀ l : List (Str × α), (mp f l).lookup k = (l.lookup k).map f
  | [] => rfl
  | (a, b) :: r => by
    show List.lookup k ((a, f b) :: mp f r) = _
    rw [List.lookup_cons, List.lookup_cons]
    cases h : k == a with
    | true => simp [h]
    | false => simp [h, lookup_mp k r]
theorem mp_append (l r : List (Str × α)) : mp f (l ++ r) = mp f l ++ mp f r := List.map_append
theorem zip_mp (l : List Str) (r : List α) : l.zip (r.map f) = mp f (l.zip r) := by
  unfold mp
  induction l generalizing r with
  | nil => rfl
  | cons a l ih =>
    cases r with
    | nil => rfl
    | cons b r => simp [ih]
theorem kwAdd_mp (names : List Str) : ∀ (ks s : List (Str × α)), kwAdd names (mp f s) (mp f ks) = (kwAdd names s ks).map (mp f)
  | [], s => rfl
  | (k, v) :: r, s => by
    show (if names.contains k then (if ((mp f s).lookup k).isSome then none else kwAdd names (mp f s ++ [(k, f v)]) (mp f r)) else none) = _
    rw [lookup_mp, Option.isSome_map, show mp f s ++ [(k, f v)] = mp f (s ++ [(k, v)]) from (mp_append f s [(k, v)]).symm, kwAdd_mp names r]
    rw [kwAdd]
    split
    · split <;> rfl
    · rfl
theorem dfAdd_mp : ∀ (ks s : List (Str × α)), dfAdd (mp f s) (mp f ks) = mp f (dfAdd s ks)
  | [], s => rfl
  | (k, v) :: r, s => by
    show dfAdd (if ((mp f s).lookup k).isNone then mp f s ++ [(k, f v)] else mp f s) (mp f r) = _
    rw [lookup_mp, Option.isNone_map, show mp f s ++ [(k, f v)] = mp f (s ++ [(k, v)]) from (mp_append f s [(k, v)]).symm]
    rw [dfAdd]
    split
    · exact dfAdd_mp r _
    · exact dfAdd_mp r _
theorem kdAdd_mp (kd : List (Str × α)) : ∀ (ks : List Str) (s : List (Str × α)), kdAdd (mp f kd) (mp f s) ks = (kdAdd kd s ks).map (mp f)
  | [], s => rfl
  | k :: r, s => by
    rw [kdAdd, kdAdd, lookup_mp, lookup_mp, Option.isNone_map]
    split
    · cases kd.lookup k with
      | none => rfl
      | some v =>
        show kdAdd (mp f kd) (mp f s ++ [(k, f v)]) r = _
        rw [show mp f s ++ [(k, f v)] = mp f (s ++ [(k, v)]) from (mp_append f s [(k, v)]).symm]
        exact kdAdd_mp kd r _
    · exact kdAdd_mp kd r s
theorem getAll_mp (s : List (Str × α)) : ∀ ks : List Str, getAll (mp f s) ks = (getAll s ks).map (List.map f)
  | [] => rfl
  | k :: r => by
    rw [getAll, getAll, lookup_mp, getAll_mp s r]
    cases s.lookup k <;> cases getAll s r <;> rfl
theorem bindV_mp (normal kwonly : List Str) (us : List α) (kws : List (Str × α)) (dv : List α) (kd : List (Str × α)) :
    bindV normal kwonly (us.map f) (mp f kws) (dv.map f) (mp f kd) = (bindV normal kwonly us kws dv kd).map (List.map f) := by
  unfold bindV
  rw [List.length_map, List.length_map, zip_mp, kwAdd_mp, zip_mp]
  split
  · cases kwAdd (normal ++ kwonly) (normal.zip us) kws with
    | none => rfl
    | some s1 =>
      dsimp only [Option.map]
      have e : (List.filter (fun n => (List.lookup n (mp f s1)).isNone) (List.take (normal.length - dv.length) normal)) = (List.filter (fun n => (List.lookup n s1).isNone) (List.take (normal.length - dv.length) normal)) := by
        congr 1
        funext n
        rw [lookup_mp, Option.isNone_map]
      rw [e, dfAdd_mp, kdAdd_mp]
      split
      · cases kdAdd kd (dfAdd s1 ((normal.drop (normal.length - dv.length)).zip dv)) kwonly with
        | none => rfl
        | some s2 => exact getAll_mp f s2 _
      · rfl
  · rfl
end
theorem range_get {α : Type} (z : α) (us : List α) {n : Nat} (h : us.length = n) : (List.range n).map (fun i => us.getD i z) = us := by
  apply List.ext_getElem
  · simp [h]
  · intro i h1 h2
    simp [List.getElem?_eq_getElem h2]
def planOf (normal kwonly : List Str) (n : Nat) (ks : List Str) (a : Nat) (kn : List Str) : Option (List Src) :=
  bindV normal kwonly ((List.range n).map .p) (ks.zip ((List.range ks.length).map .k)) ((List.range a).map .d) (kn.zip ((List.range kn.length).map .q))
theorem bindV_plan {α : Type} (z : α) {normal kwonly : List Str} {n a : Nat} {ks kn : List Str} {pl : List Src} (e : planOf normal kwonly n ks a kn = some pl) {us ws dv kv : List α} (h1 : us.length = n) (h2 : ws.length = ks.length) (h3 : dv.length = a) (h4 : kv.length = kn.length) :
    bindV normal kwonly us (ks.zip ws) dv (kn.zip kv) = some (pl.map (Src.get z us ws dv kv)) := by
  have q := bindV_mp (Src.get z us ws dv kv) normal kwonly ((List.range n).map Src.p) (ks.zip ((List.range ks.length).map .k)) ((List.range a).map .d) (kn.zip ((List.range kn.length).map .q))
  rw [show bindV normal kwonly ((List.range n).map Src.p) (ks.zip ((List.range ks.length).map .k)) ((List.range a).map .d) (kn.zip ((List.range kn.length).map .q)) = some pl from e] at q
  rw [← zip_mp, ← zip_mp, List.map_map, List.map_map, List.map_map, List.map_map] at q
  rw [show (List.range n).map (Src.get z us ws dv kv ∘ Src.p) = us from range_get z us h1, show (List.range ks.length).map (Src.get z us ws dv kv ∘ Src.k) = ws from range_get z ws h2,
    show (List.range a).map (Src.get z us ws dv kv ∘ Src.d) = dv from range_get z dv h3, show (List.range kn.length).map (Src.get z us ws dv kv ∘ Src.q) = kv from range_get z kv h4] at q
  exact q
theorem paired_getD {α β : Type} {R : α → β → Prop} {z : α} {y : β} (h0 : R z y) : ∀ {l : List α} {r : List β} (i : Nat), Paired R l r → R (l.getD i z) (r.getD i y)
  | _, _, i, .nil => by simpa using h0
  | _, _, 0, .cons h _ => by simpa using h
  | _, _, i + 1, .cons _ t => by simpa using paired_getD h0 i t
theorem RelUs.getD {K : PySem.W.Frag} {H : Hp} : ∀ {us : List U} {vs : List V} (i : Nat), RelUs K H us vs → RelU K H (us.getD i .non) (vs.getD i .non)
  | [], _, i, e => by
    have e' : _ = ([] : List V) := e
    subst e'
    simp [RelU]
  | _ :: _, _, 0, ⟨v, ws, rfl, h, t⟩ => by simpa using h
  | _ :: us, _, i + 1, ⟨v, ws, rfl, h, t⟩ => by simpa using RelUs.getD i t
theorem plan_vals {us ws dv kv : List Value} {vs zs d q : List V} (h1 : Vals vs us) (h2 : Vals zs ws) (h3 : Vals d dv) (h4 : Vals q kv) : ∀ pl : List Src, Vals (pl.map (Src.get .non vs zs d q)) (pl.map (Src.get .none us ws dv kv))
  | [] => .nil
  | .p i :: pl => .cons (paired_getD (R := RelV) (z := V.non) (y := Value.none) rfl i h1) (plan_vals h1 h2 h3 h4 pl)
  | .k i :: pl => .cons (paired_getD (R := RelV) (z := V.non) (y := Value.none) rfl i h2) (plan_vals h1 h2 h3 h4 pl)
  | .d i :: pl => .cons (paired_getD (R := RelV) (z := V.non) (y := Value.none) rfl i h3) (plan_vals h1 h2 h3 h4 pl)
  | .q i :: pl => .cons (paired_getD (R := RelV) (z := V.non) (y := Value.none) rfl i h4) (plan_vals h1 h2 h3 h4 pl)
theorem plan_rel {K : PySem.W.Frag} {H : Hp} {us ws dv kv : List U} {vs zs d q : List V} (h1 : RelUs K H us vs) (h2 : RelUs K H ws zs) (h3 : RelUs K H dv d) (h4 : RelUs K H kv q) : ∀ pl : List Src, RelUs K H (pl.map (Src.get .non us ws dv kv)) (pl.map (Src.get .non vs zs d q))
  | [] => rfl
  | .p i :: pl => ⟨_, _, rfl, h1.getD i, plan_rel h1 h2 h3 h4 pl⟩
  | .k i :: pl => ⟨_, _, rfl, h2.getD i, plan_rel h1 h2 h3 h4 pl⟩
  | .d i :: pl => ⟨_, _, rfl, h3.getD i, plan_rel h1 h2 h3 h4 pl⟩
  | .q i :: pl => ⟨_, _, rfl, h4.getD i, plan_rel h1 h2 h3 h4 pl⟩

/-! ### defs with their binding -/
def parN (p : Arguments) : List Str := p.args.map (·.arg)
def parK (p : Arguments) : List Str := p.kwonlyargs.map (·.arg)
/-- no parameter behind a slash, none starred -/
structure Plain (p : Arguments) : Prop where
  po : p.posonlyargs = []
  va : p.vararg = none
  kw : p.kwarg = none
theorem lookup_zip_mem {α : Type} {k : Str} {v : α} : ∀ {ks : List Str} {vs : List α}, (ks.zip vs).lookup k = some v → (k, v) ∈ ks.zip vs
  | [], _, h => by simp at h
  | _ :: _, [], h => by simp at h
  | a :: ks, b :: vs, h => by
    rw [List.zip_cons_cons, List.lookup_cons] at h
    cases e : k == a with
    | true =>
      rw [e] at h
      cases h
      rw [beq_iff_eq.mp e]
      exact List.mem_cons_self
    | false =>
      rw [e] at h
      exact List.mem_cons_of_mem _ (lookup_zip_mem h)
/-- how a call with n positional values and keywords ks binds the parameters of the def -/
structure BindU (K : PySem.W.Frag) (fd : FuncData) (ps : List Str) (n : Nat) (ks : List Str) (pl : List Src) (dvs kvs : List V) : Prop where
  ex : ∃ dv kv : List Value, Vals dvs dv ∧ Vals kvs kv ∧ ∀ (s : Shared) (us ws : List Value), K.In s.heap → us.length = n → ws.length = ks.length → BindsTo s fd ⟨us, ks.zip ws⟩ (ps.zip (pl.map (Src.get .none us ws dv kv)))
theorem bind_u {K : PySem.W.Frag} {name qual : Str} {params : Arguments} {body : List Stmt} {scope : Scope} {dvs : List V} {kws : List (Str × V)} {f : Addr} {fd : FuncData} {n : Nat} {ks : List Str} {pl : List Src}
    (F : FunD K name qual params body scope dvs kws f fd) (hp : Plain params) (e : planOf (parN params) (parK params) n ks dvs.length (kws.map (·.1)) = some pl) :
    BindU K fd (parN params ++ parK params) n ks pl dvs (kws.map (·.2)) := by
  obtain ⟨oc, od, dV, kV, doc, pm, an, cdv, ct, osl, rfl, lk, hcd, hD, hK⟩ := F.ex
  have hd : ∃ dv : List Value, Vals dvs dv ∧ ∀ (M : Model) (h : Heap), K.In h → ∃ o : Option (Array Value), Looks M h (seqItems? dV) o ∧ (o.getD #[]).toList = dv := by
    rcases hD with ⟨rfl, rfl⟩ | ⟨_, T, o, its, m, rfl, lT, oT, rT⟩
    · exact ⟨[], .nil, fun M h _ => ⟨none, .of_pure rfl, rfl⟩⟩
    · refine ⟨its, rT, fun M h X => ⟨some its.toArray, fun A Q E s kp q => ?_, by simp⟩⟩
      exact wpAny_seqItems (kp _ _ (X _ _ lT)) oT q
  have hk : ∃ kv : List Value, Vals (kws.map (·.2)) kv ∧ ∀ (M : Model) (h : Heap), K.In h → ∀ k v, ((kws.map (·.1)).zip kv).lookup k = some v → ∃ D, kV = .ref D ∧ Looks M h (nsGet D k) (some v) := by
    rcases hK with rfl | ⟨D, rfl, hq⟩
    · exact ⟨[], .nil, fun M h _ k v z => by simp at z⟩
    · obtain ⟨kv, _, rk, hks⟩ := kwd_vals hq
      exact ⟨kv, rk, fun M h X k v z => ⟨D, rfl, looks_nsIn X (hks (k, v) (lookup_zip_mem z))⟩⟩
  obtain ⟨dv, rd, hd⟩ := hd
  obtain ⟨kv, rk, hk⟩ := hk
  refine ⟨dv, kv, rd, rk, fun s us ws X l1 l2 => BindsTo.of_looks fun M => ?_⟩
  exact bind_gen (fd := PySem.W.fnOf name qual params body scope dV kV doc pm an cdv ct) hp.po rfl rfl hp.va hp.kw (hd M _ X) (hk M _ X) (bindV_plan .none e l1 l2 rd.length.symm (by rw [← rk.length, List.length_map, List.length_map]))
end UL
set_option maxHeartbeats 400000
namespace UL
open PySem PySem.Spec PyProof.Rows L2 PySem.W

/-! ### keywords' values -/
structure KU (X : Cx) (W : WX) (kws : List Keyword) (t : UTA) : Prop where
  run : ∀ (pos : Pos) (pins : List (Addr × Obj)) (s : Shared) (σ : L2.St) (H : Hp) (us : USt) (G : Gp) (Q : List U → Gp → Prop) (E : UX), Inv X pins σ H s → RelS X.K H us σ → Rep X.K H G → t us G Q E →
    (∀ c d H', LX X.K H G E c d H' → W c d σ H') → wpAny (model X.prog X.w) X.A (evalAll ((backToKw pos (keywordEach kws X.env)).map (·.2))) (AP X pins σ (LA X.K H G Q)) X.xe s
section
variable {X : Cx} {W : WX} {e : Expr} {es : List Expr} {kws : List Keyword} {te : UTE} {t tk ta : UTA} {nm : Option Str} {pos p kpos apos : Pos}
theorem ku_nil : KU X W [] tUNil := ⟨fun _ _ s σ H us G Q E I rs rp h _ => wpAny_evalAll_nil ⟨[], H, I, .nil, [], G, .refl _ _, rp, rfl, h⟩⟩
theorem ku_cons (ha : EU X W e te) (hr : KU X W kws t) : KU X W (⟨nm, e, kpos⟩ :: kws) (tUCons te t) := by
  refine ⟨fun pos pins s σ H us G Q E I rs rp h hx => ?_⟩
  show wpAny _ _ (evalAll ((do let v ← eval e X.env; standAt pos; pure v) :: (backToKw pos (keywordEach kws X.env)).map (·.2))) _ _ s
  refine wpAny_evalAll_cons (wpAny_bind (thn (ha.run pins s σ H us G _ E I rs rp h hx) fun u s1 ⟨x, H1, I1, r1, w, G1, x1, rp1, ru, q1⟩ => wpAny_bind (wpAny_standAt (wpAny_pure ?_))))
  refine thn (hr.run pos pins s1 σ H1 us G1 _ E I1 (rs.ext x1 rp) rp1 q1 fun c d H' z => hx c d H' (z.trans x1)) fun vs s2 ⟨xs, H2, I2, r2, ws, G2, x2, rp2, ru2, q2⟩ => ?_
  exact ⟨x :: xs, H2, I2, .cons r1 r2, w :: ws, G2, x1.trans x2, rp2, ⟨x, xs, rfl, ru.ext x2 rp1, ru2⟩, q2⟩

/-- the first argument is not starred; no argument: no value -/
def Unst (env : Env) : List Expr → UTA → Prop
  | [], t => ∀ us G Q E, t us G Q E → Q [] G
  | e :: r, _ => starEach (e :: r) env = (false, eval e env) :: starEach r env
theorem unst_nil {env : Env} : Unst env [] tUNil := fun _ _ _ _ h => h
/-- values come, then the callee runs -/
theorem call_with {f : Value} {first : List Value} {ks : List Str} (hk : PySem.W.keepIn X.K f = true) (ha : AU X W es ta) (hkw : KU X W kws tk) (hst : Unst X.env es ta)
    (hall : (backToKw pos (keywordEach kws X.env)).all (·.1.isSome) = true) (hks : (backToKw pos (keywordEach kws X.env)).filterMap (·.1) = ks)
    (hpl : ((backTo pos (starEach es X.env)).any (·.1) || (backToKw pos (keywordEach kws X.env)).any (·.1.isNone)) = false)
    {pins : List (Addr × Obj)} {s : Shared} {σ : L2.St} {H : Hp} {us : USt} {G : Gp} {R : List U → List U → Gp → Prop} {Q : Value → Shared → Prop} {E : UX} (I : Inv X pins σ H s) (rs : RelS X.K H us σ) (rp : Rep X.K H G)
    (h : ta us G (fun vs G1 => tk us G1 (fun zs G2 => R vs zs G2) E) E) (hx : ∀ c d H', LX X.K H G E c d H' → W c d σ H')
    (go : ∀ (s2 : Shared) (H2 : Hp) (G2 : Gp) (vs zs : List U) (vv zv : List V) (vl zl : List Value), Inv X pins σ H2 s2 → Ext H G H2 G2 → Rep X.K H2 G2 → Vals vv vl → Vals zv zl → RelUs X.K H2 vs vv → RelUs X.K H2 zs zv → R vs zs G2 →
      wpAny (model X.prog X.w) X.A (call f (first ++ vl) (ks.zip zl)) Q X.xe s2) :
    wpAny (model X.prog X.w) X.A (callWith pos f first (backTo pos (starEach es X.env)) (backToKw pos (keywordEach kws X.env))) Q X.xe s := by
  have kwp : ∀ {s1 : Shared} {H1 : Hp} {G1 : Gp} {vs : List U} {vv : List V} {vl : List Value}, Inv X pins σ H1 s1 → Ext H G H1 G1 → Rep X.K H1 G1 → Vals vv vl → RelUs X.K H1 vs vv → tk us G1 (fun zs G2 => R vs zs G2) E →
      wpAny (model X.prog X.w) X.A (evalAll ((backToKw pos (keywordEach kws X.env)).map (·.2))) (fun zl s2 => X.K.In s2.heap ∧ wpAny (model X.prog X.w) X.A (call f (first ++ vl) (((backToKw pos (keywordEach kws X.env)).filterMap (·.1)).zip zl)) Q X.xe s2) X.xe s1 := by
    intro s1 H1 G1 vs vv vl I1 x1 rp1 rv ru q
    refine thn (hkw.run pos pins s1 σ H1 us G1 _ E I1 (rs.ext x1 rp) rp1 q fun c d H' z => hx c d H' (z.trans x1)) fun zl s2 ⟨zv, H2, I2, rz, zs, G2, x2, rp2, ru2, q2⟩ => ⟨I2.kIn, ?_⟩
    rw [hks]
    exact go s2 H2 G2 vs zs vv zv vl zl I2 (x1.trans x2) rp2 rv rz (ru.ext x2 rp1) ru2 q2
  cases es with
  | nil =>
    refine PySem.W.callWith_KW0 (h₀ := X.base) I.ok.mod.kin hk hall ?_ hpl
    exact kwp (vs := []) (vv := []) (vl := []) I (.refl _ _) rp .nil rfl (hst _ _ _ _ h)
  | cons e r =>
    exact PySem.W.callWith_KW (h₀ := X.base) I.ok.mod.kin hk hall (thn (ha.run pos pins s σ H us G _ E I rs rp h hx) fun vl s1 ⟨vv, H1, I1, rv, vs, G1, x1, rp1, ru, q⟩ => kwp I1 x1 rp1 rv ru q) hpl hst

/-! ### the callee runs -/
variable {k n : Nat} {f : Addr} {fd : FuncData} {ps ks : List Str} {sp : USp} {pl : List Src} {dvs kvs : List V} {udv ukv : List U}
theorem run_u {pins : List (Addr × Obj)} {s2 : Shared} {σ : L2.St} {H H2 : Hp} {G G2 : Gp} {Q : UK} {E : UX} {vs zs : List U} {vv zv : List V} {vl zl : List Value}
    (F : FnU X.prog X.w X.K X.mg X.base k f fd ps sp) (hr : RoomU k X.A) (hb : BindU X.K fd ps n ks pl dvs kvs) (hd : ∀ H, RelUs X.K H udv dvs) (hk : ∀ H, RelUs X.K H ukv kvs) (tk : Takes X W)
    (I : Inv X pins σ H2 s2) (x : Ext H G H2 G2) (rp : Rep X.K H2 G2) (rv : Vals vv vl) (rz : Vals zv zl) (ru : RelUs X.K H2 vs vv) (ruz : RelUs X.K H2 zs zv) (l1 : vs.length = n) (l2 : zs.length = ks.length) (l3 : pl.length = ps.length)
    (h : sp (pl.map (Src.get .non vs zs udv ukv)) G2 Q E) (hx : ∀ c d H', LX X.K H G E c d H' → W c d σ H') :
    wpAny (model X.prog X.w) X.A (call (.ref f) vl (ks.zip zl)) (EP X pins σ (LV X.K H G Q)) X.xe s2 := by
  obtain ⟨dv, kv, rd, rk, bt⟩ := hb.ex
  have bt2 := bt s2 vl zl I.kIn (by rw [← rv.length, ru.length, l1]) (by rw [← rz.length, ruz.length, l2])
  have lv := plan_vals rv rz rd rk pl
  have lu := plan_rel ru ruz (hd H2) (hk H2) pl
  refine wpAny_call (codeAny_mono (F.run X.A X.stack s2 H2 ⟨vl, ks.zip zl⟩ _ _ _ G2 Q E hr I.env0 bt2 lv lu (by rw [List.length_map, l3]) rp h) fun r s' hq => ?_)
  cases r with
  | error e => exact tk e s' (XE.of_call I (fun c d H' z => hx c d H' (z.trans x)) hq)
  | ok fl =>
    cases fl with
    | ret u => exact ep_imp (fun v H' q => q.trans x) (I.after hq)
    | next => exact False.elim hq
    | brk => exact False.elim hq
    | cont => exact False.elim hq

/-! ### calls of a module's def -/
def tUDef (sp : USp) (n m : Nat) (pl : List Src) (udv ukv : List U) (t tk : UTA) : UTE := fun us G Q E => t us G (fun vs G1 => tk us G1 (fun zs G2 => vs.length = n ∧ zs.length = m ∧ sp (pl.map (Src.get .non vs zs udv ukv)) G2 Q E) E) E
theorem eu_call {x : Str} (F : FnU X.prog X.w X.K X.mg X.base k f fd ps sp) (hr : RoomU k X.A) (hg : Gl X x) (hm : X.mg x = some (.ref f)) (hkp : PySem.W.keepIn X.K (.ref f) = true) (hb : BindU X.K fd ps n ks pl dvs kvs)
    (hd : ∀ H, RelUs X.K H udv dvs) (hk : ∀ H, RelUs X.K H ukv kvs) (hT : Takes X W) (l3 : pl.length = ps.length) (ha : AU X W es ta) (hkw : KU X W kws tk) (hst : Unst X.env es ta)
    (hall : (backToKw pos (keywordEach kws X.env)).all (·.1.isSome) = true) (hks : (backToKw pos (keywordEach kws X.env)).filterMap (·.1) = ks)
    (hpl : ((backTo pos (starEach es X.env)).any (·.1) || (backToKw pos (keywordEach kws X.env)).any (·.1.isNone)) = false) (hdb : (x == ("__debug__" : Str)) = false) :
    EU X W (.Call (.Name x p) es kws pos) (tUDef sp n ks.length pl udv ukv ta tk) := by
  refine ⟨fun pins s σ H us G Q E I rs rp h hx => ?_⟩
  refine wpAny_Call_Name_kw (ld_glob I hg hm ?_ hdb)
  refine call_with (first := []) hkp ha hkw hst hall hks hpl I rs rp h hx fun s2 H2 G2 vs zs vv zv vl zl I2 x2 rp2 rv rz ru ruz ⟨l1, l2, q⟩ => ?_
  exact run_u F hr hb hd hk hT I2 x2 rp2 rv rz ru ruz l1 l2 l3 q hx
end
end UL
set_option maxHeartbeats 400000
namespace UL
open PySem PySem.Spec PyProof.Rows L2

/-! ### builtins on values -/
section
variable {K : PySem.W.Frag} {H : Hp} {G : Gp}
theorem relUs1 {u : U} {xs : List V} (h : RelUs K H [u] xs) : ∃ x, xs = [x] ∧ RelU K H u x := by
  obtain ⟨v, ws, rfl, h1, h2⟩ := h
  have e : ws = [] := h2
  subst e
  exact ⟨v, rfl, h1⟩
theorem relUs2 {u w : U} {xs : List V} (h : RelUs K H [u, w] xs) : ∃ x y, xs = [x, y] ∧ RelU K H u x ∧ RelU K H w y := by
  obtain ⟨v, ws, rfl, h1, h2⟩ := h
  obtain ⟨y, rfl, h3⟩ := relUs1 h2
  exact ⟨v, y, rfl, h1, h3⟩
end
def u1 (f : U → Gp → UK → Prop) : URC := fun as G Q _ => match as with
  | [u] => f u G Q
  | _ => False
def u2 (f : U → U → Gp → UK → Prop) : URC := fun as G Q _ => match as with
  | [u, w] => f u w G Q
  | _ => False
theorem u1_of {f : U → Gp → UK → Prop} {as : List U} {G : Gp} {Q : UK} {E : UX} (h : u1 f as G Q E) : ∃ u, as = [u] ∧ f u G Q := by
  rcases as with _ | ⟨a, _ | ⟨b, r⟩⟩
  · exact h.elim
  · exact ⟨a, rfl, h⟩
  · exact h.elim
theorem u2_of {f : U → U → Gp → UK → Prop} {as : List U} {G : Gp} {Q : UK} {E : UX} (h : u2 f as G Q E) : ∃ u w, as = [u, w] ∧ f u w G Q := by
  rcases as with _ | ⟨a, _ | ⟨b, _ | ⟨c, r⟩⟩⟩
  · exact h.elim
  · exact h.elim
  · exact ⟨a, b, rfl, h⟩
  · exact h.elim
def absV : U → Gp → UK → Prop := fun u G Q => match u with
  | .int i => Q (.int (if i < 0 then -i else i)) G
  | _ => False
def maxV : U → U → Gp → UK → Prop := fun u w G Q => match u, w with
  | .int i, .int j => Q (.int (if j > i then j else i)) G
  | _, _ => False
def minV : U → U → Gp → UK → Prop := fun u w G Q => match u, w with
  | .int i, .int j => Q (.int (if j < i then j else i)) G
  | _, _ => False
def intV : U → Gp → UK → Prop := fun u G Q => match u with
  | .int i => Q (.int i) G
  | .bl k => Q (.int (if k then 1 else 0)) G
  | _ => False
def boolV : U → Gp → UK → Prop := fun u G Q => match u with
  | .int i => Q (.bl (i != 0)) G
  | .bl k => Q (.bl k) G
  | _ => False
/-- the items of a list or tuple -/
def seqOf (G : Gp) : U → Option (List U)
  | .tup us => some us
  | .rol us => some us
  | .ref a => match G a with
    | some (.lst us) => some us
    | _ => none
  | _ => none
def lenV : U → Gp → UK → Prop := fun u G Q => match u with
  | .str l => l.length ≤ 1000000 ∧ Q (.int l.length) G
  | .ref a => (match G a with
    | some (.lst us) => Q (.int us.length) G
    | some (.dct us) => Q (.int us.length) G
    | _ => False)
  | .tup us => Q (.int us.length) G
  | .rol us => Q (.int us.length) G
  | _ => False
def tupleV : U → Gp → UK → Prop := fun u G Q => match seqOf G u with
  | some us => Q (.tup us) G
  | none => False
def listV : U → Gp → UK → Prop := fun u G Q => match seqOf G u with
  | some us => ∀ p, G p = none → Q (.ref p) (gup G p (.lst us))
  | none => False
/-- what repr shows of data: its text fits -/
def Shows (G : Gp) (u : U) (d : PyData) : Prop := Dat G u d ∧ d.showable = true ∧ d.depth ≤ 40 ∧ d.shown.length ≤ sizeLine
def isSeqU : U → Bool
  | .tup _ => true
  | .ref _ => true
  | _ => false
def reprV : U → Gp → UK → Prop := fun u G Q => isSeqU u = true ∧ ∃ d, Shows G u d ∧ Q (.str d.shown.cps.toList) G
theorem seq_rel {K : PySem.W.Frag} {H : Hp} {G : Gp} {u : U} {x : V} {us : List U} (rp : Rep K H G) (r : RelU K H u x) (h : seqOf G u = some us) : ∃ p vs, x = .ref p ∧ RelUs K H us vs ∧ (SqL K H p vs ∨ (SqT K H p vs ∧ u = .tup us)) := by
  cases u with
  | tup ws =>
    cases h
    obtain ⟨a, vs, rfl, t, ru⟩ := r.tup_of
    exact ⟨a, vs, rfl, ru, .inr ⟨t, rfl⟩⟩
  | rol ws =>
    cases h
    obtain ⟨a, vs, rfl, t, ru⟩ := r
    exact ⟨a, vs, rfl, ru, .inl t.sq⟩
  | ref a =>
    have h' : (match G a with
      | some (.lst us) => some us
      | _ => none) = some us := h
    cases g : G a with
    | none => rw [g] at h'; cases h'
    | some o =>
      rw [g] at h'
      cases o with
      | lst ws =>
        cases h'
        obtain ⟨vs, e1, ru⟩ := rp.lst g
        exact ⟨a, vs, r, ru, .inl (.of e1)⟩
      | _ => cases h'
  | _ => cases h
theorem relKV_length {K : PySem.W.Frag} {H : Hp} : ∀ {us : List (U × U)} {vs : List (Key × V)}, RelKV K H us vs → vs.length = us.length
  | [], vs, h => by
    have e : vs = [] := h
    subst e
    rfl
  | _ :: us, _, ⟨_, _, ws, rfl, _, _, t⟩ => by
    show ws.length + 1 = us.length + 1
    rw [relKV_length t]
mutual
theorem Dp.noDict {K : PySem.W.Frag} {H : Hp} : ∀ (d : PyData) (v : V), Dp K H v d → d.hasDict = false
  | .none, _, _ => by simp only [PyData.hasDict]
  | .bool _, _, _ => by simp only [PyData.hasDict]
  | .int _, _, _ => by simp only [PyData.hasDict]
  | .str _, _, _ => by simp only [PyData.hasDict]
  | .list ds, _, h => by
    cases h with
    | lst _ ha =>
      simp only [PyData.hasDict]
      exact Dp.noDictAll ds _ ha
  | .tuple ds, _, h => by
    cases h with
    | tup _ ha =>
      simp only [PyData.hasDict]
      exact Dp.noDictAll ds _ ha
  | .dict _, _, h => by cases h
theorem Dp.noDictAll {K : PySem.W.Frag} {H : Hp} : ∀ (ds : List PyData) (vs : List V), DpAll K H vs ds → PyData.hasDictAll ds = false
  | [], _, _ => by simp only [PyData.hasDictAll]
  | d :: ds, _, h => by
    cases h with
    | cons h1 h2 => simp only [PyData.hasDictAll, Dp.noDict d _ h1, Dp.noDictAll ds _ h2, Bool.or_self]
end
section
variable {X : Cx} {W : WX}
theorem cu_abs : CallU X W (.builtin "abs") (u1 absV) := .of call_abs fun xs H as G Q E r rp h => by
  obtain ⟨u, rfl, q⟩ := u1_of h
  clear h
  obtain ⟨x, rfl, e⟩ := relUs1 r
  cases u <;> try exact q.elim
  case int i => exact ⟨i, by rw [show x = .int i from e], lv_int rp q⟩
theorem cu_max (hc : X.calm = true) : CallU X W (.builtin "max") (u2 maxV) := .of (call_max2 hc) fun xs H as G Q E r rp h => by
  obtain ⟨u, w, rfl, q⟩ := u2_of h
  clear h
  obtain ⟨x, y, rfl, e, e'⟩ := relUs2 r
  cases u <;> try exact q.elim
  cases w <;> try exact q.elim
  case int.int i j => exact ⟨i, j, by rw [show x = .int i from e, show y = .int j from e'], lv_int rp q⟩
theorem cu_min (hc : X.calm = true) : CallU X W (.builtin "min") (u2 minV) := .of (call_min2 hc) fun xs H as G Q E r rp h => by
  obtain ⟨u, w, rfl, q⟩ := u2_of h
  clear h
  obtain ⟨x, y, rfl, e, e'⟩ := relUs2 r
  cases u <;> try exact q.elim
  cases w <;> try exact q.elim
  case int.int i j => exact ⟨i, j, by rw [show x = .int i from e, show y = .int j from e'], lv_int rp q⟩
theorem cu_int : CallU X W (.type "int") (u1 intV) := .of call_int1 fun xs H as G Q E r rp h => by
  obtain ⟨u, rfl, q⟩ := u1_of h
  clear h
  obtain ⟨x, rfl, e⟩ := relUs1 r
  cases u <;> try exact q.elim
  case int i => exact .inl ⟨i, by rw [show x = .int i from e], lv_int rp q⟩
  case bl i => exact .inr ⟨i, by rw [show x = .bl i from e], lv_int rp q⟩
theorem cu_bool : CallU X W (.type "bool") (u1 boolV) := .of call_bool1 fun xs H as G Q E r rp h => by
  obtain ⟨u, rfl, q⟩ := u1_of h
  clear h
  obtain ⟨x, rfl, e⟩ := relUs1 r
  cases u <;> try exact q.elim
  case int i => exact .inl ⟨i, by rw [show x = .int i from e], lv_bl rp q⟩
  case bl i => exact .inr ⟨i, by rw [show x = .bl i from e], lv_bl rp q⟩
theorem cu_len : CallU X W (.builtin "len") (u1 lenV) := .of (call_len.or call_lenD) fun xs H as G Q E r rp h => by
  obtain ⟨u, rfl, q⟩ := u1_of h
  clear h
  obtain ⟨x, rfl, e⟩ := relUs1 r
  cases u <;> try exact q.elim
  case str l => exact .inl ⟨x, l.length, rfl, by rw [show x = .str ⟨l.toArray⟩ from e]; exact ⟨lim_line q.1, rfl⟩, lv_int rp q.2⟩
  case tup us =>
    obtain ⟨a, vs, rfl, t, ru⟩ := e.tup_of
    exact .inl ⟨_, us.length, rfl, .inr ⟨vs, t, ru.length.symm⟩, lv_int rp q⟩
  case rol us =>
    obtain ⟨a, vs, rfl, t, ru⟩ := e
    exact .inl ⟨_, us.length, rfl, .inl ⟨vs, t.sq, ru.length.symm⟩, lv_int rp q⟩
  case ref a =>
    have h' : (match G a with
      | some (.lst us) => Q (.int us.length) G
      | some (.dct us) => Q (.int us.length) G
      | _ => False) := q
    have ex : x = .ref a := e
    subst ex
    cases g : G a with
    | none =>
      rw [g] at h'
      exact h'.elim
    | some o =>
      rw [g] at h'
      cases o with
      | lst us =>
        obtain ⟨vs, e1, ru⟩ := rp.lst g
        exact .inl ⟨_, us.length, rfl, .inl ⟨vs, .of e1, ru.length.symm⟩, lv_int rp h'⟩
      | dct us =>
        obtain ⟨vs, e1, ru⟩ := rp.dct g
        exact .inr ⟨a, vs, rfl, e1, by rw [relKV_length ru]; exact lv_int rp h'⟩
      | ins c fs => exact h'.elim
theorem cu_tuple : CallU X W (.type "tuple") (u1 tupleV) := .of call_tuple_of fun xs H as G Q E r rp h => by
  obtain ⟨u, rfl, q⟩ := u1_of h
  clear h
  obtain ⟨x, rfl, e⟩ := relUs1 r
  unfold tupleV at q
  cases g : seqOf G u with
  | none => rw [g] at q; exact q.elim
  | some us =>
    rw [g] at q
    obtain ⟨p, vs, rfl, ru, t⟩ := seq_rel rp e g
    rcases t with t | ⟨t, _⟩
    · exact ⟨p, vs, rfl, .inl ⟨t, fun l hl => lv_tup rp ru hl q⟩⟩
    · exact ⟨p, vs, rfl, .inr ⟨t, lv_old rp t ru q⟩⟩
theorem cu_list : CallU X W (.type "list") (u1 listV) := .of call_list_of fun xs H as G Q E r rp h => by
  obtain ⟨u, rfl, q⟩ := u1_of h
  clear h
  obtain ⟨x, rfl, e⟩ := relUs1 r
  unfold listV at q
  cases g : seqOf G u with
  | none => rw [g] at q; exact q.elim
  | some us =>
    rw [g] at q
    obtain ⟨p, vs, rfl, ru, t⟩ := seq_rel rp e g
    exact ⟨p, vs, rfl, t.imp id (·.1), fun l hl => lv_lst rp ru hl (q l (rp.fresh hl))⟩
theorem cu_repr (hu : X.A.units + 64 < cLine) (hg : X.A.guards = some []) : CallU X W (.builtin "repr") (u1 reprV) := by
  intro pins s σ H xs us as G Q E I rx ra rp hr hx
  obtain ⟨u, rfl, hq, d, ⟨hd, hs, hdp, hz⟩, q⟩ := u1_of hr
  obtain ⟨x, rfl, rux⟩ := relUs1 ra
  obtain ⟨v, rfl, rv⟩ := vals1 rx
  have dp := hd.dp rp d u x rux
  obtain ⟨as', rd⟩ := Dp.reads I d x v dp rv
  obtain ⟨a, rfl⟩ : ∃ a, v = .ref a := by
    cases u with
    | tup us =>
      obtain ⟨a, vs, rfl, _⟩ := rux.tup_of
      exact ⟨a, rv⟩
    | ref b =>
      have e : x = .ref b := rux
      subst e
      exact ⟨b, rv⟩
    | _ => cases hq
  refine PySem.repr_of_reads' rd hs (PyData.noDict_hsm (Dp.noDict d x dp)) hg (by omega) (fun _ _ e => e) (fun h' t tk hk => ?_) hz
  exact ⟨.str d.shown, H, I.kept hk, ⟨t, rfl⟩, lv_str (l := d.shown.cps.toList) rp q⟩
end
end UL
set_option maxHeartbeats 400000
namespace UL
open PySem PySem.Spec PyProof.Rows L2

/-! ### methods of lists -/
abbrev URM := U → List U → Gp → UK → UX → Prop
theorem MtU.of {X : Cx} {W : WX} {id : String} {r : URM} {rv : V → List V → Hp → VK → Prop} (h : MtM X id rv) (k : ∀ x xs H a as G Q E, RelU X.K H a x → RelUs X.K H as xs → Rep X.K H G → r a as G Q E → rv x xs H (LV X.K H G Q)) : MtU X W id r :=
  fun pins s σ H x xs v us a as G Q E I rx rv' ra ras rp hr _ => h pins s σ H x xs v us _ I rx rv' (k x xs H a as G Q E ra ras rp hr)
/-- the receiver is a list -/
def onLst (f : Addr → List U → List U → Gp → UK → Prop) : URM := fun x as G Q _ => match x with
  | .ref a => match G a with
    | some (.lst us) => f a us as G Q
    | _ => False
  | _ => False
theorem onLst_of {f : Addr → List U → List U → Gp → UK → Prop} {x : U} {as : List U} {G : Gp} {Q : UK} {E : UX} (h : onLst f x as G Q E) : ∃ a us, x = .ref a ∧ G a = some (.lst us) ∧ f a us as G Q := by
  cases x <;> try exact h.elim
  case ref a =>
    have h' : (match G a with
      | some (.lst us) => f a us as G Q
      | _ => False) := h
    cases g : G a with
    | none =>
      rw [g] at h'
      exact h'.elim
    | some o =>
      rw [g] at h'
      cases o with
      | lst us => exact ⟨a, us, rfl, g, h'⟩
      | _ => exact h'.elim
def appendL : Addr → List U → List U → Gp → UK → Prop := fun a us as G Q => match as with
  | [y] => us.length < 1000000 ∧ Q .non (gup G a (.lst (us ++ [y])))
  | _ => False
section
variable {X : Cx} {W : WX}
theorem mu_append : MtU X W "list.append" (onLst appendL) := .of mt_append fun x xs H u as G Q E ru ras rp h => by
  obtain ⟨a, us, rfl, g, h⟩ := onLst_of h
  rcases as with _ | ⟨y, _ | ⟨z, r⟩⟩
  · exact h.elim
  · obtain ⟨yv, rfl, ry⟩ := relUs1 ras
    obtain ⟨vs, e, rv⟩ := rp.lst g
    exact ⟨a, vs, yv, ru, rfl, e, by rw [rv.length]; exact lim_lt h.1, lv_setl (u := .non) rp g (rv.append (.one ry)) rfl h.2⟩
  · exact h.elim
end

/-! ### the end: a law over its promise -/
def IntU (ns : List Int) : List U := ns.map .int
theorem relUs_ints {K : PySem.W.Frag} {H : Hp} : ∀ ns : List Int, RelUs K H (IntU ns) (ns.map V.int)
  | [] => rfl
  | n :: ns => ⟨.int n, _, rfl, rfl, relUs_ints ns⟩
theorem law_u {P : Program} {w : World} {K : PySem.W.Frag} {mg mb : Str → Option Value} {k : Nat} {fa a : Addr} {fd : FuncData} {x : Str} {sp : USp} {s1 : Shared} {vs : List Value} {ns : List Int}
    (inK : K.In s1.heap) (glo : s1.heap.Ns mainGlobals mg) (blt : s1.heap.Ns builtinsNs mb) (bb : ∀ x : Str, x ≠ "__name__" → mb x = bootBuiltins x) (lim : s1.heap.NoLimit) (noGen : s1.gens = #[])
    (at_ : s1.heap.get? a = some { cls := .type "list", data := .seq vs.toArray }) (ints_ : IntsAre vs ns) (short : ns.length ≤ sizeLine) (room : RoomU k callerA)
    (F : ∀ base : Heap, K.In base → base.Ns mainGlobals mg → FnU P w K mg base k fa fd [x] sp) (bind1 : ∀ (s : Shared) (u : Value), BindsTo s fd ⟨[u], []⟩ [(x, u)])
    (want : sp [.rol (IntU ns)] (fun _ => none) (fun v _ => v = .bl true) fun _ _ => False) :
    codeAny (model P w) callerA (.call (.ref fa) ⟨[.ref a], []⟩) (fun r s' => r = .ok (.ret (.bool true)) ∧ OldK s1.heap s'.heap ∧ s'.os = s1.os ∧ AllBare s'.gens) s1 := by
  have rv := vals_ints ints_
  have lenV := ints_.length
  -- H: nothing is tracked but, at most, the script
  suffices main : ∀ H : Hp, (∀ b, b ≠ a → H b = none) → (H a = none ∨ (H a = some (.frz { cls := .type "list", data := .seq vs.toArray } (.lst (ns.map V.int))) ∧ K.lookup a = none)) → RoL K H a (ns.map V.int) → HOk P w H s1.heap →
      codeAny (model P w) callerA (.call (.ref fa) ⟨[.ref a], []⟩) (fun r s' => r = .ok (.ret (.bool true)) ∧ OldK s1.heap s'.heap ∧ s'.os = s1.os ∧ AllBare s'.gens) s1 by
    cases kl : K.lookup a with
    | some o =>
      have e := inK a o kl
      rw [at_] at e
      cases e
      exact main (fun _ => none) (fun _ _ => rfl) (.inl rfl) (.inr ⟨_, vs.toArray, _, kl, rfl, rfl, rfl, by rw [List.size_toArray, lenV]; exact short, by simpa using rv⟩) fun b u z => nomatch (show (none : Option HO) = some u from z)
    | none =>
      have here : (fun b => if b = a then some (HO.frz { cls := .type "list", data := .seq vs.toArray } (.lst (ns.map V.int))) else none : Hp) a = some (HO.frz { cls := .type "list", data := .seq vs.toArray } (.lst (ns.map V.int))) := if_pos rfl
      refine main (fun b => if b = a then some (.frz { cls := .type "list", data := .seq vs.toArray } (.lst (ns.map V.int))) else none) (fun b hb => if_neg hb) (.inr ⟨here, kl⟩) (.inl ⟨_, here⟩) fun b u z => ?_
      by_cases hb : b = a
      · subst hb
        cases here.symm.trans z
        exact ⟨at_, by rw [List.length_map]; exact short, vs, _, rv, at_⟩
      · cases (if_neg hb).symm.trans z
  intro H off on rl hok
  have isSeq : ∀ {b : Addr} {o : Obj}, s1.heap.get? b = some o → (∀ n, o ≠ { cls := .type "list", data := .seq vs.toArray n }) → H b = none := fun {b o} e ne => by
    by_cases hb : b = a
    · subst hb
      rw [at_] at e
      cases e
      exact absurd rfl (ne _)
    · exact off b hb
  have nsB : ∀ {b : Addr} {m : Str → Option Value}, s1.heap.Ns b m → (hidT s1.heap H).Ns b m := fun {b m} ⟨o, es, ep, e, d, r⟩ =>
    ⟨o, es, ep, hidT_get e (isSeq e fun n z => by rw [z] at d; exact nomatch (show Data.seq vs.toArray n = Data.dict es ep from d)), d, r⟩
  have kB : K.In (hidT s1.heap H) := fun b o e => hidT_get (inK b o e) (by
    by_cases hb : b = a
    · subst hb
      rcases on with z | ⟨_, z⟩
      · exact z
      · rw [e] at z
        cases z
    · exact off b hb)
  obtain ⟨mc, c1, c2⟩ := lim
  have at0 : Env0 P w K mg (hidT s1.heap H) callerA [] s1 H := ⟨rfl, ⟨kB, nsB glo, ⟨mb, nsB blt, bb⟩, mc, nsB c1, c2⟩, fun b o e => of_hidT e, Nat.le_of_eq (hidT_size _ _), trivial, (fun b hb => nomatch hb), hok, .of_eq noGen⟩
  have rp : Rep K H (fun _ => none) := fun b o z => nomatch (show (none : Option Ob) = some o from z)
  refine codeAny_mono ((F _ kB (nsB glo)).run callerA [] s1 H ⟨[.ref a], []⟩ [.ref a] [.ref a] [.rol (IntU ns)] (fun _ => none) _ _ room at0 (bind1 s1 (.ref a)) (.cons rfl .nil) ⟨.ref a, [], rfl, ⟨a, ns.map V.int, rfl, rl, relUs_ints ns⟩, rfl⟩ rfl rp want) fun r s' h => ?_
  cases r with
  | error e =>
    obtain ⟨_, _, H', c, d, _, _, _, _, _, _, _, y, G', _, _, _, z⟩ := h
    exact z.elim
  | ok fl =>
    cases fl with
    | next => exact False.elim h
    | brk => exact False.elim h
    | cont => exact False.elim h
    | ret u =>
      obtain ⟨v, H', os, bare, un, hok', r', w', G', _, _, rw', e⟩ := h
      have e' : w' = .bl true := e
      subst e'
      have ev : v = .bl true := rw'
      subst ev
      obtain rfl : u = Value.bool true := r'
      refine ⟨rfl, OldK.of_keep fun b o e => ?_, os, bare⟩
      by_cases hb : b = a
      · subst hb
        rcases on with z | ⟨z, _⟩
        · exact un.keep b o e z (fun q => nomatch q) (fun q => nomatch q)
        · obtain ⟨e1, _⟩ := hok b _ z
          obtain ⟨e2, _⟩ := hok' b _ (un.frzs b _ _ z)
          rw [e] at e1
          cases e1
          exact e2
      · exact un.keep b o e (off b hb) (fun q => nomatch q) (fun q => nomatch q)
theorem walk_u {l : PySem.W.OpenLaw} {n k : Nat} {q : Program} {loose : List Str} {XP : (Str → Option Value) → Heap → Prop} {YP : World → Heap → Prop} {d : DefRec} {x : Str} {sp : USp}
    (hn : l.most = some n) (hn2 : n ≤ sizeLine) (hdf : d.params.defaults = []) (room : RoomU k callerA)
    (F : ∀ (w : World) (mg : Str → Option Value) (fa : Addr) (h : Heap), YP w h → h.Ns mainGlobals mg → mg d.name = some (.ref fa) →
      ∃ (K : PySem.W.Frag) (fd : FuncData), K.In h ∧ (∀ (s : Shared) (u : Value), BindsTo s fd ⟨[u], []⟩ [(x, u)]) ∧ ∀ base : Heap, K.In base → base.Ns mainGlobals mg → FnU l.prog w K mg base k fa fd [x] sp)
    (want : ∀ ns : List Int, ns.length ≤ n → (∀ z ∈ ns, Builtin.Int.intBits z ≤ 1048576) → sp [.rol (IntU ns)] (fun _ => none) (fun v _ => v = .bl true) fun _ _ => False) :
    PySem.W.WalkO q loose XP YP l.row.toRowW d [] (fun f vs => PySem.call f vs) := by
  refine Att.attach_callB hn hdf fun w s₀ s1 mg mb fa o pm cd doc a vs ns G Y ho hd hcd hmg hobj hints hlen hbits hg => ?_
  obtain ⟨K, fd, inK, hb, hF⟩ := F w mg fa _ Y G.T.g hmg
  exact law_u inK G.T.g G.T.b G.T.builtins G.T.nolimit hg hobj hints (Nat.le_trans hlen hn2) room hF hb (want ns hlen hbits)
end UL
set_option maxHeartbeats 400000
namespace UL
open PySem PySem.Spec PyProof.Rows L2

/-! ### a text's defs by name -/
def US (s : String) : U := .str (S s).cps.toList
def fdOf (K : PySem.W.Frag) (a : Addr) : FuncData := match K.lookup a with
  | some ⟨_, _, .func fd, _⟩ => fd
  | _ => default
structure FunK (K : PySem.W.Frag) (d : He.DefD) : Prop where
  D : FunD K d.name d.qual d.params d.body d.scope (d.dvs K) (d.kws K) (He.fAd K d.at_) (fdOf K (He.fAd K d.at_))
theorem funK {K : PySem.W.Frag} {d : He.DefD} (h : ∃ fd, FunD K d.name d.qual d.params d.body d.scope (d.dvs K) (d.kws K) (He.fAd K d.at_) fd) : FunK K d := by
  obtain ⟨fd, F⟩ := h
  obtain ⟨oc, od, dV, kV, doc, pm, an, cdv, ct, osl, e, lk, r⟩ := F.ex
  have z : fdOf K (He.fAd K d.at_) = fd := by
    unfold fdOf
    rw [lk]
  exact ⟨by rw [z]; exact F⟩
structure Known (P : Program) (w : World) (K : PySem.W.Frag) (mg : Str → Option Value) (base : Heap) (d : He.DefD) (k : Nat) (sp : USp) : Prop where
  F : FnU P w K mg base k (He.fAd K d.at_) (fdOf K (He.fAd K d.at_)) (parN d.params ++ parK d.params) sp
  D : FunD K d.name d.qual d.params d.body d.scope (d.dvs K) (d.kws K) (He.fAd K d.at_) (fdOf K (He.fAd K d.at_))
def uOf : He.Dv → U
  | .bl b => .bl b
  | .int i => .int i
  | .str x => .str x.cps.toList
  | .ty n => .ty n
  | _ => .non
def plainD : He.Dv → Bool
  | .non => true
  | .bl _ => true
  | .int _ => true
  | .str _ => true
  | .ty _ => true
  | _ => false
theorem rel_dv {K : PySem.W.Frag} {H : Hp} (d : He.Dv) (h : plainD d = true) : RelU K H (uOf d) (d.v K) := by
  cases d <;> first
    | rfl
    | cases h
theorem relUs_dv {K : PySem.W.Frag} {H : Hp} : ∀ l : List He.Dv, l.all plainD = true → RelUs K H (l.map uOf) (l.map (He.Dv.v K))
  | [], _ => rfl
  | d :: l, h => by
    rw [List.all_cons, Bool.and_eq_true] at h
    exact ⟨_, _, rfl, rel_dv d h.1, relUs_dv l h.2⟩
theorem relUs_kd {K : PySem.W.Frag} {H : Hp} : ∀ l : List (Str × He.Dv), l.all (fun q => plainD q.2) = true → RelUs K H (l.map fun q => uOf q.2) ((l.map fun q => (q.1, q.2.v K)).map (·.2))
  | [], _ => rfl
  | d :: l, h => by
    rw [List.all_cons, Bool.and_eq_true] at h
    exact ⟨_, _, rfl, rel_dv d.2 h.1, relUs_kd l h.2⟩
theorem takes_W0 {X : Cx} : Takes X W0 := fun u s' ⟨_, _, _, _, _, _, _, _, _, _, _, _, _, _, _, _, z⟩ => z.elim
def blkB (N : List Str) (sc scope : Scope) (own : List (Str × Nat)) : Bool :=
  decide (scope.kind = .function) && (scope.names.all (fun y => decide (scope.names.lookup y.1 = some y.2)) && (own.all (fun p => decide (N[p.2]? = some p.1)) &&
    (scope.names.all (fun y => !decide (y.2 = .free) || (decide (sc.names.lookup y.1 = some .cell) || decide (sc.names.lookup y.1 = some .free))) &&
      scope.names.all (fun y => !(decide (y.2 = .local) || decide (y.2 = .cell)) || ((own.map (·.1)).contains y.1 || !N.contains y.1)))))
theorem blk_of {N : List Str} {sc scope : Scope} {own : List (Str × Nat)} (h : blkB N sc scope own = true) : BlkOk N sc scope own := by
  unfold blkB at h
  simp only [Bool.and_eq_true, List.all_eq_true, decide_eq_true_eq, Bool.or_eq_true, Bool.not_eq_true', decide_eq_false_iff_not, List.contains_iff_mem] at h
  obtain ⟨h1, h2, h3, h4, h5⟩ := h
  refine ⟨h1, h2, h3, fun y hy e => (h4 y hy).resolve_left fun z => z e, fun y hy e => ?_⟩
  rcases h5 y hy with z | z | z
  · rcases e with e | e
    · rw [e] at z
      simp at z
    · rw [e] at z
      simp at z
  · exact .inl z
  · refine .inr fun q => ?_
    rw [← List.contains_iff_mem, z] at q
    cases q
def tUTest (t : UTE) : UTT := fun us G Q E => t us G (kBl Q) E
def tUWhile (tc : UTT) (tb : UTS) : UTS := fun D us G => ∃ n, whileU tc tb n D us G
/-! ### cuts: a wish between; what is known may shrink there -/
def KS (P : USt → Gp → Prop) : USt → Gp → Prop := fun us G => ∃ G2, Sub G2 G ∧ P us G2
theorem KS.now {P : USt → Gp → Prop} {us : USt} {G : Gp} (h : P us G) : KS P us G := ⟨G, .refl G, h⟩
def tUCut (t : UTS) : UTS := fun D us G => ∃ M : USt → Gp → Prop, (∀ us G, M us G → KS D.nx us G) ∧ t { D with nx := M } us G
def tECut (t : UTE) : UTE := fun us G Q E => ∃ M : UK, (∀ u G, M u G → KF Q u G) ∧ t us G M E
theorem su_cut {X : Cx} {W : WX} {st : Stmt} {t : UTS} (h : SU X W st t) : SU X W st (tUCut t) := by
  refine ⟨fun pins s σ H us G D I rs rp ⟨M, le, ht⟩ hx => ?_⟩
  refine thn (h.run pins s σ H us G { D with nx := M } I rs rp ht hx) fun f s' q => ?_
  refine sp_imp (D := lD X.K H G { D with nx := M }) (D' := lD X.K H G D) (fun σ' H' q => ?_) (fun _ _ q => q) (fun _ _ q => q) (fun _ _ q => q) q
  obtain ⟨u, G', a, b, c, m⟩ := (show LS X.K H G M σ' H' from q)
  obtain ⟨G2, sb, n⟩ := le _ _ m
  exact ⟨u, G2, sb.ext a, sb.rep b, c, n⟩
theorem eu_cut {X : Cx} {W : WX} {e : Expr} {t : UTE} (h : EU X W e t) : EU X W e (tECut t) := by
  refine ⟨fun pins s σ H us G Q E I rs rp ⟨M, le, ht⟩ hx => ?_⟩
  refine thn (h.run pins s σ H us G M E I rs rp ht hx) fun f s' q => ep_imp (fun v H' q => ?_) q
  obtain ⟨u, G', a, b, c, m⟩ := (show LV X.K H G M v H' from q)
  obtain ⟨G2, sb, n⟩ := le _ _ m
  exact ⟨u, G2, sb.ext a, sb.rep b, c, n⟩
theorem cut {t : UTS} {D : UEnds} {us : USt} {G : Gp} (M : USt → Gp → Prop) (h : t { D with nx := KS M } us G) (k : ∀ us G, M us G → D.nx us G) : tUCut t D us G := ⟨_, fun us G ⟨G2, s, m⟩ => ⟨G2, s, k us G2 m⟩, h⟩
theorem nocut {t : UTS} {D : UEnds} {us : USt} {G : Gp} (h : t D us G) : tUCut t D us G := ⟨_, fun _ _ h => KS.now h, h⟩
theorem ecut {t : UTE} {Q : UK} {E : UX} {us : USt} {G : Gp} (M : UK) (h : t us G (KF M) E) (k : ∀ u G, M u G → Q u G) : tECut t us G Q E := ⟨_, fun u G ⟨G2, s, m⟩ => ⟨G2, s, k u G2 m⟩, h⟩
theorem noecut {t : UTE} {Q : UK} {E : UX} {us : USt} {G : Gp} (h : t us G Q E) : tECut t us G Q E := ⟨_, fun _ _ h => KF.now h, h⟩
section
variable {X : Cx} {W : WX} {es : List Expr} {kws : List Keyword} {tk ta : UTA} {pos p : Pos} {k k' n : Nat} {ks : List Str} {sp : USp} {pl : List Src} {x : Str} {d : He.DefD}
/-- a call of a def of the module -/
theorem eu_def (kn : Known X.prog X.w X.K X.mg X.base d k sp) (hr : RoomU k X.A) (hg : Gl X x) (hm : X.mg x = some (.ref (He.fAd X.K d.at_))) (hP : Plain d.params) (e : planOf (parN d.params) (parK d.params) n ks d.dfl.length (d.kwd.map (·.1)) = some pl)
    (hd : d.dfl.all plainD = true) (hk : d.kwd.all (fun q => plainD q.2) = true) (hT : Takes X W) (l3 : pl.length = (parN d.params ++ parK d.params).length) (ha : AU X W es ta) (hkw : KU X W kws tk) (hst : Unst X.env es ta)
    (hall : (backToKw pos (keywordEach kws X.env)).all (·.1.isSome) = true) (hks : (backToKw pos (keywordEach kws X.env)).filterMap (·.1) = ks)
    (hpl : ((backTo pos (starEach es X.env)).any (·.1) || (backToKw pos (keywordEach kws X.env)).any (·.1.isNone)) = false) (hdb : (x == ("__debug__" : Str)) = false) :
    EU X W (.Call (.Name x p) es kws pos) (tUDef sp n ks.length pl (d.dfl.map uOf) (d.kwd.map fun q => uOf q.2) ta tk) := by
  have b := bind_u (n := n) (ks := ks) (pl := pl) kn.D hP (by
    unfold He.DefD.dvs He.DefD.kws
    rw [List.length_map, List.map_map]
    exact e)
  exact eu_call kn.F hr hg hm kn.D.kp b (fun _ => relUs_dv _ hd) (fun _ => relUs_kd _ hk) hT l3 ha hkw hst hall hks hpl hdb
end
end UL
set_option maxHeartbeats 400000
namespace UL
open PySem PySem.Spec PyProof.Rows L2

/-! ### readings, applied -/
section
variable {us : USt} {G : Gp} {Q : UK} {E : UX} {D : UEnds} {ta tb te to ti' : UTE} {r : UR2} {r1 : UR1} {t u : UTS} {tt : UTT} {B : Bool → Gp → Prop} {tr tk : UTA} {L : List U → Gp → Prop} {g : UTG} {w : U} {S0 : USt → Gp → Prop} {i : Nat}
@[simp] theorem x_var : tUVar i us G Q E = (match us[i]? with | some (some u) => Q u G | _ => False) := rfl
@[simp] theorem x_c : tUC w us G Q E = Q w G := rfl
@[simp] theorem x_op : tUOp r ta tb us G Q E = ta us G (fun x G1 => tb us G1 (fun y G2 => r x y G2 Q E) E) E := rfl
@[simp] theorem x_un : tUUn r1 ta us G Q E = ta us G (fun x G1 => r1 x G1 Q E) E := rfl
@[simp] theorem x_and : tUAnd ta tb us G Q E = ta us G (fun u G1 => match u with | .bl b => (bif b then tb us G1 Q E else Q (.bl false) G1) | _ => False) E := by
  unfold tUAnd
  congr 1
  funext u G1
  cases u <;> try rfl
  rename_i b
  cases b <;> rfl
@[simp] theorem x_or : tUOr ta tb us G Q E = ta us G (fun u G1 => match u with | .bl b => (bif b then Q (.bl true) G1 else tb us G1 Q E) | _ => False) E := by
  unfold tUOr
  congr 1
  funext u G1
  cases u <;> try rfl
  rename_i b
  cases b <;> rfl
@[simp] theorem x_if : tUIf tt ta tb us G Q E = tt us G (fun b G1 => bif b then ta us G1 Q E else tb us G1 Q E) E := rfl
@[simp] theorem x_nil : tUNil us G L E = L [] G := rfl
@[simp] theorem x_cons : tUCons ta tr us G L E = ta us G (fun u G1 => tr us G1 (fun ws G2 => L (u :: ws) G2) E) E := rfl
@[simp] theorem x_tup : tUTup tr us G Q E = tr us G (fun ws G1 => ws.length ≤ 1000000 ∧ Q (.tup ws) G1) E := rfl
@[simp] theorem x_lst : tULst tr us G Q E = tr us G (fun ws G1 => ws.length ≤ 1000000 ∧ ∀ p, G1 p = none → Q (.ref p) (gup G1 p (.lst ws))) E := rfl
@[simp] theorem x_test : tUTest ta us G B E = ta us G (kBl B) E := rfl
@[simp] theorem x_kBl {b : Bool} : kBl B (.bl b) G = B b G := by
  unfold kBl
  simp
@[simp] theorem x_not : tUNot tt us G B E = tt us G (fun b G1 => B (!b) G1) E := rfl
@[simp] theorem x_bAnd {tt' : UTT} : tBAnd tt tt' us G B E = tt us G (fun b G1 => bif b then tt' us G1 B E else B false G1) E := rfl
@[simp] theorem x_bOr {tt' : UTT} : tBOr tt tt' us G B E = tt us G (fun b G1 => bif b then B true G1 else tt' us G1 B E) E := rfl
@[simp] theorem x_tru {rr : U → Gp → (Bool → Gp → Prop) → UX → Prop} : tUTru rr ta us G B E = ta us G (fun u G1 => rr u G1 B E) E := rfl
@[simp] theorem x_call {rc : URC} : tUCall rc tr us G Q E = tr us G (fun as G1 => rc as G1 Q E) E := rfl
@[simp] theorem x_def {sp : USp} {n m : Nat} {pl : List Src} {d k : List U} : tUDef sp n m pl d k tr tk us G Q E = tr us G (fun vs G1 => tk us G1 (fun zs G2 => vs.length = n ∧ zs.length = m ∧ sp (pl.map (Src.get .non vs zs d k)) G2 Q E) E) E := rfl
@[simp] theorem x_bm {T : String} {rm : URM} : tUBM T rm to tr us G Q E = to us G (fun u G1 => tyU T u G1 ∧ tr us G1 (fun as G2 => rm u as G2 Q E) E) E := rfl
@[simp] theorem x_u1 {f : U → Gp → UK → Prop} : u1 f [w] G Q E = f w G Q := rfl
@[simp] theorem x_u2 {f : U → U → Gp → UK → Prop} {z : U} : u2 f [w, z] G Q E = f w z G Q := rfl
@[simp] theorem x_seq : tUSeq t u D us G = t { D with nx := u D } us G := rfl
@[simp] theorem x_next : tUNext D us G = D.nx us G := rfl
@[simp] theorem x_drop : tUDrop te D us G = te us G (fun _ G1 => D.nx us G1) (fun x G1 => D.ex x us G1) := rfl
@[simp] theorem x_ret : tURet te D us G = te us G D.rt (fun x G1 => D.ex x us G1) := rfl
@[simp] theorem x_ifS : tUIfS tt t u D us G = tt us G (fun b G1 => bif b then t D us G1 else u D us G1) (fun x G1 => D.ex x us G1) := rfl
@[simp] theorem x_asg : tUAsg te g D us G = te us G (fun x G1 => g x us G1 D.nx (fun x G1 => D.ex x us G1)) (fun x G1 => D.ex x us G1) := rfl
@[simp] theorem x_par {is : List Nat} : tUPar is tr D us G = tr us G (fun ws G1 => ws.length = is.length ∧ D.nx (setAll us is.reverse ws.reverse) G1) (fun x G1 => D.ex x us G1) := rfl
@[simp] theorem x_gname : gUName i w us G S0 E = S0 (us.set i (some w)) G := rfl
@[simp] theorem x_gsub {st : U → U → U → Gp → (Gp → Prop) → UX → Prop} : gUSub to ti' st w us G S0 E = to us G (fun o G1 => ti' us G1 (fun i G2 => st o i w G2 (fun G3 => S0 us G3) E) E) E := rfl
@[simp] theorem x_gtup {n : Nat} {ts : UTGs} {ws : List U} : gUTup n ts (.tup ws) us G S0 E = (ws.length = n ∧ ts ws us G S0 (fun _ _ => False)) := rfl
@[simp] theorem x_gcons {ts : UTGs} {ws : List U} : gUCons g ts (w :: ws) us G S0 E = g w us G (fun us1 G1 => ts ws us1 G1 S0 E) E := rfl
@[simp] theorem x_gnil {ws : List U} : gUNil ws us G S0 E = (ws = [] ∧ S0 us G) := rfl
@[simp] theorem x_sl {tl th : UTO} : tUSl te tl th us G Q E = te us G (fun x G1 => tl us G1 (fun l G2 => th us G2 (fun h G3 => slU x l h G3 Q) E) E) E := rfl
@[simp] theorem x_noPart {O : Option Int → Gp → Prop} : tUNoPart us G O E = O none G := rfl
@[simp] theorem x_part {O : Option Int → Gp → Prop} : tUPart te us G O E = te us G (fun u G1 => match u with | .int i => O (some i) G1 | _ => False) E := by
  unfold tUPart
  congr 1
@[simp] theorem x_for {ti : UTI} : tUFor ti g t D us G = ti us G (fun chk items G1 => forU g t chk items D us G1) (fun x G1 => D.ex x us G1) := rfl
@[simp] theorem x_rng1 {R : UKI} : tIRng1 ta us G R E = ta us G (fun u G1 => rngA u G1 R) E := rfl
@[simp] theorem x_rng2 {R : UKI} : tIRng2 ta tb us G R E = ta us G (fun u G1 => tb us G1 (fun w G2 => rngB u w G2 R) E) E := rfl
@[simp] theorem x_any {R : UKI} : tIAny ta us G R E = ta us G (fun u G1 => iterU u G1 R) E := rfl
@[simp] theorem x_lc {ti : UTI} {own : List Nat} : tULc ti g tt te own us G Q E = ti us G (fun chk items G1 => lcU g tt te chk (uwipe us own) (fun acc G2 => ∀ p, G2 p = none → Q (.ref p) (gup G2 p (.lst acc))) items [] G1) E := rfl
/-! values -/
variable {a b i' j : Int} {x y : List Nat} {xs ys : List U} {p q : Addr} {R : UKI}
@[simp] theorem x_addI : addU (.int a) (.int b) G Q E = Q (.int (a + b)) G := rfl
@[simp] theorem x_addS : addU (.str x) (.str y) G Q E = (x.length + y.length ≤ 1000000 ∧ Q (.str (x ++ y)) G) := rfl
@[simp] theorem x_addT : addU (.tup xs) (.tup ys) G Q E = (xs.length + ys.length ≤ 1000000 ∧ Q (.tup (xs ++ ys)) G) := rfl
@[simp] theorem x_subI : subU (.int a) (.int b) G Q E = Q (.int (a - b)) G := rfl
@[simp] theorem x_mulI : mulU (.int a) (.int b) G Q E = (CMul a b ∧ Q (.int (a * b)) G) := rfl
@[simp] theorem x_mulT : mulU (.tup xs) (.int b) G Q E = (xs ≠ [] ∧ xs.length ≤ 1000 ∧ 0 ≤ b ∧ b ≤ 1000 ∧ Q (.tup (List.replicate b.toNat xs).flatten) G) := rfl
@[simp] theorem x_modI : modU (.int a) (.int b) G Q E = (0 < b ∧ Q (.int (a % b)) G) := rfl
@[simp] theorem x_fdivI : fdivU (.int a) (.int b) G Q E = ((0 < b ∧ b < 1073741824) ∧ Q (.int (a / b)) G) := rfl
@[simp] theorem x_powI : powU (.int a) (.int b) G Q E = (CPow a b ∧ Q (.int (a ^ b.toNat)) G) := rfl
@[simp] theorem x_negI : negU (.int a) G Q E = Q (.int (-a)) G := rfl
@[simp] theorem x_eqI : eqU (.int a) (.int b) G Q E = Q (.bl (decide (a = b))) G := rfl
@[simp] theorem x_neI : neU (.int a) (.int b) G Q E = Q (.bl (!decide (a = b))) G := rfl
@[simp] theorem x_eqS : eqU (.str x) (.str y) G Q E = Q (.bl (decide (x = y))) G := rfl
@[simp] theorem x_neS : neU (.str x) (.str y) G Q E = Q (.bl (!decide (x = y))) G := rfl
@[simp] theorem x_ltI : ltU (.int a) (.int b) G Q E = Q (.bl (decide (a < b))) G := rfl
@[simp] theorem x_leI : leU (.int a) (.int b) G Q E = Q (.bl (decide (a ≤ b))) G := rfl
@[simp] theorem x_gtI : gtU (.int a) (.int b) G Q E = Q (.bl (decide (b < a))) G := rfl
@[simp] theorem x_geI : geU (.int a) (.int b) G Q E = Q (.bl (decide (b ≤ a))) G := rfl
@[simp] theorem x_ixR : ixU0 (.rol xs) (.int a) G Q E = ∃ u, atI xs a = some u ∧ Q u G := rfl
@[simp] theorem x_ixT : ixU0 (.tup xs) (.int a) G Q E = ∃ u, atI xs a = some u ∧ Q u G := rfl
@[simp] theorem x_ixL : ixU0 (.ref p) (.int a) G Q E = (match G p with | some (.lst xs) => ∃ u, atI xs a = some u ∧ Q u G | _ => False) := by
  unfold ixU0
  apply propext
  constructor
  · rintro ⟨us, u, h1, h2, h3⟩
    rw [h1]
    exact ⟨u, h2, h3⟩
  · intro h
    split at h
    · rename_i us e
      obtain ⟨u, h2, h3⟩ := h
      exact ⟨us, u, e, h2, h3⟩
    · exact h.elim
@[simp] theorem x_setL {Z : Gp → Prop} : setU0 (.ref p) (.int a) w G Z E = (match G p with | some (.lst xs) => (match ixN xs.length a with | some j => Z (gup G p (.lst (xs.set j w))) | none => False) | _ => False) := by
  unfold setU0
  apply propext
  constructor
  · rintro ⟨us, j, h1, h2, h3⟩
    rw [h1]
    dsimp only
    rw [h2]
    exact h3
  · intro h
    split at h
    · rename_i us e
      split at h
      · rename_i j e2
        exact ⟨us, j, e, e2, h⟩
      · exact h.elim
    · exact h.elim
@[simp] theorem x_abs : absV (.int a) G Q = Q (.int (if a < 0 then -a else a)) G := rfl
@[simp] theorem x_max : maxV (.int a) (.int b) G Q = Q (.int (if b > a then b else a)) G := rfl
@[simp] theorem x_min : minV (.int a) (.int b) G Q = Q (.int (if b < a then b else a)) G := rfl
@[simp] theorem x_int : intV (.int a) G Q = Q (.int a) G := rfl
@[simp] theorem x_intB {k : Bool} : intV (.bl k) G Q = Q (.int (if k then 1 else 0)) G := rfl
@[simp] theorem x_lenR : lenV (.rol xs) G Q = Q (.int xs.length) G := rfl
@[simp] theorem x_lenT : lenV (.tup xs) G Q = Q (.int xs.length) G := rfl
@[simp] theorem x_lenS : lenV (.str x) G Q = (x.length ≤ 1000000 ∧ Q (.int x.length) G) := rfl
@[simp] theorem x_lenL : lenV (.ref p) G Q = (match G p with | some (.lst us) => Q (.int us.length) G | some (.dct us) => Q (.int us.length) G | _ => False) := rfl
@[simp] theorem x_tupleT : tupleV (.tup xs) G Q = Q (.tup xs) G := rfl
@[simp] theorem x_tupleR : tupleV (.rol xs) G Q = Q (.tup xs) G := rfl
@[simp] theorem x_tupleL : tupleV (.ref p) G Q = (match G p with | some (.lst us) => Q (.tup us) G | _ => False) := by
  unfold tupleV seqOf
  dsimp only
  cases G p with
  | none => rfl
  | some o => cases o <;> rfl
@[simp] theorem x_listT : listV (.tup xs) G Q = ∀ p, G p = none → Q (.ref p) (gup G p (.lst xs)) := rfl
@[simp] theorem x_listL : listV (.ref p) G Q = (match G p with | some (.lst us) => ∀ q, G q = none → Q (.ref q) (gup G q (.lst us)) | _ => False) := by
  unfold listV seqOf
  dsimp only
  cases G p with
  | none => rfl
  | some o => cases o <;> rfl
@[simp] theorem x_slR {l h : Option Int} : slU (.rol xs) l h G Q = ∀ p, G p = none → Q (.ref p) (gup G p (.lst (cutU xs l h))) := rfl
@[simp] theorem x_slT {l h : Option Int} : slU (.tup xs) l h G Q = Q (.tup (cutU xs l h)) G := rfl
@[simp] theorem x_slS {l h : Option Int} : slU (.str x) l h G Q = (x.length ≤ 1000000 ∧ Q (.str (cutN x l h)) G) := rfl
theorem x_rngA' : rngA (.int a) G R = ((-(2 ^ 62) ≤ a ∧ a < 2 ^ 62) ∧ R (fun _ => True) (rngs 0 a.toNat) G) := rfl
/-- a number that a range bears -/
def Rg (a : Int) : Prop := -4611686018427387904 ≤ a ∧ a < 4611686018427387904
@[simp] theorem x_rngA : rngA (.int a) G R = (Rg a ∧ R (fun _ => True) (rngs 0 a.toNat) G) := x_rngA'
theorem x_rngB' : rngB (.int a) (.int b) G R = ((-(2 ^ 62) ≤ a ∧ a < 2 ^ 62 ∧ -(2 ^ 62) ≤ b ∧ b < 2 ^ 62) ∧ R (fun _ => True) (rngs a (b - a).toNat) G) := rfl
@[simp] theorem x_rngB : rngB (.int a) (.int b) G R = ((Rg a ∧ Rg b) ∧ R (fun _ => True) (rngs a (b - a).toNat) G) := by
  rw [x_rngB']
  unfold Rg
  simp only [and_assoc]
  rfl
@[simp] theorem x_append : onLst appendL (.ref p) [w] G Q E = (match G p with | some (.lst us) => us.length < 1000000 ∧ Q .non (gup G p (.lst (us ++ [w]))) | _ => False) := rfl
@[simp] theorem x_tyL : tyU "list" (.ref p) G = (match G p with | some (.lst _) => True | _ => False) := by
  apply propext
  constructor
  · rintro (⟨_, us, h⟩ | ⟨h, _⟩)
    · rw [h]
      trivial
    · exact absurd h (by decide)
  · intro h
    split at h
    · rename_i us e
      exact .inl ⟨rfl, us, e⟩
    · exact h.elim
end
/-! ### what is known, changed -/
@[simp] theorem gup_gup {G : Gp} {a : Addr} {o u : Ob} : gup (gup G a o) a u = gup G a u := by
  funext b
  unfold gup
  split <;> rfl
theorem gup_other {G : Gp} {a b : Addr} {o u : Ob} (h : b ≠ a) (g : G b = some u) : gup G a o b = some u := (gup_ne h).trans g
theorem gup_none {G : Gp} {a b : Addr} {o : Ob} (h : gup G a o b = none) : b ≠ a ∧ G b = none := by
  by_cases e : b = a
  · subst e
    rw [gup_same] at h
    cases h
  · exact ⟨e, (gup_ne e).symm.trans h⟩
theorem ne_of_known {G : Gp} {a b : Addr} {u : Ob} (g : G b = some u) (h : G a = none) : b ≠ a := fun e => by
  rw [e, h] at g
  cases g

@[simp] theorem gup_same' {G : Gp} {a : Addr} {o : Ob} : gup G a o a = some o := gup_same
@[simp] theorem gup_ne' {G : Gp} {a b : Addr} {o : Ob} (h : b ≠ a) : gup G a o b = G b := gup_ne h
theorem Sub.drop {G : Gp} {a : Addr} {o : Ob} (h : G a = none) : Sub G (gup G a o) := fun b u g => by
  rw [gup_ne fun e => by rw [e, h] at g; cases g]
  exact g
theorem Sub.gup {G1 G2 : Gp} (x : Sub G1 G2) {a : Addr} {o : Ob} : Sub (UL.gup G1 a o) (UL.gup G2 a o) := fun b u g => by
  by_cases e : b = a
  · subst e
    rw [gup_same] at g ⊢
    exact g
  · rw [gup_ne e] at g ⊢
    exact x b u g
theorem Sub.dropO {G1 G2 : Gp} (x : Sub G1 G2) {a : Addr} {o : Ob} (h : G2 a = none) : Sub G1 (UL.gup G2 a o) := x.trans (Sub.drop h)
/-! ### loops -/
theorem for_ind {tg : UTG} {body : UTS} {chk : Gp → Prop} {D : UEnds} (I : List U → USt → Gp → Prop)
    (h : ∀ x xs us G N, (∀ us' G', I xs us' G' → N us' G') → I (x :: xs) us G → chk G ∧ tg x us G (fun us1 G1 => body { D with nx := N, ct := N, bk := D.nx } us1 G1) (fun x G1 => D.ex x us G1))
    (h0 : ∀ us G, I [] us G → chk G ∧ D.nx us G) : ∀ items us G, I items us G → forU tg body chk items D us G
  | [], us, G, i => h0 us G i
  | x :: xs, us, G, i => h x xs us G (forU tg body chk xs D) (fun us' G' z => for_ind I h h0 xs us' G' z) i
theorem rngs_cons {lo : Int} {n : Nat} : rngs lo (n + 1) = .int lo :: rngs (lo + 1) n := by
  unfold rngs
  rw [List.range_succ_eq_map, List.map_cons, List.map_map]
  congr 1
  · simp
  · apply List.map_congr_left
    intro i _
    simp only [Function.comp]
    congr 1
    omega
theorem rngs_zero {lo : Int} : rngs lo 0 = [] := rfl
theorem for_rng {tg : UTG} {body : UTS} {D : UEnds} {lo : Int} {n : Nat} (I : Nat → USt → Gp → Prop)
    (h : ∀ k us G N, k < n → (∀ us' G', I (k + 1) us' G' → N us' G') → I k us G → tg (.int (lo + k)) us G (fun us1 G1 => body { D with nx := N, ct := N, bk := D.nx } us1 G1) (fun x G1 => D.ex x us G1))
    (h0 : ∀ us G, I n us G → D.nx us G) {us : USt} {G : Gp} (hi : I 0 us G) : forU tg body (fun _ => True) (rngs lo n) D us G := by
  refine for_ind (fun items us G => ∃ k, k ≤ n ∧ items = rngs (lo + k) (n - k) ∧ I k us G) (fun x xs us G N hN ⟨k, hk, e, i⟩ => ?_) (fun us G ⟨k, hk, e, i⟩ => ?_) _ us G ⟨0, Nat.zero_le _, by simp, hi⟩
  · have hlt : k < n := by
      by_cases z : k < n
      · exact z
      · have e0 : n - k = 0 := by omega
        rw [e0, rngs_zero] at e
        cases e
    obtain ⟨m, em⟩ : ∃ m, n - k = m + 1 := ⟨n - k - 1, by omega⟩
    rw [em, rngs_cons] at e
    cases e
    refine ⟨True.intro, h k us G N hlt (fun us' G' i' => hN us' G' ⟨k + 1, hlt, ?_, i'⟩) i⟩
    rw [show n - (k + 1) = m by omega]
    congr 1
    omega
  · have e0 : k = n := by
      by_cases z : k < n
      · obtain ⟨m, em⟩ : ∃ m, n - k = m + 1 := ⟨n - k - 1, by omega⟩
        rw [em, rngs_cons] at e
        cases e
      · omega
    subst e0
    exact ⟨True.intro, h0 us G i⟩
theorem lc_ind {tg : UTG} {tt : UTT} {te : UTE} {chk : Gp → Prop} {us : USt} {Q : List U → Gp → Prop} (I : List U → List U → Gp → Prop)
    (h : ∀ x xs acc G (N : List U → Gp → Prop), (∀ acc' G', I xs acc' G' → N acc' G') → I (x :: xs) acc G → chk G ∧ tg x us G (fun us1 G1 => tt us1 G1 (fun b G2 => bif b then te us1 G2 (fun y G3 => acc.length < 1000000 ∧ N (acc ++ [y]) G3) F0 else N acc G2) F0) F0)
    (h0 : ∀ acc G, I [] acc G → chk G ∧ Q acc G) : ∀ items acc G, I items acc G → lcU tg tt te chk us Q items acc G
  | [], acc, G, i => h0 acc G i
  | x :: xs, acc, G, i => h x xs acc G (lcU tg tt te chk us Q xs) (fun acc' G' z => lc_ind I h h0 xs acc' G' z) i
theorem lc_rng {tg : UTG} {tt : UTT} {te : UTE} {us : USt} {Q : List U → Gp → Prop} {lo : Int} {n : Nat} {G : Gp} (I : Nat → List U → Gp → Prop)
    (h : ∀ k acc G (N : List U → Gp → Prop), k < n → (∀ acc' G', I (k + 1) acc' G' → N acc' G') → I k acc G → tg (.int (lo + k)) us G (fun us1 G1 => tt us1 G1 (fun b G2 => bif b then te us1 G2 (fun y G3 => acc.length < 1000000 ∧ N (acc ++ [y]) G3) F0 else N acc G2) F0) F0)
    (h0 : ∀ acc G, I n acc G → Q acc G) (hi : I 0 [] G) : lcU tg tt te (fun _ => True) us Q (rngs lo n) [] G := by
  refine lc_ind (fun items acc G => ∃ k, k ≤ n ∧ items = rngs (lo + k) (n - k) ∧ I k acc G) (fun x xs acc G N hN ⟨k, hk, e, i⟩ => ?_) (fun acc G ⟨k, hk, e, i⟩ => ?_) _ [] G ⟨0, Nat.zero_le _, by simp, hi⟩
  · have hlt : k < n := by
      by_cases z : k < n
      · exact z
      · have e0 : n - k = 0 := by omega
        rw [e0, rngs_zero] at e
        cases e
    obtain ⟨m, em⟩ : ∃ m, n - k = m + 1 := ⟨n - k - 1, by omega⟩
    rw [em, rngs_cons] at e
    cases e
    refine ⟨True.intro, h k acc G N hlt (fun acc' G' i' => hN acc' G' ⟨k + 1, hlt, ?_, i'⟩) i⟩
    rw [show n - (k + 1) = m by omega]
    congr 1
    omega
  · have e0 : k = n := by
      by_cases z : k < n
      · obtain ⟨m, em⟩ : ∃ m, n - k = m + 1 := ⟨n - k - 1, by omega⟩
        rw [em, rngs_cons] at e
        cases e
      · omega
    subst e0
    exact ⟨True.intro, h0 acc G i⟩
end UL
set_option maxHeartbeats 400000
namespace UL
open PySem PySem.Spec PyProof.Rows L2

/-! ### places -/
theorem ixN_nn {n : Nat} {i : Int} (h0 : 0 ≤ i) (h1 : i < n) : ixN n i = some i.toNat := by
  unfold ixN
  rw [if_pos h0, if_pos h1]
theorem atI_nn {α : Type} {xs : List α} {i : Int} (h0 : 0 ≤ i) (h1 : i < xs.length) : atI xs i = xs[i.toNat]? := by
  unfold atI
  rw [ixN_nn h0 h1]
  rfl
@[simp] theorem atI_0 {α : Type} {x : α} {xs : List α} : atI (x :: xs) 0 = some x := by
  rw [atI_nn (by omega) (by simp)]
  rfl
@[simp] theorem atI_1 {α : Type} {x y : α} {xs : List α} : atI (x :: y :: xs) 1 = some y := by
  rw [atI_nn (by omega) (by simp; omega)]
  rfl
@[simp] theorem atI_2 {α : Type} {x y z : α} {xs : List α} : atI (x :: y :: z :: xs) 2 = some z := by
  rw [atI_nn (by omega) (by simp; omega)]
  rfl
@[simp] theorem atI_3 {α : Type} {x y z w : α} {xs : List α} : atI (x :: y :: z :: w :: xs) 3 = some w := by
  rw [atI_nn (by omega) (by simp; omega)]
  rfl
theorem cmul_l {i j : Int} (h : -(2 ^ 64) < i ∧ i < 2 ^ 64) : CMul i j := .inl h
theorem cmul_r {i j : Int} (h : -(2 ^ 64) < j ∧ j < 2 ^ 64) : CMul i j := .inr h
theorem rg_of {a : Int} (h1 : -1000000000000 ≤ a) (h2 : a ≤ 1000000000000) : Rg a := ⟨by omega, by omega⟩
theorem intU_len (ns : List Int) : (IntU ns).length = ns.length := List.length_map _
theorem intU_at {ns : List Int} {i : Int} (h0 : 0 ≤ i) (h1 : i < ns.length) : ∃ z, z ∈ ns ∧ atI (IntU ns) i = some (.int z) := by
  rw [atI_nn h0 (by rw [intU_len]; exact h1)]
  have hl : i.toNat < ns.length := by omega
  refine ⟨ns[i.toNat], List.getElem_mem hl, ?_⟩
  unfold IntU
  rw [List.getElem?_map, List.getElem?_eq_getElem hl]
  rfl
theorem cutU_ints (ns : List Int) (l h : Option Int) : ∃ ms, cutU (IntU ns) l h = IntU ms := by
  unfold cutU IntU
  exact ⟨(ns.drop (HT.sIx (ns.map U.int).length 0 l)).take (HT.sIx (ns.map U.int).length (ns.map U.int).length h - HT.sIx (ns.map U.int).length 0 l), by rw [List.map_take, List.map_drop]⟩
/-! ### data of whole numbers -/
theorem dats_ints {G : Gp} : ∀ ns : List Int, Dats G (IntU ns) (ns.map PyData.int)
  | [] => .nil
  | n :: ns => .cons (.int n) (dats_ints ns)
theorem canLay_ints : ∀ ns : List Int, PyData.canLayAll0 (ns.map PyData.int) = true
  | [] => by simp [PyData.canLayAll0]
  | n :: ns => by simp [PyData.canLayAll0, PyData.canLay0, canLay_ints ns]
theorem depth_ints : ∀ ns : List Int, PyData.depthAll (ns.map PyData.int) ≤ 0
  | [] => by simp [PyData.depthAll]
  | n :: ns => by simp [PyData.depthAll, PyData.depth]; exact Nat.le_zero.mp (depth_ints ns)
theorem shaped_tup (ns : List Int) : SeqAt.shaped (.tuple (ns.map PyData.int)) = true := by
  have := depth_ints ns
  simp [SeqAt.shaped, PyData.canLay0, canLay_ints, PyData.depth]
  omega
theorem shaped_lst (ns : List Int) : SeqAt.shaped (.list (ns.map PyData.int)) = true := by
  have := depth_ints ns
  simp [SeqAt.shaped, PyData.canLay0, canLay_ints, PyData.depth]
  omega
theorem eqv_ints : ∀ ns ms : List Int, PyData.eqvAll (ns.map PyData.int) (ms.map PyData.int) = decide (ns = ms)
  | [], [] => by simp [PyData.eqvAll]
  | [], _ :: _ => by simp [PyData.eqvAll]
  | _ :: _, [] => by simp [PyData.eqvAll]
  | n :: ns, m :: ms => by
    simp [PyData.eqvAll, PyData.eqv, eqv_ints ns ms]
    rw [Bool.eq_iff_iff]
    simp
theorem small_ints : ∀ ns : List Int, (∀ n ∈ ns, n.natAbs < 1000000) → PyData.showableAll (ns.map PyData.int) = true ∧ PyData.leavesShortAll 13 (ns.map PyData.int) = true ∧ PyData.weightAll (ns.map PyData.int) ≤ 21 * ns.length
  | [], _ => by simp [PyData.showableAll, PyData.leavesShortAll, PyData.weightAll]
  | n :: ns, h => by
    have h1 : n.natAbs < 1000000 := h n (by simp)
    obtain ⟨i1, i2, i3⟩ := small_ints ns fun m hm => h m (by simp [hm])
    have h2 : n.natAbs.log2 < 20 := by
      by_cases z : n.natAbs = 0
      · rw [z]; decide
      · exact (Nat.log2_lt z).mpr (Nat.lt_of_lt_of_le h1 (by decide))
    have h3 : (PyData.shown (.int n)).length ≤ 13 := PyData.shown_int_le2 (by omega) (by omega)
    refine ⟨?_, ?_, ?_⟩
    · simp [PyData.showableAll, PyData.showable, i1]
      omega
    · simp [PyData.leavesShortAll, PyData.leavesShort, i2, h3]
    · simp only [List.map_cons, PyData.weightAll, PyData.weight, List.length_cons]
      split <;> omega
theorem ne_lists {G : Gp} {p q : Addr} {ns ms : List Int} {Q : UK} {E : UX} (h1 : G p = some (.lst (IntU ns))) (h2 : G q = some (.lst (IntU ms))) (h : Q (.bl (!decide (ns = ms))) G) : neU (.ref p) (.ref q) G Q E := by
  refine ⟨_, _, .lst h1 (dats_ints ns), .lst h2 (dats_ints ms), shaped_lst ns, shaped_lst ms, ?_⟩
  simp only [PyData.eqv, eqv_ints]
  exact h
theorem eq_tups {G : Gp} {ns ms : List Int} {Q : UK} {E : UX} (h : Q (.bl (decide (ns = ms))) G) : eqU (.tup (IntU ns)) (.tup (IntU ms)) G Q E := by
  refine ⟨_, _, .tup (dats_ints ns), .tup (dats_ints ms), shaped_tup ns, shaped_tup ms, ?_⟩
  simp only [PyData.eqv, eqv_ints]
  exact h
theorem lim_line' {n : Nat} (h : n ≤ 16000000) : n ≤ sizeLine := by rw [sizeLine_eq]; omega
theorem shows_tup {G : Gp} {ns : List Int} (hl : ns.length ≤ 10000) (h : ∀ n ∈ ns, n.natAbs < 1000000) : Shows G (.tup (IntU ns)) (.tuple (ns.map PyData.int)) := by
  obtain ⟨i1, i2, i3⟩ := small_ints ns h
  have hd := depth_ints ns
  refine ⟨.tup (dats_ints ns), by simpa [PyData.showable] using i1, by simp only [PyData.depth]; omega, ?_⟩
  have := PyData.shown_le 13 (by decide) (.tuple (ns.map PyData.int)) (by simpa [PyData.leavesShort] using i2)
  simp only [PyData.weight] at this
  have h4 : (13 + 2) * PyData.weightAll (ns.map PyData.int) ≤ 15 * 210000 := Nat.mul_le_mul_left 15 (by omega)
  exact Nat.le_trans this (lim_line' (by omega))
theorem repr_ints {G : Gp} {ns : List Int} {Q : UK} (hl : ns.length ≤ 10000) (h : ∀ n ∈ ns, n.natAbs < 1000000) (q : Q (.str (PyData.tuple (ns.map PyData.int)).shown.cps.toList) G) : reprV (.tup (IntU ns)) G Q := ⟨rfl, _, shows_tup hl h, q⟩
theorem intU_append (a b : List Int) : IntU a ++ IntU b = IntU (a ++ b) := (List.map_append).symm
theorem intU_rep (k : Nat) (a : List Int) : (List.replicate k (IntU a)).flatten = IntU (List.replicate k a).flatten := by
  unfold IntU
  induction k with
  | zero => rfl
  | succ k ih => rw [List.replicate_succ, List.flatten_cons, ih, List.replicate_succ, List.flatten_cons, List.map_append]
end UL
set_option maxHeartbeats 1000000
namespace K21
open PySem PySem.Spec PyProof.Rows L2 UL
/-! ### promises -/
def bagO (c a n : Int) (q : Addr) : Ob := .lst [.int c, .int a, .int n, .ref q]
def sp__law_bag : USp := fun us G Q _ => ∃ ns k, us = [.rol (IntU ns), .int k] ∧ 0 ≤ k ∧ ∀ c a n p q ms, G p = none → G q = none → q ≠ p → Q (.ref p) (gup (gup G q (.lst (IntU ms))) p (bagO c a n q))
def sp__law_take : USp := fun us G Q _ => ∃ p m c a n q ms, us = [.ref p, .int m] ∧ (0 < m ∧ m < 1073741824) ∧ G p = some (bagO c a n q) ∧ G q = some (.lst (IntU ms)) ∧ q ≠ p ∧
  ∀ r c' a' n', 0 ≤ r → r < m → Q (.int r) (gup G p (bagO c' a' n' q))
def cutL (m s : Nat) : List Int := List.replicate (m / s) (s : Int) ++ (if m % s = 0 then [] else [((m % s : Nat) : Int)])
def turnL (m c : Nat) : List Int := (List.range m).map fun i => ((i % c : Nat) : Int)
def sp_even_cut : USp := fun us G Q _ => ∃ m s : Nat, us = [.int m, .int s] ∧ m ≤ 1000 ∧ 0 < s ∧ s ≤ 1000 ∧ Q (.tup (IntU (cutL m s))) G
def sp_in_turn : USp := fun us G Q _ => ∃ m c : Nat, us = [.int m, .int c] ∧ m ≤ 1000 ∧ 0 < c ∧ c ≤ 1000 ∧ Q (.tup (IntU (turnL m c))) G
def sp__law_cut : USp := fun us G Q _ => ∃ m s : Nat, us = [.int m, .int s] ∧ m ≤ 1000 ∧ 0 < s ∧ s ≤ 1000 ∧ Q (.tup (IntU (cutL m s))) G
def sp__law_dealt : USp := fun us G Q _ => ∃ m c : Nat, us = [.int m, .int c] ∧ m ≤ 1000 ∧ 0 < c ∧ c ≤ 1000 ∧ Q (.tup (IntU (turnL m c))) G
def sp_law : USp := fun us G Q _ => ∃ ns : List Int, us = [.rol (IntU ns)] ∧ ns.length ≤ 63 ∧ ∀ G', Q (.bl true) G'
def t__law_bag : UTS := (tUSeq (tUAsg (tECut (tUIf (tUTest (tUOp ltU (tUVar 1) (tUCall (u1 lenV) (tUCons (tUVar 0) tUNil)))) (tUCall (u1 absV) (tUCons (tUOp ixU0 (tUVar 0) (tUVar 1)) tUNil)) (tUC (.int 0)))) (gUName 2))
    (tUSeq (tURet (tULst (tUCons (tECut (tUIf (tUTest (tUOp geU (tUVar 2) (tUOp powU (tUC (.int 10)) (tUC (.int 18))))) (tUVar 2) (tUC (.int 0)))) (tUCons (tUOp addU (tUC (.int 3109)) (tUOp mulU (tUC (.int 151)) (tUVar 1))) (tUCons (tUVar 1) (tUCons (tUCall (u1 listV) (tUCons (tUSl (tUVar 0) tUNoPart (tUPart (tUC (.int 63)))) tUNil)) tUNil))))))
    tUNext))
def t__law_cut : UTS := (tUSeq (tUPar [3, 4] (tUCons (tULst tUNil) (tUCons (tUVar 0) tUNil)))
    (tUSeq (tUFor (tIRng1 (tUVar 0)) (gUName 2) (tUSeq (tUIfS (tUTest (tUOp gtU (tUVar 4) (tUC (.int 0)))) (tUSeq (tUDrop (tUBM "list" (onLst appendL) (tUVar 3) (tUCons (tUCall (u2 minV) (tUCons (tUVar 4) (tUCons (tUVar 1) tUNil))) tUNil)))
    (tUSeq (tUAsg (tUOp subU (tUVar 4) (tUCall (u2 minV) (tUCons (tUVar 4) (tUCons (tUVar 1) tUNil)))) (gUName 4))
    tUNext)) tUNext)
    tUNext))
    (tUSeq (tURet (tUCall (u1 tupleV) (tUCons (tUVar 3) tUNil)))
    tUNext)))
def t__law_dealt : UTS := (tUSeq (tUPar [3, 4] (tUCons (tULst tUNil) (tUCons (tUUn negU (tUC (.int 1))) tUNil)))
    (tUSeq (tUFor (tIRng1 (tUVar 0)) (gUName 2) (tUSeq (tUAsg (tECut (tUIf (tUTest (tUOp eqU (tUOp addU (tUVar 4) (tUC (.int 1))) (tUVar 1))) (tUC (.int 0)) (tUOp addU (tUVar 4) (tUC (.int 1))))) (gUName 4))
    (tUSeq (tUDrop (tUBM "list" (onLst appendL) (tUVar 3) (tUCons (tUVar 4) tUNil)))
    tUNext)))
    (tUSeq (tURet (tUCall (u1 tupleV) (tUCons (tUVar 3) tUNil)))
    tUNext)))
def t__law_take : UTS := (tUSeq (tUIfS (tUTest (tUOp gtU (tUOp ixU0 (tUVar 0) (tUC (.int 0))) (tUC (.int 0)))) (tUSeq (tUAsg (tUOp modU (tUCall (u1 intV) (tUCons (tUOp ixU0 (tUVar 0) (tUC (.int 0))) tUNil)) (tUVar 1)) (gUName 4))
    (tUSeq (tUAsg (tUOp fdivU (tUOp ixU0 (tUVar 0) (tUC (.int 0))) (tUVar 1)) (gUSub (tUVar 0) (tUC (.int 0)) setU0))
    (tUSeq (tURet (tUVar 4))
    tUNext))) tUNext)
    (tUSeq (tUAsg (tUOp addU (tUOp ixU0 (tUVar 0) (tUC (.int 2))) (tUC (.int 1))) (gUSub (tUVar 0) (tUC (.int 2)) setU0))
    (tUSeq (tUAsg (tECut (tUIf (tUTest (tUOp neU (tUOp ixU0 (tUVar 0) (tUC (.int 3))) (tULst tUNil))) (tUOp ixU0 (tUOp ixU0 (tUVar 0) (tUC (.int 3))) (tUOp modU (tUOp ixU0 (tUVar 0) (tUC (.int 2))) (tUCall (u1 lenV) (tUCons (tUOp ixU0 (tUVar 0) (tUC (.int 3))) tUNil)))) (tUC (.int 0)))) (gUName 2))
    (tUSeq (tUAsg (tUOp modU (tUCall (u1 intV) (tUCons (tUVar 2) tUNil)) (tUC (.int 2147482921))) (gUName 3))
    (tUSeq (tUAsg (tUOp modU (tUCall (u1 intV) (tUCons (tUOp addU (tUOp addU (tUOp addU (tUOp mulU (tUOp ixU0 (tUVar 0) (tUC (.int 1))) (tUC (.int 40751))) (tUVar 3)) (tUOp mulU (tUC (.int 131)) (tUOp ixU0 (tUVar 0) (tUC (.int 2))))) (tUC (.int 97))) tUNil)) (tUC (.int 2147482921))) (gUSub (tUVar 0) (tUC (.int 1)) setU0))
    (tUSeq (tURet (tUOp modU (tUOp fdivU (tUOp modU (tUCall (u1 intV) (tUCons (tUOp mulU (tUOp fdivU (tUOp ixU0 (tUVar 0) (tUC (.int 1))) (tUC (.int 5))) (tUC (.int 48869))) tUNil)) (tUC (.int 2147483323))) (tUC (.int 32))) (tUVar 1)))
    tUNext))))))
def t_even_cut : UTS := (tUSeq (tUAsg (tUOp subU (tUVar 0) (tUOp mulU (tUVar 1) (tUOp fdivU (tUVar 0) (tUVar 1)))) (gUName 2))
    (tUSeq (tURet (tUOp addU (tUOp mulU (tUTup (tUCons (tUVar 1) tUNil)) (tUOp fdivU (tUVar 0) (tUVar 1))) (tUOp mulU (tUTup (tUCons (tUVar 2) tUNil)) (tUCall (u1 intV) (tUCons (tUOp gtU (tUVar 2) (tUC (.int 0))) tUNil)))))
    tUNext))
def t_in_turn : UTS := (tUSeq (tURet (tUCall (u1 tupleV) (tUCons (tULc (tIRng1 (tUVar 0)) (gUName 2) (fun _ G Q _ => Q true G) (tUOp modU (tUCall (u1 intV) (tUCons (tUVar 2) tUNil)) (tUVar 1)) ([("chunk", 2)] : List (Str × Nat)).unzip.2) tUNil)))
    tUNext)
def t_law : UTS := (tUSeq (tUFor (tIRng1 (tUCall (u2 maxV) (tUCons (tUC (.int 1)) (tUCons (tUCall (u2 minV) (tUCons (tUC (.int 40)) (tUCons (tUCall (u1 lenV) (tUCons (tUVar 0) tUNil)) tUNil))) tUNil)))) (gUName 1) (tUSeq (tUAsg (tUDef sp__law_bag 2 0 [.p 0, .p 1] [] [] (tUCons (tUVar 0) (tUCons (tUVar 1) tUNil)) tUNil) (gUName 2))
    (tUSeq (tUPar [3, 4, 5] (tUCons (tUDef sp__law_take 2 0 [.p 0, .p 1] [] [] (tUCons (tUVar 2) (tUCons (tUC (.int 121)) tUNil)) tUNil) (tUCons (tUOp addU (tUC (.int 1)) (tUDef sp__law_take 2 0 [.p 0, .p 1] [] [] (tUCons (tUVar 2) (tUCons (tUC (.int 9)) tUNil)) tUNil)) (tUCons (tUOp addU (tUC (.int 1)) (tUDef sp__law_take 2 0 [.p 0, .p 1] [] [] (tUCons (tUVar 2) (tUCons (tUC (.int 9)) tUNil)) tUNil)) tUNil))))
    (tUSeq (tUCut (tUIfS (tUTest (tUOp eqU (tUDef sp__law_take 2 0 [.p 0, .p 1] [] [] (tUCons (tUVar 2) (tUCons (tUC (.int 3)) tUNil)) tUNil) (tUC (.int 0)))) (tUSeq (tUAsg (tUDef sp__law_take 2 0 [.p 0, .p 1] [] [] (tUCons (tUVar 2) (tUCons (tUC (.int 14)) tUNil)) tUNil) (gUName 3))
    tUNext) tUNext))
    (tUSeq (tUIfS (tUTest (tUOp neU (tUCall (u1 reprV) (tUCons (tUDef sp_even_cut 2 0 [.p 0, .p 1] [] [] (tUCons (tUVar 3) (tUCons (tUVar 4) tUNil)) tUNil) tUNil)) (tUCall (u1 reprV) (tUCons (tUDef sp__law_cut 2 0 [.p 0, .p 1] [] [] (tUCons (tUVar 3) (tUCons (tUVar 4) tUNil)) tUNil) tUNil)))) (tUSeq (tURet (tUC (.bl false)))
    tUNext) tUNext)
    (tUSeq (tUIfS (tUTest (tUOp neU (tUCall (u1 reprV) (tUCons (tUDef sp_in_turn 0 2 [.k 0, .k 1] [] [] tUNil (tUCons (tUVar 3) (tUCons (tUVar 5) tUNil))) tUNil)) (tUCall (u1 reprV) (tUCons (tUDef sp__law_dealt 2 0 [.p 0, .p 1] [] [] (tUCons (tUVar 3) (tUCons (tUVar 5) tUNil)) tUNil) tUNil)))) (tUSeq (tURet (tUC (.bl false)))
    tUNext) tUNext)
    tUNext))))))
    (tUSeq (tURet (tUAnd (tUOp eqU (tUDef sp_even_cut 2 0 [.p 0, .p 1] [] [] (tUCons (tUC (.int 0)) (tUCons (tUC (.int 1)) tUNil)) tUNil) (tUTup tUNil)) (tUAnd (tUOp eqU (tUDef sp_in_turn 2 0 [.p 0, .p 1] [] [] (tUCons (tUC (.int 0)) (tUCons (tUC (.int 1)) tUNil)) tUNil) (tUTup tUNil)) (tUOp eqU (tUDef sp_even_cut 0 2 [.k 0, .k 1] [] [] tUNil (tUCons (tUC (.int 3)) (tUCons (tUC (.int 2)) tUNil))) (tUTup (tUCons (tUC (.int 2)) (tUCons (tUC (.int 1)) tUNil)))))))
    tUNext))
theorem law__law_bag (us : List U) (G : Gp) (Q : UK) (E : UX) (h : sp__law_bag us G Q E) : t__law_bag (endsU Q E) (ustart 3 us) G := by
  obtain ⟨ns, k, rfl, hk, q⟩ := h
  have c151 : CMul 151 k := cmul_l (by decide)
  have cp : CPow 10 18 := ⟨by decide, by decide, by decide⟩
  obtain ⟨ms, hms⟩ := cutU_ints ns none (some 63)
  simp [t__law_bag, ustart, endsU, c151, cp, hms]
  refine ecut (fun u G' => G' = G ∧ ∃ z, u = .int z) ?_ ?_
  · simp
    split
    · rename_i hlt
      rw [intU_len] at hlt
      obtain ⟨z, _, hz⟩ := intU_at hk hlt
      refine ⟨_, hz, ?_⟩
      simp
      exact .now ⟨rfl, _, rfl⟩
    · exact .now ⟨rfl, _, rfl⟩
  · rintro u G' ⟨rfl, z, rfl⟩
    refine ecut (fun u G2 => G2 = G' ∧ ∃ z, u = .int z) ?_ ?_
    · simp [cp]
      split <;> exact .now ⟨rfl, _, rfl⟩
    · rintro u G2 ⟨rfl, c, rfl⟩
      intro p hp r hr z hz
      obtain ⟨r1, r2⟩ := gup_none hr
      obtain ⟨z1, z2⟩ := gup_none hz
      obtain ⟨z3, z4⟩ := gup_none z2
      exact ⟨_, (Sub.drop hp).gup.gup, q c (3109 + 151 * k) k z r ms z4 r2 (Ne.symm z1)⟩
theorem law__law_take (us : List U) (G : Gp) (Q : UK) (E : UX) (h : sp__law_take us G Q E) : t__law_take (endsU Q E) (ustart 5 us) G := by
  obtain ⟨p, m, c, a, n, q, ms, rfl, ⟨m0, m1⟩, hp, hq, hne, q'⟩ := h
  have em : ∀ i : Int, 0 ≤ i % m := fun i => Int.emod_nonneg i (by omega)
  have lm : ∀ i : Int, i % m < m := fun i => Int.emod_lt_of_pos i m0
  simp [t__law_take, ustart, endsU, hp, bagO, hq, hne, ixN]
  split
  · exact ⟨m0, ⟨m0, m1⟩, .now (q' _ _ _ _ (em _) (lm _))⟩
  · refine ecut (fun u G' => G' = gup G p (bagO c a (n + 1) q) ∧ ∃ z, u = .int z) ?_ ?_
    · simp [bagO]
      intro r hr
      obtain ⟨r1, r2⟩ := gup_none hr
      have hqr : q ≠ r := ne_of_known hq r2
      refine ne_lists (ns := ms) (ms := []) (by simp [hne, hqr, hq]) (by simp [IntU]) ?_
      have hpr : p ≠ r := Ne.symm r1
      simp [hne, hqr, hq, hpr]
      by_cases e : ms = []
      · simp [e]
        exact ⟨_, Sub.drop hr, rfl, _, rfl⟩
      · have hl : (0 : Int) < (IntU ms).length := by
          rw [intU_len]
          have := List.length_pos_iff.mpr e
          omega
        obtain ⟨z, _, hz⟩ := intU_at (ns := ms) (i := (n + 1) % ((IntU ms).length : Int)) (Int.emod_nonneg _ (by omega)) (by rw [← intU_len]; exact Int.emod_lt_of_pos _ hl)
        simp [e, hz]
        exact ⟨by omega, _, Sub.drop hr, rfl, _, rfl⟩
    · rintro u G' ⟨rfl, z, rfl⟩
      simp [bagO, ixN]
      exact ⟨cmul_r (by decide), cmul_l (by decide), cmul_r (by decide), m0, .now (q' _ _ _ _ (em _) (lm _))⟩
theorem cutL_eq (m s : Nat) (h0 : 0 < s) : IntU (cutL m s) = List.replicate ((m : Int) / s).toNat (.int s) ++ List.replicate (if (s : Int) * ((m : Int) / s) < m then (1 : Int) else 0).toNat (.int (m - s * ((m : Int) / s))) := by
  have e1 : ((m : Int) / s).toNat = m / s := by rw [← Int.natCast_ediv]; rfl
  have e2 : (m : Int) - s * ((m : Int) / s) = ((m % s : Nat) : Int) := by
    rw [Int.natCast_emod, Int.emod_def]
  have e3 : ((s : Int) * ((m : Int) / s) < m) ↔ m % s ≠ 0 := by omega
  rw [e1, e2]
  unfold cutL IntU
  rw [List.map_append, List.map_replicate]
  congr 1
  by_cases z : m % s = 0
  · rw [if_pos z, if_neg (fun q => e3.mp q z)]
    rfl
  · rw [if_neg z, if_pos (e3.mpr z)]
    rfl
theorem law_even_cut (us : List U) (G : Gp) (Q : UK) (E : UX) (h : sp_even_cut us G Q E) : t_even_cut (endsU Q E) (ustart 3 us) G := by
  obtain ⟨m, s, rfl, hm, h0, hs, q⟩ := h
  have hd : (m : Int) / s ≤ m := Int.ediv_le_self _ (by omega)
  have hd0 : 0 ≤ (m : Int) / s := Int.ediv_nonneg (by omega) (by omega)
  have hsi : (if (s : Int) * ((m : Int) / s) < m then (1 : Int) else 0) = 0 ∨ (if (s : Int) * ((m : Int) / s) < m then (1 : Int) else 0) = 1 := by
    split
    · exact .inr rfl
    · exact .inl rfl
  simp [t_even_cut, ustart, endsU]
  rw [← cutL_eq m s h0]
  exact ⟨⟨h0, by omega⟩, cmul_l (by omega), ⟨h0, by omega⟩, hd0, by omega, by omega, by omega, by omega, .now q⟩
theorem law_in_turn (us : List U) (G : Gp) (Q : UK) (E : UX) (h : sp_in_turn us G Q E) : t_in_turn (endsU Q E) (ustart 3 us) G := by
  obtain ⟨m, c, rfl, hm, h0, hc, q⟩ := h
  simp [t_in_turn, ustart, endsU]
  refine ⟨rg_of (by omega) (by omega), ?_⟩
  refine lc_rng (fun k acc G' => acc = (List.range k).map (fun i => U.int ((i % c : Nat) : Int)) ∧ G' = G) (fun k acc G' N hk hN ⟨e1, e2⟩ => ?_) (fun acc G' ⟨e1, e2⟩ => ?_) ⟨rfl, rfl⟩
  · subst e1 e2
    simp [uwipe]
    exact ⟨h0, by omega, hN _ _ ⟨by rw [List.range_succ, List.map_append]; simp, rfl⟩⟩
  · subst e1 e2
    intro p hp
    simp
    refine ⟨_, Sub.drop hp, ?_⟩
    have e : IntU (turnL m c) = List.map (fun i => U.int (((i % c : Nat) : Int))) (List.range m) := by
      unfold IntU turnL
      rw [List.map_map]
      rfl
    rw [e] at q
    simpa using q
theorem cutL_0 (s : Nat) : cutL 0 s = [] := by simp [cutL]
theorem cutL_step {l s : Nat} (h0 : 0 < s) (hl : 0 < l) : cutL l s = ((min l s : Nat) : Int) :: cutL (l - min l s) s := by
  by_cases h : l < s
  · rw [Nat.min_eq_left (by omega), Nat.sub_self, cutL_0]
    simp only [cutL, Nat.div_eq_of_lt h, Nat.mod_eq_of_lt h]
    rw [if_neg (by omega)]
    rfl
  · rw [Nat.min_eq_right (by omega)]
    have e1 : l / s = (l - s) / s + 1 := Nat.div_eq_sub_div h0 (by omega)
    have e2 : l % s = (l - s) % s := Nat.mod_eq_sub_mod (by omega)
    simp only [cutL, e1, e2, List.replicate_succ, List.cons_append]
theorem law__law_cut (us : List U) (G : Gp) (Q : UK) (E : UX) (h : sp__law_cut us G Q E) : t__law_cut (endsU Q E) (ustart 5 us) G := by
  obtain ⟨m, s, rfl, hm, h0, hs, q⟩ := h
  simp [t__law_cut, ustart, endsU, setAll]
  intro p hp
  refine ⟨rg_of (by omega) (by omega), ?_⟩
  refine for_rng (fun k us' G' => ∃ (a : Option U) (fs : List Int) (l : Nat), us' = [some (.int m), some (.int s), a, some (.ref p), some (.int l)] ∧ G' = gup G p (.lst (IntU fs)) ∧ (l = 0 ∨ l + k ≤ m) ∧ fs.length ≤ k ∧ fs ++ cutL l s = cutL m s)
    (fun k us' G' N hk hN ⟨a, fs, l, e1, e2, h1, h2, h3⟩ => ?_) (fun us' G' ⟨a, fs, l, e1, e2, h1, h2, h3⟩ => ?_) ⟨none, [], m, rfl, rfl, .inr (by omega), by simp, rfl⟩
  · subst e1 e2
    simp
    split
    · rename_i hl
      have hl' : 0 < l := by omega
      have em : (if s < l then (s : Int) else l) = ((min l s : Nat) : Int) := by
        split <;> omega
      have es : (l : Int) - ((min l s : Nat) : Int) = ((l - min l s : Nat) : Int) := by omega
      rw [em, es]
      refine ⟨by rw [intU_len]; omega, hN _ _ ⟨_, fs ++ [((min l s : Nat) : Int)], l - min l s, rfl, ?_, ?_, ?_, ?_⟩⟩
      · rw [← intU_append]
        rfl
      · omega
      · simp; omega
      · rw [List.append_assoc, List.singleton_append, ← cutL_step h0 hl', h3]
    · rename_i hl
      have hl' : l = 0 := by omega
      subst hl'
      exact hN _ _ ⟨_, fs, 0, rfl, rfl, .inl rfl, by omega, h3⟩
  · subst e1 e2
    have hl : l = 0 := by omega
    subst hl
    rw [cutL_0, List.append_nil] at h3
    simp [h3]
    exact ⟨_, Sub.drop hp, q⟩
theorem succ_mod {k c : Nat} (h : 0 < c) : (k + 1) % c = if k % c + 1 = c then 0 else k % c + 1 := by
  have hl := Nat.mod_lt k h
  rw [← Nat.mod_add_mod]
  split
  · rename_i e
    rw [e, Nat.mod_self]
  · exact Nat.mod_eq_of_lt (by omega)
theorem turnL_succ (k c : Nat) : turnL (k + 1) c = turnL k c ++ [((k % c : Nat) : Int)] := by
  unfold turnL
  rw [List.range_succ, List.map_append]
  rfl
theorem law__law_dealt (us : List U) (G : Gp) (Q : UK) (E : UX) (h : sp__law_dealt us G Q E) : t__law_dealt (endsU Q E) (ustart 5 us) G := by
  obtain ⟨m, c, rfl, hm, h0, hc, q⟩ := h
  simp [t__law_dealt, ustart, endsU, setAll]
  intro p hp
  refine ⟨rg_of (by omega) (by omega), ?_⟩
  refine for_rng (fun k us' G' => ∃ (a : Option U) (l : Int), us' = [some (.int m), some (.int c), a, some (.ref p), some (.int l)] ∧ G' = gup G p (.lst (IntU (turnL k c))) ∧ (l + 1 = ((k % c : Nat) : Int) ∨ (l + 1 = c ∧ k % c = 0)))
    (fun k us' G' N hk hN ⟨a, l, e1, e2, h1⟩ => ?_) (fun us' G' ⟨a, l, e1, e2, h1⟩ => ?_) ⟨none, -1, rfl, by simp [turnL, IntU], .inl (by simp)⟩
  · subst e1 e2
    have hl := Nat.mod_lt k h0
    have hs := succ_mod (k := k) h0
    have el : (if l + 1 = (c : Int) then (0 : Int) else l + 1) = ((k % c : Nat) : Int) := by
      split <;> omega
    have tl : (turnL k c).length = k := by simp [turnL]
    simp
    refine ecut (fun u G2 => G2 = gup G p (.lst (IntU (turnL k c))) ∧ u = .int ((k % c : Nat) : Int)) ?_ ?_
    · simp
      split
      · rename_i e
        rw [if_pos e] at el
        exact .now ⟨rfl, by rw [el, Int.natCast_emod]⟩
      · rename_i e
        rw [if_neg e] at el
        exact .now ⟨rfl, by rw [el, Int.natCast_emod]⟩
    · rintro u G2 ⟨rfl, rfl⟩
      simp
      refine ⟨by rw [intU_len, tl]; omega, hN _ _ ⟨some (.int k), ((k % c : Nat) : Int), ?_, ?_, ?_⟩⟩
      · simp
      · rw [turnL_succ, ← intU_append]
        simp [IntU]
      · rw [hs]
        split
        · rename_i e
          exact .inr ⟨by omega, rfl⟩
        · exact .inl (by omega)
  · subst e1 e2
    simp
    exact ⟨_, Sub.drop hp, q⟩
theorem small_cut {m s : Nat} (hm : m ≤ 1000) (hs : s ≤ 1000) : (cutL m s).length ≤ 10000 ∧ ∀ n ∈ cutL m s, n.natAbs < 1000000 := by
  have h1 : m / s ≤ m := Nat.div_le_self m s
  have h2 : m % s ≤ m := Nat.mod_le m s
  unfold cutL
  constructor
  · split <;> simp <;> omega
  · intro n hn
    rcases List.mem_append.mp hn with h | h
    · rw [List.eq_of_mem_replicate h]
      omega
    · split at h
      · cases h
      · rw [List.mem_singleton.mp h]
        omega
theorem small_turn {m c : Nat} (hm : m ≤ 1000) : (turnL m c).length ≤ 10000 ∧ ∀ n ∈ turnL m c, n.natAbs < 1000000 := by
  unfold turnL
  constructor
  · simp; omega
  · intro n hn
    obtain ⟨i, hi, rfl⟩ := List.mem_map.mp hn
    have h1 := List.mem_range.mp hi
    have h2 : i % c ≤ i := Nat.mod_le i c
    omega
theorem take_use {p q : Addr} {m c a n : Int} {ms : List Int} {G : Gp} {Q : UK} {E : UX} (h0 : 0 < m) (h1 : m < 1073741824) (hp : G p = some (bagO c a n q)) (hq : G q = some (.lst (IntU ms))) (hne : q ≠ p)
    (h : ∀ r c' a' n', 0 ≤ r → r < m → Q (.int r) (gup G p (bagO c' a' n' q))) : sp__law_take [.ref p, .int m] G Q E := ⟨p, m, c, a, n, q, ms, rfl, ⟨h0, h1⟩, hp, hq, hne, h⟩
theorem law_law (us : List U) (G : Gp) (Q : UK) (E : UX) (h : sp_law us G Q E) : t_law (endsU Q E) (ustart 6 us) G := by
  obtain ⟨ns, rfl, hn, q⟩ := h
  have hlen : (IntU ns).length = ns.length := intU_len ns
  simp [t_law, ustart, endsU]
  refine ⟨rg_of (by repeat' split <;> omega) (by repeat' split <;> omega), ?_⟩
  refine for_rng (fun k us' G' => ∃ a b c d e, us' = [some (.rol (IntU ns)), a, b, c, d, e]) ?_ ?_ ⟨_, _, _, _, _, rfl⟩
  · rintro k us' G' N hk hN ⟨a, b, c, d, e, rfl⟩
    simp [Src.get, setAll]
    refine ⟨ns, k, rfl, by omega, fun c a n p q' ms hp hq hne => ?_⟩
    have hb : ∀ o, gup (gup G' q' (.lst (IntU ms))) p o q' = some (.lst (IntU ms)) := fun o => (gup_ne hne).trans gup_same
    refine take_use (by decide) (by decide) gup_same (hb _) hne fun r1 c1 a1 n1 l1 u1 => ?_
    simp only [gup_gup]
    refine take_use (by decide) (by decide) gup_same (hb _) hne fun r2 c2 a2 n2 l2 u2 => ?_
    simp only [gup_gup, x_addI]
    refine take_use (by decide) (by decide) gup_same (hb _) hne fun r3 c3 a3 n3 l3 u3 => ?_
    simp only [gup_gup, x_addI]
    obtain ⟨m, rfl⟩ := Int.eq_ofNat_of_zero_le l1
    obtain ⟨s, rfl⟩ := Int.eq_ofNat_of_zero_le l2
    obtain ⟨w, rfl⟩ := Int.eq_ofNat_of_zero_le l3
    try simp
    refine cut (fun us2 G2 => ∃ m : Nat, m ≤ 1000 ∧ us2 = [some (.rol (IntU ns)), some (.int k), some (.ref p), some (.int m), some (.int (1 + s)), some (.int (1 + w))]) ?_ ?_
    · simp [Src.get]
      refine take_use (by decide) (by decide) gup_same (hb _) hne fun r4 c4 a4 n4 l4 u4 => ?_
      simp
      split
      · refine take_use (by decide) (by decide) gup_same (hb _) hne fun r5 c5 a5 n5 l5 u5 => ?_
        obtain ⟨m', rfl⟩ := Int.eq_ofNat_of_zero_le l5
        exact .now ⟨m', by omega, rfl⟩
      · exact .now ⟨m, by omega, rfl⟩
    · rintro us2 G2 ⟨m, hm, rfl⟩
      simp [Src.get]
      have e1 : (1 : Int) + s = ((s + 1 : Nat) : Int) := by omega
      have e2 : (1 : Int) + w = ((w + 1 : Nat) : Int) := by omega
      rw [e1, e2]
      obtain ⟨z1, z2⟩ := small_cut (m := m) (s := s + 1) (by omega) (by omega)
      obtain ⟨z3, z4⟩ := small_turn (m := m) (c := w + 1) (by omega)
      refine ⟨m, s + 1, rfl, by omega, by omega, by omega, ?_⟩
      refine repr_ints z1 z2 ?_
      refine ⟨m, s + 1, rfl, by omega, by omega, by omega, ?_⟩
      refine repr_ints z1 z2 ?_
      simp
      refine ⟨m, w + 1, rfl, by omega, by omega, by omega, ?_⟩
      refine repr_ints z3 z4 ?_
      refine ⟨m, w + 1, rfl, by omega, by omega, by omega, ?_⟩
      refine repr_ints z3 z4 ?_
      simp
      exact hN _ _ ⟨_, _, _, _, _, rfl⟩
  · rintro us' G' ⟨a, b, c, d, e, rfl⟩
    simp [Src.get]
    refine ⟨0, 1, rfl, by omega, by omega, by omega, ?_⟩
    refine eq_tups (ms := []) ?_
    simp [cutL_0]
    refine ⟨0, 1, rfl, by omega, by omega, by omega, ?_⟩
    refine eq_tups (ms := []) ?_
    simp [turnL]
    refine ⟨3, 2, rfl, by omega, by omega, by omega, ?_⟩
    refine eq_tups (ms := [2, 1]) ?_
    simp [cutL]
    exact .now (q _)
def top (i : Nat) : Stmt := PySem.Challenge.pw_workerworlds_k21_even_cuts_and_turns.main.body.getD i (.Pass ⟨0, 0, 0, 0⟩)
def d_even_cut : He.DefD := ⟨("even_cut", none), "even_cut", "even_cut", defArgs (top 1), defBody (top 1), defScope (top 1), [], []⟩
def d_in_turn : He.DefD := ⟨("in_turn", none), "in_turn", "in_turn", defArgs (top 2), defBody (top 2), defScope (top 2), [], []⟩
def d__law_bag : He.DefD := ⟨("_law_bag", none), "_law_bag", "_law_bag", defArgs (top 4), defBody (top 4), defScope (top 4), [], []⟩
def d__law_take : He.DefD := ⟨("_law_take", none), "_law_take", "_law_take", defArgs (top 5), defBody (top 5), defScope (top 5), [], []⟩
def d__law_cut : He.DefD := ⟨("_law_cut", none), "_law_cut", "_law_cut", defArgs (top 6), defBody (top 6), defScope (top 6), [], []⟩
def d__law_dealt : He.DefD := ⟨("_law_dealt", none), "_law_dealt", "_law_dealt", defArgs (top 7), defBody (top 7), defScope (top 7), [], []⟩
def d_law : He.DefD := ⟨("law", none), "law", "law", defArgs (top 8), defBody (top 8), defScope (top 8), [], []⟩
def fn : List He.DefD := [d_even_cut, d_in_turn, d__law_bag, d__law_take, d__law_cut, d__law_dealt, d_law]
def fa : List He.Fa := [.glo "even_cut", .glo "in_turn", .glo "_law_bag", .glo "_law_take", .glo "_law_cut", .glo "_law_dealt", .glo "law", .free "len", .free "min", .free "max", .free "range", .free "repr", .free "list", .free "abs", .free "tuple", .free "int"]
structure Base (K : PySem.W.Frag) (mg : Str → Option Value) (base : Heap) : Prop where
  says : He.SaysD fa fn K
  inK : K.In base
  ns : base.Ns mainGlobals mg
section
variable {P : Program} {w : World} {K : PySem.W.Frag} {mg : Str → Option Value} {base : Heap}
theorem g_even_cut (b : Base K mg base) : mg "even_cut" = some (.ref (He.fAd K d_even_cut.at_)) := He.glo_ok b.inK b.ns (b.says.fact 0 (f := .glo "even_cut") rfl)
theorem g_in_turn (b : Base K mg base) : mg "in_turn" = some (.ref (He.fAd K d_in_turn.at_)) := He.glo_ok b.inK b.ns (b.says.fact 1 (f := .glo "in_turn") rfl)
theorem g__law_bag (b : Base K mg base) : mg "_law_bag" = some (.ref (He.fAd K d__law_bag.at_)) := He.glo_ok b.inK b.ns (b.says.fact 2 (f := .glo "_law_bag") rfl)
theorem g__law_take (b : Base K mg base) : mg "_law_take" = some (.ref (He.fAd K d__law_take.at_)) := He.glo_ok b.inK b.ns (b.says.fact 3 (f := .glo "_law_take") rfl)
theorem g__law_cut (b : Base K mg base) : mg "_law_cut" = some (.ref (He.fAd K d__law_cut.at_)) := He.glo_ok b.inK b.ns (b.says.fact 4 (f := .glo "_law_cut") rfl)
theorem g__law_dealt (b : Base K mg base) : mg "_law_dealt" = some (.ref (He.fAd K d__law_dealt.at_)) := He.glo_ok b.inK b.ns (b.says.fact 5 (f := .glo "_law_dealt") rfl)
theorem g_law (b : Base K mg base) : mg "law" = some (.ref (He.fAd K d_law.at_)) := He.glo_ok b.inK b.ns (b.says.fact 6 (f := .glo "law") rfl)
theorem n_len (b : Base K mg base) : mg "len" = none := He.free_ok b.inK b.ns (b.says.fact 7 (f := .free "len") rfl)
theorem n_min (b : Base K mg base) : mg "min" = none := He.free_ok b.inK b.ns (b.says.fact 8 (f := .free "min") rfl)
theorem n_max (b : Base K mg base) : mg "max" = none := He.free_ok b.inK b.ns (b.says.fact 9 (f := .free "max") rfl)
theorem n_range (b : Base K mg base) : mg "range" = none := He.free_ok b.inK b.ns (b.says.fact 10 (f := .free "range") rfl)
theorem n_repr (b : Base K mg base) : mg "repr" = none := He.free_ok b.inK b.ns (b.says.fact 11 (f := .free "repr") rfl)
theorem n_list (b : Base K mg base) : mg "list" = none := He.free_ok b.inK b.ns (b.says.fact 12 (f := .free "list") rfl)
theorem n_abs (b : Base K mg base) : mg "abs" = none := He.free_ok b.inK b.ns (b.says.fact 13 (f := .free "abs") rfl)
theorem n_tuple (b : Base K mg base) : mg "tuple" = none := He.free_ok b.inK b.ns (b.says.fact 14 (f := .free "tuple") rfl)
theorem n_int (b : Base K mg base) : mg "int" = none := He.free_ok b.inK b.ns (b.says.fact 15 (f := .free "int") rfl)
theorem fd_even_cut (b : Base K mg base) : FunK K d_even_cut := funK (b.says.def_ 0 (d := d_even_cut) rfl)
theorem fd_in_turn (b : Base K mg base) : FunK K d_in_turn := funK (b.says.def_ 1 (d := d_in_turn) rfl)
theorem fd__law_bag (b : Base K mg base) : FunK K d__law_bag := funK (b.says.def_ 2 (d := d__law_bag) rfl)
theorem fd__law_take (b : Base K mg base) : FunK K d__law_take := funK (b.says.def_ 3 (d := d__law_take) rfl)
theorem fd__law_cut (b : Base K mg base) : FunK K d__law_cut := funK (b.says.def_ 4 (d := d__law_cut) rfl)
theorem fd__law_dealt (b : Base K mg base) : FunK K d__law_dealt := funK (b.says.def_ 5 (d := d__law_dealt) rfl)
theorem fd_law (b : Base K mg base) : FunK K d_law := funK (b.says.def_ 6 (d := d_law) rfl)
end
namespace F__law_bag
def N : List Str := ["_law_script", "_law_at", "_law_cell"]
theorem sc : FnScope N (parN d__law_bag.params ++ parK d__law_bag.params) d__law_bag.scope := ⟨rfl, rfl, rfl, by decide +kernel, rfl, by decide +kernel, by decide +kernel⟩
section
variable {P : Program} {w : World} {K : PySem.W.Frag} {mg : Str → Option Value} {base : Heap} {f : Addr} {cdv : Value} {A : Around} {outer : List Env} {s : Shared} {H : Hp} {G : Gp} {E : UX} {W : WX} {pos : Pos}
abbrev X (P : Program) (w : World) (K : PySem.W.Frag) (mg : Str → Option Value) (base : Heap) (f : Addr) (cdv : Value) (A : Around) (outer : List Env) (s : Shared) (H : Hp) (E : XK) : Cx := cxU P w K mg base N d__law_bag.qual d__law_bag.scope f cdv A outer s H E
theorem v0 {E : XK} : EU (X P w K mg base f cdv A outer s H E) W (.Name "_law_script" pos) (tUVar 0) := eu_var rfl (by first | exact Or.inl rfl | exact Or.inr (Or.inl rfl)) (by decide) (by decide)
theorem v1 {E : XK} : EU (X P w K mg base f cdv A outer s H E) W (.Name "_law_at" pos) (tUVar 1) := eu_var rfl (by first | exact Or.inl rfl | exact Or.inr (Or.inl rfl)) (by decide) (by decide)
theorem v2 {E : XK} : EU (X P w K mg base f cdv A outer s H E) W (.Name "_law_cell" pos) (tUVar 2) := eu_var rfl (by first | exact Or.inl rfl | exact Or.inr (Or.inl rfl)) (by decide) (by decide)
theorem body (b : Base K mg base)  (hr : RoomU 0 (A.deeper (envOfC d__law_bag.qual d__law_bag.scope s.heap.objs.size f cdv))) : SsU (X P w K mg base f cdv A outer s H (LX K H G E)) (wOf K H G E) (defBody (top 4)) t__law_bag :=
  (ssu_cons (su_set (i := 2) sc.nd rfl (Or.inl rfl) (eu_cut (eu_ifExp (tu_cmp ou_lt v1 (eu_callB cu_len rfl (n_len b) boot_len (au_cons v0 au_nil rfl) (by decide) (by decide) rfl rfl) (nomark _)) (eu_callB cu_abs rfl (n_abs b) boot_abs (au_cons (eu_ix iu0 v0 v1 fun _ _ => rfl) au_nil rfl) (by decide) (by decide) rfl rfl) eu_int)) rfl (Or.inl rfl))
    (ssu_cons (su_ret (eu_lst (au_cons (eu_cut (eu_ifExp (tu_cmp ou_ge v2 (eu_bin ou_pow eu_int eu_int) (nomark _)) v2 eu_int)) (au_cons (eu_bin ou_add eu_int (eu_bin ou_mul eu_int v1)) (au_cons v1 (au_cons (eu_callTy cu_list rfl (n_list b) boot_list (au_cons (eu_slice v0 pou_none (pou_some eu_int)) au_nil rfl) (by decide) (by decide) rfl rfl) au_nil rfl) rfl) rfl) rfl)))
    ssu_nil))
end
end F__law_bag
theorem ok__law_bag {P : Program} {w : World} {K : PySem.W.Frag} {mg : Str → Option Value} {base : Heap} (b : Base K mg base) : Known P w K mg base d__law_bag 1 sp__law_bag :=
  ⟨fn_u (fd__law_bag b).D F__law_bag.sc rfl (fun cdv A outer s H G E hr => F__law_bag.body b  hr) (fun ws G Q E h _ => law__law_bag ws G Q E h), (fd__law_bag b).D⟩
namespace F__law_cut
def N : List Str := ["_law_many", "_law_size", "_law_turn", "_law_found", "_law_left"]
theorem sc : FnScope N (parN d__law_cut.params ++ parK d__law_cut.params) d__law_cut.scope := ⟨rfl, rfl, rfl, by decide +kernel, rfl, by decide +kernel, by decide +kernel⟩
section
variable {P : Program} {w : World} {K : PySem.W.Frag} {mg : Str → Option Value} {base : Heap} {f : Addr} {cdv : Value} {A : Around} {outer : List Env} {s : Shared} {H : Hp} {G : Gp} {E : UX} {W : WX} {pos : Pos}
abbrev X (P : Program) (w : World) (K : PySem.W.Frag) (mg : Str → Option Value) (base : Heap) (f : Addr) (cdv : Value) (A : Around) (outer : List Env) (s : Shared) (H : Hp) (E : XK) : Cx := cxU P w K mg base N d__law_cut.qual d__law_cut.scope f cdv A outer s H E
theorem v0 {E : XK} : EU (X P w K mg base f cdv A outer s H E) W (.Name "_law_many" pos) (tUVar 0) := eu_var rfl (by first | exact Or.inl rfl | exact Or.inr (Or.inl rfl)) (by decide) (by decide)
theorem v1 {E : XK} : EU (X P w K mg base f cdv A outer s H E) W (.Name "_law_size" pos) (tUVar 1) := eu_var rfl (by first | exact Or.inl rfl | exact Or.inr (Or.inl rfl)) (by decide) (by decide)
theorem v3 {E : XK} : EU (X P w K mg base f cdv A outer s H E) W (.Name "_law_found" pos) (tUVar 3) := eu_var rfl (by first | exact Or.inl rfl | exact Or.inr (Or.inl rfl)) (by decide) (by decide)
theorem v4 {E : XK} : EU (X P w K mg base f cdv A outer s H E) W (.Name "_law_left" pos) (tUVar 4) := eu_var rfl (by first | exact Or.inl rfl | exact Or.inr (Or.inl rfl)) (by decide) (by decide)
theorem body (b : Base K mg base)  (hr : RoomU 0 (A.deeper (envOfC d__law_cut.qual d__law_cut.scope s.heap.objs.size f cdv))) : SsU (X P w K mg base f cdv A outer s H (LX K H G E)) (wOf K H G E) (defBody (top 6)) t__law_cut :=
  (ssu_cons (su_par (xs := ["_law_found", "_law_left"]) (is := [3, 4]) rfl sc.nd rfl (by decide) (fun k x i h1 h2 => match k, x, i, h1, h2 with | 0, _, _, rfl, rfl => ⟨rfl, rfl⟩ | 1, _, _, rfl, rfl => ⟨rfl, rfl⟩) (au_cons (eu_lst au_nil) (au_cons v0 au_nil rfl) rfl) rfl rfl)
    (ssu_cons (su_for PassesOwn.leaving rfl (iu_range1 rfl (n_range b) v0 rfl) (gu_name (i := 2) sc.nd rfl (Or.inl rfl) (Or.inl rfl)) (ssu_cons (su_if (tu_cmp ou_gt v4 eu_int (nomark _)) (ssu_cons (su_expr (eu_bm PySem.F.plainAttrs_list PySem.F.slot_list_append PySem.F.type_list_append mu_append v3 (au_cons (eu_callB (cu_min rfl) rfl (n_min b) boot_min (au_cons v4 (au_cons v1 au_nil rfl) rfl) (by decide) (by decide) rfl rfl) au_nil rfl) rfl rfl rfl rfl rfl) rfl)
    (ssu_cons (su_set (i := 4) sc.nd rfl (Or.inl rfl) (eu_bin ou_sub v4 (eu_callB (cu_min rfl) rfl (n_min b) boot_min (au_cons v4 (au_cons v1 au_nil rfl) rfl) (by decide) (by decide) rfl rfl)) rfl (Or.inl rfl))
    ssu_nil)) ssu_nil)
    ssu_nil) fun _ => rfl)
    (ssu_cons (su_ret (eu_callTy cu_tuple rfl (n_tuple b) boot_tuple (au_cons v3 au_nil rfl) (by decide) (by decide) rfl rfl))
    ssu_nil)))
end
end F__law_cut
theorem ok__law_cut {P : Program} {w : World} {K : PySem.W.Frag} {mg : Str → Option Value} {base : Heap} (b : Base K mg base) : Known P w K mg base d__law_cut 1 sp__law_cut :=
  ⟨fn_u (fd__law_cut b).D F__law_cut.sc rfl (fun cdv A outer s H G E hr => F__law_cut.body b  hr) (fun ws G Q E h _ => law__law_cut ws G Q E h), (fd__law_cut b).D⟩
namespace F__law_dealt
def N : List Str := ["_law_many", "_law_crew", "_law_turn", "_law_found", "_law_last"]
theorem sc : FnScope N (parN d__law_dealt.params ++ parK d__law_dealt.params) d__law_dealt.scope := ⟨rfl, rfl, rfl, by decide +kernel, rfl, by decide +kernel, by decide +kernel⟩
section
variable {P : Program} {w : World} {K : PySem.W.Frag} {mg : Str → Option Value} {base : Heap} {f : Addr} {cdv : Value} {A : Around} {outer : List Env} {s : Shared} {H : Hp} {G : Gp} {E : UX} {W : WX} {pos : Pos}
abbrev X (P : Program) (w : World) (K : PySem.W.Frag) (mg : Str → Option Value) (base : Heap) (f : Addr) (cdv : Value) (A : Around) (outer : List Env) (s : Shared) (H : Hp) (E : XK) : Cx := cxU P w K mg base N d__law_dealt.qual d__law_dealt.scope f cdv A outer s H E
theorem v0 {E : XK} : EU (X P w K mg base f cdv A outer s H E) W (.Name "_law_many" pos) (tUVar 0) := eu_var rfl (by first | exact Or.inl rfl | exact Or.inr (Or.inl rfl)) (by decide) (by decide)
theorem v1 {E : XK} : EU (X P w K mg base f cdv A outer s H E) W (.Name "_law_crew" pos) (tUVar 1) := eu_var rfl (by first | exact Or.inl rfl | exact Or.inr (Or.inl rfl)) (by decide) (by decide)
theorem v3 {E : XK} : EU (X P w K mg base f cdv A outer s H E) W (.Name "_law_found" pos) (tUVar 3) := eu_var rfl (by first | exact Or.inl rfl | exact Or.inr (Or.inl rfl)) (by decide) (by decide)
theorem v4 {E : XK} : EU (X P w K mg base f cdv A outer s H E) W (.Name "_law_last" pos) (tUVar 4) := eu_var rfl (by first | exact Or.inl rfl | exact Or.inr (Or.inl rfl)) (by decide) (by decide)
theorem body (b : Base K mg base)  (hr : RoomU 0 (A.deeper (envOfC d__law_dealt.qual d__law_dealt.scope s.heap.objs.size f cdv))) : SsU (X P w K mg base f cdv A outer s H (LX K H G E)) (wOf K H G E) (defBody (top 7)) t__law_dealt :=
  (ssu_cons (su_par (xs := ["_law_found", "_law_last"]) (is := [3, 4]) rfl sc.nd rfl (by decide) (fun k x i h1 h2 => match k, x, i, h1, h2 with | 0, _, _, rfl, rfl => ⟨rfl, rfl⟩ | 1, _, _, rfl, rfl => ⟨rfl, rfl⟩) (au_cons (eu_lst au_nil) (au_cons (eu_un nu_neg eu_int) au_nil rfl) rfl) rfl rfl)
    (ssu_cons (su_for PassesOwn.leaving rfl (iu_range1 rfl (n_range b) v0 rfl) (gu_name (i := 2) sc.nd rfl (Or.inl rfl) (Or.inl rfl)) (ssu_cons (su_set (i := 4) sc.nd rfl (Or.inl rfl) (eu_cut (eu_ifExp (tu_cmp (ou_eq hr.rm.units) (eu_bin ou_add v4 eu_int) v1 (nomark _)) eu_int (eu_bin ou_add v4 eu_int))) rfl (Or.inl rfl))
    (ssu_cons (su_expr (eu_bm PySem.F.plainAttrs_list PySem.F.slot_list_append PySem.F.type_list_append mu_append v3 (au_cons v4 au_nil rfl) rfl rfl rfl rfl rfl) rfl)
    ssu_nil)) fun _ => rfl)
    (ssu_cons (su_ret (eu_callTy cu_tuple rfl (n_tuple b) boot_tuple (au_cons v3 au_nil rfl) (by decide) (by decide) rfl rfl))
    ssu_nil)))
end
end F__law_dealt
theorem ok__law_dealt {P : Program} {w : World} {K : PySem.W.Frag} {mg : Str → Option Value} {base : Heap} (b : Base K mg base) : Known P w K mg base d__law_dealt 1 sp__law_dealt :=
  ⟨fn_u (fd__law_dealt b).D F__law_dealt.sc rfl (fun cdv A outer s H G E hr => F__law_dealt.body b  hr) (fun ws G Q E h _ => law__law_dealt ws G Q E h), (fd__law_dealt b).D⟩
namespace F__law_take
def N : List Str := ["_law_bag_here", "_law_many", "_law_cell", "_law_added", "_law_digit"]
theorem sc : FnScope N (parN d__law_take.params ++ parK d__law_take.params) d__law_take.scope := ⟨rfl, rfl, rfl, by decide +kernel, rfl, by decide +kernel, by decide +kernel⟩
section
variable {P : Program} {w : World} {K : PySem.W.Frag} {mg : Str → Option Value} {base : Heap} {f : Addr} {cdv : Value} {A : Around} {outer : List Env} {s : Shared} {H : Hp} {G : Gp} {E : UX} {W : WX} {pos : Pos}
abbrev X (P : Program) (w : World) (K : PySem.W.Frag) (mg : Str → Option Value) (base : Heap) (f : Addr) (cdv : Value) (A : Around) (outer : List Env) (s : Shared) (H : Hp) (E : XK) : Cx := cxU P w K mg base N d__law_take.qual d__law_take.scope f cdv A outer s H E
theorem v0 {E : XK} : EU (X P w K mg base f cdv A outer s H E) W (.Name "_law_bag_here" pos) (tUVar 0) := eu_var rfl (by first | exact Or.inl rfl | exact Or.inr (Or.inl rfl)) (by decide) (by decide)
theorem v1 {E : XK} : EU (X P w K mg base f cdv A outer s H E) W (.Name "_law_many" pos) (tUVar 1) := eu_var rfl (by first | exact Or.inl rfl | exact Or.inr (Or.inl rfl)) (by decide) (by decide)
theorem v2 {E : XK} : EU (X P w K mg base f cdv A outer s H E) W (.Name "_law_cell" pos) (tUVar 2) := eu_var rfl (by first | exact Or.inl rfl | exact Or.inr (Or.inl rfl)) (by decide) (by decide)
theorem v3 {E : XK} : EU (X P w K mg base f cdv A outer s H E) W (.Name "_law_added" pos) (tUVar 3) := eu_var rfl (by first | exact Or.inl rfl | exact Or.inr (Or.inl rfl)) (by decide) (by decide)
theorem v4 {E : XK} : EU (X P w K mg base f cdv A outer s H E) W (.Name "_law_digit" pos) (tUVar 4) := eu_var rfl (by first | exact Or.inl rfl | exact Or.inr (Or.inl rfl)) (by decide) (by decide)
theorem body (b : Base K mg base)  (hr : RoomU 0 (A.deeper (envOfC d__law_take.qual d__law_take.scope s.heap.objs.size f cdv))) : SsU (X P w K mg base f cdv A outer s H (LX K H G E)) (wOf K H G E) (defBody (top 5)) t__law_take :=
  (ssu_cons (su_if (tu_cmp ou_gt (eu_ix iu0 v0 eu_int fun _ _ => rfl) eu_int (nomark _)) (ssu_cons (su_set (i := 4) sc.nd rfl (Or.inl rfl) (eu_bin ou_mod (eu_callTy cu_int rfl (n_int b) boot_int (au_cons (eu_ix iu0 v0 eu_int fun _ _ => rfl) au_nil rfl) (by decide) (by decide) rfl rfl) v1) rfl (Or.inl rfl))
    (ssu_cons (su_asg (eu_bin ou_fdiv (eu_ix iu0 v0 eu_int fun _ _ => rfl) v1) (gu_sub v0 eu_int stu0 fun _ => rfl) rfl rfl rfl)
    (ssu_cons (su_ret v4)
    ssu_nil))) ssu_nil)
    (ssu_cons (su_asg (eu_bin ou_add (eu_ix iu0 v0 eu_int fun _ _ => rfl) eu_int) (gu_sub v0 eu_int stu0 fun _ => rfl) rfl rfl rfl)
    (ssu_cons (su_set (i := 2) sc.nd rfl (Or.inl rfl) (eu_cut (eu_ifExp (tu_cmp (ou_ne hr.rm.units) (eu_ix iu0 v0 eu_int fun _ _ => rfl) (eu_lst au_nil) (nomark _)) (eu_ix iu0 (eu_ix iu0 v0 eu_int fun _ _ => rfl) (eu_bin ou_mod (eu_ix iu0 v0 eu_int fun _ _ => rfl) (eu_callB cu_len rfl (n_len b) boot_len (au_cons (eu_ix iu0 v0 eu_int fun _ _ => rfl) au_nil rfl) (by decide) (by decide) rfl rfl)) fun _ _ => rfl) eu_int)) rfl (Or.inl rfl))
    (ssu_cons (su_set (i := 3) sc.nd rfl (Or.inl rfl) (eu_bin ou_mod (eu_callTy cu_int rfl (n_int b) boot_int (au_cons v2 au_nil rfl) (by decide) (by decide) rfl rfl) eu_int) rfl (Or.inl rfl))
    (ssu_cons (su_asg (eu_bin ou_mod (eu_callTy cu_int rfl (n_int b) boot_int (au_cons (eu_bin ou_add (eu_bin ou_add (eu_bin ou_add (eu_bin ou_mul (eu_ix iu0 v0 eu_int fun _ _ => rfl) eu_int) v3) (eu_bin ou_mul eu_int (eu_ix iu0 v0 eu_int fun _ _ => rfl))) eu_int) au_nil rfl) (by decide) (by decide) rfl rfl) eu_int) (gu_sub v0 eu_int stu0 fun _ => rfl) rfl rfl rfl)
    (ssu_cons (su_ret (eu_bin ou_mod (eu_bin ou_fdiv (eu_bin ou_mod (eu_callTy cu_int rfl (n_int b) boot_int (au_cons (eu_bin ou_mul (eu_bin ou_fdiv (eu_ix iu0 v0 eu_int fun _ _ => rfl) eu_int) eu_int) au_nil rfl) (by decide) (by decide) rfl rfl) eu_int) eu_int) v1))
    ssu_nil))))))
end
end F__law_take
theorem ok__law_take {P : Program} {w : World} {K : PySem.W.Frag} {mg : Str → Option Value} {base : Heap} (b : Base K mg base) : Known P w K mg base d__law_take 1 sp__law_take :=
  ⟨fn_u (fd__law_take b).D F__law_take.sc rfl (fun cdv A outer s H G E hr => F__law_take.body b  hr) (fun ws G Q E h _ => law__law_take ws G Q E h), (fd__law_take b).D⟩
namespace F_even_cut
def N : List Str := ["count", "chunk", "rest"]
theorem sc : FnScope N (parN d_even_cut.params ++ parK d_even_cut.params) d_even_cut.scope := ⟨rfl, rfl, rfl, by decide +kernel, rfl, by decide +kernel, by decide +kernel⟩
section
variable {P : Program} {w : World} {K : PySem.W.Frag} {mg : Str → Option Value} {base : Heap} {f : Addr} {cdv : Value} {A : Around} {outer : List Env} {s : Shared} {H : Hp} {G : Gp} {E : UX} {W : WX} {pos : Pos}
abbrev X (P : Program) (w : World) (K : PySem.W.Frag) (mg : Str → Option Value) (base : Heap) (f : Addr) (cdv : Value) (A : Around) (outer : List Env) (s : Shared) (H : Hp) (E : XK) : Cx := cxU P w K mg base N d_even_cut.qual d_even_cut.scope f cdv A outer s H E
theorem v0 {E : XK} : EU (X P w K mg base f cdv A outer s H E) W (.Name "count" pos) (tUVar 0) := eu_var rfl (by first | exact Or.inl rfl | exact Or.inr (Or.inl rfl)) (by decide) (by decide)
theorem v1 {E : XK} : EU (X P w K mg base f cdv A outer s H E) W (.Name "chunk" pos) (tUVar 1) := eu_var rfl (by first | exact Or.inl rfl | exact Or.inr (Or.inl rfl)) (by decide) (by decide)
theorem v2 {E : XK} : EU (X P w K mg base f cdv A outer s H E) W (.Name "rest" pos) (tUVar 2) := eu_var rfl (by first | exact Or.inl rfl | exact Or.inr (Or.inl rfl)) (by decide) (by decide)
theorem body (b : Base K mg base)  (hr : RoomU 0 (A.deeper (envOfC d_even_cut.qual d_even_cut.scope s.heap.objs.size f cdv))) : SsU (X P w K mg base f cdv A outer s H (LX K H G E)) (wOf K H G E) (defBody (top 1)) t_even_cut :=
  (ssu_cons (su_set (i := 2) sc.nd rfl (Or.inl rfl) (eu_bin ou_sub v0 (eu_bin ou_mul v1 (eu_bin ou_fdiv v0 v1))) rfl (Or.inl rfl))
    (ssu_cons (su_ret (eu_bin ou_add (eu_bin ou_mul (eu_tup (au_cons v1 au_nil rfl)) (eu_bin ou_fdiv v0 v1)) (eu_bin ou_mul (eu_tup (au_cons v2 au_nil rfl)) (eu_callTy cu_int rfl (n_int b) boot_int (au_cons (eu_cmp ou_gt v2 eu_int (nomark _)) au_nil rfl) (by decide) (by decide) rfl rfl))))
    ssu_nil))
end
end F_even_cut
theorem ok_even_cut {P : Program} {w : World} {K : PySem.W.Frag} {mg : Str → Option Value} {base : Heap} (b : Base K mg base) : Known P w K mg base d_even_cut 1 sp_even_cut :=
  ⟨fn_u (fd_even_cut b).D F_even_cut.sc rfl (fun cdv A outer s H G E hr => F_even_cut.body b  hr) (fun ws G Q E h _ => law_even_cut ws G Q E h), (fd_even_cut b).D⟩
namespace F_in_turn
def N : List Str := ["chunks", "workers", "chunk"]
theorem sc : FnScope N (parN d_in_turn.params ++ parK d_in_turn.params) d_in_turn.scope := ⟨rfl, rfl, rfl, by decide +kernel, rfl, by decide +kernel, by decide +kernel⟩
section
variable {P : Program} {w : World} {K : PySem.W.Frag} {mg : Str → Option Value} {base : Heap} {f : Addr} {cdv : Value} {A : Around} {outer : List Env} {s : Shared} {H : Hp} {G : Gp} {E : UX} {W : WX} {pos : Pos}
abbrev X (P : Program) (w : World) (K : PySem.W.Frag) (mg : Str → Option Value) (base : Heap) (f : Addr) (cdv : Value) (A : Around) (outer : List Env) (s : Shared) (H : Hp) (E : XK) : Cx := cxU P w K mg base N d_in_turn.qual d_in_turn.scope f cdv A outer s H E
theorem v0 {E : XK} : EU (X P w K mg base f cdv A outer s H E) W (.Name "chunks" pos) (tUVar 0) := eu_var rfl (by first | exact Or.inl rfl | exact Or.inr (Or.inl rfl)) (by decide) (by decide)
theorem body (b : Base K mg base)  (hr : RoomU 0 (A.deeper (envOfC d_in_turn.qual d_in_turn.scope s.heap.objs.size f cdv))) : SsU (X P w K mg base f cdv A outer s H (LX K H G E)) (wOf K H G E) (defBody (top 2)) t_in_turn :=
  (ssu_cons (su_ret (eu_callTy cu_tuple rfl (n_tuple b) boot_tuple (au_cons (eu_lc (own := [("chunk", 2)]) rfl sc.nd (iu_range1 rfl (n_range b) v0 rfl) (blk_of rfl) (by decide) (fun _ _ _ _ _ => (gu_name (i := 2) sc.nd rfl (by first | exact Or.inl rfl | exact Or.inr rfl) (by first | exact Or.inr rfl | exact Or.inl rfl))) (fun _ _ _ _ _ => fsu_nil) (fun _ _ _ _ _ => (eu_bin ou_mod (eu_callTy cu_int rfl (n_int b) boot_int (au_cons (eu_var (i := 2) rfl (by first | exact Or.inl rfl | exact Or.inr (Or.inl rfl) | exact Or.inr (Or.inr rfl)) (by decide) (by decide)) au_nil rfl) (by decide) (by decide) rfl rfl) (eu_var (i := 1) rfl (by first | exact Or.inl rfl | exact Or.inr (Or.inl rfl) | exact Or.inr (Or.inr rfl)) (by decide) (by decide)))) fun _ => rfl) au_nil rfl) (by decide) (by decide) rfl rfl))
    ssu_nil)
end
end F_in_turn
theorem ok_in_turn {P : Program} {w : World} {K : PySem.W.Frag} {mg : Str → Option Value} {base : Heap} (b : Base K mg base) : Known P w K mg base d_in_turn 1 sp_in_turn :=
  ⟨fn_u (fd_in_turn b).D F_in_turn.sc rfl (fun cdv A outer s H G E hr => F_in_turn.body b  hr) (fun ws G Q E h _ => law_in_turn ws G Q E h), (fd_in_turn b).D⟩
namespace F_law
def N : List Str := ["_law_script", "_law_at", "_law_bag_here", "_law_many", "_law_size", "_law_crew"]
theorem sc : FnScope N (parN d_law.params ++ parK d_law.params) d_law.scope := ⟨rfl, rfl, rfl, by decide +kernel, rfl, by decide +kernel, by decide +kernel⟩
section
variable {P : Program} {w : World} {K : PySem.W.Frag} {mg : Str → Option Value} {base : Heap} {f : Addr} {cdv : Value} {A : Around} {outer : List Env} {s : Shared} {H : Hp} {G : Gp} {E : UX} {W : WX} {pos : Pos}
abbrev X (P : Program) (w : World) (K : PySem.W.Frag) (mg : Str → Option Value) (base : Heap) (f : Addr) (cdv : Value) (A : Around) (outer : List Env) (s : Shared) (H : Hp) (E : XK) : Cx := cxU P w K mg base N d_law.qual d_law.scope f cdv A outer s H E
theorem v0 {E : XK} : EU (X P w K mg base f cdv A outer s H E) W (.Name "_law_script" pos) (tUVar 0) := eu_var rfl (by first | exact Or.inl rfl | exact Or.inr (Or.inl rfl)) (by decide) (by decide)
theorem v1 {E : XK} : EU (X P w K mg base f cdv A outer s H E) W (.Name "_law_at" pos) (tUVar 1) := eu_var rfl (by first | exact Or.inl rfl | exact Or.inr (Or.inl rfl)) (by decide) (by decide)
theorem v2 {E : XK} : EU (X P w K mg base f cdv A outer s H E) W (.Name "_law_bag_here" pos) (tUVar 2) := eu_var rfl (by first | exact Or.inl rfl | exact Or.inr (Or.inl rfl)) (by decide) (by decide)
theorem v3 {E : XK} : EU (X P w K mg base f cdv A outer s H E) W (.Name "_law_many" pos) (tUVar 3) := eu_var rfl (by first | exact Or.inl rfl | exact Or.inr (Or.inl rfl)) (by decide) (by decide)
theorem v4 {E : XK} : EU (X P w K mg base f cdv A outer s H E) W (.Name "_law_size" pos) (tUVar 4) := eu_var rfl (by first | exact Or.inl rfl | exact Or.inr (Or.inl rfl)) (by decide) (by decide)
theorem v5 {E : XK} : EU (X P w K mg base f cdv A outer s H E) W (.Name "_law_crew" pos) (tUVar 5) := eu_var rfl (by first | exact Or.inl rfl | exact Or.inr (Or.inl rfl)) (by decide) (by decide)
theorem body (b : Base K mg base) (k__law_bag : Known P w K mg base d__law_bag 1 sp__law_bag) (k__law_cut : Known P w K mg base d__law_cut 1 sp__law_cut) (k__law_dealt : Known P w K mg base d__law_dealt 1 sp__law_dealt) (k__law_take : Known P w K mg base d__law_take 1 sp__law_take) (k_even_cut : Known P w K mg base d_even_cut 1 sp_even_cut) (k_in_turn : Known P w K mg base d_in_turn 1 sp_in_turn) (hr : RoomU 1 (A.deeper (envOfC d_law.qual d_law.scope s.heap.objs.size f cdv))) : SsU (X P w K mg base f cdv A outer s H (LX K H G E)) (wOf K H G E) (defBody (top 8)) t_law :=
  (ssu_cons (su_for PassesOwn.leaving rfl (iu_range1 rfl (n_range b) (eu_callB (cu_max rfl) rfl (n_max b) boot_max (au_cons eu_int (au_cons (eu_callB (cu_min rfl) rfl (n_min b) boot_min (au_cons eu_int (au_cons (eu_callB cu_len rfl (n_len b) boot_len (au_cons v0 au_nil rfl) (by decide) (by decide) rfl rfl) au_nil rfl) rfl) (by decide) (by decide) rfl rfl) au_nil rfl) rfl) (by decide) (by decide) rfl rfl) rfl) (gu_name (i := 1) sc.nd rfl (Or.inl rfl) (Or.inl rfl)) (ssu_cons (su_set (i := 2) sc.nd rfl (Or.inl rfl) (eu_def k__law_bag (hr.mono (by decide)) rfl (g__law_bag b) ⟨rfl, rfl, rfl⟩ (n := 2) (ks := []) (pl := [.p 0, .p 1]) (by decide) rfl rfl takes_u rfl (au_cons v0 (au_cons v1 au_nil rfl) rfl) ku_nil rfl rfl rfl rfl (by decide)) rfl (Or.inl rfl))
    (ssu_cons (su_par (xs := ["_law_many", "_law_size", "_law_crew"]) (is := [3, 4, 5]) rfl sc.nd rfl (by decide) (fun k x i h1 h2 => match k, x, i, h1, h2 with | 0, _, _, rfl, rfl => ⟨rfl, rfl⟩ | 1, _, _, rfl, rfl => ⟨rfl, rfl⟩ | 2, _, _, rfl, rfl => ⟨rfl, rfl⟩) (au_cons (eu_def k__law_take (hr.mono (by decide)) rfl (g__law_take b) ⟨rfl, rfl, rfl⟩ (n := 2) (ks := []) (pl := [.p 0, .p 1]) (by decide) rfl rfl takes_u rfl (au_cons v2 (au_cons eu_int au_nil rfl) rfl) ku_nil rfl rfl rfl rfl (by decide)) (au_cons (eu_bin ou_add eu_int (eu_def k__law_take (hr.mono (by decide)) rfl (g__law_take b) ⟨rfl, rfl, rfl⟩ (n := 2) (ks := []) (pl := [.p 0, .p 1]) (by decide) rfl rfl takes_u rfl (au_cons v2 (au_cons eu_int au_nil rfl) rfl) ku_nil rfl rfl rfl rfl (by decide))) (au_cons (eu_bin ou_add eu_int (eu_def k__law_take (hr.mono (by decide)) rfl (g__law_take b) ⟨rfl, rfl, rfl⟩ (n := 2) (ks := []) (pl := [.p 0, .p 1]) (by decide) rfl rfl takes_u rfl (au_cons v2 (au_cons eu_int au_nil rfl) rfl) ku_nil rfl rfl rfl rfl (by decide))) au_nil rfl) rfl) rfl) rfl rfl)
    (ssu_cons (su_cut (su_if (tu_cmp (ou_eq hr.rm.units) (eu_def k__law_take (hr.mono (by decide)) rfl (g__law_take b) ⟨rfl, rfl, rfl⟩ (n := 2) (ks := []) (pl := [.p 0, .p 1]) (by decide) rfl rfl takes_u rfl (au_cons v2 (au_cons eu_int au_nil rfl) rfl) ku_nil rfl rfl rfl rfl (by decide)) eu_int (nomark _)) (ssu_cons (su_set (i := 3) sc.nd rfl (Or.inl rfl) (eu_def k__law_take (hr.mono (by decide)) rfl (g__law_take b) ⟨rfl, rfl, rfl⟩ (n := 2) (ks := []) (pl := [.p 0, .p 1]) (by decide) rfl rfl takes_u rfl (au_cons v2 (au_cons eu_int au_nil rfl) rfl) ku_nil rfl rfl rfl rfl (by decide)) rfl (Or.inl rfl))
    ssu_nil) ssu_nil))
    (ssu_cons (su_if (tu_cmp (ou_ne hr.rm.units) (eu_callB (cu_repr hr.rm.units hr.gd) rfl (n_repr b) boot_repr (au_cons (eu_def k_even_cut (hr.mono (by decide)) rfl (g_even_cut b) ⟨rfl, rfl, rfl⟩ (n := 2) (ks := []) (pl := [.p 0, .p 1]) (by decide) rfl rfl takes_u rfl (au_cons v3 (au_cons v4 au_nil rfl) rfl) ku_nil rfl rfl rfl rfl (by decide)) au_nil rfl) (by decide) (by decide) rfl rfl) (eu_callB (cu_repr hr.rm.units hr.gd) rfl (n_repr b) boot_repr (au_cons (eu_def k__law_cut (hr.mono (by decide)) rfl (g__law_cut b) ⟨rfl, rfl, rfl⟩ (n := 2) (ks := []) (pl := [.p 0, .p 1]) (by decide) rfl rfl takes_u rfl (au_cons v3 (au_cons v4 au_nil rfl) rfl) ku_nil rfl rfl rfl rfl (by decide)) au_nil rfl) (by decide) (by decide) rfl rfl) (nomark _)) (ssu_cons (su_ret eu_bl)
    ssu_nil) ssu_nil)
    (ssu_cons (su_if (tu_cmp (ou_ne hr.rm.units) (eu_callB (cu_repr hr.rm.units hr.gd) rfl (n_repr b) boot_repr (au_cons (eu_def k_in_turn (hr.mono (by decide)) rfl (g_in_turn b) ⟨rfl, rfl, rfl⟩ (n := 0) (ks := ["chunks", "workers"]) (pl := [.k 0, .k 1]) (by decide) rfl rfl takes_u rfl au_nil (ku_cons v3 (ku_cons v5 ku_nil)) unst_nil rfl rfl rfl (by decide)) au_nil rfl) (by decide) (by decide) rfl rfl) (eu_callB (cu_repr hr.rm.units hr.gd) rfl (n_repr b) boot_repr (au_cons (eu_def k__law_dealt (hr.mono (by decide)) rfl (g__law_dealt b) ⟨rfl, rfl, rfl⟩ (n := 2) (ks := []) (pl := [.p 0, .p 1]) (by decide) rfl rfl takes_u rfl (au_cons v3 (au_cons v5 au_nil rfl) rfl) ku_nil rfl rfl rfl rfl (by decide)) au_nil rfl) (by decide) (by decide) rfl rfl) (nomark _)) (ssu_cons (su_ret eu_bl)
    ssu_nil) ssu_nil)
    ssu_nil))))) fun _ => rfl)
    (ssu_cons (su_ret (eu_and (eu_cmp (ou_eq hr.rm.units) (eu_def k_even_cut (hr.mono (by decide)) rfl (g_even_cut b) ⟨rfl, rfl, rfl⟩ (n := 2) (ks := []) (pl := [.p 0, .p 1]) (by decide) rfl rfl takes_u rfl (au_cons eu_int (au_cons eu_int au_nil rfl) rfl) ku_nil rfl rfl rfl rfl (by decide)) (eu_tup au_nil) (nomark _)) (eu_and (eu_cmp (ou_eq hr.rm.units) (eu_def k_in_turn (hr.mono (by decide)) rfl (g_in_turn b) ⟨rfl, rfl, rfl⟩ (n := 2) (ks := []) (pl := [.p 0, .p 1]) (by decide) rfl rfl takes_u rfl (au_cons eu_int (au_cons eu_int au_nil rfl) rfl) ku_nil rfl rfl rfl rfl (by decide)) (eu_tup au_nil) (nomark _)) (eu_one (eu_cmp (ou_eq hr.rm.units) (eu_def k_even_cut (hr.mono (by decide)) rfl (g_even_cut b) ⟨rfl, rfl, rfl⟩ (n := 0) (ks := ["count", "chunk"]) (pl := [.k 0, .k 1]) (by decide) rfl rfl takes_u rfl au_nil (ku_cons eu_int (ku_cons eu_int ku_nil)) unst_nil rfl rfl rfl (by decide)) (eu_tup (au_cons eu_int (au_cons eu_int au_nil rfl) rfl)) (nomark _))))))
    ssu_nil))
end
end F_law
theorem ok_law {P : Program} {w : World} {K : PySem.W.Frag} {mg : Str → Option Value} {base : Heap} (b : Base K mg base) : Known P w K mg base d_law 2 sp_law :=
  ⟨fn_u (fd_law b).D F_law.sc rfl (fun cdv A outer s H G E hr => F_law.body b (ok__law_bag b) (ok__law_cut b) (ok__law_dealt b) (ok__law_take b) (ok_even_cut b) (ok_in_turn b) hr) (fun ws G Q E h _ => law_law ws G Q E h), (fd_law b).D⟩
theorem want_ (ns : List Int) (h : ns.length ≤ 63) (_ : ∀ z ∈ ns, Builtin.Int.intBits z ≤ 1048576) : sp_law [.rol (IntU ns)] (fun _ => none) (fun v _ => v = .bl true) (fun _ _ => False) := ⟨ns, rfl, h, fun _ => rfl⟩
abbrev R : PySem.W.OpenRow := PySem.W.OpenLaw.row PySem.Challenge.rw_workerworlds_k21_even_cuts_and_turns
abbrev hk : PySem.W.Hook := He.hookD 4 fa fn
def ob (s : PySem.W.SharedT) : He.AlD := He.obsDG 4 fa fn (HandSHeadRun.getT s)
theorem ob_eq (s : PySem.W.SharedT) : ob s = hk.obs s.abs := He.obsDG_eq (HandSHeadRun.getT_eq s)
def loose : List Str := (["even_cut", "in_turn", "_law_bag", "_law_take", "_law_cut", "_law_dealt"] : List Str)
theorem run_ (w : World) : HandSHeadRun.RunEq R (PySem.W.view R.prog [8]) hk ob 4000 loose w := by
  intro os
  kernel_rfl
theorem room_ : RoomU 2 callerA := ⟨⟨rfl, by decide, by decide⟩, rfl⟩
theorem head_ {w : World} {mg : Str → Option Value} {fa_ : Addr} {h : Heap} (Y : hk.says w h) (g : h.Ns mainGlobals mg) (e : mg "law" = some (.ref fa_)) :
    ∃ (K : PySem.W.Frag) (fd : FuncData), K.In h ∧ (∀ (s : Shared) (u : Value), BindsTo s fd ⟨[u], []⟩ [("_law_script", u)]) ∧ ∀ base : Heap, K.In base → base.Ns mainGlobals mg → FnU R.prog w K mg base 2 fa_ fd ["_law_script"] sp_law := by
  obtain ⟨K, inK, c⟩ := Y
  have b : Base K mg h := ⟨c, inK, g⟩
  have z := e.symm.trans (g_law b)
  cases z
  refine ⟨K, _, inK, fun s u => ?_, fun base k1 k2 => (ok_law ⟨c, k1, k2⟩).F⟩
  exact FunD.bindsA (ps := ["_law_script"]) (fd_law b).D (fun _ _ _ _ _ _ us hl => match us, hl with | [_], _ => rfl) s [u] rfl
end K21
open PySem PySem.W PySem.Calls PyProof.Rows
theorem PySem.Challenge.cw_workerworlds_k21_even_cuts_and_turns_holds : PySem.Challenge.rw_workerworlds_k21_even_cuts_and_turns.Holds := by
  w_on; o_law
  refine HandSHeadRun.head_any (r := OpenLaw.row PySem.Challenge.rw_workerworlds_k21_even_cuts_and_turns) (q := view (OpenLaw.row PySem.Challenge.rw_workerworlds_k21_even_cuts_and_turns).prog [8]) (H := K21.hk) (ob := K21.ob) (M := 4000) (loose := K21.loose) (d := HandSHeadRun.topDef (OpenLaw.row PySem.Challenge.rw_workerworlds_k21_even_cuts_and_turns).prog 8) (kwd := []) K21.ob_eq
    (by kernel_rfl) (fun s => by kernel_rfl) K21.run_ (by kernel_rfl) (by kernel_rfl) (by kernel_rfl) (by rfl) (by first | assumption | decide +kernel) (by decide +kernel) ⟨rfl, rfl, rfl, rfl, rfl, by decide +kernel⟩ ?hw ?hc
  case hw => w_witness2
  case hc =>
    refine UL.walk_u (l := PySem.Challenge.rw_workerworlds_k21_even_cuts_and_turns) (n := 63) (k := 2) (x := "_law_script") (sp := K21.sp_law) rfl (by decide) (by kernel_rfl) K21.room_ ?F K21.want_
    intro w mg fa h Y g e
    have e1 : (HandSHeadRun.topDef (OpenLaw.row PySem.Challenge.rw_workerworlds_k21_even_cuts_and_turns).prog 8).name = ("law" : PySem.Str) := by kernel_rfl
    rw [e1] at e
    exact K21.head_ Y g e
