import PyProof.Rows.All
import Wide.All
import OpenK.AllK
import Wide.FinOn
import HandS.ForMost
import HandS.IsInst
import HandS.TupAny
import HandS.Deep
import HandS.Replace
import HandS.NoneIn
import HandS.TupMul
import KE.IntTextLaws
import KE.KIntText
import KE.DataCmp
import KE.SortCalls
import KE.SortData
import KE.DataMinMax
import HandS.More
import HandS.Property
import HandS.Conv
import KE.KDictCopyH
import HandS.TupLen
import HandS.SetFor
import HandS.Iter
import HandS.WideBits
import KE.DataMinMax
import PyProof.Claim2Refuses
import PySem.Challenge.RW_criermoot_k21_least_ways
set_option Elab.async false
set_option linter.all false
set_option maxRecDepth 100000
set_option maxHeartbeats 2000000
namespace DL
open PySem L2
class Stp (P : Prop) (Q : outParam Prop) : Prop where go : Q → P
class StW (P : Prop) (Q : outParam Prop) : Prop where go : Q → P
class StF (P : Prop) (Q : outParam Prop) : Prop where go : Q → P
/-- immutable data, deep; a reference to a mutable object -/
inductive D where
  | non | bl (b : Bool) | int (i : Int) | str (x : Str) | tup (ds : List D) | ref (a : Addr) | klst (ds : List D)
/-- mutable objects -/
inductive MO where
  | lst (ds : List D) | ro (ds : List D) | ins (n : Str) (fs : List (Str × D)) | dct (kvs : List (Key × D)) | dtt (kvs : List (List Key × D)) | dctf (kvs : List (Key × D)) | dttf (kvs : List (List Key × D)) | xd (fs : List (Str × D))
abbrev GS := Addr → Option MO
def gup (g : GS) (a : Addr) (o : MO) : GS := fun b => if b = a then some o else g b
theorem gup_same {g : GS} {a : Addr} {o : MO} : gup g a o a = some o := by unfold gup; rw [if_pos rfl]
theorem gup_ne {g : GS} {a b : Addr} {o : MO} (h : b ≠ a) : gup g a o b = g b := by unfold gup; rw [if_neg h]
abbrev DK := D → GS → Prop
abbrev EV := List (Option D)
abbrev DTE := EV → GS → DK → Prop
abbrev DTT := EV → GS → (Bool → GS → Prop) → Prop
abbrev DTA := EV → GS → (List D → GS → Prop) → Prop
structure DEnds where
  nx : EV → GS → Prop
  rt : DK
  bk : EV → GS → Prop := fun _ _ => False
  ct : EV → GS → Prop := fun _ _ => False
abbrev DTS := DEnds → EV → GS → Prop
abbrev DSp := List D → GS → DK → Prop
/-- the address of a class by its name -/
def clsA (K : PySem.W.Frag) (x : Str) : Addr := match PySem.W.nsIn K mainGlobals x with
  | some (some (.ref a)) => a
  | _ => 0
/-- a list that never changes: the script, a written one -/
def SqF (K : PySem.W.Frag) (H : Hp) (a : Addr) (xs : List V) : Prop := (∃ o, H a = some (.frz o (.lst xs))) ∨
  ∃ (o : Obj) (its : Array Value) (n : Nat), K.lookup a = some o ∧ o.cls = .type "list" ∧ o.dict = none ∧ o.data = .seq its n ∧ its.size ≤ sizeLine ∧ Vals xs its.toList
theorem SqF.sq {K : PySem.W.Frag} {H : Hp} {a : Addr} {xs : List V} (h : SqF K H a xs) : SqL K H a xs := by
  rcases h with ⟨o, h⟩ | h
  · exact .inl (.inr ⟨o, h⟩)
  · exact .inr h
mutual
inductive RepD (K : PySem.W.Frag) (H : Hp) : V → D → Prop
  | non : RepD K H .non .non
  | bl (b : Bool) : RepD K H (.bl b) (.bl b)
  | int (i : Int) : RepD K H (.int i) (.int i)
  | str (x : Str) : RepD K H (.str x) (.str x)
  | ref (a : Addr) : RepD K H (.ref a) (.ref a)
  | tup {a : Addr} {xs : List V} {ds : List D} : H a = some (.tup xs) → RepL K H xs ds → RepD K H (.ref a) (.tup ds)
  | kl {a : Addr} {xs : List V} {ds : List D} : SqF K H a xs → RepL K H xs ds → RepD K H (.ref a) (.klst ds)
inductive RepL (K : PySem.W.Frag) (H : Hp) : List V → List D → Prop
  | nil : RepL K H [] []
  | cons {v : V} {d : D} {vs : List V} {ds : List D} : RepD K H v d → RepL K H vs ds → RepL K H (v :: vs) (d :: ds)
end
def Ext (H H' : Hp) : Prop := (∀ a xs, H a = some (.tup xs) → H' a = some (.tup xs)) ∧ ∀ a o u, H a = some (.frz o u) → H' a = some (.frz o u)
theorem Ext.refl (H : Hp) : Ext H H := ⟨fun _ _ h => h, fun _ _ _ h => h⟩
theorem Ext.trans {H H1 H2 : Hp} (a : Ext H H1) (b : Ext H1 H2) : Ext H H2 := ⟨fun x y h => b.1 x y (a.1 x y h), fun x y z h => b.2 x y z (a.2 x y z h)⟩
theorem Ext.new {H : Hp} {p : Addr} {o : HO} (h : H p = none) : Ext H (upd H p o) :=
  ⟨fun a xs e => by rw [upd_ne (ne_of_none e h)]; exact e, fun a ob u e => by rw [upd_ne (ne_of_none e h)]; exact e⟩
theorem Ext.lst {H : Hp} {p : Addr} {xs : List V} {o : HO} (h : H p = some (.lst xs)) : Ext H (upd H p o) :=
  ⟨fun a ys e => by rw [upd_ne (ne_of e h (by intro z; cases z))]; exact e, fun a ob u e => by rw [upd_ne (ne_of e h (by intro z; cases z))]; exact e⟩
theorem Ext.dk {H : Hp} {p : Addr} {kvs : List (Key × V)} {o : HO} (h : H p = some (.dK kvs)) : Ext H (upd H p o) :=
  ⟨fun a ys e => by rw [upd_ne (ne_of e h (by intro z; cases z))]; exact e, fun a ob u e => by rw [upd_ne (ne_of e h (by intro z; cases z))]; exact e⟩
theorem Ext.dT {H : Hp} {p : Addr} {kvs : List (List Key × V)} {o : HO} (h : H p = some (.dT kvs)) : Ext H (upd H p o) :=
  ⟨fun a ys e => by rw [upd_ne (ne_of e h (by intro z; cases z))]; exact e, fun a ob u e => by rw [upd_ne (ne_of e h (by intro z; cases z))]; exact e⟩
theorem Ext.ins {H : Hp} {p C dx : Addr} {fs : List (Str × V)} {o : HO} (h : H p = some (.ins C dx fs)) : Ext H (upd H p o) :=
  ⟨fun a ys e => by rw [upd_ne (ne_of e h (by intro z; cases z))]; exact e, fun a ob u e => by rw [upd_ne (ne_of e h (by intro z; cases z))]; exact e⟩
theorem Ext.sqT {K : PySem.W.Frag} {H H' : Hp} {a : Addr} {xs : List V} (e : Ext H H') (h : SqT K H a xs) : SqT K H' a xs := by
  rcases h with (h | ⟨o, h⟩) | h
  · exact .inl (.inl (e.1 _ _ h))
  · exact .inl (.inr ⟨o, e.2 _ _ _ h⟩)
  · exact .inr h
theorem tq {K : PySem.W.Frag} {H : Hp} {a : Addr} {xs : List V} (h : H a = some (.tup xs)) : SqT K H a xs := SqT.of h
/-- what data want to stay -/
def Ext0 (H H' : Hp) : Prop := (∀ a xs, H a = some (.tup xs) → H' a = some (.tup xs)) ∧ ∀ a o xs, H a = some (.frz o (.lst xs)) → H' a = some (.frz o (.lst xs))
theorem Ext.e0 {H H' : Hp} (e : Ext H H') : Ext0 H H' := ⟨e.1, fun a o xs h => e.2 a o _ h⟩
theorem Ext0.sqF {K : PySem.W.Frag} {H H' : Hp} {a : Addr} {xs : List V} (e : Ext0 H H') (h : SqF K H a xs) : SqF K H' a xs := by
  rcases h with ⟨o, h⟩ | h
  · exact .inl ⟨o, e.2 _ _ _ h⟩
  · exact .inr h
theorem Ext.sqF {K : PySem.W.Frag} {H H' : Hp} {a : Addr} {xs : List V} (e : Ext H H') (h : SqF K H a xs) : SqF K H' a xs := e.e0.sqF h
section
variable {K : PySem.W.Frag} {H H' : Hp}
mutual
theorem RepD.mono0 (e : Ext0 H H') : ∀ {v : V} {d : D}, RepD K H v d → RepD K H' v d
  | _, _, .non => .non
  | _, _, .bl b => .bl b
  | _, _, .int i => .int i
  | _, _, .str x => .str x
  | _, _, .ref a => .ref a
  | _, _, .tup h r => .tup (e.1 _ _ h) (RepL.mono0 e r)
  | _, _, .kl h r => .kl (e.sqF h) (RepL.mono0 e r)
theorem RepL.mono0 (e : Ext0 H H') : ∀ {vs : List V} {ds : List D}, RepL K H vs ds → RepL K H' vs ds
  | _, _, .nil => .nil
  | _, _, .cons h r => .cons (RepD.mono0 e h) (RepL.mono0 e r)
end
theorem RepD.mono (e : Ext H H') {v : V} {d : D} (h : RepD K H v d) : RepD K H' v d := h.mono0 e.e0
theorem RepL.mono (e : Ext H H') {vs : List V} {ds : List D} (h : RepL K H vs ds) : RepL K H' vs ds := h.mono0 e.e0
theorem RepL.length : ∀ {vs : List V} {ds : List D}, RepL K H vs ds → vs.length = ds.length
  | _, _, .nil => rfl
  | _, _, .cons _ r => congrArg (· + 1) (RepL.length r)
theorem RepL.get : ∀ {vs : List V} {ds : List D} {i : Nat} {d : D}, RepL K H vs ds → ds[i]? = some d → ∃ v, vs[i]? = some v ∧ RepD K H v d
  | _, _, _, _, .nil, h => by simp at h
  | _, _, 0, _, .cons r _, h => by simp at h; subst h; exact ⟨_, rfl, r⟩
  | _, _, i + 1, _, .cons _ t, h => by
    obtain ⟨v, e, r⟩ := RepL.get (i := i) t (by simpa using h)
    exact ⟨v, by simpa using e, r⟩
theorem RepL.getV : ∀ {vs : List V} {ds : List D} {i : Nat} {v : V}, RepL K H vs ds → vs[i]? = some v → ∃ d, ds[i]? = some d ∧ RepD K H v d
  | _, _, _, _, .nil, h => by simp at h
  | _, _, 0, _, .cons r _, h => by simp at h; subst h; exact ⟨_, rfl, r⟩
  | _, _, i + 1, _, .cons _ t, h => by
    obtain ⟨v, e, r⟩ := RepL.getV (i := i) t (by simpa using h)
    exact ⟨v, by simpa using e, r⟩
theorem RepL.set {v : V} {d : D} (r : RepD K H v d) : ∀ {vs : List V} {ds : List D} (i : Nat), RepL K H vs ds → RepL K H (vs.set i v) (ds.set i d)
  | _, _, _, .nil => .nil
  | _, _, 0, .cons _ t => .cons r t
  | _, _, i + 1, .cons h t => .cons h (RepL.set r i t)
theorem RepL.app : ∀ {vs ws : List V} {ds es : List D}, RepL K H vs ds → RepL K H ws es → RepL K H (vs ++ ws) (ds ++ es)
  | _, _, _, _, .nil, s => s
  | _, _, _, _, .cons h r, s => .cons h (RepL.app r s)
theorem RepL.take : ∀ {vs : List V} {ds : List D} (n : Nat), RepL K H vs ds → RepL K H (vs.take n) (ds.take n)
  | _, _, 0, _ => .nil
  | _, _, _ + 1, .nil => .nil
  | _, _, n + 1, .cons r t => .cons r (RepL.take n t)
theorem RepL.drop : ∀ {vs : List V} {ds : List D} (n : Nat), RepL K H vs ds → RepL K H (vs.drop n) (ds.drop n)
  | _, _, 0, r => r
  | _, _, _ + 1, .nil => .nil
  | _, _, n + 1, .cons _ t => RepL.drop n t
theorem RepL.rev {vs : List V} {ds : List D} (r : RepL K H vs ds) : RepL K H vs.reverse ds.reverse := by
  induction vs generalizing ds with
  | nil => cases r; exact .nil
  | cons v vs ih =>
    cases r with
    | cons h t => rw [List.reverse_cons, List.reverse_cons]; exact (ih t).app (.cons h .nil)
theorem RepL.erase : ∀ {vs : List V} {ds : List D} (i : Nat), RepL K H vs ds → RepL K H (vs.eraseIdx i) (ds.eraseIdx i)
  | _, _, _, .nil => .nil
  | _, _, 0, .cons _ t => t
  | _, _, i + 1, .cons h t => .cons h (RepL.erase i t)
theorem RepL.inj1 : ∀ {vs : List V} {ds : List D}, RepL K H vs ds → vs = [] → ds = []
  | _, _, .nil, _ => rfl
theorem RepL.ints : ∀ {vs : List V} (ns : List Int), RepL K H vs (ns.map D.int) → vs = ns.map V.int
  | _, [], .nil => rfl
  | _, n :: ns, .cons h t => by
    cases h
    rw [List.map_cons, RepL.ints ns t]
theorem RepL.strs : ∀ {vs : List V} (ns : List Str), RepL K H vs (ns.map D.str) → vs = ns.map V.str
  | _, [], .nil => rfl
  | _, n :: ns, .cons h t => by
    cases h
    rw [List.map_cons, RepL.strs ns t]
theorem RepL.ofInts : ∀ (ns : List Int), RepL K H (ns.map V.int) (ns.map D.int)
  | [] => .nil
  | n :: ns => .cons (.int n) (RepL.ofInts ns)
theorem RepL.ofStrs : ∀ (ns : List Str), RepL K H (ns.map V.str) (ns.map D.str)
  | [] => .nil
  | n :: ns => .cons (.str n) (RepL.ofStrs ns)
end
def RepF (K : PySem.W.Frag) (H : Hp) : List (Str × V) → List (Str × D) → Prop := Paired fun p q => p.1 = q.1 ∧ RepD K H p.2 q.2
def RepKV {κ : Type} (K : PySem.W.Frag) (H : Hp) : List (κ × V) → List (κ × D) → Prop := Paired fun p q => p.1 = q.1 ∧ RepD K H p.2 q.2
def RepO (K : PySem.W.Frag) (H : Hp) (a : Addr) : MO → Prop
  | .lst ds => ∃ xs, H a = some (.lst xs) ∧ RepL K H xs ds
  | .ro ds => ∃ o xs, H a = some (.frz o (.lst xs)) ∧ RepL K H xs ds
  | .ins n fs => ∃ dx vs, H a = some (.ins (clsA K n) dx vs) ∧ RepF K H vs fs
  | .dct kvs => ∃ vs, H a = some (.dK vs) ∧ RepKV K H vs kvs
  | .dtt kvs => ∃ vs, H a = some (.dT vs) ∧ RepKV K H vs kvs
  | .dctf kvs => ∃ o vs, H a = some (.frz o (.dK vs)) ∧ RepKV K H vs kvs
  | .dttf kvs => ∃ o vs, H a = some (.frz o (.dT vs)) ∧ RepKV K H vs kvs
  | .xd fs => ∃ vs, H a = some (.xd vs) ∧ RepF K H vs fs
def RepG (K : PySem.W.Frag) (H : Hp) (g : GS) : Prop := ∀ a o, g a = some o → RepO K H a o
def RepE (K : PySem.W.Frag) (H : Hp) (σ : L2.St) (e : EV) : Prop := σ.length = e.length ∧ ∀ (i : Nat) (d : D), e[i]? = some (some d) → ∃ v, σ[i]? = some (some v) ∧ RepD K H v d
section
variable {K : PySem.W.Frag} {H H' : Hp} {σ : L2.St} {e : EV} {g : GS}
theorem RepE.mono0 (x : Ext0 H H') (r : RepE K H σ e) : RepE K H' σ e := ⟨r.1, fun i d h => let ⟨v, a, b⟩ := r.2 i d h; ⟨v, a, b.mono0 x⟩⟩
theorem RepE.mono (x : Ext H H') (r : RepE K H σ e) : RepE K H' σ e := ⟨r.1, fun i d h => let ⟨v, a, b⟩ := r.2 i d h; ⟨v, a, b.mono x⟩⟩
theorem RepF.mono0 (x : Ext0 H H') {vs : List (Str × V)} {fs : List (Str × D)} (r : RepF K H vs fs) : RepF K H' vs fs := L2.Paired.mapP r fun _ _ h => ⟨h.1, h.2.mono0 x⟩
theorem RepKV.mono0 {κ : Type} (x : Ext0 H H') {vs : List (κ × V)} {fs : List (κ × D)} (r : RepKV K H vs fs) : RepKV K H' vs fs := L2.Paired.mapP r fun _ _ h => ⟨h.1, h.2.mono0 x⟩
theorem RepF.mono (x : Ext H H') {vs : List (Str × V)} {fs : List (Str × D)} (r : RepF K H vs fs) : RepF K H' vs fs := L2.Paired.mapP r fun _ _ h => ⟨h.1, h.2.mono x⟩
theorem RepKV.mono {κ : Type} (x : Ext H H') {vs : List (κ × V)} {fs : List (κ × D)} (r : RepKV K H vs fs) : RepKV K H' vs fs := L2.Paired.mapP r fun _ _ h => ⟨h.1, h.2.mono x⟩
theorem RepE.set {v : V} {d : D} (r : RepE K H σ e) (h : RepD K H v d) (i : Nat) : RepE K H (σ.set i (some v)) (e.set i (some d)) := by
  refine ⟨by rw [List.length_set, List.length_set]; exact r.1, fun j c hj => ?_⟩
  by_cases hij : i = j
  · subst hij
    by_cases hl : i < e.length
    · rw [List.getElem?_set_self hl] at hj
      cases hj
      exact ⟨v, List.getElem?_set_self (by rw [r.1]; exact hl), h⟩
    · rw [List.getElem?_eq_none (by rw [List.length_set]; omega)] at hj
      cases hj
  · rw [List.getElem?_set_ne hij] at hj
    obtain ⟨w, a, b⟩ := r.2 j c hj
    exact ⟨w, by rw [List.getElem?_set_ne hij]; exact a, b⟩
theorem RepG.free (r : RepG K H g) {p : Addr} (h : H p = none) : g p = none := by
  cases q : g p with
  | none => rfl
  | some o =>
    have z := r p o q
    cases o with
    | lst ds => obtain ⟨xs, e, _⟩ := z; rw [h] at e; cases e
    | ro ds => obtain ⟨o, xs, e, _⟩ := z; rw [h] at e; cases e
    | ins C fs => obtain ⟨dx, vs, e, _⟩ := z; rw [h] at e; cases e
    | dct kvs => obtain ⟨vs, e, _⟩ := z; rw [h] at e; cases e
    | dtt kvs => obtain ⟨vs, e, _⟩ := z; rw [h] at e; cases e
    | dctf kvs => obtain ⟨o, vs, e, _⟩ := z; rw [h] at e; cases e
    | dttf kvs => obtain ⟨o, vs, e, _⟩ := z; rw [h] at e; cases e
    | xd fs => obtain ⟨vs, e, _⟩ := z; rw [h] at e; cases e
theorem RepO.keep {a p : Addr} {o : HO} {n : MO} (z : RepO K H a n) (h : a ≠ p) (x : Ext0 H (upd H p o)) : RepO K (L2.upd H p o) a n := by
  cases n with
  | lst ds => obtain ⟨xs, e, q⟩ := z; exact ⟨xs, by rw [upd_ne h]; exact e, q.mono0 x⟩
  | ro ds => obtain ⟨o, xs, e, q⟩ := z; exact ⟨o, xs, by rw [upd_ne h]; exact e, q.mono0 x⟩
  | ins C fs => obtain ⟨dx, vs, e, q⟩ := z; exact ⟨dx, vs, by rw [upd_ne h]; exact e, RepF.mono0 x q⟩
  | dct kvs => obtain ⟨vs, e, q⟩ := z; exact ⟨vs, by rw [upd_ne h]; exact e, RepKV.mono0 x q⟩
  | dtt kvs => obtain ⟨vs, e, q⟩ := z; exact ⟨vs, by rw [upd_ne h]; exact e, RepKV.mono0 x q⟩
  | dctf kvs => obtain ⟨o, vs, e, q⟩ := z; exact ⟨o, vs, by rw [upd_ne h]; exact e, RepKV.mono0 x q⟩
  | dttf kvs => obtain ⟨o, vs, e, q⟩ := z; exact ⟨o, vs, by rw [upd_ne h]; exact e, RepKV.mono0 x q⟩
  | xd fs => obtain ⟨vs, e, q⟩ := z; exact ⟨vs, by rw [upd_ne h]; exact e, RepF.mono0 x q⟩
/-- one object written or laid -/
theorem RepG.upd0 {p : Addr} {o : HO} {m : MO} (r : RepG K H g) (x : Ext0 H (upd H p o)) (new : RepO K (L2.upd H p o) p m) : RepG K (L2.upd H p o) (gup g p m) := fun a n e => by
  by_cases h : a = p
  · subst h
    rw [gup_same] at e
    cases e
    exact new
  · rw [gup_ne h] at e
    exact (r a n e).keep h x
theorem RepG.upd {p : Addr} {o : HO} {m : MO} (r : RepG K H g) (x : Ext H (upd H p o)) (new : RepO K (L2.upd H p o) p m) : RepG K (L2.upd H p o) (gup g p m) := r.upd0 x.e0 new
/-- an untracked-at-our-level object laid (a tuple) -/
theorem RepG.hid {p : Addr} {o : HO} (r : RepG K H g) (h : H p = none) : RepG K (L2.upd H p o) g := fun a n e =>
  (r a n e).keep (fun z => by rw [z, r.free h] at e; cases e) (Ext.new h).e0
end
section
variable (K : PySem.W.Frag)
def KD (H : Hp) (Qd : DK) (Q : VK) : Prop := ∀ v d H' g', Ext H H' → RepG K H' g' → RepD K H' v d → Qd d g' → Q v H'
def lE (T : DTE) : TE := fun σ H Q => ∃ e g Qd, RepE K H σ e ∧ RepG K H g ∧ T e g Qd ∧ KD K H Qd Q
def lT (T : DTT) : TT := fun σ H Q => ∃ e g Qd, RepE K H σ e ∧ RepG K H g ∧ T e g Qd ∧ ∀ b H' g', Ext H H' → RepG K H' g' → Qd b g' → Q b H'
def lA (T : DTA) : TA := fun σ H Q => ∃ e g Qd, RepE K H σ e ∧ RepG K H g ∧ T e g Qd ∧ ∀ vs ds H' g', Ext H H' → RepG K H' g' → RepL K H' vs ds → Qd ds g' → Q vs H'
def KS (H : Hp) (Q : EV → GS → Prop) (Q' : L2.St → Hp → Prop) : Prop := ∀ σ' H' e' g', Ext H H' → RepE K H' σ' e' → RepG K H' g' → Q e' g' → Q' σ' H'
def lS (T : DTS) : TS := fun D σ H => ∃ e g Dd, RepE K H σ e ∧ RepG K H g ∧ T Dd e g ∧ KS K H Dd.nx D.nx ∧ KD K H Dd.rt D.rt ∧ KS K H Dd.bk D.bk ∧ KS K H Dd.ct D.ct
def lSp (sp : DSp) : Sp := fun vs H Q _ => ∃ ds g Qd, RepL K H vs ds ∧ RepG K H g ∧ sp ds g Qd ∧ KD K H Qd Q
end
theorem KD.mono {K : PySem.W.Frag} {H H' : Hp} {Qd : DK} {Q : VK} (k : KD K H Qd Q) (x : Ext H H') : KD K H' Qd Q := fun v d H2 g2 y => k v d H2 g2 (x.trans y)
theorem KS.mono {K : PySem.W.Frag} {H H' : Hp} {Q : EV → GS → Prop} {Q' : L2.St → Hp → Prop} (k : KS K H Q Q') (x : Ext H H') : KS K H' Q Q' := fun s H2 e g y => k s H2 e g (x.trans y)
structure DE (X : Cx) (e : Expr) (T : DTE) : Prop where
  pe : PE X e (lE X.K T)
structure DT (X : Cx) (e : Expr) (T : DTT) : Prop where
  pt : PT X e (lT X.K T)
structure DW (X : Cx) (e : Expr) (T : DTT) : Prop where
  pw : PW X e (lT X.K T)
structure DA (X : Cx) (es : List Expr) (T : DTA) : Prop where
  pa : PA X es (lA X.K T)
structure DS (X : Cx) (s : Stmt) (T : DTS) : Prop where
  ps : PS X s (lS X.K T)
structure DSs (X : Cx) (s : List Stmt) (T : DTS) : Prop where
  pss : PSs X s (lS X.K T)
section
variable {X : Cx}
theorem peW {e : Expr} {t t' : TE} (h : PE X e t) (w : ∀ σ H Q, t' σ H Q → t σ H Q) : PE X e t' := ⟨fun pins s σ H Q I q => h.run pins s σ H Q I (w σ H Q q)⟩
theorem ptW {e : Expr} {t t' : TT} (h : PT X e t) (w : ∀ σ H Q, t' σ H Q → t σ H Q) : PT X e t' := ⟨fun pins s σ H Q I q => h.run pins s σ H Q I (w σ H Q q)⟩
theorem pwW {e : Expr} {t t' : TT} (h : PW X e t) (w : ∀ σ H Q, t' σ H Q → t σ H Q) : PW X e t' := ⟨fun wh pins s σ H Q I q => h.run wh pins s σ H Q I (w σ H Q q)⟩
theorem paW {e : List Expr} {t t' : TA} (h : PA X e t) (w : ∀ σ H Q, t' σ H Q → t σ H Q) : PA X e t' := ⟨fun pos pins s σ H Q I q => h.run pos pins s σ H Q I (w σ H Q q)⟩
theorem psW {e : Stmt} {t t' : TS} (h : PS X e t) (w : ∀ D σ H, t' D σ H → t D σ H) : PS X e t' := ⟨fun pins s σ H Q I q => h.run pins s σ H Q I (w Q σ H q)⟩
theorem pssW {e : List Stmt} {t t' : TS} (h : PSs X e t) (w : ∀ D σ H, t' D σ H → t D σ H) : PSs X e t' := ⟨fun pins s σ H Q I q => h.run pins s σ H Q I (w Q σ H q)⟩
end
end DL
namespace DL
open PySem L2
theorem szl : sizeLine = 16777216 := sizeLine_eq
section
variable {X : Cx} {K : PySem.W.Frag} {H H' : Hp} {σ : L2.St}
def look : EV → Nat → Option D
  | [], _ => none
  | x :: _, 0 => x
  | _ :: r, n + 1 => look r n
theorem look_get : ∀ (e : EV) (i : Nat) (d : D), look e i = some d → e[i]? = some (some d)
  | [], _, _, h => by cases h
  | x :: r, 0, d, h => by
    have h' : x = some d := h
    simp [h']
  | x :: r, n + 1, d, h => by
    have h' : look r n = some d := h
    simpa using look_get r n d h'
def dVar (i : Nat) : DTE := fun e g Q => ∃ d, look e i = some d ∧ Q d g
def dC (d : D) : DTE := fun _ g Q => Q d g
theorem RepG.fin {g : GS} {Qd : DK} {Q : VK} (r : RepG K H g) (k : KD K H Qd Q) {v : V} {d : D} (h : RepD K H v d) (q : Qd d g) : Q v H := k v d H g (.refl H) r h q
theorem RepG.laidL {g : GS} (r : RepG K H g) {n : Addr} (hn : H n = none) {xs : List V} {ds : List D} (l : RepL K H xs ds) : RepG K (L2.upd H n (.lst xs)) (gup g n (.lst ds)) :=
  r.upd (m := .lst ds) (.new hn) (show ∃ _, _ ∧ _ from ⟨_, upd_same, l.mono (.new hn)⟩)
theorem RepG.setL {g : GS} (r : RepG K H g) {n : Addr} {ys : List V} (hn : H n = some (.lst ys)) {xs : List V} {ds : List D} (l : RepL K H xs ds) : RepG K (L2.upd H n (.lst xs)) (gup g n (.lst ds)) :=
  r.upd (m := .lst ds) (.lst hn) (show ∃ _, _ ∧ _ from ⟨_, upd_same, l.mono (.lst hn)⟩)
theorem RepG.finL {g : GS} {Qd : DK} {Q : VK} (r : RepG K H g) (k : KD K H Qd Q) {n : Addr} (hn : H n = none) {xs : List V} {ds : List D} (l : RepL K H xs ds) (q : ∀ p, g p = none → Qd (.ref p) (gup g p (.lst ds))) : Q (.ref n) (L2.upd H n (.lst xs)) :=
  k _ _ _ _ (.new hn) (r.laidL hn l) (.ref n) (q n (r.free hn))
theorem RepG.finU {g : GS} {Qd : DK} {Q : VK} (r : RepG K H g) (k : KD K H Qd Q) {n : Addr} (hn : H n = none) {xs : List V} {ds : List D} (l : RepL K H xs ds) (q : Qd (.tup ds) g) : Q (.ref n) (L2.upd H n (.tup xs)) :=
  k _ _ _ _ (.new hn) (r.hid hn) (.tup upd_same (l.mono (.new hn))) q
theorem RepG.lst {g : GS} (r : RepG K H g) {p : Addr} {ds : List D} (h : g p = some (.lst ds)) : ∃ xs, H p = some (.lst xs) ∧ RepL K H xs ds := r p _ h
theorem RepG.ro {g : GS} (r : RepG K H g) {p : Addr} {ds : List D} (h : g p = some (.ro ds)) : ∃ o xs, H p = some (.frz o (.lst xs)) ∧ RepL K H xs ds := r p _ h
theorem RepG.ins {g : GS} (r : RepG K H g) {p : Addr} {n : Str} {fs : List (Str × D)} (h : g p = some (.ins n fs)) : ∃ dx vs, H p = some (.ins (clsA K n) dx vs) ∧ RepF K H vs fs := r p _ h
/-- a list that is read -/
def rdL (g : GS) (p : Addr) (ds : List D) : Prop := g p = some (.lst ds) ∨ g p = some (.ro ds)
theorem RepG.sq {g : GS} (r : RepG K H g) {p : Addr} {ds : List D} (h : rdL g p ds) : ∃ xs, SqL K H p xs ∧ RepL K H xs ds := by
  rcases h with h | h
  · obtain ⟨xs, e, l⟩ := r.lst h
    exact ⟨xs, .of e, l⟩
  · obtain ⟨o, xs, e, l⟩ := r.ro h
    exact ⟨xs, .inl (.inr ⟨o, e⟩), l⟩
theorem de_var {i : Nat} {x : Str} {pos : Pos} (h : PE X (.Name x pos) (tVar i)) : DE X (.Name x pos) (dVar i) := ⟨peW h fun σ H Q ⟨e, g, Qd, re, rg, ⟨d, l, q⟩, k⟩ => by
  obtain ⟨v, hv, r⟩ := re.2 i d (look_get e i d l)
  exact ⟨v, hv, rg.fin k r q⟩⟩
theorem de_c {e : Expr} {v : V} {d : D} (h : PE X e (tC v)) (r : ∀ H, RepD X.K H v d) : DE X e (dC d) := ⟨peW h fun σ H Q ⟨e, g, Qd, re, rg, q, k⟩ => rg.fin k (r H) q⟩
theorem de_int {i j pos} : DE X (.Constant (.int i) j pos) (dC (.int i)) := de_c pe_int fun _ => .int i
theorem de_bl {b j pos} : DE X (.Constant (.bool b) j pos) (dC (.bl b)) := de_c pe_bl fun _ => .bl b
theorem de_non {j pos} : DE X (.Constant .none j pos) (dC .non) := de_c pe_non fun _ => .non
theorem de_str {x j pos} : DE X (.Constant (.str x) j pos) (dC (.str x)) := de_c pe_str fun _ => .str x
abbrev DR2 := D → D → GS → DK → Prop
def lR2 (K : PySem.W.Frag) (r : DR2) : R2 := fun x y H Q => ∃ dx dy g Qd, RepD K H x dx ∧ RepD K H y dy ∧ RepG K H g ∧ r dx dy g Qd ∧ KD K H Qd Q
def dOp (r : DR2) (ta tb : DTE) : DTE := fun e g Q => ta e g fun x g1 => tb e g1 fun y g2 => r x y g2 Q
theorem lop {r : DR2} {ta tb : DTE} {σ : L2.St} {H : Hp} {Q : VK} (h : lE K (dOp r ta tb) σ H Q) : tOp (lR2 K r) (lE K ta) (lE K tb) σ H Q := by
  obtain ⟨e, g, Qd, re, rg, q, k⟩ := h
  refine ⟨e, g, _, re, rg, q, fun x dx H1 g1 x1 rg1 rx q1 => ?_⟩
  refine ⟨e, g1, _, re.mono x1, rg1, q1, fun y dy H2 g2 x2 rg2 ry q2 => ?_⟩
  exact ⟨dx, dy, g2, Qd, rx.mono x2, ry, rg2, q2, k.mono (x1.trans x2)⟩
abbrev DOpR (X : Cx) (f : Value → Value → Sem Value) (r : DR2) : Prop := OpR X f (lR2 X.K r)
variable {a b c : Expr} {ta tb tc te : DTE} {pos : Pos}
theorem de_op {op : Operator} {r : DR2} (ho : DOpR X (binaryOp op) r) (ha : DE X a ta) (hb : DE X b tb) : DE X (.BinOp a op b pos) (dOp r ta tb) := ⟨peW (pe_op ho ha.pe hb.pe) fun _ _ _ h => lop h⟩
theorem de_cmp {op : CmpOp} {r : DR2} (ho : DOpR X (compareOp op) r) (ha : DE X a ta) (hb : DE X b tb) (hm : behindInMarks op b = false) : DE X (.Compare a [op] [b] pos) (dOp r ta tb) := ⟨peW (pe_cmpR ho ha.pe hb.pe hm) fun _ _ _ h => lop h⟩
def dTest (t : DTE) : DTT := fun e g Q => t e g fun d g' => ∃ k, d = .bl k ∧ Q k g'
theorem ltest {t : DTE} {σ : L2.St} {H : Hp} {Q : Bool → Hp → Prop} (h : lT K (dTest t) σ H Q) : tTest (lE K t) σ H Q := by
  obtain ⟨e, g, Qd, re, rg, q, k⟩ := h
  refine ⟨e, g, _, re, rg, q, fun x d H1 g1 x1 rg1 rx q1 => ?_⟩
  obtain ⟨b, rfl, q1⟩ := q1
  cases rx
  exact ⟨b, rfl, k _ _ _ x1 rg1 q1⟩
theorem tTest_mono {t t' : TE} (w : ∀ σ H Q, t' σ H Q → t σ H Q) {σ : L2.St} {H : Hp} {Q : Bool → Hp → Prop} (h : tTest t' σ H Q) : tTest t σ H Q := w _ _ _ h
theorem dt_cmp {op : CmpOp} {r : DR2} (ho : DOpR X (compareOp op) r) (ha : DE X a ta) (hb : DE X b tb) (hm : behindInMarks op b = false) : DT X (.Compare a [op] [b] pos) (dTest (dOp r ta tb)) :=
  ⟨ptW (pt_cmpR ho ha.pe hb.pe hm) fun _ _ _ h => tTest_mono (fun _ _ _ q => lop q) (ltest h)⟩
/-- a op1 b op2 c -/
def dChain (r r' : DR2) (ta tb tc : DTE) : DTE := fun e g Q => ta e g fun x g1 => tb e g1 fun y g2 => r x y g2 fun z g3 => ∃ k, z = .bl k ∧ (if k = true then tc e g3 fun w g4 => r' y w g4 Q else Q (.bl false) g3)
def lR1 (K : PySem.W.Frag) (r : D → GS → DK → Prop) : V → Hp → VK → Prop := fun x H Q => ∃ dx g Qd, RepD K H x dx ∧ RepG K H g ∧ r dx g Qd ∧ KD K H Qd Q
def dUn (r : D → GS → DK → Prop) (ta : DTE) : DTE := fun e g Q => ta e g fun x g1 => r x g1 Q
theorem de_un {op : UnaryOp} {r : D → GS → DK → Prop} (ho : UnR X (unaryOp op) (lR1 X.K r)) (ha : DE X a ta) : DE X (.UnaryOp op a pos) (dUn r ta) := ⟨peW (pe_un ho ha.pe) fun σ H Q ⟨e, g, Qd, re, rg, q, k⟩ =>
  ⟨e, g, _, re, rg, q, fun x dx H1 g1 x1 rg1 rx q1 => ⟨dx, g1, Qd, rx, rg1, q1, k.mono x1⟩⟩⟩
def negD : D → GS → DK → Prop := fun x g Q => match x with | .int i => Q (.int (-i)) g | _ => False
theorem un_negD : UnR X (unaryOp .USub) (lR1 X.K negD) := fun pins s σ H x v Q I rx ⟨dx, g, Qd, r, rg, q, k⟩ => by
  cases r with
  | int i => exact un_neg pins s σ H _ v Q I rx ⟨i, rfl, rg.fin k (.int _) q⟩
  | _ => exact q.elim
def addD : DR2 := fun x y g Q => match x, y with
  | .int i, .int j => Q (.int (i + j)) g
  | .str a, .str b => a.length + b.length ≤ sizeLine ∧ Q (.str (a ++ b)) g
  | .tup a, .tup b => a.length + b.length ≤ sizeLine ∧ Q (.tup (a ++ b)) g
  | .ref p, .ref q => ∃ xs ys, g p = some (.lst xs) ∧ g q = some (.lst ys) ∧ xs.length + ys.length ≤ sizeLine ∧ ∀ r, g r = none → Q (.ref r) (gup g r (.lst (xs ++ ys)))
  | _, _ => False
theorem op_addD : DOpR X (binaryOp .Add) addD := fun pins s σ H x y v u Q I rx ry ⟨dx, dy, g, Qd, r1, r2, rg, q, k⟩ => by
  cases r1 with
  | int i => cases r2 with
    | int j => exact op_add pins s σ H _ _ v u Q I rx ry ⟨i, j, rfl, rfl, rg.fin k (.int _) q⟩
    | _ => exact q.elim
  | str i => cases r2 with
    | str j => exact op_add_str pins s σ H _ _ v u Q I rx ry ⟨i, j, rfl, rfl, q.1, rg.fin k (.str _) q.2⟩
    | _ => exact q.elim
  | @tup a xs ds h1 l1 => cases r2 with
    | @tup b ys es h2 l2 =>
      refine op_catA pins s σ H _ _ v u Q I rx ry ⟨a, b, xs, ys, rfl, rfl, tq h1, tq h2, by rw [l1.length, l2.length]; exact q.1, fun e => ?_, fun _ e => ?_, fun _ _ p hp => ?_⟩
      · have := l1.inj1 e
        subst this
        exact rg.fin k (.tup h2 l2) q.2
      · have := l2.inj1 e
        subst this
        have q' := q.2
        rw [List.append_nil] at q'
        exact rg.fin k (.tup h1 l1) q'
      · exact rg.finU k hp (l1.app l2) q.2
    | _ => exact q.elim
  | ref p => cases r2 with
    | ref b =>
      obtain ⟨ds, es, h1, h2, hz, q⟩ := q
      obtain ⟨xs, e1, l1⟩ := rg.lst h1
      obtain ⟨ys, e2, l2⟩ := rg.lst h2
      refine op_cat pins s σ H _ _ v u Q I rx ry ⟨p, b, xs, ys, rfl, rfl, e1, e2, by rw [l1.length, l2.length]; exact hz, fun n hn => rg.finL k hn (l1.app l2) q⟩
    | _ => exact q.elim
  | _ => cases r2 <;> exact q.elim
def intD (C : Int → Int → Prop) (f : Int → Int → D) : DR2 := fun x y g Q => match x, y with
  | .int i, .int j => C i j ∧ Q (f i j) g
  | _, _ => False
theorem op_intD {f : Value → Value → Sem Value} {C : Int → Int → Prop} {h : Int → Int → V} {h' : Int → Int → D} (ho : OpR X f (rI C h)) (r : ∀ H i j, RepD X.K H (h i j) (h' i j)) : DOpR X f (intD C h') := fun pins s σ H x y v u Q I rx ry ⟨dx, dy, g, Qd, r1, r2, rg, q, k⟩ => by
  cases r1 with
  | int i => cases r2 with
    | int j => exact ho pins s σ H _ _ v u Q I rx ry ⟨i, j, rfl, rfl, q.1, rg.fin k (r _ _ _) q.2⟩
    | _ => exact q.elim
  | _ => cases r2 <;> exact q.elim
theorem op_intD0 {f : Value → Value → Sem Value} {h : Int → Int → V} {h' : Int → Int → D} (ho : OpR X f (rI0 h)) (r : ∀ H i j, RepD X.K H (h i j) (h' i j)) : DOpR X f (intD (fun _ _ => True) h') := fun pins s σ H x y v u Q I rx ry ⟨dx, dy, g, Qd, r1, r2, rg, q, k⟩ => by
  cases r1 with
  | int i => cases r2 with
    | int j => exact ho pins s σ H _ _ v u Q I rx ry ⟨i, j, rfl, rfl, rg.fin k (r _ _ _) q.2⟩
    | _ => exact q.elim
  | _ => cases r2 <;> exact q.elim
abbrev subD : DR2 := intD (fun _ _ => True) fun i j => .int (i - j)
theorem op_subD : DOpR X (binaryOp .Sub) subD := op_intD0 op_sub fun _ _ _ => .int _
abbrev fdivD : DR2 := intD CDivN fun i j => .int (i.fdiv j)
theorem op_fdivD : DOpR X (binaryOp .FloorDiv) fdivD := op_intD op_fdivN fun _ _ _ => .int _
abbrev modD : DR2 := intD (fun _ j => j ≠ 0) fun i j => .int (i.fmod j)
theorem op_modD : DOpR X (binaryOp .Mod) modD := op_intD op_modN fun _ _ _ => .int _
abbrev powD : DR2 := intD CPow fun i j => .int (i ^ j.toNat)
theorem op_powD : DOpR X (binaryOp .Pow) powD := op_intD op_pow fun _ _ _ => .int _
abbrev shlD : DR2 := intD CPow fun i j => .int (i * 2 ^ j.toNat)
theorem op_shlD : DOpR X (binaryOp .LShift) shlD := op_intD op_shl fun _ _ _ => .int _
abbrev andD : DR2 := intD (fun _ _ => True) fun i j => .int (Builtin.bitAnd i j)
theorem op_andD : DOpR X (binaryOp .BitAnd) andD := op_intD0 op_and fun _ _ _ => .int _
def mulD : DR2 := fun x y g Q => match x, y with
  | .int i, .int j => CMul i j ∧ Q (.int (i * j)) g
  | .str a, .int k => 0 ≤ k ∧ k ≤ 100000 ∧ a.length * k.toNat ≤ 16777216 ∧ Q (.str ⟨((List.replicate k.toNat a.cps.toList).flatten).toArray⟩) g
  | .tup xs, .int k => xs ≠ [] ∧ 0 ≤ k ∧ k ≤ 1000 ∧ xs.length ≤ 1000 ∧ Q (.tup (List.replicate k.toNat xs).flatten) g
  | .ref p, .int k => ∃ xs, g p = some (.lst xs) ∧ -(2 ^ 63) ≤ k ∧ k < 2 ^ 63 ∧ xs.length * k.toNat ≤ sizeLine ∧ ∀ r, g r = none → Q (.ref r) (gup g r (.lst (List.replicate k.toNat xs).flatten))
  | _, _ => False
theorem RepL.repl {vs : List V} {ds : List D} (r : RepL K H vs ds) : ∀ k : Nat, RepL K H (List.replicate k vs).flatten (List.replicate k ds).flatten
  | 0 => .nil
  | k + 1 => by rw [List.replicate_succ, List.replicate_succ, List.flatten_cons, List.flatten_cons]; exact r.app (RepL.repl r k)
theorem foldl_cat : ∀ (l : List (Array Nat)) (acc : Array Nat), (l.foldl (· ++ ·) acc).toList = acc.toList ++ (l.map Array.toList).flatten
  | [], acc => by simp
  | a :: l, acc => by
    rw [List.foldl_cons, foldl_cat l (acc ++ a), Array.toList_append, List.map_cons, List.flatten_cons, List.append_assoc]
theorem mul_txt {a : Str} {k : Int} (h0 : 0 ≤ k) : PySem.Txt.mul a k = ⟨((List.replicate k.toNat a.cps.toList).flatten).toArray⟩ := by
  by_cases h : 0 < k
  case neg =>
    have : k = 0 := by omega
    subst this
    rfl
  unfold PySem.Txt.mul
  rw [if_neg (by omega)]
  by_cases h2 : (k == 1 || a.length == 0) = true
  · rw [if_pos h2]
    rcases Bool.or_eq_true_iff.mp h2 with e | e
    · have : k = 1 := by simpa using e
      subst this
      refine TL.ext_tl ?_
      simp [TL.tl]
    · have : a.cps.size = 0 := by simpa [Str.length] using e
      have e2 : a.cps.toList = [] := by
        rw [← List.length_eq_zero_iff, Array.length_toList]; exact this
      refine TL.ext_tl ?_
      show a.cps.toList = _
      rw [e2]
      simp [TL.tl]
  · rw [if_neg h2]
    refine TL.ext_tl ?_
    show ((List.replicate k.toNat a.cps).foldl (· ++ ·) #[]).toList = _
    rw [foldl_cat, List.map_replicate]
    simp [TL.tl]
end
section
open PySem.Spec PyProof.Rows
theorem tuple_mul1 (l : Addr) (items : Array Value) (n : Nat) (dd : Option Addr) (sl : Array (Option Value)) (u : Tok) :
    Meets (Builtin.«tuple.__mul__» ⟨[.ref l, .int 1 u], []⟩) (fun _ R s => s.heap.get? l = some { cls := .type "tuple", dict := dd, data := .seq items n, slots := sl } ∧ R (.ok (.ret (Value.ref l))) s) :=
  .of_wp fun prog w A R s h => by
    obtain ⟨hp, g, d, tk, os⟩ := s
    obtain ⟨hl, h⟩ := h
    have f1 := AutoSeq1.idx_int
    have c1 : (items.isEmpty || (1 : Int) == 1) = true := by rw [Bool.or_eq_true]; exact .inr rfl
    wp_walk using wpAny_loadPart' hl
    repeat (first
      | (refine wpAny_ite_false (decide_eq_false (by decide)) ?_; wp_walk using wpAny_loadPart' hl)
      | (refine wpAny_ite_true (decide_eq_true c1) ?_; wp_walk using wpAny_loadPart' hl))
    exact ⟨_, rfl, h⟩
theorem tuple_mul0 (l : Addr) (items : Array Value) (n : Nat) (dd : Option Addr) (sl : Array (Option Value)) (u : Tok) (hi : items.isEmpty = false) :
    Meets (Builtin.«tuple.__mul__» ⟨[.ref l, .int 0 u], []⟩) (fun _ R s => s.heap.get? l = some { cls := .type "tuple", dict := dd, data := .seq items n, slots := sl } ∧
      R (.ok (.ret (Value.ref s.heap.objs.size))) { s with heap := s.heap.push { cls := Value.type "tuple", data := Data.seq #[] }, toks := s.toks }) :=
  .of_wp fun prog w A R s h => by
    obtain ⟨hp, g, d, tk, os⟩ := s
    obtain ⟨hl, h⟩ := h
    have f1 := AutoSeq1.idx_int
    have c1 : (items.isEmpty || (0 : Int) == 1) = false := by rw [hi]; rfl
    wp_walk using wpAny_loadPart' hl
    repeat (first
      | (refine wpAny_ite_false (decide_eq_false (by decide)) ?_; wp_walk using wpAny_loadPart' hl)
      | (refine wpAny_ite_false (decide_eq_false (by rw [c1]; exact Bool.false_ne_true)) ?_; wp_walk using wpAny_loadPart' hl)
      | (refine wpAny_ite_true (decide_eq_true (by rw [hi]; rfl)) ?_; wp_walk using wpAny_loadPart' hl))
    exact ⟨_, rfl, h⟩
def rMulT (K : PySem.W.Frag) : R2 := fun x y H Q => ∃ l k xs, x = .ref l ∧ y = .int k ∧ SqT K H l xs ∧ xs ≠ [] ∧ 0 ≤ k ∧ k ≤ 1000 ∧ xs.length ≤ 1000 ∧ (k = 1 → Q (.ref l) H) ∧ (k ≠ 1 → ∀ p, H p = none → Q (.ref p) (upd H p (.tup (List.replicate k.toNat xs).flatten)))
theorem op_mulT {X : Cx} : OpR X (binaryOp .Mult) (rMulT X.K) := by
  intro pins s σ H x y v u Q I rx ry h
  obtain ⟨l, k, xs, rfl, rfl, hT, hne, h1, h2, hz, q1, q⟩ := h
  by_cases hk : 2 ≤ k
  · exact op_repT pins s σ H _ _ v u Q I rx ry ⟨l, k, xs, rfl, rfl, hT, hne, hk, h2, hz, q (by omega)⟩
  cases rx
  obtain ⟨t, rfl⟩ := ry
  obtain ⟨its, r, ⟨⟨cls, dd, data, sl⟩, ho, hc, n, hd⟩, hs⟩ := I.tuple hT
  simp only at hc hd
  subst hc hd
  have hle : its.length = xs.length := r.length.symm
  have hn : its ≠ [] := fun e => hne (by
    rw [e] at hle
    exact List.eq_nil_of_length_eq_zero hle.symm)
  have hi : its.toArray.isEmpty = false := by
    cases its with
    | nil => exact absurd rfl hn
    | cons a b => rfl
  rcases (by omega : k = 0 ∨ k = 1) with rfl | rfl
  · refine wpAny_binaryOp_repeat_ref (T := "tuple") (U := "int") (by decide) ⟨_, ho, rfl⟩ (fun s' => typeIs_int s' 0 t) noFill_tuple_mul F.fills_int_mul F.slot_int_rmul repeat_tuple F.slot_int_index.lookup
      (call_meets F.slot_int_rmul (typeIs_int s 0 t) F.entry_int_rmul (F.args_int_rmul_2 _ _) (int_rmul_tuple 0 t l its.toArray n dd sl)
        ⟨ho, rfl, ⟨_, ho, rfl⟩, call_meets F.slot_tuple_mul ⟨_, ho, rfl⟩ F.entry_tuple_mul (F.args_tuple_mul_2 _ _) (tuple_mul0 l its.toArray n dd sl t hi) ⟨ho, ?_⟩⟩)
    refine ⟨.ref s.heap.objs.size, _, I.laid (t' := s.toks) (o := .tup []) (fun b ob q => Heap.get?_push_of_some _ q) (Nat.le_refl _) ?_, rfl, q (by omega) _ (I.hok.fresh (Nat.le_refl _))⟩
    exact ⟨Nat.zero_le _, [], .nil, IsTup.new _ _⟩
  · refine wpAny_binaryOp_repeat_ref (T := "tuple") (U := "int") (by decide) ⟨_, ho, rfl⟩ (fun s' => typeIs_int s' 1 t) noFill_tuple_mul F.fills_int_mul F.slot_int_rmul repeat_tuple F.slot_int_index.lookup
      (call_meets F.slot_int_rmul (typeIs_int s 1 t) F.entry_int_rmul (F.args_int_rmul_2 _ _) (int_rmul_tuple 1 t l its.toArray n dd sl)
        ⟨ho, rfl, ⟨_, ho, rfl⟩, call_meets F.slot_tuple_mul ⟨_, ho, rfl⟩ F.entry_tuple_mul (F.args_tuple_mul_2 _ _) (tuple_mul1 l its.toArray n dd sl t) ⟨ho, ?_⟩⟩)
    exact ⟨.ref l, H, I, rfl, q1 rfl⟩
end
section
variable {X : Cx} {K : PySem.W.Frag} {H H' : Hp} {σ : L2.St}
theorem op_mulD : DOpR X (binaryOp .Mult) mulD := fun pins s σ H x y v u Q I rx ry ⟨dx, dy, g, Qd, r1, r2, rg, q, k⟩ => by
  cases r1 with
  | int i => cases r2 with
    | int j => exact op_mul pins s σ H _ _ v u Q I rx ry ⟨i, j, rfl, rfl, q.1, rg.fin k (.int _) q.2⟩
    | _ => exact q.elim
  | str a => cases r2 with
    | int j =>
      obtain ⟨b1, b2, hz, q⟩ := q
      obtain ⟨t, rfl⟩ := rx
      obtain ⟨t2, rfl⟩ := ry
      refine PySem.SB.mul ⟨by simp; omega, fun h1 _ => ?_, fun h1 _ => ?_⟩ fun t' tk => ?_
      · have hl : (a.length : Int) ≤ 16777216 := by
          have : a.length * 1 ≤ a.length * j.toNat := Nat.mul_le_mul_left _ (by omega)
          omega
        have : 92233720368547 ≤ ((2 : Int) ^ 63 - 1) / j := by
          rw [Int.le_ediv_iff_mul_le (by omega)]
          omega
        omega
      · unfold Builtin.Str.tooLong
        rw [sizeLine_eq]
        simp; omega
      · rw [mul_txt b1]
        exact ⟨.str _, H, I.tok _, ⟨_, rfl⟩, rg.fin k (.str _) q⟩
    | _ => exact q.elim
  | ref p => cases r2 with
    | int j =>
      obtain ⟨ds, h1, b1, b2, hz, q⟩ := q
      obtain ⟨xs, e1, l1⟩ := rg.lst h1
      refine op_rep pins s σ H _ _ v u Q I rx ry ⟨p, j, xs, rfl, rfl, e1, b1, b2, by rw [l1.length]; exact hz, fun n hn => rg.finL k hn (l1.repl _) q⟩
    | _ => exact q.elim
  | tup hT l1 => cases r2 with
    | int j =>
      obtain ⟨hne, b1, b2, hz, q⟩ := q
      refine op_mulT pins s σ H _ _ v u Q I rx ry ⟨_, j, _, rfl, rfl, tq hT, fun z => hne (l1.inj1 z), b1, b2, by rw [l1.length]; exact hz, fun e => ?_, fun _ n hn => rg.finU k hn (l1.repl _) q⟩
      subst e
      rw [show (1 : Int).toNat = 1 from rfl, List.replicate_succ, List.replicate_zero, List.flatten_cons, List.flatten_nil, List.append_nil] at q
      exact rg.fin k (.tup hT l1) q
    | _ => exact q.elim
  | _ => cases r2 <;> exact q.elim
end
end DL
namespace DL
open PySem L2
mutual
def pd : D → PyData
  | .non => .none
  | .bl b => .bool b
  | .int i => .int i
  | .str x => .str x
  | .tup ds => .tuple (pds ds)
  | .ref _ => .none
  | .klst _ => .none
def pds : List D → List PyData
  | [] => []
  | d :: ds => pd d :: pds ds
end
mutual
def pure? : D → Bool
  | .tup ds => pures ds
  | .str x => PyData.strOk x
  | .ref _ => false
  | .klst _ => false
  | _ => true
def pures : List D → Bool
  | [] => true
  | d :: ds => pure? d && pures ds
end
mutual
def dep : D → Nat
  | .tup ds => deps ds + 1
  | _ => 0
def deps : List D → Nat
  | [] => 0
  | d :: ds => max (dep d) (deps ds)
end
mutual
theorem pd_lay : ∀ d : D, pure? d = true → (pd d).canLay0 = true
  | .non, _ => by simp [pd, PyData.canLay0]
  | .bl b, _ => by simp [pd, PyData.canLay0]
  | .int i, _ => by simp [pd, PyData.canLay0]
  | .str x, h => by
    simp only [pd, PyData.canLay0]
    exact h
  | .ref a, _ => by simp [pd, PyData.canLay0]
  | .klst a, _ => by simp [pd, PyData.canLay0]
  | .tup ds, h => by
    simp only [pd, PyData.canLay0]
    exact pds_lay ds h
theorem pds_lay : ∀ ds : List D, pures ds = true → PyData.canLayAll0 (pds ds) = true
  | [], _ => by simp [pds, PyData.canLayAll0]
  | d :: ds, h => by
    simp only [pures, Bool.and_eq_true] at h
    simp [pds, PyData.canLayAll0, pd_lay d h.1, pds_lay ds h.2]
end
mutual
theorem pd_dep : ∀ d : D, (pd d).depth ≤ dep d
  | .non => by simp [pd, PyData.depth]
  | .bl b => by simp [pd, PyData.depth]
  | .int i => by simp [pd, PyData.depth]
  | .str x => by simp [pd, PyData.depth]
  | .ref a => by simp [pd, PyData.depth]
  | .klst a => by simp [pd, PyData.depth]
  | .tup ds => by
    have h := pds_dep ds
    simp only [pd, PyData.depth, dep]
    omega
theorem pds_dep : ∀ ds : List D, PyData.depthAll (pds ds) ≤ deps ds
  | [] => by simp [pds, PyData.depthAll]
  | d :: ds => by
    have h1 := pd_dep d
    have h2 := pds_dep ds
    simp only [pds, PyData.depthAll, deps]
    omega
end
/-- pure and not deep -/
def fine (d : D) : Prop := pure? d = true ∧ dep d ≤ 60
theorem fine_shaped {d : D} (h : fine d) : SeqAt.shaped (pd d) = true := by
  unfold SeqAt.shaped
  rw [pd_lay d h.1, Bool.true_and]
  have := pd_dep d
  exact decide_eq_true (Nat.le_trans this (Nat.le_trans h.2 (by decide)))
theorem fines_shaped {ds : List D} (h1 : pures ds = true) (h2 : deps ds ≤ 60) : SeqAt.shaped (.list (pds ds)) = true := by
  unfold SeqAt.shaped
  have := pds_dep ds
  have e : (PyData.list (pds ds)).canLay0 = true := by simp [PyData.canLay0, pds_lay ds h1]
  rw [e, Bool.true_and]
  refine decide_eq_true ?_
  simp only [PyData.depth]
  omega
section
variable {K : PySem.W.Frag} {H : Hp}
mutual
theorem RepD.dp : ∀ {v : V} {d : D}, RepD K H v d → pure? d = true → Dp K H v (pd d)
  | _, _, .non, _ => .non
  | _, _, .bl b, _ => .bl b
  | _, _, .int i, _ => .int i
  | _, _, .str x, _ => .str x
  | _, _, .ref a, h => by cases h
  | _, _, .kl _ _, h => by cases h
  | _, _, .tup h r, p => .tup (tq h) (RepL.dps r p)
theorem RepL.dps : ∀ {vs : List V} {ds : List D}, RepL K H vs ds → pures ds = true → DpAll K H vs (pds ds)
  | _, _, .nil, _ => .nil
  | _, _, .cons h r, p => by
    simp only [pures, Bool.and_eq_true] at p
    exact .cons (RepD.dp h p.1) (RepL.dps r p.2)
end
end
def eqP (a b : D) : Bool := PyData.eqv (pd a) (pd b)
section
variable {X : Cx} {K : PySem.W.Frag} {H H' : Hp} {σ : L2.St}
variable {a b c : Expr} {ta tb tc te : DTE} {pos : Pos}
def cmpD (f : Int → Int → Bool) (s : Str → Str → Bool) (t : PyData → PyData → Bool) : DR2 := fun x y g Q => match x, y with
  | .int i, .int j => Q (.bl (f i j)) g
  | .str i, .str j => Q (.bl (s i j)) g
  | .tup a, .tup b => pures a = true ∧ pures b = true ∧ deps a ≤ 60 ∧ PySem.W.alike (pd (.tup a)) (pd (.tup b)) = true ∧ Q (.bl (t (pd (.tup a)) (pd (.tup b)))) g
  | _, _ => False
theorem op_cmpD {f : Int → Int → Bool} {s : Str → Str → Bool} {t : PyData → PyData → Bool} {op : CmpOp} (hu : X.A.units + 64 < cLine) (h1 : OpR X (compareOp op) (rI0 fun i j => .bl (f i j))) (h2 : OpR X (compareOp op) (fun x y H Q => ∃ i j, x = .str i ∧ y = .str j ∧ Q (.bl (s i j)) H))
    (h3 : ∀ {sh : Shared} {v u : Value} {da db : PyData} {as bs : List Addr} {Q : Value → Shared → Prop} {E : Value → Shared → Prop}, Reads sh.heap v da as → Reads sh.heap u db bs → PySem.W.alike da db = true → da ≠ .none → X.A.units + min da.depth db.depth < cLine → Q (.bool (t da db)) sh → wpAny (model X.prog X.w) X.A (compareOp op v u) Q E sh) :
    DOpR X (compareOp op) (cmpD f s t) := fun pins s σ H x y v u Q I rx ry ⟨dx, dy, g, Qd, r1, r2, rg, q, k⟩ => by
  cases r1 with
  | int i => cases r2 with
    | int j => exact h1 pins s σ H _ _ v u Q I rx ry ⟨i, j, rfl, rfl, rg.fin k (.bl _) q⟩
    | _ => exact q.elim
  | str i => cases r2 with
    | str j => exact h2 pins s σ H _ _ v u Q I rx ry ⟨i, j, rfl, rfl, rg.fin k (.bl _) q⟩
    | _ => exact q.elim
  | @tup p1 xs a hs1 l1 => cases r2 with
    | @tup p2 ys b hs2 l2 =>
      obtain ⟨h4, h5, h6, h7, q⟩ := q
      obtain ⟨as, ra⟩ := Dp.reads I (pd (.tup a)) (.ref p1) v ((RepD.tup hs1 l1).dp h4) rx
      obtain ⟨bs, rb⟩ := Dp.reads I (pd (.tup b)) (.ref p2) u ((RepD.tup hs2 l2).dp h5) ry
      refine h3 ra rb h7 (fun z => by rw [pd] at z; cases z) ?_ ⟨.bl _, H, I, rfl, rg.fin k (.bl _) q⟩
      have e1 := pd_dep (.tup a)
      rw [dep] at e1
      have e2 := Nat.min_le_left (pd (.tup a)).depth (pd (.tup b)).depth
      omega
    | _ => exact q.elim
  | _ => cases r2 <;> exact q.elim
abbrev ltD : DR2 := cmpD (fun i j => decide (i < j)) (fun i j => decide (i.cps.toList < j.cps.toList)) fun a b => PySem.W.dataLt a b
abbrev leD : DR2 := cmpD (fun i j => decide (i ≤ j)) (fun i j => !decide (j.cps.toList < i.cps.toList)) fun a b => !PySem.W.dataLt b a
abbrev gtD : DR2 := cmpD (fun i j => decide (j < i)) (fun i j => decide (j.cps.toList < i.cps.toList)) fun a b => PySem.W.dataLt b a
abbrev geD : DR2 := cmpD (fun i j => decide (j ≤ i)) (fun i j => !decide (i.cps.toList < j.cps.toList)) fun a b => !PySem.W.dataLt a b
theorem op_ltD (hu : X.A.units + 64 < cLine) : DOpR X (compareOp .Lt) ltD := op_cmpD hu op_lt op_lt_str fun a b c d e f => PySem.W.lt_data a b c d e f
theorem op_leD (hu : X.A.units + 64 < cLine) : DOpR X (compareOp .LtE) leD := op_cmpD hu op_le op_le_str fun a b c d e f => PySem.W.le_data a b c d e f
theorem op_gtD (hu : X.A.units + 64 < cLine) : DOpR X (compareOp .Gt) gtD := op_cmpD hu op_gt op_gt_str fun a b c d e f => PySem.W.gt_data a b c d e f
theorem op_geD (hu : X.A.units + 64 < cLine) : DOpR X (compareOp .GtE) geD := op_cmpD hu op_ge op_ge_str fun a b c d e f => PySem.W.ge_data a b c d e f
/-- ==: scalars of one kind at once, else data -/
def eqD : DR2 := fun x y g Q => match x, y with
  | .int i, .int j => Q (.bl (decide (i = j))) g
  | .str i, .str j => Q (.bl (decide (i = j))) g
  | .bl i, .bl j => Q (.bl (decide (i = j))) g
  | .ref p, .ref q => ∃ xs ys, rdL g p xs ∧ rdL g q ys ∧ pures xs = true ∧ pures ys = true ∧ deps xs ≤ 60 ∧ deps ys ≤ 60 ∧ Q (.bl (PyData.eqv (.list (pds xs)) (.list (pds ys)))) g
  | x, y => fine x ∧ fine y ∧ Q (.bl (eqP x y)) g
def notV (Q : DK) : DK := fun x g => match x with | .bl b => Q (.bl (!b)) g | _ => False
def neD : DR2 := fun x y g Q => eqD x y g (notV Q)
theorem RepG.dpl {g : GS} (rg : RepG K H g) {p : Addr} {xs : List D} (h : rdL g p xs) (hp : pures xs = true) : Dp K H (.ref p) (.list (pds xs)) := by
  obtain ⟨vs, s, l⟩ := rg.sq h
  exact .lst s (l.dps hp)
theorem op_eqDD (hu : X.A.units + 64 < cLine) : DOpR X (compareOp .Eq) eqD := fun pins s σ H x y v u Q I rx ry ⟨dx, dy, g, Qd, r1, r2, rg, q, k⟩ => by
  have gen : (fine dx ∧ fine dy ∧ Qd (.bl (eqP dx dy)) g) → wpAny (model X.prog X.w) X.A (compareOp .Eq v u) (EP X pins σ Q) X.xe s := fun q =>
    op_eqD hu pins s σ H x y v u Q I rx ry ⟨pd dx, pd dy, r1.dp q.1.1, r2.dp q.2.1.1, fine_shaped q.1, fine_shaped q.2.1, rg.fin k (.bl _) q.2.2⟩
  cases r1 with
  | int i => cases r2 with
    | int j => exact op_eq pins s σ H _ _ v u Q I rx ry ⟨rfl, by rw [dec_int, Bool.beq_eq_decide_eq]; exact rg.fin k (.bl _) q⟩
    | _ => exact gen q
  | str i => cases r2 with
    | str j => exact op_eq pins s σ H _ _ v u Q I rx ry ⟨rfl, by rw [dec_str, Bool.beq_eq_decide_eq]; exact rg.fin k (.bl _) q⟩
    | _ => exact gen q
  | bl i => cases r2 with
    | bl j => exact op_eq pins s σ H _ _ v u Q I rx ry ⟨rfl, by rw [dec_bl, Bool.beq_eq_decide_eq]; exact rg.fin k (.bl _) q⟩
    | _ => exact gen q
  | ref i => cases r2 with
    | ref j =>
      obtain ⟨xs, ys, h1, h2, p1, p2, d1, d2, q⟩ := q
      exact op_eqD hu pins s σ H _ _ v u Q I rx ry ⟨_, _, rg.dpl h1 p1, rg.dpl h2 p2, fines_shaped p1 d1, fines_shaped p2 d2, rg.fin k (.bl _) q⟩
    | _ => exact gen q
  | _ => cases r2 <;> exact gen q
theorem op_neDD (hu : X.A.units + 64 < cLine) : DOpR X (compareOp .NotEq) neD := fun pins s σ H x y v u Q I rx ry ⟨dx, dy, g, Qd, r1, r2, rg, q, k⟩ => by
  have gen : (fine dx ∧ fine dy ∧ Qd (.bl (!eqP dx dy)) g) → wpAny (model X.prog X.w) X.A (compareOp .NotEq v u) (EP X pins σ Q) X.xe s := fun q =>
    op_neD hu pins s σ H x y v u Q I rx ry ⟨pd dx, pd dy, r1.dp q.1.1, r2.dp q.2.1.1, fine_shaped q.1, fine_shaped q.2.1, rg.fin k (.bl _) q.2.2⟩
  cases r1 with
  | int i => cases r2 with
    | int j => exact op_ne pins s σ H _ _ v u Q I rx ry ⟨rfl, by rw [dec_int, Bool.beq_eq_decide_eq]; exact rg.fin k (.bl _) q⟩
    | _ => exact gen q
  | str i => cases r2 with
    | str j => exact op_ne pins s σ H _ _ v u Q I rx ry ⟨rfl, by rw [dec_str, Bool.beq_eq_decide_eq]; exact rg.fin k (.bl _) q⟩
    | _ => exact gen q
  | bl i => cases r2 with
    | bl j => exact op_ne pins s σ H _ _ v u Q I rx ry ⟨rfl, by rw [dec_bl, Bool.beq_eq_decide_eq]; exact rg.fin k (.bl _) q⟩
    | _ => exact gen q
  | ref i => cases r2 with
    | ref j =>
      obtain ⟨xs, ys, h1, h2, p1, p2, d1, d2, q⟩ := q
      exact op_neD hu pins s σ H _ _ v u Q I rx ry ⟨_, _, rg.dpl h1 p1, rg.dpl h2 p2, fines_shaped p1 d1, fines_shaped p2 d2, rg.fin k (.bl _) q⟩
    | _ => exact gen q
  | _ => cases r2 <;> exact gen q
/-- is None, is not None -/
def isND : DR2 := fun x y g Q => y = .non ∧ Q (.bl (match x with | .non => true | _ => false)) g
def notND : DR2 := fun x y g Q => y = .non ∧ Q (.bl (match x with | .non => false | _ => true)) g
theorem op_isND : DOpR X (compareOp .Is) isND := fun pins s σ H x y v u Q I rx ry ⟨dx, dy, g, Qd, r1, r2, rg, q, k⟩ => by
  obtain ⟨rfl, q⟩ := q
  cases r2
  refine op_isN pins s σ H _ _ v u Q I rx ry ⟨rfl, ?_⟩
  cases r1 <;> exact rg.fin k (.bl _) q
/-- in -/
def inStr (a b : Str) : Bool := !(Builtin.Str.occurrences b a 0 b.length 1).isEmpty
theorem inStr_one (c : Nat) (z : Str) : inStr ⟨#[c]⟩ z = decide (c ∈ z.cps.toList) := PySem.StrLaws.found_one z c
def scalD : D → Bool
  | .non => true
  | .bl _ => true
  | .int _ => true
  | .str _ => true
  | _ => false
def inD : DR2 := fun x y g Q => match x, y with
  | .str a, .str b => Q (.bl (inStr a b)) g
  | x, .ref p => ∃ ds, rdL g p ds ∧ ((scalD x = true ∧ ds.all scalD = true) ∨ (fine x ∧ pures ds = true ∧ deps ds ≤ 60)) ∧ Q (.bl (ds.any fun z => eqP z x)) g
  | x, .tup ds => ((scalD x = true ∧ ds.all scalD = true) ∨ (fine x ∧ pures ds = true ∧ deps ds ≤ 60)) ∧ Q (.bl (ds.any fun z => eqP z x)) g
  | _, _ => False
def notInD : DR2 := fun x y g Q => inD x y g (notV Q)
theorem any_pds (f : PyData → Bool) : ∀ ds : List D, (pds ds).any f = ds.any fun z => f (pd z)
  | [] => rfl
  | d :: ds => by rw [pds, List.any_cons, List.any_cons, any_pds f ds]
theorem eqV_eqP {v w : V} {d e : D} (r : RepD K H v d) (r' : RepD K H w e) (h : scalD d = true) (h' : scalD e = true) : flatV v = true ∧ eqV v w = eqP d e := by
  cases r <;> first | cases h | skip
  all_goals (cases r' <;> first | cases h' | skip)
  all_goals (refine ⟨rfl, ?_⟩; simp [eqV, eqP, pd, PyData.eqv])
theorem inV_eqP {w : V} {e : D} (r' : RepD K H w e) (h' : scalD e = true) : ∀ {vs : List V} {ds : List D}, RepL K H vs ds → ds.all scalD = true → vs.all flatV = true ∧ inV w vs = ds.any fun z => eqP z e
  | _, _, .nil, _ => ⟨rfl, rfl⟩
  | _, _, .cons (v := v) (vs := vs) h r, p => by
    rw [List.all_cons, Bool.and_eq_true] at p
    obtain ⟨f, e1⟩ := eqV_eqP h r' p.1 h'
    obtain ⟨f2, e2⟩ := inV_eqP r' h' r p.2
    refine ⟨by rw [List.all_cons, f, f2]; rfl, ?_⟩
    rw [List.any_cons, ← e2, ← e1]
    rfl
theorem op_inDD (hu : X.A.units + 65 < cLine) : DOpR X (compareOp .In) inD := fun pins s σ H x y v u Q I rx ry ⟨dx, dy, g, Qd, r1, r2, rg, q, k⟩ => by
  cases r2 with
  | str b => cases r1 with
    | str a => exact op_in_str pins s σ H _ _ v u Q I rx ry ⟨a, b, rfl, rfl, rg.fin k (.bl _) q⟩
    | _ => exact q.elim
  | ref p =>
    have q' : ∃ ds, rdL g p ds ∧ ((scalD dx = true ∧ ds.all scalD = true) ∨ (fine dx ∧ pures ds = true ∧ deps ds ≤ 60)) ∧ Qd (.bl (ds.any fun z => eqP z dx)) g := by cases r1 <;> exact q
    obtain ⟨ds, h, ⟨h1, h2⟩ | ⟨f, hp, hd⟩, q⟩ := q'
    · obtain ⟨xs, hs, l⟩ := rg.sq h
      obtain ⟨f, e⟩ := inV_eqP r1 h1 l h2
      refine op_in_seq pins s σ H _ _ v u Q I rx ry ⟨p, xs, rfl, .inl hs, (eqV_eqP r1 r1 h1 h1).1, f, ?_⟩
      rw [e]
      exact rg.fin k (.bl _) q
    · refine op_inD hu pins s σ H _ _ v u Q I rx ry ⟨pd dx, pds ds, r1.dp f.1, rg.dpl h hp, fine_shaped f, fines_shaped hp hd, ?_⟩
      rw [any_pds]
      exact rg.fin k (.bl _) q
  | @tup p xs ds hs l =>
    have q' : ((scalD dx = true ∧ ds.all scalD = true) ∨ (fine dx ∧ pures ds = true ∧ deps ds ≤ 60)) ∧ Qd (.bl (ds.any fun z => eqP z dx)) g := by cases r1 <;> exact q
    obtain ⟨⟨h1, h2⟩ | ⟨f, hp, hd⟩, q⟩ := q'
    · obtain ⟨f, e⟩ := inV_eqP r1 h1 l h2
      refine op_in_seq pins s σ H _ _ v u Q I rx ry ⟨p, xs, rfl, .inr (tq hs), (eqV_eqP r1 r1 h1 h1).1, f, ?_⟩
      rw [e]
      exact rg.fin k (.bl _) q
    · obtain ⟨as, ra⟩ := Dp.reads I (pd dx) _ v (r1.dp f.1) rx
      obtain ⟨bs, rb⟩ := Dp.reads I (pd (.tup ds)) (.ref p) u ((RepD.tup hs l).dp hp) ry
      refine SeqAt.in_tuple_reads rb ra (SeqAt.canLay_of_shaped (fines_shaped hp hd)) (SeqAt.canLay_of_shaped (fine_shaped f)) (PyProof.Rows.room_in_shaped (fine_shaped f) hu) ⟨.bl _, H, I, rfl, ?_⟩
      rw [any_pds]
      exact rg.fin k (.bl _) q
  | _ => cases r1 <;> exact q.elim
theorem op_notInDD (hu : X.A.units + 65 < cLine) : DOpR X (compareOp .NotIn) notInD := fun pins s σ H x y v u Q I rx ry ⟨dx, dy, g, Qd, r1, r2, rg, q, k⟩ => by
  cases r2 with
  | str b => cases r1 with
    | str a => exact op_notin_str pins s σ H _ _ v u Q I rx ry ⟨a, b, rfl, rfl, rg.fin k (.bl _) q⟩
    | _ => exact q.elim
  | ref p =>
    have q' : ∃ ds, rdL g p ds ∧ ((scalD dx = true ∧ ds.all scalD = true) ∨ (fine dx ∧ pures ds = true ∧ deps ds ≤ 60)) ∧ notV Qd (.bl (ds.any fun z => eqP z dx)) g := by cases r1 <;> exact q
    obtain ⟨ds, h, ⟨h1, h2⟩ | ⟨f, hp, hd⟩, q⟩ := q'
    · obtain ⟨xs, hs, l⟩ := rg.sq h
      obtain ⟨f, e⟩ := inV_eqP r1 h1 l h2
      refine op_notIn_seq pins s σ H _ _ v u Q I rx ry ⟨p, xs, rfl, .inl hs, (eqV_eqP r1 r1 h1 h1).1, f, ?_⟩
      rw [e]
      exact rg.fin k (.bl _) q
    · refine op_notInD hu pins s σ H _ _ v u Q I rx ry ⟨pd dx, pds ds, r1.dp f.1, rg.dpl h hp, fine_shaped f, fines_shaped hp hd, ?_⟩
      rw [any_pds]
      exact rg.fin k (.bl _) q
  | @tup p xs ds hs l =>
    have q' : ((scalD dx = true ∧ ds.all scalD = true) ∨ (fine dx ∧ pures ds = true ∧ deps ds ≤ 60)) ∧ notV Qd (.bl (ds.any fun z => eqP z dx)) g := by cases r1 <;> exact q
    obtain ⟨⟨h1, h2⟩ | ⟨f, hp, hd⟩, q⟩ := q'
    · obtain ⟨f, e⟩ := inV_eqP r1 h1 l h2
      refine op_notIn_seq pins s σ H _ _ v u Q I rx ry ⟨p, xs, rfl, .inr (tq hs), (eqV_eqP r1 r1 h1 h1).1, f, ?_⟩
      rw [e]
      exact rg.fin k (.bl _) q
    · obtain ⟨as, ra⟩ := Dp.reads I (pd dx) _ v (r1.dp f.1) rx
      obtain ⟨bs, rb⟩ := Dp.reads I (pd (.tup ds)) (.ref p) u ((RepD.tup hs l).dp hp) ry
      refine SeqAt.notIn_tuple_reads rb ra (SeqAt.canLay_of_shaped (fines_shaped hp hd)) (SeqAt.canLay_of_shaped (fine_shaped f)) (PyProof.Rows.room_in_shaped (fine_shaped f) hu) ⟨.bl _, H, I, rfl, ?_⟩
      rw [any_pds]
      exact rg.fin k (.bl _) q
  | _ => cases r1 <;> exact q.elim
def ixD : DR2 := fun x y g Q => match y with
  | .int i => (match x with
    | .tup ds => ∃ d, atI ds i = some d ∧ Q d g
    | .str z => z.length ≤ sizeLine ∧ ∃ c, atI z.cps.toList i = some c ∧ Q (.str ⟨#[c]⟩) g
    | .ref p => ∃ ds d, rdL g p ds ∧ atI ds i = some d ∧ Q d g
    | .klst ds => ∃ d, atI ds i = some d ∧ Q d g
    | _ => False)
  | _ => False
theorem RepL.at {vs : List V} {ds : List D} (r : RepL K H vs ds) {i : Int} {d : D} (h : atI ds i = some d) : ∃ v, atI vs i = some v ∧ RepD K H v d := by
  unfold atI at h ⊢
  rw [r.length]
  cases q : ixN ds.length i with
  | none => rw [q] at h; cases h
  | some j =>
    rw [q] at h
    obtain ⟨v, e, r'⟩ := r.get (i := j) (by simpa using h)
    exact ⟨v, by simpa using e, r'⟩
theorem de_ix (ha : DE X a ta) (hb : DE X b tb) (hs : PlainIx b) : DE X (.Subscript a b pos) (dOp ixD ta tb) := by
  refine ⟨peW (pe_ix (r := lR2 X.K ixD) ?_ ha.pe hb.pe hs) fun _ _ _ h => lop h⟩
  intro value slice pins s σ H x y v u Q I rx ry ⟨dx, dy, g, Qd, r1, r2, rg, q, k⟩
  cases r2 with
  | int i => cases r1 with
    | @tup p xs ds hs l =>
      obtain ⟨d, e, q⟩ := q
      obtain ⟨w, e', r⟩ := l.at e
      exact ix_tup value slice pins s σ H _ _ v u Q I rx ry ⟨p, xs, i, w, rfl, rfl, tq hs, e', rg.fin k r q⟩
    | str z =>
      obtain ⟨hz, c, e, q⟩ := q
      exact ix_str value slice pins s σ H _ _ v u Q I rx ry ⟨z, i, c, rfl, rfl, hz, e, rg.fin k (.str _) q⟩
    | ref p =>
      obtain ⟨ds, d, h, e, q⟩ := q
      obtain ⟨xs, hs, l⟩ := rg.sq h
      obtain ⟨w, e', r⟩ := l.at e
      exact ix_list value slice pins s σ H _ _ v u Q I rx ry ⟨p, xs, i, w, rfl, rfl, hs, e', rg.fin k r q⟩
    | @kl p xs ds hs l =>
      obtain ⟨d, e, q⟩ := q
      obtain ⟨w, e', r⟩ := l.at e
      exact ix_list value slice pins s σ H _ _ v u Q I rx ry ⟨p, xs, i, w, rfl, rfl, hs.sq, e', rg.fin k r q⟩
    | _ => exact q.elim
  | _ => exact q.elim
abbrev DTO := EV → GS → (Option Int → GS → Prop) → Prop
structure DO (X : Cx) (e : Option Expr) (T : DTO) : Prop where
  po : PO X e (fun σ H Q => ∃ e g Qd, RepE X.K H σ e ∧ RepG X.K H g ∧ T e g Qd ∧ ∀ o H' g', Ext H H' → RepG X.K H' g' → Qd o g' → Q o H')
def dNo : DTO := fun _ g Q => Q none g
def dPart (t : DTE) : DTO := fun e g Q => t e g fun x g1 => ∃ i, x = .int i ∧ Q (some i) g1
theorem poW {e : Option Expr} {t t' : TO} (h : PO X e t) (w : ∀ σ H Q, t' σ H Q → t σ H Q) : PO X e t' := ⟨fun pins s σ H Q I q => h.run pins s σ H Q I (w σ H Q q)⟩
theorem do_no : DO X none dNo := ⟨poW po_none fun σ H Q ⟨e, g, Qd, re, rg, q, k⟩ => k none H g (.refl H) rg q⟩
theorem do_some (h : DE X a ta) : DO X (some a) (dPart ta) := ⟨poW (po_some h.pe) fun σ H Q ⟨e, g, Qd, re, rg, q, k⟩ => ⟨e, g, _, re, rg, q, fun v d H1 g1 x1 rg1 r ⟨i, e1, q1⟩ => by
  subst e1
  cases r
  exact ⟨i, rfl, k _ _ _ x1 rg1 q1⟩⟩⟩
def cutD (xs : List D) (lo hi : Option Int) : List D := (xs.drop (HT.sIx xs.length 0 lo)).take (HT.sIx xs.length xs.length hi - HT.sIx xs.length 0 lo)
def slD : D → Option Int → Option Int → GS → DK → Prop := fun x lo hi g Q => match x with
  | .tup ds => Q (.tup (cutD ds lo hi)) g
  | .str z => z.length ≤ sizeLine ∧ Q (.str (cutS z lo hi)) g
  | .ref p => ∃ ds, rdL g p ds ∧ ∀ r, g r = none → Q (.ref r) (gup g r (.lst (cutD ds lo hi)))
  | _ => False
def dSl (t : DTE) (l h : DTO) : DTE := fun e g Q => t e g fun x g1 => l e g1 fun lo g2 => h e g2 fun hi g3 => slD x lo hi g3 Q
theorem RepL.cut {vs : List V} {ds : List D} (r : RepL K H vs ds) (lo hi : Option Int) : RepL K H (cutV vs lo hi) (cutD ds lo hi) := by
  unfold cutV cutD
  rw [r.length]
  exact (r.drop _).take _
theorem cutD_whole {xs : List D} {lo hi : Option Int} (h : HT.sIx xs.length 0 lo = 0 ∧ HT.sIx xs.length xs.length hi = xs.length) : cutD xs lo hi = xs := by
  unfold cutD
  rw [h.1, h.2]
  simp
theorem de_sl {lo hi : Option Expr} {p2 : Pos} {tl th : DTO} (ha : DE X a ta) (hl : DO X lo tl) (hh : DO X hi th) : DE X (.Subscript a (.Slice lo hi none p2) pos) (dSl ta tl th) := by
  refine ⟨peW (pe_slice (r := fun x lo hi H Q => ∃ dx g Qd, RepD X.K H x dx ∧ RepG X.K H g ∧ slD dx lo hi g Qd ∧ KD X.K H Qd Q) ?_ ha.pe hl.po hh.po) fun σ H Q ⟨e, g, Qd, re, rg, q, k⟩ => ?_⟩
  · intro pins s σ H x v vl vu lo hi sl Q I rx hs pl pu ⟨dx, g, Qd, r1, rg, q, k⟩
    cases r1 with
    | @tup p xs ds hq l =>
      refine sl_tupA pins s σ H _ v vl vu lo hi sl Q I rx hs pl pu ⟨p, xs, rfl, tq hq, fun h => ?_, fun _ n hn => ?_⟩
      · rw [l.length] at h
        have q' : Qd (.tup (cutD ds lo hi)) g := q
        rw [cutD_whole h] at q'
        exact rg.fin k (.tup hq l) q'
      · exact rg.finU k hn (l.cut lo hi) q
    | str z => exact sl_str pins s σ H _ v vl vu lo hi sl Q I rx hs pl pu ⟨z, rfl, q.1, rg.fin k (.str _) q.2⟩
    | ref p =>
      obtain ⟨ds, h, q⟩ := q
      obtain ⟨xs, hq, l⟩ := rg.sq h
      exact sl_list pins s σ H _ v vl vu lo hi sl Q I rx hs pl pu ⟨p, xs, rfl, hq, fun n hn => rg.finL k hn (l.cut lo hi) q⟩
    | _ => exact q.elim
  · refine ⟨e, g, _, re, rg, q, fun x dx H1 g1 x1 rg1 r1 q1 => ?_⟩
    refine ⟨e, g1, _, re.mono x1, rg1, q1, fun l H2 g2 x2 rg2 q2 => ?_⟩
    refine ⟨e, g2, _, re.mono (x1.trans x2), rg2, q2, fun u H3 g3 x3 rg3 q3 => ?_⟩
    exact ⟨dx, g3, Qd, r1.mono (x2.trans x3), rg3, q3, k.mono ((x1.trans x2).trans x3)⟩
end
end DL
namespace DL
open PySem L2
section
variable {X : Cx} {K : PySem.W.Frag} {H H' : Hp} {σ : L2.St}
variable {a b c e : Expr} {es : List Expr} {ta tb tc te : DTE} {tA tB : DTT} {t : DTA} {pos : Pos}
def dNil : DTA := fun _ g Q => Q [] g
def dCons (ta : DTE) (tr : DTA) : DTA := fun e g Q => ta e g fun x g1 => tr e g1 fun xs g2 => Q (x :: xs) g2
theorem da_nil : DA X [] dNil := ⟨paW pa_nil fun σ H Q ⟨e, g, Qd, re, rg, q, k⟩ => k [] [] H g (.refl H) rg .nil q⟩
theorem da_cons (ha : DE X a ta) (hr : DA X es t) (hs : starEach (a :: es) X.env = (false, eval a X.env) :: starEach es X.env := by rfl) : DA X (a :: es) (dCons ta t) :=
  ⟨paW (pa_cons ha.pe hr.pa hs) fun σ H Q ⟨e, g, Qd, re, rg, q, k⟩ => ⟨e, g, _, re, rg, q, fun x d H1 g1 x1 rg1 r1 q1 => ⟨e, g1, _, re.mono x1, rg1, q1, fun vs ds H2 g2 x2 rg2 l2 q2 =>
    k _ _ H2 g2 (x1.trans x2) rg2 (.cons (r1.mono x2) l2) q2⟩⟩⟩
def dTup (t : DTA) : DTE := fun e g Q => t e g fun xs g1 => xs.length ≤ sizeLine ∧ Q (.tup xs) g1
def dLst (t : DTA) : DTE := fun e g Q => t e g fun xs g1 => xs.length ≤ sizeLine ∧ ∀ p, g1 p = none → Q (.ref p) (gup g1 p (.lst xs))
theorem de_tup {x1} (h : DA X es t) : DE X (.Tuple es x1 pos) (dTup t) := ⟨peW (pe_tup h.pa) fun σ H Q ⟨e, g, Qd, re, rg, q, k⟩ => ⟨e, g, _, re, rg, q, fun vs ds H1 g1 x1 rg1 l1 q1 =>
  ⟨by rw [l1.length]; exact q1.1, fun p hp => rg1.finU (k.mono x1) hp l1 q1.2⟩⟩⟩
theorem de_lst (h : DA X es t) : DE X (.List es pos) (dLst t) := ⟨peW (pe_lst h.pa) fun σ H Q ⟨e, g, Qd, re, rg, q, k⟩ => ⟨e, g, _, re, rg, q, fun vs ds H1 g1 x1 rg1 l1 q1 =>
  ⟨by rw [l1.length]; exact q1.1, fun p hp => rg1.finL (k.mono x1) hp l1 q1.2⟩⟩⟩
abbrev DRC := List D → GS → DK → Prop
def lRC (K : PySem.W.Frag) (r : DRC) : List V → Hp → VK → Prop := fun xs H Q => ∃ ds g Qd, RepL K H xs ds ∧ RepG K H g ∧ r ds g Qd ∧ KD K H Qd Q
def dCB (r : DRC) (t : DTA) : DTE := fun e g Q => t e g fun xs g1 => r xs g1 Q
theorem lcb {r : DRC} {t : DTA} {σ : L2.St} {H : Hp} {Q : VK} (h : lE K (dCB r t) σ H Q) : tCB (lRC K r) (lA K t) σ H Q := by
  obtain ⟨e, g, Qd, re, rg, q, k⟩ := h
  exact ⟨e, g, _, re, rg, q, fun vs ds H1 g1 x1 rg1 l1 q1 => ⟨ds, g1, Qd, l1, rg1, q1, k.mono x1⟩⟩
variable {x : Str} {p : Pos} {id T : String} {r : DRC}
theorem de_callB (hc : CallR X (.builtin id) (lRC X.K r)) (hg : Gl X x) (hm : X.mg x = none) (hv : bootBuiltins x = some (.builtin id)) (ha : DA X (e :: es) t) (hn : x ≠ "__name__" := by decide) (hdb : (x == ("__debug__" : Str)) = false := by decide)
    (he : starEach (e :: es) X.env = (false, eval e X.env) :: starEach es X.env := by rfl) (hpl : (backTo pos (starEach es X.env)).any (·.1) = false := by rfl) : DE X (.Call (.Name x p) (e :: es) [] pos) (dCB r t) :=
  ⟨peW (pe_callB hc hg hm hv ha.pa hn hdb he hpl) fun _ _ _ h => lcb h⟩
theorem de_callTy (hc : CallR X (.type T) (lRC X.K r)) (hg : Gl X x) (hm : X.mg x = none) (hv : bootBuiltins x = some (.type T)) (ha : DA X (e :: es) t) (hn : x ≠ "__name__" := by decide) (hdb : (x == ("__debug__" : Str)) = false := by decide)
    (he : starEach (e :: es) X.env = (false, eval e X.env) :: starEach es X.env := by rfl) (hpl : (backTo pos (starEach es X.env)).any (·.1) = false := by rfl) : DE X (.Call (.Name x p) (e :: es) [] pos) (dCB r t) :=
  ⟨peW (pe_callTy hc hg hm hv ha.pa hn hdb he hpl) fun _ _ _ h => lcb h⟩
def lenD : DRC := fun xs g Q => match xs with
  | [.str z] => z.length ≤ sizeLine ∧ Q (.int (z.length : Nat)) g
  | [.tup ds] => Q (.int (ds.length : Nat)) g
  | [.klst ds] => Q (.int (ds.length : Nat)) g
  | [.ref p] => ∃ ds, rdL g p ds ∧ Q (.int (ds.length : Nat)) g
  | _ => False
theorem call_lenD : CallR X (.builtin "len") (lRC X.K lenD) := fun pins s σ H xs us Q I rs ⟨ds, g, Qd, l, rg, q, k⟩ => by
  rcases l with _ | ⟨r1, _ | ⟨r2, l⟩⟩
  · exact q.elim
  · cases r1 with
    | str z => exact call_len pins s σ H _ us Q I rs ⟨_, _, rfl, ⟨q.1, rfl⟩, rg.fin k (.int _) q.2⟩
    | @tup a xs ds hs l => exact call_len pins s σ H _ us Q I rs ⟨_, ds.length, rfl, .inr ⟨xs, tq hs, l.length.symm⟩, rg.fin k (.int _) q⟩
    | @kl a xs ds hs l => exact call_len pins s σ H _ us Q I rs ⟨_, ds.length, rfl, .inl ⟨xs, hs.sq, l.length.symm⟩, rg.fin k (.int _) q⟩
    | ref p =>
      obtain ⟨ds, h, q⟩ := q
      obtain ⟨xs, hs, l⟩ := rg.sq h
      exact call_len pins s σ H _ us Q I rs ⟨_, ds.length, rfl, .inl ⟨xs, hs, l.length.symm⟩, rg.fin k (.int _) q⟩
    | _ => exact q.elim
  · cases r1 <;> exact q.elim
def intF : DRC := fun xs g Q => match xs with
  | [.int i] => Q (.int i) g
  | [.bl b] => Q (.int (if b then 1 else 0)) g
  | [.str z] => ∃ n, PySem.intText? z = some n ∧ z.length ≤ 640 ∧ Q (.int n) g
  | _ => False
theorem call_intF : CallR X (.type "int") (lRC X.K intF) := fun pins s σ H xs us Q I rs ⟨ds, g, Qd, l, rg, q, k⟩ => by
  rcases l with _ | ⟨r1, _ | ⟨r2, l⟩⟩
  · exact q.elim
  · cases r1 with
    | int i => exact call_int1 pins s σ H _ us Q I rs (.inl ⟨i, rfl, rg.fin k (.int _) q⟩)
    | bl b => exact call_int1 pins s σ H _ us Q I rs (.inr ⟨b, rfl, rg.fin k (.int _) q⟩)
    | str z =>
      obtain ⟨n, h, hz, q⟩ := q
      exact call_int_str pins s σ H _ us Q I rs ⟨z, n, rfl, h, hz, rg.fin k (.int _) q⟩
    | _ => exact q.elim
  · cases r1 <;> exact q.elim
def int1D (C : Int → Prop) (f : Int → D) : DRC := fun xs g Q => match xs with
  | [.int i] => C i ∧ Q (f i) g
  | _ => False
abbrev absD : DRC := int1D (fun _ => True) fun i => .int (if i < 0 then -i else i)
theorem call_absD : CallR X (.builtin "abs") (lRC X.K absD) := fun pins s σ H xs us Q I rs ⟨ds, g, Qd, l, rg, q, k⟩ => by
  rcases l with _ | ⟨r1, _ | ⟨r2, l⟩⟩
  · exact q.elim
  · cases r1 with
    | int i => exact call_abs pins s σ H _ us Q I rs ⟨i, rfl, rg.fin k (.int _) q.2⟩
    | _ => exact q.elim
  · cases r1 <;> exact q.elim
abbrev strF : DRC := int1D (fun i => i.natAbs.log2 < 1920) fun i => .str (toString i)
theorem call_strF : CallR X (.type "str") (lRC X.K strF) := fun pins s σ H xs us Q I rs ⟨ds, g, Qd, l, rg, q, k⟩ => by
  rcases l with _ | ⟨r1, _ | ⟨r2, l⟩⟩
  · exact q.elim
  · cases r1 with
    | int i => exact call_str_int pins s σ H _ us Q I rs ⟨i, rfl, q.1, rg.fin k (.str _) q.2⟩
    | _ => exact q.elim
  · cases r1 <;> exact q.elim
def two2D (f : Int → Int → Int) (s : Str → Str → Str) : DRC := fun xs g Q => match xs with
  | [.int i, .int j] => Q (.int (f i j)) g
  | [.str i, .str j] => Q (.str (s i j)) g
  | _ => False
abbrev max2D : DRC := two2D (fun i j => if j > i then j else i) fun i j => if i.cps.toList < j.cps.toList then j else i
abbrev min2D : DRC := two2D (fun i j => if j < i then j else i) fun i j => if j.cps.toList < i.cps.toList then j else i
def strItems (xs : Array (Str × Tok)) : Array Value := xs.map fun p => .str p.1 p.2
def strAt (xs : Array (Str × Tok)) (i : Nat) : Str := (xs[i]?.map (·.1)).getD ""
theorem strItems_at {xs : Array (Str × Tok)} {i : Nat} {v : Value} (h : (strItems xs)[i]? = some v) : ∃ t, v = .str (strAt xs i) t := by
  simp only [strItems, Array.getElem?_map, Option.map_eq_some_iff] at h
  obtain ⟨p, hp, rfl⟩ := h
  exact ⟨p.2, by simp [strAt, hp]⟩
theorem strs_gt {prog : Program} {w : World} {A : Around} {P : Nat → Value → Prop} (val : Nat → Str) (hval : ∀ i v, P i v → ∃ t, v = .str (val i) t) :
    CmpOf prog w A .Gt P (fun i j => decide ((val j).cps.toList < (val i).cps.toList)) := fun i j vi vj s Q E hi hj h => by
  obtain ⟨t, rfl⟩ := hval i vi hi
  obtain ⟨u, rfl⟩ := hval j vj hj
  exact richCompare_gives (op := .Gt) (typeIs_str s _ t) (typeIs_str s _ u) F.slot_str_gt F.entry_str_gt (F.args_str_gt_2 _ _) (gives_str_gt _ _ t u) (fun x => nomatch x) h
theorem strs_lt {prog : Program} {w : World} {A : Around} {P : Nat → Value → Prop} (val : Nat → Str) (hval : ∀ i v, P i v → ∃ t, v = .str (val i) t) :
    CmpOf prog w A .Lt P (fun i j => decide ((val i).cps.toList < (val j).cps.toList)) := fun i j vi vj s Q E hi hj h => by
  obtain ⟨t, rfl⟩ := hval i vi hi
  obtain ⟨u, rfl⟩ := hval j vj hj
  exact richCompare_gives (op := .Lt) (typeIs_str s _ t) (typeIs_str s _ u) F.slot_str_lt F.entry_str_lt (F.args_str_lt_2 _ _) (gives_str_lt _ _ t u) (fun x => nomatch x) h
theorem max_two_strs {prog : Program} {w : World} {A : Around} {E : Value → Shared → Prop} {s : Shared} {a b : Str} {t u : Tok} {Q : Value → Shared → Prop} (hh : A.handled = none)
    (h : ∀ h' tk, (∀ c o, s.heap.get? c = some o → h'.get? c = some o) → Q (if a.cps.toList < b.cps.toList then .str b u else .str a t) { s with heap := h', toks := tk }) :
    wpAny (model prog w) A (call (.builtin "max") [.str a t, .str b u]) Q E s := by
  have hT : (s.heap.push { cls := .type "tuple", data := .seq #[.str a t, .str b u] }).IsTuple s.heap.objs.size (strItems #[(a, t), (b, u)]) := ⟨_, Heap.get?_push_size _ rfl, rfl, 0, by simp [strItems]⟩
  refine call_max_two (wpAny_pyIter_tuple hT ?_)
  have hsz : (s.heap.push { cls := .type "tuple", data := .seq #[.str a t, .str b u] }).objs.size = s.heap.objs.size + 1 := Heap.size_push ..
  refine ⟨_, [_, s.heap.objs.size], [_], _, _, _, _, rfl, Walks.tuple (A := A.in1) hh _ s.heap.objs.size (by rw [hsz]; exact Nat.ne_of_lt (Nat.lt_succ_self _)) (strItems #[(a, t), (b, u)]),
    ⟨⟨_, Heap.get?_push_size _ rfl, rfl, rfl⟩, hT.push _⟩, fun c hc => ?_, by simp [strItems], strs_gt (strAt #[(a, t), (b, u)]) (fun _ _ => strItems_at), fun v h' tk hP hk => ?_⟩
  · show c < ((s.heap.push _).push _).objs.size
    rw [Heap.size_push, hsz]
    rcases List.mem_cons.mp hc with rfl | hc
    · rw [hsz]; exact Nat.lt_succ_self _
    · rcases List.mem_cons.mp hc with rfl | hc
      · exact Nat.lt_succ_of_lt (Nat.lt_succ_self _)
      · cases hc
  · have hold : ∀ c o, s.heap.get? c = some o → h'.get? c = some o := fun c o e => by
      refine hk c o (fun hm => ?_) (Heap.get?_push_of_some _ (Heap.get?_push_of_some _ e))
      rcases List.mem_cons.mp hm with e1 | hm
      · have := Heap.lt_size e; rw [e1, hsz] at this; exact Nat.lt_irrefl _ (Nat.lt_of_succ_lt this)
      · cases hm
    have := h h' tk hold
    have hv : v = if a.cps.toList < b.cps.toList then Value.str b u else Value.str a t := by
      have hP' : (strItems #[(a, t), (b, u)])[argBest (fun i j => decide ((strAt #[(a, t), (b, u)] j).cps.toList < (strAt #[(a, t), (b, u)] i).cps.toList)) 1]? = some v := by
        have hsz2 : (strItems #[(a, t), (b, u)]).size - 1 = 1 := by simp [strItems]
        rw [← hsz2]; exact hP
      by_cases hba : a.cps.toList < b.cps.toList
      · have e : argBest (fun i j => decide ((strAt #[(a, t), (b, u)] j).cps.toList < (strAt #[(a, t), (b, u)] i).cps.toList)) 1 = 1 := by
          show (if decide _ = true then 1 else 0) = 1
          exact if_pos (decide_eq_true hba)
        rw [e] at hP'
        rw [if_pos hba]
        simp [strItems] at hP'
        exact hP'.symm
      · have e : argBest (fun i j => decide ((strAt #[(a, t), (b, u)] j).cps.toList < (strAt #[(a, t), (b, u)] i).cps.toList)) 1 = 0 := by
          show (if decide _ = true then 1 else 0) = 0
          exact if_neg fun h => hba (of_decide_eq_true h)
        rw [e] at hP'
        rw [if_neg hba]
        simp [strItems] at hP'
        exact hP'.symm
    rw [hv]; exact this
theorem min_two_strs {prog : Program} {w : World} {A : Around} {E : Value → Shared → Prop} {s : Shared} {a b : Str} {t u : Tok} {Q : Value → Shared → Prop} (hh : A.handled = none)
    (h : ∀ h' tk, (∀ c o, s.heap.get? c = some o → h'.get? c = some o) → Q (if b.cps.toList < a.cps.toList then .str b u else .str a t) { s with heap := h', toks := tk }) :
    wpAny (model prog w) A (call (.builtin "min") [.str a t, .str b u]) Q E s := by
  have hT : (s.heap.push { cls := .type "tuple", data := .seq #[.str a t, .str b u] }).IsTuple s.heap.objs.size (strItems #[(a, t), (b, u)]) := ⟨_, Heap.get?_push_size _ rfl, rfl, 0, by simp [strItems]⟩
  refine call_min_two (wpAny_pyIter_tuple hT ?_)
  have hsz : (s.heap.push { cls := .type "tuple", data := .seq #[.str a t, .str b u] }).objs.size = s.heap.objs.size + 1 := Heap.size_push ..
  refine ⟨_, [_, s.heap.objs.size], [_], _, _, _, _, rfl, Walks.tuple (A := A.in1) hh _ s.heap.objs.size (by rw [hsz]; exact Nat.ne_of_lt (Nat.lt_succ_self _)) (strItems #[(a, t), (b, u)]),
    ⟨⟨_, Heap.get?_push_size _ rfl, rfl, rfl⟩, hT.push _⟩, fun c hc => ?_, by simp [strItems], strs_lt (strAt #[(a, t), (b, u)]) (fun _ _ => strItems_at), fun v h' tk hP hk => ?_⟩
  · show c < ((s.heap.push _).push _).objs.size
    rw [Heap.size_push, hsz]
    rcases List.mem_cons.mp hc with rfl | hc
    · rw [hsz]; exact Nat.lt_succ_self _
    · rcases List.mem_cons.mp hc with rfl | hc
      · exact Nat.lt_succ_of_lt (Nat.lt_succ_self _)
      · cases hc
  · have hold : ∀ c o, s.heap.get? c = some o → h'.get? c = some o := fun c o e => by
      refine hk c o (fun hm => ?_) (Heap.get?_push_of_some _ (Heap.get?_push_of_some _ e))
      rcases List.mem_cons.mp hm with e1 | hm
      · have := Heap.lt_size e; rw [e1, hsz] at this; exact Nat.lt_irrefl _ (Nat.lt_of_succ_lt this)
      · cases hm
    have := h h' tk hold
    have hv : v = if b.cps.toList < a.cps.toList then Value.str b u else Value.str a t := by
      have hP' : (strItems #[(a, t), (b, u)])[argBest (fun i j => decide ((strAt #[(a, t), (b, u)] i).cps.toList < (strAt #[(a, t), (b, u)] j).cps.toList)) 1]? = some v := by
        have hsz2 : (strItems #[(a, t), (b, u)]).size - 1 = 1 := by simp [strItems]
        rw [← hsz2]; exact hP
      by_cases hba : b.cps.toList < a.cps.toList
      · have e : argBest (fun i j => decide ((strAt #[(a, t), (b, u)] i).cps.toList < (strAt #[(a, t), (b, u)] j).cps.toList)) 1 = 1 := by
          show (if decide _ = true then 1 else 0) = 1
          exact if_pos (decide_eq_true hba)
        rw [e] at hP'
        rw [if_pos hba]
        simp [strItems] at hP'
        exact hP'.symm
      · have e : argBest (fun i j => decide ((strAt #[(a, t), (b, u)] i).cps.toList < (strAt #[(a, t), (b, u)] j).cps.toList)) 1 = 0 := by
          show (if decide _ = true then 1 else 0) = 0
          exact if_neg fun h => hba (of_decide_eq_true h)
        rw [e] at hP'
        rw [if_neg hba]
        simp [strItems] at hP'
        exact hP'.symm
    rw [hv]; exact this
theorem call_two2D {f : Value} {h : Int → Int → Int} {h2 : Str → Str → Str} (hc : CallR X f (fun xs H Q => ∃ i j, xs = [.int i, .int j] ∧ Q (.int (h i j)) H)) (hc2 : CallR X f (fun xs H Q => ∃ i j, xs = [.str i, .str j] ∧ Q (.str (h2 i j)) H)) : CallR X f (lRC X.K (two2D h h2)) := fun pins s σ H xs us Q I rs ⟨ds, g, Qd, l, rg, q, k⟩ => by
  rcases l with _ | ⟨r1, _ | ⟨r2, _ | ⟨r3, l⟩⟩⟩
  · exact q.elim
  · cases r1 <;> exact q.elim
  · cases r1 with
    | int i => cases r2 with
      | int j => exact hc pins s σ H _ us Q I rs ⟨i, j, rfl, rg.fin k (.int _) q⟩
      | _ => exact q.elim
    | str i => cases r2 with
      | str j => exact hc2 pins s σ H _ us Q I rs ⟨i, j, rfl, rg.fin k (.str _) q⟩
      | _ => exact q.elim
    | _ => cases r2 <;> exact q.elim
  · cases r1 <;> cases r2 <;> exact q.elim
theorem call_max2S (hc : X.calm = true) : CallR X (.builtin "max") (fun xs H Q => ∃ i j : Str, xs = [.str i, .str j] ∧ Q (.str (if i.cps.toList < j.cps.toList then j else i)) H) := by
  intro pins s σ H xs us Q I r h
  obtain ⟨i, j, rfl, q⟩ := h
  obtain ⟨u, w', rfl, ⟨t, rfl⟩, ⟨t', rfl⟩⟩ := vals2 r
  refine max_two_strs (I.ok.hd hc) fun h' tk k => ⟨_, H, I.kept k, ?_, q⟩
  by_cases hj : i.cps.toList < j.cps.toList
  · rw [if_pos hj, if_pos hj]; exact ⟨_, rfl⟩
  · rw [if_neg hj, if_neg hj]; exact ⟨_, rfl⟩
theorem call_min2S (hc : X.calm = true) : CallR X (.builtin "min") (fun xs H Q => ∃ i j : Str, xs = [.str i, .str j] ∧ Q (.str (if j.cps.toList < i.cps.toList then j else i)) H) := by
  intro pins s σ H xs us Q I r h
  obtain ⟨i, j, rfl, q⟩ := h
  obtain ⟨u, w', rfl, ⟨t, rfl⟩, ⟨t', rfl⟩⟩ := vals2 r
  refine min_two_strs (I.ok.hd hc) fun h' tk k => ⟨_, H, I.kept k, ?_, q⟩
  by_cases hj : j.cps.toList < i.cps.toList
  · rw [if_pos hj, if_pos hj]; exact ⟨_, rfl⟩
  · rw [if_neg hj, if_neg hj]; exact ⟨_, rfl⟩
theorem call_max2D (hc : X.calm = true) : CallR X (.builtin "max") (lRC X.K max2D) := call_two2D (call_max2 hc) (call_max2S hc)
theorem call_min2D (hc : X.calm = true) : CallR X (.builtin "min") (lRC X.K min2D) := call_two2D (call_min2 hc) (call_min2S hc)
def tupF : DRC := fun xs g Q => match xs with
  | [.tup ds] => Q (.tup ds) g
  | [.ref p] => ∃ ds, rdL g p ds ∧ Q (.tup ds) g
  | _ => False
theorem call_tupF : CallR X (.type "tuple") (lRC X.K tupF) := fun pins s σ H xs us Q I rs ⟨ds, g, Qd, l, rg, q, k⟩ => by
  rcases l with _ | ⟨r1, _ | ⟨r2, l⟩⟩
  · exact q.elim
  · cases r1 with
    | @tup a xs ds hs l => exact call_tuple_of pins s σ H _ us Q I rs ⟨a, xs, rfl, .inr ⟨tq hs, rg.fin k (.tup hs l) q⟩⟩
    | ref p =>
      obtain ⟨ds, h, q⟩ := q
      obtain ⟨xs, hs, l⟩ := rg.sq h
      exact call_tuple_of pins s σ H _ us Q I rs ⟨p, xs, rfl, .inl ⟨hs, fun n hn => rg.finU k hn l q⟩⟩
    | _ => exact q.elim
  · cases r1 <;> exact q.elim
def lstF : DRC := fun xs g Q => match xs with
  | [.klst ds] => ∀ p, g p = none → Q (.ref p) (gup g p (.lst ds))
  | [.tup ds] => ∀ p, g p = none → Q (.ref p) (gup g p (.lst ds))
  | [.ref p] => ∃ ds, rdL g p ds ∧ ∀ p, g p = none → Q (.ref p) (gup g p (.lst ds))
  | _ => False
theorem call_lstF : CallR X (.type "list") (lRC X.K lstF) := fun pins s σ H xs us Q I rs ⟨ds, g, Qd, l, rg, q, k⟩ => by
  rcases l with _ | ⟨r1, _ | ⟨r2, l⟩⟩
  · exact q.elim
  · cases r1 with
    | @tup a xs ds hs l => exact call_list_of pins s σ H _ us Q I rs ⟨a, xs, rfl, .inr (tq hs), fun n hn => rg.finL k hn l q⟩
    | @kl a xs ds hs l => exact call_list_of pins s σ H _ us Q I rs ⟨a, xs, rfl, .inl hs.sq, fun n hn => rg.finL k hn l q⟩
    | ref p =>
      obtain ⟨ds, h, q⟩ := q
      obtain ⟨xs, hs, l⟩ := rg.sq h
      exact call_list_of pins s σ H _ us Q I rs ⟨p, xs, rfl, .inl hs, fun n hn => rg.finL k hn l q⟩
    | _ => exact q.elim
  · cases r1 <;> exact q.elim
def tyD (g : GS) : D → String → Prop
  | .non, n => n = "NoneType"
  | .bl _, n => n = "bool"
  | .int _, n => n = "int"
  | .str _, n => n = "str"
  | .tup _, n => n = "tuple"
  | .klst _, n => n = "list"
  | .ref p, n => n = "list" ∧ ∃ ds, rdL g p ds
def dIsi (T : String) (ta : DTE) : DTE := fun e g Q => ta e g fun x g1 => ∃ n b, tyD g1 x n ∧ kitB n T = some b ∧ Q (.bl b) g1
theorem tyD_tyX {g : GS} (rg : RepG K H g) {v : V} {d : D} (r : RepD K H v d) {n : String} (h : tyD g d n) : TyX K H v (.type n) := by
  cases r with
  | non => cases h; exact .base .non
  | bl b => cases h; exact .base (.bl b)
  | int b => cases h; exact .base (.int b)
  | str b => cases h; exact .base (.str b)
  | ref p =>
    obtain ⟨rfl, ds, h⟩ := h
    rcases h with h | h
    · obtain ⟨xs, e, _⟩ := rg.lst h
      exact .base (.lst e)
    · obtain ⟨o, xs, e, _⟩ := rg.ro h
      exact .base (.frz e)
  | kl hs l =>
    cases h
    rcases hs with ⟨o, h⟩ | ⟨o, its, m, h1, h2, _⟩
    · exact .base (.frz h)
    · exact .kList h1 h2
  | tup hs l =>
    cases h
    exact .base (.tup hs)
theorem de_isi {p2 : Pos} {y : Str} (hg : Gl X "isinstance") (hm : X.mg "isinstance" = none) (ha : DE X a ta) (hg2 : Gl X y) (hm2 : X.mg y = none) (hv : bootBuiltins y = some (.type T)) (hn2 : y ≠ "__name__" := by decide) (hd2 : (y == ("__debug__" : Str)) = false := by decide) (hs1 : starEach [a, .Name y p2] X.env = (false, eval a X.env) :: starEach [.Name y p2] X.env := by rfl) (hs2 : starEach [.Name y p2] X.env = (false, eval (.Name y p2) X.env) :: starEach [] X.env := by rfl)
    (hpl : (backTo pos (starEach [.Name y p2] X.env)).any (·.1) = false := by rfl) : DE X (.Call (.Name "isinstance" p) [a, .Name y p2] [] pos) (dIsi T ta) :=
  ⟨peW (pe_callB call_isi hg hm (by decide +kernel) (pa_cons ha.pe (pa_cons (pe_bltn (v := .ty T) hg2 hm2 hv rfl hn2 hd2) pa_nil hs2) hs1) (by decide) (by decide) hs1 hpl) fun σ H Q ⟨e, g, Qd, re, rg, q, k⟩ =>
    ⟨e, g, _, re, rg, q, fun x d H1 g1 x1 rg1 r1 q1 => by
      obtain ⟨n, b, h1, h2, q1⟩ := q1
      exact ⟨x, .ty T, _, _, b, rfl, .ty T, tyD_tyX rg1 r1 h1, kit_ty h2, rg1.fin (k.mono x1) (.bl b) q1⟩⟩⟩
abbrev DRM := D → List D → GS → DK → Prop
def lRM (K : PySem.W.Frag) (r : DRM) : V → List V → Hp → VK → Prop := fun x xs H Q => ∃ d ds g Qd, RepD K H x d ∧ RepL K H xs ds ∧ RepG K H g ∧ r d ds g Qd ∧ KD K H Qd Q
def rcv (T : String) (x : D) (g : GS) : Prop := match x with
  | .str _ => T = "str"
  | .ref p => T = "list" ∧ ∃ ds, rdL g p ds
  | _ => False
theorem rcv_ty {g : GS} (rg : RepG K H g) {v : V} {d : D} (r : RepD K H v d) {T : String} (h : rcv T d g) : tyV K T v H := by
  cases r with
  | str z => exact h
  | ref p =>
    obtain ⟨h1, ds, h⟩ := h
    obtain ⟨xs, hs, _⟩ := rg.sq h
    exact .inl ⟨h1, xs, hs⟩
  | _ => exact h.elim
def dBM (T : String) (r : DRM) (to : DTE) (t : DTA) : DTE := fun e g Q => to e g fun x g1 => rcv T x g1 ∧ t e g1 fun ys g2 => r x ys g2 Q
def dBM0 (T : String) (r : DRM) (to : DTE) : DTE := fun e g Q => to e g fun x g1 => rcv T x g1 ∧ r x [] g1 Q
variable {o : Expr} {to : DTE} {name : Str} {apos cpos : Pos} {rm : DRM}
theorem de_bm0 (pa : PlainAttrs T) (slot : Slot T name id) (hty : typeOf (.builtin id) = pure (.type "method_descriptor")) (hm : MtR X id (lRM X.K rm)) (ho : DE X o to)
    (hbase : attributeBase o name X.env (eval o X.env) = eval o X.env := by rfl) (hline : (apos.endLine == cpos.line) = true := by rfl) : DE X (.Call (.Attribute o name apos) [] [] cpos) (dBM0 T rm to) :=
  ⟨peW (pe_bm0 pa slot hty hm ho.pe hbase hline) fun σ H Q ⟨e, g, Qd, re, rg, q, k⟩ => ⟨e, g, _, re, rg, q, fun x d H1 g1 x1 rg1 r1 q1 =>
    ⟨rcv_ty rg1 r1 q1.1, d, [], g1, Qd, r1, .nil, rg1, q1.2, k.mono x1⟩⟩⟩
theorem de_bm (pa : PlainAttrs T) (slot : Slot T name id) (hty : typeOf (.builtin id) = pure (.type "method_descriptor")) (hm : MtR X id (lRM X.K rm)) (ho : DE X o to) (ha : DA X (e :: es) t)
    (hbase : attributeBase o name X.env (eval o X.env) = eval o X.env := by rfl)
    (hfew : ((backTo cpos (starEach (e :: es) X.env)).all (fun x => !x.1) && (backToKw cpos (keywordEach [] X.env)).all (fun x => x.1.isSome)
      && decide ((e :: es).length + ([] : List Keyword).length + (if ([] : List Keyword).isEmpty then 0 else 1) < 30)) = true := by rfl)
    (hline : (apos.endLine == cpos.line) = true := by rfl) (hs : starEach (e :: es) X.env = (false, eval e X.env) :: starEach es X.env := by rfl) (hplain : (backTo cpos (starEach es X.env)).any (·.1) = false := by rfl) :
    DE X (.Call (.Attribute o name apos) (e :: es) [] cpos) (dBM T rm to t) :=
  ⟨peW (pe_bm pa slot hty hm ho.pe ha.pa hbase hfew hline hs hplain) fun σ H Q ⟨e, g, Qd, re, rg, q, k⟩ => ⟨e, g, _, re, rg, q, fun x d H1 g1 x1 rg1 r1 q1 =>
    ⟨rcv_ty rg1 r1 q1.1, e, g1, _, re.mono x1, rg1, q1.2, fun vs ds H2 g2 x2 rg2 l2 q2 => ⟨d, ds, g2, Qd, r1.mono x2, l2, rg2, q2, k.mono (x1.trans x2)⟩⟩⟩⟩
def appD : DRM := fun x ys g Q => match x, ys with
  | .ref p, [y] => ∃ ds, g p = some (.lst ds) ∧ ds.length < sizeLine ∧ Q .non (gup g p (.lst (ds ++ [y])))
  | _, _ => False
theorem mt_appD : MtR X "list.append" (lRM X.K appD) := fun pins s σ H x xs v us Q I rx rs ⟨d, ds, g, Qd, r, l, rg, q, k⟩ => by
  cases r with
  | ref p => rcases l with _ | ⟨r1, _ | ⟨r2, l⟩⟩
             · exact q.elim
             · obtain ⟨ds, h, hz, q⟩ := q
               obtain ⟨xs, e, l⟩ := rg.lst h
               exact mt_append pins s σ H _ _ v us Q I rx rs ⟨p, xs, _, rfl, rfl, e, by rw [l.length]; exact hz, k _ _ _ _ (.lst e) (rg.setL e (l.app (.cons r1 .nil))) .non q⟩
             · exact q.elim
  | _ => cases l <;> exact q.elim
def extD : DRM := fun x ys g Q => match x, ys with
  | .ref p, [.ref b] => ∃ ds es, g p = some (.lst ds) ∧ g b = some (.lst es) ∧ ds.length + es.length ≤ sizeLine ∧ Q .non (gup g p (.lst (ds ++ es)))
  | _, _ => False
theorem mt_extD : MtR X "list.extend" (lRM X.K extD) := fun pins s σ H x xs v us Q I rx rs ⟨d, ds, g, Qd, r, l, rg, q, k⟩ => by
  cases r with
  | ref p => rcases l with _ | ⟨r1, _ | ⟨r2, l⟩⟩
             · exact q.elim
             · cases r1 with
               | ref b =>
                 obtain ⟨ds, es, h, h2, hz, q⟩ := q
                 obtain ⟨xs, e, l⟩ := rg.lst h
                 obtain ⟨ys, e2, l2⟩ := rg.lst h2
                 exact mt_extend pins s σ H _ _ v us Q I rx rs ⟨p, b, xs, ys, rfl, rfl, e, e2, by rw [l.length, l2.length]; exact hz, k _ _ _ _ (.lst e) (rg.setL e (l.app l2)) .non q⟩
               | _ => exact q.elim
             · cases r1 <;> exact q.elim
  | _ => exact q.elim
theorem RepL.dropLast {vs : List V} {ds : List D} (r : RepL K H vs ds) : RepL K H vs.dropLast ds.dropLast := by
  rw [List.dropLast_eq_take, List.dropLast_eq_take, r.length]
  exact r.take _
def popD : DRM := fun x ys g Q => match x, ys with
  | .ref p, [] => ∃ ds y, g p = some (.lst ds) ∧ ds[ds.length - 1]? = some y ∧ Q y (gup g p (.lst ds.dropLast))
  | .ref p, [.int i] => ∃ ds k y, g p = some (.lst ds) ∧ -(2 ^ 63) ≤ i ∧ i < 2 ^ 63 ∧ seqIndex? i ds.length = some k ∧ ds[k]? = some y ∧ Q y (gup g p (.lst (ds.eraseIdx k)))
  | _, _ => False
theorem mt_popD : MtR X "list.pop" (lRM X.K popD) := fun pins s σ H x xs v us Q I rx rs ⟨d, ds, g, Qd, r, l, rg, q, k⟩ => by
  cases r with
  | ref p => rcases l with _ | ⟨r1, _ | ⟨r2, l⟩⟩
             · obtain ⟨ds, y, h, h1, q⟩ := q
               obtain ⟨xs, e, l⟩ := rg.lst h
               obtain ⟨w, e1, r1⟩ := l.get h1
               exact mt_pop pins s σ H _ _ v us Q I rx rs ⟨p, xs, w, rfl, rfl, e, by rw [l.length]; exact e1, k _ _ _ _ (.lst e) (rg.setL e l.dropLast) (r1.mono (.lst e)) q⟩
             · cases r1 with
               | int i =>
                 obtain ⟨ds, j, y, h, b1, b2, hj, h1, q⟩ := q
                 obtain ⟨xs, e, l⟩ := rg.lst h
                 obtain ⟨w, e1, r1⟩ := l.get h1
                 exact mt_popAt pins s σ H _ _ v us Q I rx rs ⟨p, xs, i, j, w, rfl, rfl, e, b1, b2, by rw [l.length]; exact hj, e1, k _ _ _ _ (.lst e) (rg.setL e (l.erase j)) (r1.mono (.lst e)) q⟩
               | _ => exact q.elim
             · cases r1 <;> exact q.elim
  | _ => exact q.elim
def revD : DRM := fun x ys g Q => match x, ys with
  | .ref p, [] => ∃ ds, g p = some (.lst ds) ∧ Q .non (gup g p (.lst ds.reverse))
  | _, _ => False
theorem mt_revD : MtR X "list.reverse" (lRM X.K revD) := fun pins s σ H x xs v us Q I rx rs ⟨d, ds, g, Qd, r, l, rg, q, k⟩ => by
  cases r with
  | ref p => cases l with
    | nil =>
      obtain ⟨ds, h, q⟩ := q
      obtain ⟨xs, e, l⟩ := rg.lst h
      exact mt_reverse pins s σ H _ _ v us Q I rx rs ⟨p, xs, rfl, rfl, e, k _ _ _ _ (.lst e) (rg.setL e l.rev) .non q⟩
    | cons _ _ => exact q.elim
  | _ => exact q.elim
def joinD : DRM := fun x ys g Q => match x, ys with
  | .str a, [.tup ds] => ∃ zs : List Str, ds = zs.map D.str ∧ (zs.map (·.length)).sum + zs.length * a.length ≤ 16777216 ∧ Q (.str (Txt.join a zs)) g
  | .str a, [.ref p] => ∃ zs : List Str, rdL g p (zs.map D.str) ∧ (zs.map (·.length)).sum + zs.length * a.length ≤ 16777216 ∧ Q (.str (Txt.join a zs)) g
  | _, _ => False
theorem mt_joinD : MtR X "str.join" (lRM X.K joinD) := fun pins s σ H x xs v us Q I rx rs ⟨d, ds, g, Qd, r, l, rg, q, k⟩ => by
  cases r with
  | str a => rcases l with _ | ⟨r1, _ | ⟨r2, l⟩⟩
             · exact q.elim
             · cases r1 with
               | @tup b xs ds hs l =>
                 obtain ⟨zs, rfl, hz, q⟩ := q
                 have := l.strs zs
                 subst this
                 exact mt_join pins s σ H _ _ v us Q I rx rs ⟨a, b, zs, rfl, rfl, .inr (tq hs), hz, rg.fin k (.str _) q⟩
               | ref p =>
                 obtain ⟨zs, h, hz, q⟩ := q
                 obtain ⟨xs, hs, l⟩ := rg.sq h
                 have := l.strs zs
                 subst this
                 exact mt_join pins s σ H _ _ v us Q I rx rs ⟨a, p, zs, rfl, rfl, .inl hs, hz, rg.fin k (.str _) q⟩
               | _ => exact q.elim
             · cases r1 <;> exact q.elim
  | _ => exact q.elim
/-- a text's method with one text -/
def str1D (f : Str → Str → D) : DRM := fun x ys g Q => match x, ys with
  | .str a, [.str b] => Q (f a b) g
  | _, _ => False
abbrev startsD : DRM := str1D fun a b => .bl (Txt.startswith a b)
abbrev endsD : DRM := str1D fun a b => .bl (Txt.endswith a b)
def splitD : DRM := fun x ys g Q => match x, ys with
  | .str a, [.str b] => (b.length == 0) = false ∧ a.length + 2 ≤ sizeLine ∧ ∀ p, g p = none → Q (.ref p) (gup g p (.lst ((Txt.split a b).map D.str)))
  | _, _ => False
theorem mt_splitD : MtR X "str.split" (lRM X.K splitD) := fun pins s σ H x xs v us Q I rx rs ⟨d, ds, g, Qd, r1, l, rg, q, k⟩ => by
  cases r1 with
  | str a => rcases l with _ | ⟨r1, _ | ⟨r2, l⟩⟩
             · exact q.elim
             · cases r1 with
               | str b => exact mt_split pins s σ H _ _ v us Q I rx rs ⟨a, b, rfl, rfl, q.1, q.2.1, fun n hn => rg.finL k hn (.ofStrs _) q.2.2⟩
               | _ => exact q.elim
             · cases r1 <;> exact q.elim
  | _ => exact q.elim
end
end DL
namespace DL
open PySem L2
section
variable {X : Cx} {K : PySem.W.Frag} {H H' : Hp} {σ : L2.St}
variable {a b c e : Expr} {es rest : List Expr} {ta tb tc te : DTE} {tA tB : DTT} {t : DTA} {pos : Pos}
def dAnd (t u : DTT) : DTT := fun e g Q => t e g fun c g1 => if c = true then u e g1 Q else Q false g1
def dOr (t u : DTT) : DTT := fun e g Q => t e g fun c g1 => if c = true then Q true g1 else u e g1 Q
def dNot (t : DTT) : DTT := fun e g Q => t e g fun c g1 => Q (!c) g1
theorem dw_and1 (ha : DT X a tA) : DW X (.BoolOp .And [a] pos) tA := ⟨pw_and1 ha.pt⟩
theorem dw_or1 (ha : DT X a tA) : DW X (.BoolOp .Or [a] pos) tA := ⟨pw_or1 ha.pt⟩
theorem DW.dt (h : DW X a tA) : DT X a tA := ⟨h.pw.pt⟩
theorem dw_and (ha : DT X a tA) (hb : DW X (.BoolOp .And (b :: rest) pos) tB) : DW X (.BoolOp .And (a :: b :: rest) pos) (dAnd tA tB) := ⟨pwW (pw_and ha.pt hb.pw) fun σ H Q ⟨e, g, Qd, re, rg, q, k⟩ =>
  ⟨e, g, _, re, rg, q, fun c H1 g1 x1 rg1 q1 => by
    cases c with
    | true => exact ⟨e, g1, Qd, re.mono x1, rg1, q1, fun b H2 g2 x2 => k b H2 g2 (x1.trans x2)⟩
    | false => exact k _ _ _ x1 rg1 q1⟩⟩
theorem dw_or (ha : DT X a tA) (hb : DW X (.BoolOp .Or (b :: rest) pos) tB) : DW X (.BoolOp .Or (a :: b :: rest) pos) (dOr tA tB) := ⟨pwW (pw_or ha.pt hb.pw) fun σ H Q ⟨e, g, Qd, re, rg, q, k⟩ =>
  ⟨e, g, _, re, rg, q, fun c H1 g1 x1 rg1 q1 => by
    cases c with
    | false => exact ⟨e, g1, Qd, re.mono x1, rg1, q1, fun b H2 g2 x2 => k b H2 g2 (x1.trans x2)⟩
    | true => exact k _ _ _ x1 rg1 q1⟩⟩
theorem dt_not (ha : DT X a tA) : DT X (.UnaryOp .Not a pos) (dNot tA) := ⟨ptW (pt_not ha.pt) fun σ H Q ⟨e, g, Qd, re, rg, q, k⟩ => ⟨e, g, _, re, rg, q, fun c H1 g1 x1 rg1 q1 => k _ _ _ x1 rg1 q1⟩⟩
/-- truth of a value -/
def truD (g : GS) (k : Bool) : D → Prop
  | .non => k = false
  | .bl b => k = b
  | .int i => k = (i != 0)
  | .str y => y.length ≤ sizeLine ∧ k = ((y.length : Int) != 0)
  | .tup ds => k = !ds.isEmpty
  | .klst ds => k = !ds.isEmpty
  | .ref p => ∃ ds, rdL g p ds ∧ k = !ds.isEmpty
def dTru (t : DTE) : DTT := fun e g Q => t e g fun d g1 => ∃ k, truD g1 k d ∧ Q k g1
theorem RepL.empty {vs : List V} {ds : List D} (r : RepL K H vs ds) : vs.isEmpty = ds.isEmpty := by cases r <;> rfl
theorem dt_tru (ha : DE X a ta) (he : ∀ whole, isTrue a X.env whole = (do let v ← whole; standAt a.pos; holding [v] (truthy v)) := by intro _; rfl) : DT X a (dTru ta) := ⟨ptW (pt_truth ha.pe he) fun σ H Q ⟨e, g, Qd, re, rg, q, k⟩ =>
  ⟨e, g, _, re, rg, q, fun v d H1 g1 x1 rg1 r1 q1 => by
    obtain ⟨b, h, q1⟩ := q1
    refine ⟨b, ?_, k _ _ _ x1 rg1 q1⟩
    cases r1 with
    | ref p =>
      obtain ⟨ds, h, e⟩ := h
      obtain ⟨xs, hs, l⟩ := rg1.sq h
      exact .inl ⟨xs, hs, by rw [l.empty]; exact e⟩
    | tup hs l => exact .inr (.inl ⟨_, tq hs, by rw [l.empty]; exact h⟩)
    | kl hs l => exact .inl ⟨_, hs.sq, by rw [l.empty]; exact h⟩
    | _ => exact h⟩⟩
/-- and, or, not as values (bools) -/
def dAndV (ta tb : DTE) : DTE := fun e g Q => ta e g fun x g1 => ∃ c, x = .bl c ∧ if c = true then tb e g1 Q else Q (.bl false) g1
def dOrV (ta tb : DTE) : DTE := fun e g Q => ta e g fun x g1 => ∃ c, x = .bl c ∧ if c = true then Q (.bl true) g1 else tb e g1 Q
def dNotV (ta : DTE) : DTE := fun e g Q => ta e g fun x g1 => ∃ c, x = .bl c ∧ Q (.bl (!c)) g1
theorem de_one {op} (h : DE X a ta) : DE X (.BoolOp op [a] pos) ta := ⟨pe_one h.pe⟩
theorem de_and (ha : DE X a ta) (hb : DE X (.BoolOp .And (b :: rest) pos) tb) : DE X (.BoolOp .And (a :: b :: rest) pos) (dAndV ta tb) := ⟨peW (pe_and ha.pe hb.pe) fun σ H Q ⟨e, g, Qd, re, rg, q, k⟩ =>
  ⟨e, g, _, re, rg, q, fun x d H1 g1 x1 rg1 r1 q1 => by
    obtain ⟨c, rfl, q1⟩ := q1
    cases r1
    refine ⟨c, rfl, ?_⟩
    cases c with
    | true => exact ⟨e, g1, Qd, re.mono x1, rg1, q1, k.mono x1⟩
    | false => exact k _ _ _ _ x1 rg1 (.bl _) q1⟩⟩
theorem de_not (ha : DE X a ta) : DE X (.UnaryOp .Not a pos) (dNotV ta) := ⟨peW (pe_not ha.pe) fun σ H Q ⟨e, g, Qd, re, rg, q, k⟩ =>
  ⟨e, g, _, re, rg, q, fun x d H1 g1 x1 rg1 r1 q1 => by
    obtain ⟨c, rfl, q1⟩ := q1
    cases r1
    exact ⟨c, rfl, k _ _ _ _ x1 rg1 (.bl _) q1⟩⟩⟩
def dIfE (t : DTT) (ta tb : DTE) : DTE := fun e g Q => t e g fun c g1 => if c = true then ta e g1 Q else tb e g1 Q
def dCall (sp : DSp) (dds : List D) (t : DTA) : DTE := fun e g Q => t e g fun ds g1 => sp (ds ++ dds) g1 Q
variable {x : Str} {p : Pos} {k : Nat} {f : Addr} {fd : FuncData} {ps : List Str} {sp : DSp} {dvs : List V} {dus : List Value} {dds : List D}
theorem lcall {σ : L2.St} {Q : VK} {E : XK} (hdd : ∀ H, RepL K H dvs dds) (h : lE K (dCall sp dds t) σ H Q) : tCall (lSp K sp) dvs E (lA K t) σ H Q := by
  obtain ⟨e, g, Qd, re, rg, q, k⟩ := h
  exact ⟨e, g, _, re, rg, q, fun vs ds H1 g1 x1 rg1 l1 q1 => ⟨_, g1, Qd, l1.app (hdd H1), rg1, q1, k.mono x1⟩⟩
theorem de_call (F : FnOk X.prog X.w X.K X.mg X.base CX0 k f fd ps (lSp X.K sp)) (hr : Room k X.A) (hg : Gl X x) (hm : X.mg x = some (.ref f)) (hk : PySem.W.keepIn X.K (.ref f) = true) (hb : Binds X.K fd ps dus) (hd : Vals dvs dus) (hdd : ∀ H, RepL X.K H dvs dds)
    (ha : DA X (e :: es) t) (hdb : (x == ("__debug__" : Str)) = false := by decide) (he : starEach (e :: es) X.env = (false, eval e X.env) :: starEach es X.env := by rfl) (hpl : (backTo pos (starEach es X.env)).any (·.1) = false := by rfl) :
    DE X (.Call (.Name x p) (e :: es) [] pos) (dCall sp dds t) := ⟨peW (pe_call F hr hg hm hk hb hd pass0 ha.pa hdb he hpl) fun _ _ _ h => lcall hdd h⟩
variable {st : Stmt} {sts : List Stmt} {T U : DTS}
/-- one after the other, some word between them -/
def dSeq (t u : DTS) : DTS := fun D e g => ∃ M : EV → GS → Prop, t { D with nx := M } e g ∧ ∀ e' g', M e' g' → u D e' g'
def dNext : DTS := fun D e g => D.nx e g
theorem dss_cons (h1 : DS X st T) (h2 : DSs X sts U) : DSs X (st :: sts) (dSeq T U) := ⟨pssW (pss_cons h1.ps h2.pss) fun D σ H ⟨e, g, Dd, re, rg, ⟨M, q, qm⟩, k1, k2, k3, k4⟩ =>
  ⟨e, g, _, re, rg, q, fun σ' H' e' g' x1 re1 rg1 q1 => ⟨e', g', Dd, re1, rg1, qm e' g' q1, k1.mono x1, k2.mono x1, k3.mono x1, k4.mono x1⟩, k2, k3, k4⟩⟩
theorem dss_one (h1 : DS X st T) : DSs X [st] T := ⟨pss_one h1.ps⟩
theorem KS.fin {Q : EV → GS → Prop} {Q' : L2.St → Hp → Prop} (k : KS K H Q Q') {e : EV} {g : GS} (re : RepE K H σ e) (rg : RepG K H g) (q : Q e g) : Q' σ H := k _ _ _ _ (.refl H) re rg q
theorem dss_nil : DSs X [] dNext := ⟨pssW pss_nil fun D σ H ⟨e, g, Dd, re, rg, q, k1, _⟩ => k1.fin re rg q⟩
def dBreak : DTS := fun D e g => D.bk e g
def dCont : DTS := fun D e g => D.ct e g
theorem ds_break : DS X (.Break pos) dBreak := ⟨psW ps_break fun D σ H ⟨e, g, Dd, re, rg, q, _, _, k3, _⟩ => k3.fin re rg q⟩
def dDrop (te : DTE) : DTS := fun D e g => te e g fun _ g1 => D.nx e g1
theorem ds_expr (he : DE X a te) (hs : swapsWith a none pos.line X.env = pure false := by rfl) : DS X (.Expr a pos) (dDrop te) := ⟨psW (ps_expr he.pe hs) fun D σ H ⟨e, g, Dd, re, rg, q, k1, _⟩ =>
  ⟨e, g, _, re, rg, q, fun v d H1 g1 x1 rg1 _ q1 => (k1.mono x1).fin (re.mono x1) rg1 q1⟩⟩
def dRet (te : DTE) : DTS := fun D e g => te e g D.rt
theorem ds_ret (he : DE X a te) : DS X (.Return (some a) pos) (dRet te) := ⟨psW (ps_ret he.pe) fun D σ H ⟨e, g, Dd, re, rg, q, _, k2, _⟩ => ⟨e, g, _, re, rg, q, k2⟩⟩
def dRetN : DTS := fun D _ g => D.rt .non g
def dIf (c : DTT) (t u : DTS) : DTS := fun D e g => c e g fun b g1 => if b = true then t D e g1 else u D e g1
theorem ds_if {c : Expr} {s1 s2 : List Stmt} {tc : DTT} (hc : DT X c tc) (ha : DSs X s1 T) (hb : DSs X s2 U) : DS X (.If c s1 s2 pos) (dIf tc T U) := ⟨psW (ps_if hc.pt ha.pss hb.pss) fun D σ H ⟨e, g, Dd, re, rg, q, k1, k2, k3, k4⟩ =>
  ⟨e, g, _, re, rg, q, fun b H1 g1 x1 rg1 q1 => by
    cases b with
    | true => exact ⟨e, g1, Dd, re.mono x1, rg1, q1, k1.mono x1, k2.mono x1, k3.mono x1, k4.mono x1⟩
    | false => exact ⟨e, g1, Dd, re.mono x1, rg1, q1, k1.mono x1, k2.mono x1, k3.mono x1, k4.mono x1⟩⟩⟩
abbrev DTG := D → EV → GS → (EV → GS → Prop) → Prop
abbrev DTGs := List D → EV → GS → (EV → GS → Prop) → Prop
def lG (K : PySem.W.Frag) (T : DTG) : TG := fun v σ H Q => ∃ d e g Qd, RepD K H v d ∧ RepE K H σ e ∧ RepG K H g ∧ T d e g Qd ∧ KS K H Qd Q
structure DG (X : Cx) (tg : Expr) (T : DTG) : Prop where
  pg : PG X tg (lG X.K T)
theorem pgW {e : Expr} {t t' : TG} (h : PG X e t) (w : ∀ v σ H Q, t' v σ H Q → t v σ H Q) : PG X e t' := ⟨fun pins s σ H v u Q I r q => h.run pins s σ H v u Q I r (w v σ H Q q)⟩
def gNm (i : Nat) : DTG := fun d e g Q => Q (e.set i (some d)) g
theorem dg_name {i : Nat} (h : PG X a (gName i)) : DG X a (gNm i) := ⟨pgW h fun v σ H Q ⟨d, e, g, Qd, r, re, rg, q, k⟩ => k.fin (re.set r i) rg q⟩
def gsNil : DTGs := fun ds e g Q => ds = [] ∧ Q e g
def gsCons (t : DTG) (u : DTGs) : DTGs := fun ds e g Q => ∃ d r, ds = d :: r ∧ t d e g fun e1 g1 => u r e1 g1 Q
def gTp (n : Nat) (t : DTGs) : DTG := fun d e g Q => match d with
  | .tup ds => ds.length = n ∧ t ds e g Q
  | .ref p => ∃ ds, rdL g p ds ∧ ds.length = n ∧ t ds e g Q
  | _ => False
/-- o[i] = v, o a list -/
def setD (o i v : D) (g : GS) (Q : GS → Prop) : Prop := match o, i with
  | .ref p, .int k => ∃ ds j, g p = some (.lst ds) ∧ ixN ds.length k = some j ∧ Q (gup g p (.lst (ds.set j v)))
  | _, _ => False
def gSb (to ti : DTE) : DTG := fun v e g Q => to e g fun o g1 => ti e g1 fun i g2 => setD o i v g2 fun g3 => Q e g3
theorem dg_sub {o i : Expr} {to ti : DTE} (ho : DE X o to) (hi : DE X i ti)
    (hs : ∀ v, assign (.Subscript o i pos) X.env v = (do
      let ov ← holding [v] (eval o X.env)
      let iv ← holding [v, ov] (eval i X.env)
      standAt pos
      holding [v, ov, iv] (setItem ov iv v)
      release [v, ov, iv] []) := by intro _; rfl) : DG X (.Subscript o i pos) (gSb to ti) := ⟨pgW (pg_sub ho.pe hi.pe set_list hs) fun v σ H Q ⟨d, e, g, Qd, r, re, rg, q, k⟩ =>
  ⟨e, g, _, re, rg, q, fun ov od H1 g1 x1 rg1 r1 q1 => ⟨e, g1, _, re.mono x1, rg1, q1, fun iv id H2 g2 x2 rg2 r2 q2 => by
    cases r1 with
    | ref p => cases r2 with
      | int m =>
        obtain ⟨ds, j, h, hj, q2⟩ := q2
        obtain ⟨xs, e1, l⟩ := rg2.lst h
        exact ⟨p, xs, m, j, rfl, rfl, e1, by rw [l.length]; exact hj, k _ _ _ _ ((x1.trans x2).trans (.lst e1)) ((re.mono (x1.trans x2)).mono (.lst e1)) (rg2.setL e1 (l.set (r.mono (x1.trans x2)) j)) q2⟩
      | _ => exact q2.elim
    | _ => exact q2.elim⟩⟩⟩
def dAsg (te : DTE) (tg : DTG) : DTS := fun D e g => te e g fun d g1 => tg d e g1 D.nx
theorem ds_asg {tg : Expr} {G : DTG} (he : DE X a te) (hg : DG X tg G) (hs : swapsWithSole [tg] a pos.line X.env = pure false := by rfl) (hw : swappedStores [tg] a X.env = pure none := by rfl)
    (h1 : (assignEach [tg] X.env).map (·.2) = [assign tg X.env] := by rfl) : DS X (.Assign [tg] a pos) (dAsg te G) := ⟨psW (ps_asg he.pe hg.pg hs hw h1) fun D σ H ⟨e, g, Dd, re, rg, q, k1, _⟩ =>
  ⟨e, g, _, re, rg, q, fun v d H1 g1 x1 rg1 r1 q1 => ⟨d, e, g1, _, r1, re.mono x1, rg1, q1, k1.mono x1⟩⟩⟩
theorem ds_set {i : Nat} {pos' : Pos} (h : ∀ t : TE, PE X a t → PS X (.Assign [.Name x pos'] a pos) (tAsg t (gName i))) (he : DE X a te) : DS X (.Assign [.Name x pos'] a pos) (dAsg te (gNm i)) := ⟨psW (h _ he.pe) fun D σ H ⟨e, g, Dd, re, rg, q, k1, _⟩ =>
  ⟨e, g, _, re, rg, q, fun v d H1 g1 x1 rg1 r1 q1 => (k1.mono x1).fin ((re.mono x1).set r1 i) rg1 q1⟩⟩
def dWhile (c : DTT) (tb : DTS) : DTS := fun D e g => ∃ W : Nat → EV → GS → Prop, (∃ m, W m e g) ∧ ∀ m e g, W m e g →
  c e g fun b g1 => if b = true then ∃ N : EV → GS → Prop, (∀ e' g', N e' g' → ∃ m', m' < m ∧ W m' e' g') ∧ tb { D with nx := N, ct := N, bk := D.nx } e g1 else D.nx e g1
theorem ds_while {c : Expr} {body : List Stmt} {tc : DTT} (hp : PassesOwn (model X.prog X.w) X.A X.env X.xe) (hc : DT X c tc) (hb : DSs X body T) : DS X (.While c body [] pos) (dWhile tc T) := ⟨psW (ps_while hp hc.pt hb.pss) fun D σ H ⟨e, g, Dd, re, rg, q, k1, k2, k3, k4⟩ => by
  obtain ⟨W, ⟨m, w⟩, turn⟩ := q
  refine ⟨fun m σ' H' => ∃ e' g', Ext H H' ∧ RepE X.K H' σ' e' ∧ RepG X.K H' g' ∧ W m e' g', ⟨m, e, g, .refl H, re, rg, w⟩, fun m σ' H' ⟨e', g', x1, re1, rg1, w1⟩ => ?_⟩
  refine ⟨e', g', _, re1, rg1, turn m e' g' w1, fun b H2 g2 x2 rg2 q2 => ?_⟩
  cases b with
  | true =>
    obtain ⟨N, hN, q2⟩ := q2
    rw [if_pos rfl]
    have kn : KS X.K H2 N (fun σ' H' => ∃ e' g', Ext H H' ∧ RepE X.K H' σ' e' ∧ RepG X.K H' g' ∧ N e' g') := fun σ3 H3 e3 g3 x3 re3 rg3 n3 => ⟨e3, g3, (x1.trans x2).trans x3, re3, rg3, n3⟩
    refine ⟨fun σ' H' => ∃ e' g', Ext H H' ∧ RepE X.K H' σ' e' ∧ RepG X.K H' g' ∧ N e' g', fun σ3 H3 ⟨e3, g3, x3, re3, rg3, n3⟩ => ?_, e', g2, _, re1.mono x2, rg2, q2, kn, k2.mono (x1.trans x2), k1.mono (x1.trans x2), kn⟩
    obtain ⟨m', hm, w3⟩ := hN e3 g3 n3
    exact ⟨m', hm, e3, g3, x3, re3, rg3, w3⟩
  | false => exact (k1.mono (x1.trans x2)).fin (re1.mono x2) rg2 q2⟩
end
end DL
namespace DL
open PySem PySem.Spec PyProof.Rows L2
def ItOk (K : PySem.W.Frag) (H0 : Hp) (J : It) (ds : List D) (keep : GS → Prop) : Prop := ∀ (i : Nat) (H : Hp) (g : GS), Ext H0 H → RepG K H g → keep g → (i = ds.length → J.stop i H) ∧
  ∀ d, ds[i]? = some d → J.go i H ∧ ∀ x H', J.yld i H x H' → Ext H H' ∧ RepG K H' g ∧ RepD K H' x d
abbrev DTI := EV → GS → (List D → (GS → Prop) → GS → Prop) → Prop
def lI (K : PySem.W.Frag) (T : DTI) : TI := fun σ H R => ∃ e g Rd, RepE K H σ e ∧ RepG K H g ∧ T e g Rd ∧ ∀ ds keep J H' g', Ext H H' → RepG K H' g' → ItOk K H' J ds keep → Rd ds keep g' → R J H'
structure DI (X : Cx) (tg iter : Expr) (T : DTI) : Prop where
  pi : PI X tg iter (lI X.K T)
section
variable {X : Cx} {K : PySem.W.Frag} {H H' : Hp} {σ : L2.St}
variable {a b c e tg iter elt : Expr} {es rest : List Expr} {ta tb tc te : DTE} {tA tB : DTT} {t : DTA} {pos : Pos}
theorem piW {w w' : TI} (h : PI X tg iter w) (k : ∀ σ H R, w' σ H R → w σ H R) : PI X tg iter w' := ⟨fun pins s σ H R I q => h.run pins s σ H R I (k σ H R q)⟩
/-- over a list, a tuple, a text, by what comes: the generator picks -/
def iLs (ta : DTE) : DTI := fun e g R => ta e g fun x g1 => ∃ p ds, x = .ref p ∧ rdL g1 p ds ∧ R ds (fun g => rdL g p ds) g1
def iTp (ta : DTE) : DTI := fun e g R => ta e g fun x g1 => ∃ ds, x = .tup ds ∧ R ds (fun _ => True) g1
def iSt (ta : DTE) : DTI := fun e g R => ta e g fun x g1 => ∃ z, x = .str z ∧ R (z.cps.toList.map fun c => .str ⟨#[c]⟩) (fun _ => True) g1
theorem itok_list {p : Addr} {ds : List D} : ItOk K H (Itl K p) ds fun g => rdL g p ds := fun i H1 g x rg hk => by
  obtain ⟨xs, hs, l⟩ := rg.sq hk
  refine ⟨fun e => ⟨xs, hs, by rw [l.length]; omega⟩, fun d hd => ?_⟩
  obtain ⟨v, hv, r⟩ := l.get hd
  refine ⟨⟨xs, v, hs, hv⟩, fun y H2 ⟨e, f⟩ => ?_⟩
  subst e
  have e2 := f xs hs
  rw [hv] at e2
  cases e2
  exact ⟨.refl _, rg, r⟩
theorem itok_tup {p : Addr} {xs : List V} {ds : List D} (hs : SqT K H p xs) (l : RepL K H xs ds) : ItOk K H (Itt K p) ds fun _ => True := fun i H1 g x rg _ => by
  refine ⟨fun e => ⟨xs, x.sqT hs, by rw [l.length]; omega⟩, fun d hd => ?_⟩
  obtain ⟨v, hv, r⟩ := l.get hd
  refine ⟨⟨xs, v, x.sqT hs, hv⟩, fun y H2 ⟨e, f⟩ => ?_⟩
  subst e
  have e2 := f xs (x.sqT hs)
  rw [hv] at e2
  cases e2
  exact ⟨.refl _, rg, r.mono x⟩
theorem itok_str {z : Str} : ItOk K H (Its z) (z.cps.toList.map fun c => .str ⟨#[c]⟩) fun _ => True := fun i H1 g x rg _ => by
  refine ⟨fun e => ?_, fun d hd => ?_⟩
  · rw [List.length_map, Array.length_toList] at e
    exact Nat.le_of_eq e.symm
  · rw [List.getElem?_map] at hd
    cases hc : z.cps.toList[i]? with
    | none => rw [hc] at hd; cases hd
    | some c =>
      rw [hc] at hd
      cases hd
      have hc' : z.cps[i]? = some c := by rw [← Array.getElem?_toList]; exact hc
      refine ⟨(Array.getElem?_eq_some_iff.mp hc').1, fun y H2 ⟨e, c', h1, h2⟩ => ?_⟩
      subst e
      subst h2
      rw [hc'] at h1
      cases h1
      exact ⟨.refl _, rg, .str _⟩
def ran (lo : Int) (n : Nat) : List D := (List.range n).map fun (i : Nat) => .int (lo + i)
theorem ran_len (lo : Int) (n : Nat) : (ran lo n).length = n := by rw [ran, List.length_map, List.length_range]
theorem ran_get {lo : Int} {n i : Nat} {d : D} (h : (ran lo n)[i]? = some d) : i < n ∧ d = .int (lo + i) := by
  have hi : i < n := by
    have := (List.getElem?_eq_some_iff.mp h).1
    rwa [ran_len] at this
  rw [ran, List.getElem?_map, List.getElem?_range hi] at h
  cases h
  exact ⟨hi, rfl⟩
theorem itok_ran {lo : Int} {n : Nat} : ItOk K H (Itr lo n) (ran lo n) fun _ => True := fun i H1 g x rg _ => by
  refine ⟨fun e => ?_, fun d hd => ?_⟩
  · rw [ran_len] at e
    exact Nat.le_of_eq e.symm
  · obtain ⟨hi, rfl⟩ := ran_get hd
    refine ⟨hi, fun y H2 ⟨e, f⟩ => ?_⟩
    subst e f
    exact ⟨.refl _, rg, .int _⟩
theorem di_list (h : DE X a ta) : DI X tg a (iLs ta) := ⟨piW (pi_list h.pe) fun σ H R ⟨e, g, Rd, re, rg, q, k⟩ => ⟨e, g, _, re, rg, q, fun v d H1 g1 x1 rg1 r1 q1 => by
  obtain ⟨p, ds, rfl, h1, q1⟩ := q1
  cases r1
  obtain ⟨xs, hs, l⟩ := rg1.sq h1
  exact ⟨p, rfl, ⟨xs, hs⟩, k _ _ _ _ _ x1 rg1 itok_list q1⟩⟩⟩
theorem di_tup (h : DE X a ta) : DI X tg a (iTp ta) := ⟨piW (pi_tup h.pe) fun σ H R ⟨e, g, Rd, re, rg, q, k⟩ => ⟨e, g, _, re, rg, q, fun v d H1 g1 x1 rg1 r1 q1 => by
  obtain ⟨ds, rfl, q1⟩ := q1
  cases r1 with
  | tup hs l => exact ⟨_, rfl, ⟨_, tq hs⟩, k _ _ _ _ _ x1 rg1 (itok_tup (tq hs) l) q1⟩⟩⟩
theorem di_str (h : DE X a ta) : DI X tg a (iSt ta) := ⟨piW (pi_str h.pe) fun σ H R ⟨e, g, Rd, re, rg, q, k⟩ => ⟨e, g, _, re, rg, q, fun v d H1 g1 x1 rg1 r1 q1 => by
  obtain ⟨z, rfl, q1⟩ := q1
  cases r1
  exact ⟨z, rfl, k _ _ _ _ _ x1 rg1 itok_str q1⟩⟩⟩
theorem PI.or {w w' : TI} (h : PI X tg a w) (h' : PI X tg a w') : PI X tg a (fun σ H R => w σ H R ∨ w' σ H R) := ⟨fun pins s σ H R I q => q.elim (h.run pins s σ H R I) (h'.run pins s σ H R I)⟩
theorem DI.or {w w' : DTI} (h : DI X tg a w) (h' : DI X tg a w') : DI X tg a (fun e g R => w e g R ∨ w' e g R) := ⟨piW (PI.or h.pi h'.pi) fun σ H R ⟨e, g, Rd, re, rg, q, k⟩ =>
  q.elim (fun q => .inl ⟨e, g, Rd, re, rg, q, k⟩) fun q => .inr ⟨e, g, Rd, re, rg, q, k⟩⟩
/-- any of the three -/
def iAny (ta : DTE) : DTI := fun e g R => iLs ta e g R ∨ iTp ta e g R ∨ iSt ta e g R
theorem di_any (h : DE X a ta) : DI X tg a (iAny ta) := (di_list h).or ((di_tup h).or (di_str h))
theorem PE.or {t t' : TE} (h : PE X a t) (h' : PE X a t') : PE X a (fun σ H R => t σ H R ∨ t' σ H R) := ⟨fun pins s σ H R I q => q.elim (h.run pins s σ H R I) (h'.run pins s σ H R I)⟩
theorem DE.or (h : DE X a ta) (h' : DE X a tb) : DE X a (fun e g R => ta e g R ∨ tb e g R) := ⟨peW (PE.or h.pe h'.pe) fun σ H R ⟨e, g, Rd, re, rg, q, k⟩ =>
  q.elim (fun q => .inl ⟨e, g, Rd, re, rg, q, k⟩) fun q => .inr ⟨e, g, Rd, re, rg, q, k⟩⟩
def iRa1 (ta : DTE) : DTI := fun e g R => ta e g fun x g1 => ∃ j : Int, x = .int j ∧ -(2 ^ 62) ≤ j ∧ j < 2 ^ 62 ∧ R (ran 0 j.toNat) (fun _ => True) g1
def iRa2 (ta tb : DTE) : DTI := fun e g R => ta e g fun x g1 => tb e g1 fun y g2 => ∃ i j : Int, x = .int i ∧ y = .int j ∧ (-(2 ^ 62) ≤ i ∧ i < 2 ^ 62 ∧ -(2 ^ 62) ≤ j ∧ j < 2 ^ 62) ∧ R (ran i (j - i).toNat) (fun _ => True) g2
theorem di_range1 {p : Pos} (hg : Gl X "range") (hm : X.mg "range" = none) (ha : DE X a ta) (hs : starEach [a] X.env = [(false, eval a X.env)] := by rfl) : DI X tg (.Call (.Name "range" p) [a] [] pos) (iRa1 ta) :=
  ⟨piW (pi_range1 hg hm (pa_cons ha.pe pa_nil hs) hs) fun σ H R ⟨e, g, Rd, re, rg, q, k⟩ => ⟨e, g, _, re, rg, q, fun v d H1 g1 x1 rg1 r1 q1 => by
    obtain ⟨j, rfl, b1, b2, q1⟩ := q1
    cases r1
    exact ⟨j, rfl, b1, b2, k _ _ _ _ _ x1 rg1 itok_ran q1⟩⟩⟩
theorem di_range2 {p : Pos} (hg : Gl X "range") (hm : X.mg "range" = none) (ha : DE X a ta) (hb : DE X b tb) (hs : starEach [a, b] X.env = [(false, eval a X.env), (false, eval b X.env)] := by rfl) (hs2 : starEach [b] X.env = [(false, eval b X.env)] := by rfl) : DI X tg (.Call (.Name "range" p) [a, b] [] pos) (iRa2 ta tb) :=
  ⟨piW (pi_range2 hg hm (pa_cons ha.pe (pa_cons hb.pe pa_nil hs2) (by rw [hs, hs2])) hs hs2) fun σ H R ⟨e, g, Rd, re, rg, q, k⟩ => ⟨e, g, _, re, rg, q, fun v d H1 g1 x1 rg1 r1 q1 => ⟨e, g1, _, re.mono x1, rg1, q1, fun v2 d2 H2 g2 x2 rg2 r2 q2 => by
    obtain ⟨i, j, rfl, rfl, hb, q2⟩ := q2
    cases r1
    cases r2
    exact ⟨i, j, rfl, hb, k _ _ _ _ _ (x1.trans x2) rg2 itok_ran q2⟩⟩⟩⟩
/-- reversed(list) -/
def iRev (ta : DTE) : DTI := fun e g R => ta e g fun x g1 => ∃ p ds, x = .ref p ∧ rdL g1 p ds ∧ R ds.reverse (fun g => rdL g p ds) g1
theorem itok_rev {p : Addr} {ds : List D} : ItOk K H (Itv K p ds.length) ds.reverse fun g => rdL g p ds := fun i H1 g x rg hk => by
  obtain ⟨xs, hs, l⟩ := rg.sq hk
  refine ⟨fun e => ?_, fun d hd => ?_⟩
  · rw [List.length_reverse] at e
    exact Nat.le_of_eq e.symm
  · have hi : i < ds.length := by
      have := (List.getElem?_eq_some_iff.mp hd).1
      rwa [List.length_reverse] at this
    rw [List.getElem?_reverse hi] at hd
    obtain ⟨v, hv, r⟩ := l.get hd
    refine ⟨⟨hi, xs, v, hs, hv⟩, fun y H2 ⟨e, f⟩ => ?_⟩
    subst e
    have e2 := f xs hs
    rw [hv] at e2
    cases e2
    exact ⟨.refl _, rg, r⟩
theorem di_rev {p : Pos} (hg : Gl X "reversed") (hm : X.mg "reversed" = none) (ha : DE X a ta) (hs : starEach [a] X.env = [(false, eval a X.env)] := by rfl) : DI X tg (.Call (.Name "reversed" p) [a] [] pos) (DL.iRev ta) :=
  ⟨piW (pi_reversed hg hm (pa_cons ha.pe pa_nil hs) hs) fun σ H R ⟨e, g, Rd, re, rg, q, k⟩ => ⟨e, g, _, re, rg, q, fun v d H1 g1 x1 rg1 r1 q1 => by
    obtain ⟨p, ds, rfl, h1, q1⟩ := q1
    cases r1
    obtain ⟨xs, hs, l⟩ := rg1.sq h1
    have := k _ _ _ _ _ x1 rg1 itok_rev q1
    rw [← l.length] at this
    exact ⟨p, xs, rfl, hs, this⟩⟩⟩
def dFor (it : DTI) (tg : DTG) (tb : DTS) : DTS := fun D e g => it e g fun ds keep g1 => ∃ Iv : Nat → EV → GS → Prop, Iv 0 e g1 ∧ (∀ i e' g', i ≤ ds.length → Iv i e' g' → keep g') ∧
  (∀ i d e' g', ds[i]? = some d → Iv i e' g' → tg d e' g' fun e2 g2 => tb { D with nx := Iv (i + 1), ct := Iv (i + 1), bk := D.nx } e2 g2) ∧ ∀ e' g', Iv ds.length e' g' → D.nx e' g'
theorem ds_for {T : DTS} {I : DTI} {G : DTG} {body : List Stmt} (hp : PassesOwn (model X.prog X.w) X.A X.env X.xe) (hc : X.calm = true) (hi : DI X tg iter I) (hg : DG X tg G) (hb : DSs X body T)
    (hs : ∀ x, foldedSetIterable iter X.env x = pure x := by intro _; rfl) : DS X (.For tg iter body [] pos) (dFor I G T) := ⟨psW (ps_for hp hc hi.pi hg.pg hb.pss hs) fun D σ H ⟨e, g, Dd, re, rg, q, k1, k2, k3, k4⟩ => by
  refine ⟨e, g, _, re, rg, q, fun ds keep J H1 g1 x1 rg1 ok ⟨Iv, i0, hk, step, done⟩ => ?_⟩
  refine ⟨fun i m σ' H' => m = ds.length - i ∧ i ≤ ds.length ∧ ∃ e' g', Ext H1 H' ∧ RepE X.K H' σ' e' ∧ RepG X.K H' g' ∧ Iv i e' g', ⟨ds.length, by omega, Nat.zero_le _, e, g1, .refl _, re.mono x1, rg1, i0⟩, ?_⟩
  rintro i m σ' H' ⟨rfl, hi, e', g', x2, re2, rg2, iv⟩
  have o := ok i H' g' x2 rg2 (hk i e' g' hi iv)
  by_cases hlt : i < ds.length
  · refine .inr ?_
    have hd : ds[i]? = some ds[i] := List.getElem?_eq_getElem hlt
    obtain ⟨go, yl⟩ := o.2 _ hd
    refine ⟨go, fun σ' H' => ∃ e' g', Ext H1 H' ∧ RepE X.K H' σ' e' ∧ RepG X.K H' g' ∧ Iv (i + 1) e' g', fun σ3 H3 ⟨e3, g3, a1, a2, a3, a4⟩ => ⟨ds.length - (i + 1), by omega, rfl, hlt, e3, g3, a1, a2, a3, a4⟩, fun x H2 y => ?_⟩
    obtain ⟨x3, rg3, r3⟩ := yl x H2 y
    refine ⟨ds[i], e', g', _, r3, re2.mono x3, rg3, step i ds[i] e' g' hd iv, fun σ4 H4 e4 g4 x4 re4 rg4 q4 => ?_⟩
    have xx : Ext H H4 := ((x1.trans x2).trans x3).trans x4
    have kn : KS X.K H4 (Iv (i + 1)) (fun σ' H' => ∃ e' g', Ext H1 H' ∧ RepE X.K H' σ' e' ∧ RepG X.K H' g' ∧ Iv (i + 1) e' g') := fun σ5 H5 e5 g5 x5 re5 rg5 q5 => ⟨e5, g5, ((x2.trans x3).trans x4).trans x5, re5, rg5, q5⟩
    exact ⟨e4, g4, _, re4, rg4, q4, kn, k2.mono xx, k1.mono xx, kn⟩
  · have e0 : i = ds.length := by omega
    subst e0
    exact .inl ⟨o.1 rfl, (k1.mono (x1.trans x2)).fin re2 rg2 (done e' g' iv)⟩⟩
structure DTs (X : Cx) (ifs : List Expr) (T : DTT) : Prop where
  pts : PTs X ifs (lT X.K T)
theorem ptsW {ifs : List Expr} {t t' : TT} (h : PTs X ifs t) (w : ∀ σ H Q, t' σ H Q → t σ H Q) : PTs X ifs t' := ⟨fun pins s σ H Q I q => h.run pins s σ H Q I (w σ H Q q)⟩
def dYes : DTT := fun _ g Q => Q true g
theorem dts_nil : DTs X [] dYes := ⟨ptsW pts_nil fun σ H Q ⟨e, g, Qd, re, rg, q, k⟩ => k _ _ _ (.refl H) rg q⟩
theorem dts_one {c : Expr} (h : DT X c tA) : DTs X [c] tA := ⟨pts_one h.pt⟩
def dLc (it : DTI) (j : Nat) (tt : DTT) (te : DTE) : DTE := fun e g Q => it e g fun ds keep g1 => ∀ p, g1 p = none → ∃ Iv : Nat → List D → GS → Prop, Iv 0 [] (gup g1 p (.lst [])) ∧ (∀ i acc g', i ≤ ds.length → Iv i acc g' → keep g') ∧
  (∀ i d acc g', ds[i]? = some d → Iv i acc g' → tt (e.set j (some d)) g' fun b g3 => if b = true then te (e.set j (some d)) g3 fun y g4 => g4 p = some (.lst acc) ∧ acc.length < sizeLine ∧ Iv (i + 1) (acc ++ [y]) (gup g4 p (.lst (acc ++ [y]))) else Iv (i + 1) acc g3) ∧
  ∀ acc g', Iv ds.length acc g' → Q (.ref p) g'
theorem lc_lift {I : DTI} {j : Nat} {σ : L2.St} {H : Hp} {Q : VK} (h : lE K (dLc I j tA te) σ H Q) : tLc (lI K I) (gName j) (lT K tA) (lE K te) [j] σ H Q := by
  obtain ⟨e, g, Qd, re, rg, q, k⟩ := h
  refine ⟨e, g, _, re, rg, q, fun ds keep J H1 g1 x1 rg1 ok f n hn => ?_⟩
  obtain ⟨Iv, i0, hk, step, done⟩ := f n (rg1.free hn)
  refine ⟨fun i m H' => m = ds.length - i ∧ i ≤ ds.length ∧ ∃ acc g', Ext H1 H' ∧ RepG K H' g' ∧ Iv i acc g', ⟨ds.length, by omega, Nat.zero_le _, [], _, .new hn, rg1.laidL hn .nil, i0⟩, ?_⟩
  rintro i m H' ⟨rfl, hi, acc, g', x2, rg2, iv⟩
  have o := ok i H' g' x2 rg2 (hk i acc g' hi iv)
  by_cases hlt : i < ds.length
  · refine .inr ?_
    have hd : ds[i]? = some ds[i] := List.getElem?_eq_getElem hlt
    obtain ⟨go, yl⟩ := o.2 _ hd
    refine ⟨go, fun H' => ∃ acc g', Ext H1 H' ∧ RepG K H' g' ∧ Iv (i + 1) acc g', fun H3 ⟨e3, g3, a1, a2, a3⟩ => ⟨ds.length - (i + 1), by omega, rfl, hlt, e3, g3, a1, a2, a3⟩, fun x H2 y => ?_⟩
    obtain ⟨x3, rg3, r3⟩ := yl x H2 y
    have re3 : RepE K H2 ((wipe σ [j]).set j (some x)) (e.set j (some ds[i])) := by
      have e0 : (wipe σ [j]).set j (some x) = σ.set j (some x) := by
        show (σ.set j none).set j (some x) = _
        rw [List.set_set]
      rw [e0]
      exact (re.mono ((x1.trans x2).trans x3)).set r3 j
    refine ⟨?_, _, _, _, re3, rg3, step i ds[i] acc g' hd iv, fun b H4 g4 x4 rg4 q4 => ?_⟩
    · show ((σ.set j none).set j (some x)).set j none = σ.set j none
      rw [List.set_set, List.set_set]
    · have xx : Ext H1 H4 := (x2.trans x3).trans x4
      cases b with
      | false => exact ⟨acc, g4, xx, rg4, q4⟩
      | true =>
        rw [if_pos rfl] at q4
        show lE K te _ H4 _
        refine ⟨_, _, _, re3.mono x4, rg4, q4, fun v d H5 g5 x5 rg5 r5 ⟨h1, h2, h3⟩ => ?_⟩
        obtain ⟨ys, e1, l⟩ := rg5.lst h1
        exact ⟨ys, e1, by rw [l.length]; exact h2, acc ++ [d], _, (xx.trans x5).trans (.lst e1), rg5.setL e1 (l.app (.cons r5 .nil)), h3⟩
  · have e0 : i = ds.length := by omega
    subst e0
    exact .inl ⟨o.1 rfl, k _ _ _ _ (x1.trans x2) rg2 (.ref n) (done acc g' iv)⟩
theorem de_lc {x : Str} {j : Nat} {ifs : List Expr} {scope : Scope} {I : DTI} (hc : X.calm = true) (hN : X.N.Nodup) (hi : DI X tg iter I) (ok : BlkOk X.N X.env.scope scope [(x, j)])
    (hg : ∀ (s : Shared) (H : Hp) (C : Addr) (cl : List (Str × Addr)) (fp : List Addr), PG (X.blk s H scope (compEnvC scope cl C X.env) fp) tg (gName j)) (ht : ∀ (s : Shared) (H : Hp) (C : Addr) (cl : List (Str × Addr)) (fp : List Addr), DTs (X.blk s H scope (compEnvC scope cl C X.env) fp) ifs tA)
    (he : ∀ (s : Shared) (H : Hp) (C : Addr) (cl : List (Str × Addr)) (fp : List Addr), DE (X.blk s H scope (compEnvC scope cl C X.env) fp) elt te) (hs : ∀ x, foldedSetIterable iter X.env x = pure x := by intro _; rfl) :
    DE X (.ListComp elt [⟨tg, iter, ifs, 0⟩] scope pos) (dLc I j tA te) :=
  ⟨peW (pe_lc (own := [(x, j)]) hc hN hi.pi ok hg (fun s H C cl fp => (ht s H C cl fp).pts) (fun s H C cl fp => (he s H C cl fp).pe) hs) fun _ _ _ h => lc_lift h⟩
theorem ds_setLc {x : Str} {j i : Nat} {y : Str} {py spos : Pos} {ifs : List Expr} {scope : Scope} {I : DTI} (hc : X.calm = true) (hN : X.N.Nodup) (hy : X.N[i]? = some y) (hyl : X.env.scope.names.lookup y = some .local)
    (hsw : swapsWith (.ListComp elt [⟨tg, iter, ifs, 0⟩] scope pos) (some (.Name y py)) spos.line X.env = pure true) (hi : DI X tg iter I) (ok : BlkOk X.N X.env.scope scope [(x, j)])
    (hg : ∀ (s : Shared) (H : Hp) (C : Addr) (cl : List (Str × Addr)) (fp : List Addr), PG (X.blk s H scope (compEnvC scope cl C X.env) fp) tg (gName j)) (ht : ∀ (s : Shared) (H : Hp) (C : Addr) (cl : List (Str × Addr)) (fp : List Addr), DTs (X.blk s H scope (compEnvC scope cl C X.env) fp) ifs tA)
    (he : ∀ (s : Shared) (H : Hp) (C : Addr) (cl : List (Str × Addr)) (fp : List Addr), DE (X.blk s H scope (compEnvC scope cl C X.env) fp) elt te) (hs : ∀ x, foldedSetIterable iter X.env x = pure x := by intro _; rfl) :
    DS X (.Assign [.Name y py] (.ListComp elt [⟨tg, iter, ifs, 0⟩] scope pos) spos) (dAsg (dLc I j tA te) (gNm i)) :=
  ⟨psW (ps_setLc (own := [(x, j)]) hc hN hy hyl hsw hi.pi ok hg (fun s H C cl fp => (ht s H C cl fp).pts) (fun s H C cl fp => (he s H C cl fp).pe) hs) fun D σ H ⟨e, g, Dd, re, rg, q, k1, _⟩ => by
    show tLc _ _ _ _ _ σ H fun v H1 => D.nx (σ.set i (some v)) H1
    exact lc_lift ⟨e, g, _, re, rg, q, fun v d H1 g1 x1 rg1 r1 q1 => (k1.mono x1).fin ((re.mono x1).set r1 i) rg1 q1⟩⟩
end
def dstart (N : List Str) (ds : List D) : EV := ds.map some ++ List.replicate (N.length - ds.length) none
theorem rep_start {K : PySem.W.Frag} {H : Hp} {N : List Str} {vs : List V} {ds : List D} (l : RepL K H vs ds) : RepE K H (L2.start N vs) (dstart N ds) := by
  refine ⟨?_, fun i d h => ?_⟩
  · unfold L2.start dstart
    rw [List.length_append, List.length_append, List.length_map, List.length_map, List.length_replicate, List.length_replicate, l.length]
  · unfold L2.start
    unfold dstart at h
    by_cases hi : i < ds.length
    · rw [List.getElem?_append_left (by rw [List.length_map]; exact hi), List.getElem?_map] at h
      rw [List.getElem?_append_left (by rw [List.length_map, l.length]; exact hi), List.getElem?_map]
      cases hd : ds[i]? with
      | none => rw [hd] at h; cases h
      | some x =>
        rw [hd] at h
        cases h
        obtain ⟨v, hv, r⟩ := l.get hd
        exact ⟨v, by rw [hv]; rfl, r⟩
    · rw [List.getElem?_append_right (by rw [List.length_map]; omega), List.getElem?_replicate] at h
      split at h <;> cases h
section
variable {P : Program} {w : World} {K : PySem.W.Frag} {mg : Str → Option Value} {base : Heap}
theorem okD {x qual : Str} {st : Stmt} {f : Addr} {fd : FuncData} {N ps : List Str} {k : Nat} {sp : DSp} (F : Fun K x qual st f fd) (S : FnScope N ps (defScope st)) (hl : ∀ ds g Q, sp ds g Q → ds.length = ps.length)
    {T : DTS} (hrd : ∀ ds g Q, sp ds g Q → T { nx := fun _ g => Q .non g, rt := Q } (dstart N ds) g)
    (hbody : ∀ (cdv : Value) (A : Around) (outer : List Env) (s : Shared) (H : Hp) (E : XK), Room k (A.deeper (envOfC qual (defScope st) s.heap.objs.size f cdv)) →
      DSs (cxOf CX0 P w K mg base N qual (defScope st) f cdv A outer s H E).nox (defBody st) T) : FnOk P w K mg base CX0 (k + 1) f fd ps (lSp K sp) := by
  refine F.ok S (fun vs H Q E h => ?_) (fun cdv A outer s H vs Q E hr h => ?_)
  · obtain ⟨ds, g, Qd, l, _, q, _⟩ := h
    rw [l.length]
    exact hl ds g Qd q
  · obtain ⟨ds, g, Qd, l, rg, q, kk⟩ := h
    refine ⟨_, (hbody cdv A outer s H E hr).pss, dstart N ds, g, _, rep_start l, rg, hrd ds g Qd q, fun σ' H' e' g' x1 _ rg1 q1 => kk _ _ H' g' x1 rg1 .non q1, kk, fun _ _ _ _ _ _ _ z => z.elim, fun _ _ _ _ _ _ _ z => z.elim⟩
end
end DL
namespace DL
open PySem PySem.Spec PyProof.Rows L2
theorem u65 {k : Nat} {A : Around} (r : Room k A) : A.units + 65 < cLine := by have := r.un; omega
section
variable {e : EV} {g : GS} {Q : DK} {D : DEnds} {T U : DTS} {ta tb tc te : DTE} {tA tB : DTT} {t : DTA} {i j : Nat} {d x y : DL.D} {QA : List DL.D → GS → Prop} {QB : Bool → GS → Prop} {QS : EV → GS → Prop} {QO : Option Int → GS → Prop}
theorem s_seq (h : T { D with nx := U D } e g) : dSeq T U D e g := ⟨U D, h, fun _ _ q => q⟩
instance p_s_seq  : Stp (dSeq T U D e g) (T { D with nx := U D } e g) := ⟨s_seq⟩
instance a_s_seq  : StF (dSeq T U D e g) (T { D with nx := U D } e g) := ⟨s_seq⟩
theorem s_cut (M : EV → GS → Prop) (h : T { D with nx := M } e g) (k : ∀ e' g', M e' g' → U D e' g') : dSeq T U D e g := ⟨M, h, k⟩
theorem s_next (h : D.nx e g) : dNext D e g := h
instance p_s_next  : Stp (dNext D e g) (D.nx e g) := ⟨s_next⟩
instance a_s_next  : StF (dNext D e g) (D.nx e g) := ⟨s_next⟩
theorem s_asg {tg : DTG} (h : te e g fun d g1 => tg d e g1 D.nx) : dAsg te tg D e g := h
instance p_s_asg {tg : DTG} : Stp (dAsg te tg D e g) (te e g fun d g1 => tg d e g1 D.nx) := ⟨s_asg⟩
instance a_s_asg {tg : DTG} : StF (dAsg te tg D e g) (te e g fun d g1 => tg d e g1 D.nx) := ⟨s_asg⟩
theorem s_nm (h : QS (e.set i (some d)) g) : gNm i d e g QS := h
instance p_s_nm  : Stp (gNm i d e g QS) (QS (e.set i (some d)) g) := ⟨s_nm⟩
instance a_s_nm  : StF (gNm i d e g QS) (QS (e.set i (some d)) g) := ⟨s_nm⟩
theorem s_var (h : ∃ d, look e i = some d ∧ Q d g) : dVar i e g Q := h
theorem s_c (h : Q d g) : dC d e g Q := h
instance p_s_c  : Stp (dC d e g Q) (Q d g) := ⟨s_c⟩
instance a_s_c  : StF (dC d e g Q) (Q d g) := ⟨s_c⟩
theorem s_op {r : DR2} (h : ta e g fun x g1 => tb e g1 fun y g2 => r x y g2 Q) : dOp r ta tb e g Q := h
instance p_s_op {r : DR2} : Stp (dOp r ta tb e g Q) (ta e g fun x g1 => tb e g1 fun y g2 => r x y g2 Q) := ⟨s_op⟩
instance a_s_op {r : DR2} : StF (dOp r ta tb e g Q) (ta e g fun x g1 => tb e g1 fun y g2 => r x y g2 Q) := ⟨s_op⟩
theorem s_un {r : DL.D → GS → DK → Prop} (h : ta e g fun x g1 => r x g1 Q) : dUn r ta e g Q := h
instance p_s_un {r : DL.D → GS → DK → Prop} : Stp (dUn r ta e g Q) (ta e g fun x g1 => r x g1 Q) := ⟨s_un⟩
instance a_s_un {r : DL.D → GS → DK → Prop} : StF (dUn r ta e g Q) (ta e g fun x g1 => r x g1 Q) := ⟨s_un⟩
theorem s_nil (h : QA [] g) : dNil e g QA := h
instance p_s_nil  : Stp (dNil e g QA) (QA [] g) := ⟨s_nil⟩
instance a_s_nil  : StF (dNil e g QA) (QA [] g) := ⟨s_nil⟩
theorem s_cons (h : ta e g fun x g1 => t e g1 fun xs g2 => QA (x :: xs) g2) : dCons ta t e g QA := h
instance p_s_cons  : Stp (dCons ta t e g QA) (ta e g fun x g1 => t e g1 fun xs g2 => QA (x :: xs) g2) := ⟨s_cons⟩
instance a_s_cons  : StF (dCons ta t e g QA) (ta e g fun x g1 => t e g1 fun xs g2 => QA (x :: xs) g2) := ⟨s_cons⟩
theorem s_cb {r : DRC} (h : t e g fun xs g1 => r xs g1 Q) : dCB r t e g Q := h
instance p_s_cb {r : DRC} : Stp (dCB r t e g Q) (t e g fun xs g1 => r xs g1 Q) := ⟨s_cb⟩
instance a_s_cb {r : DRC} : StF (dCB r t e g Q) (t e g fun xs g1 => r xs g1 Q) := ⟨s_cb⟩
theorem s_call {sp : DSp} {dds : List DL.D} (h : t e g fun ds g1 => sp (ds ++ dds) g1 Q) : dCall sp dds t e g Q := h
instance p_s_call {sp : DSp} {dds : List DL.D} : Stp (dCall sp dds t e g Q) (t e g fun ds g1 => sp (ds ++ dds) g1 Q) := ⟨s_call⟩
instance a_s_call {sp : DSp} {dds : List DL.D} : StF (dCall sp dds t e g Q) (t e g fun ds g1 => sp (ds ++ dds) g1 Q) := ⟨s_call⟩
theorem s_tup (h : t e g fun xs g1 => xs.length ≤ sizeLine ∧ Q (.tup xs) g1) : dTup t e g Q := h
instance p_s_tup  : Stp (dTup t e g Q) (t e g fun xs g1 => xs.length ≤ sizeLine ∧ Q (.tup xs) g1) := ⟨s_tup⟩
instance a_s_tup  : StF (dTup t e g Q) (t e g fun xs g1 => xs.length ≤ sizeLine ∧ Q (.tup xs) g1) := ⟨s_tup⟩
theorem s_lst (h : t e g fun xs g1 => xs.length ≤ sizeLine ∧ ∀ p, g1 p = none → Q (.ref p) (gup g1 p (.lst xs))) : dLst t e g Q := h
instance p_s_lst  : Stp (dLst t e g Q) (t e g fun xs g1 => xs.length ≤ sizeLine ∧ ∀ p, g1 p = none → Q (.ref p) (gup g1 p (.lst xs))) := ⟨s_lst⟩
theorem s_bm {T : String} {r : DRM} (h : ta e g fun x g1 => rcv T x g1 ∧ t e g1 fun ys g2 => r x ys g2 Q) : dBM T r ta t e g Q := h
instance p_s_bm {T : String} {r : DRM} : Stp (dBM T r ta t e g Q) (ta e g fun x g1 => rcv T x g1 ∧ t e g1 fun ys g2 => r x ys g2 Q) := ⟨s_bm⟩
instance a_s_bm {T : String} {r : DRM} : StF (dBM T r ta t e g Q) (ta e g fun x g1 => rcv T x g1 ∧ t e g1 fun ys g2 => r x ys g2 Q) := ⟨s_bm⟩
theorem s_bm0 {T : String} {r : DRM} (h : ta e g fun x g1 => rcv T x g1 ∧ r x [] g1 Q) : dBM0 T r ta e g Q := h
instance p_s_bm0 {T : String} {r : DRM} : Stp (dBM0 T r ta e g Q) (ta e g fun x g1 => rcv T x g1 ∧ r x [] g1 Q) := ⟨s_bm0⟩
instance a_s_bm0 {T : String} {r : DRM} : StF (dBM0 T r ta e g Q) (ta e g fun x g1 => rcv T x g1 ∧ r x [] g1 Q) := ⟨s_bm0⟩
theorem s_drop (h : te e g fun _ g1 => D.nx e g1) : dDrop te D e g := h
instance p_s_drop  : Stp (dDrop te D e g) (te e g fun _ g1 => D.nx e g1) := ⟨s_drop⟩
instance a_s_drop  : StF (dDrop te D e g) (te e g fun _ g1 => D.nx e g1) := ⟨s_drop⟩
theorem s_ret (h : te e g D.rt) : dRet te D e g := h
instance p_s_ret  : Stp (dRet te D e g) (te e g D.rt) := ⟨s_ret⟩
instance a_s_ret  : StF (dRet te D e g) (te e g D.rt) := ⟨s_ret⟩
theorem s_retN (h : D.rt .non g) : dRetN D e g := h
instance p_s_retN  : Stp (dRetN D e g) (D.rt .non g) := ⟨s_retN⟩
instance a_s_retN  : StF (dRetN D e g) (D.rt .non g) := ⟨s_retN⟩
theorem s_brk (h : D.bk e g) : dBreak D e g := h
instance p_s_brk  : Stp (dBreak D e g) (D.bk e g) := ⟨s_brk⟩
instance a_s_brk  : StF (dBreak D e g) (D.bk e g) := ⟨s_brk⟩
theorem s_ct (h : D.ct e g) : dCont D e g := h
instance p_s_ct  : Stp (dCont D e g) (D.ct e g) := ⟨s_ct⟩
instance a_s_ct  : StF (dCont D e g) (D.ct e g) := ⟨s_ct⟩
theorem s_if {c : DTT} (h : c e g fun b g1 => if b = true then T D e g1 else U D e g1) : dIf c T U D e g := h
instance p_s_if {c : DTT} : Stp (dIf c T U D e g) (c e g fun b g1 => if b = true then T D e g1 else U D e g1) := ⟨s_if⟩
instance a_s_if {c : DTT} : StF (dIf c T U D e g) (c e g fun b g1 => if b = true then T D e g1 else U D e g1) := ⟨s_if⟩
theorem s_test (h : ta e g fun d g' => ∃ k, d = .bl k ∧ QB k g') : dTest ta e g QB := h
instance p_s_test  : Stp (dTest ta e g QB) (ta e g fun d g' => ∃ k, d = .bl k ∧ QB k g') := ⟨s_test⟩
instance a_s_test  : StF (dTest ta e g QB) (ta e g fun d g' => ∃ k, d = .bl k ∧ QB k g') := ⟨s_test⟩
theorem s_and (h : tA e g fun c g1 => if c = true then tB e g1 QB else QB false g1) : dAnd tA tB e g QB := h
instance p_s_and  : Stp (dAnd tA tB e g QB) (tA e g fun c g1 => if c = true then tB e g1 QB else QB false g1) := ⟨s_and⟩
instance a_s_and  : StF (dAnd tA tB e g QB) (tA e g fun c g1 => if c = true then tB e g1 QB else QB false g1) := ⟨s_and⟩
theorem s_or (h : tA e g fun c g1 => if c = true then QB true g1 else tB e g1 QB) : dOr tA tB e g QB := h
instance p_s_or  : Stp (dOr tA tB e g QB) (tA e g fun c g1 => if c = true then QB true g1 else tB e g1 QB) := ⟨s_or⟩
instance a_s_or  : StF (dOr tA tB e g QB) (tA e g fun c g1 => if c = true then QB true g1 else tB e g1 QB) := ⟨s_or⟩
theorem s_not (h : tA e g fun c g1 => QB (!c) g1) : dNot tA e g QB := h
instance p_s_not  : Stp (dNot tA e g QB) (tA e g fun c g1 => QB (!c) g1) := ⟨s_not⟩
instance a_s_not  : StF (dNot tA e g QB) (tA e g fun c g1 => QB (!c) g1) := ⟨s_not⟩
theorem s_tru (h : ta e g fun d g1 => ∃ k, truD g1 k d ∧ QB k g1) : dTru ta e g QB := h
instance p_s_tru  : Stp (dTru ta e g QB) (ta e g fun d g1 => ∃ k, truD g1 k d ∧ QB k g1) := ⟨s_tru⟩
instance a_s_tru  : StF (dTru ta e g QB) (ta e g fun d g1 => ∃ k, truD g1 k d ∧ QB k g1) := ⟨s_tru⟩
theorem s_yes (h : QB true g) : dYes e g QB := h
instance p_s_yes  : Stp (dYes e g QB) (QB true g) := ⟨s_yes⟩
instance a_s_yes  : StF (dYes e g QB) (QB true g) := ⟨s_yes⟩
theorem s_andV (h : ta e g fun x g1 => ∃ c, x = .bl c ∧ if c = true then tb e g1 Q else Q (.bl false) g1) : dAndV ta tb e g Q := h
instance p_s_andV  : Stp (dAndV ta tb e g Q) (ta e g fun x g1 => ∃ c, x = .bl c ∧ if c = true then tb e g1 Q else Q (.bl false) g1) := ⟨s_andV⟩
instance a_s_andV  : StF (dAndV ta tb e g Q) (ta e g fun x g1 => ∃ c, x = .bl c ∧ if c = true then tb e g1 Q else Q (.bl false) g1) := ⟨s_andV⟩
theorem s_orV (h : ta e g fun x g1 => ∃ c, x = .bl c ∧ if c = true then Q (.bl true) g1 else tb e g1 Q) : dOrV ta tb e g Q := h
instance p_s_orV  : Stp (dOrV ta tb e g Q) (ta e g fun x g1 => ∃ c, x = .bl c ∧ if c = true then Q (.bl true) g1 else tb e g1 Q) := ⟨s_orV⟩
instance a_s_orV  : StF (dOrV ta tb e g Q) (ta e g fun x g1 => ∃ c, x = .bl c ∧ if c = true then Q (.bl true) g1 else tb e g1 Q) := ⟨s_orV⟩
theorem s_notV (h : ta e g fun x g1 => ∃ c, x = .bl c ∧ Q (.bl (!c)) g1) : dNotV ta e g Q := h
instance p_s_notV  : Stp (dNotV ta e g Q) (ta e g fun x g1 => ∃ c, x = .bl c ∧ Q (.bl (!c)) g1) := ⟨s_notV⟩
instance a_s_notV  : StF (dNotV ta e g Q) (ta e g fun x g1 => ∃ c, x = .bl c ∧ Q (.bl (!c)) g1) := ⟨s_notV⟩
theorem s_ifE (h : tA e g fun c g1 => if c = true then ta e g1 Q else tb e g1 Q) : dIfE tA ta tb e g Q := h
instance p_s_ifE  : Stp (dIfE tA ta tb e g Q) (tA e g fun c g1 => if c = true then ta e g1 Q else tb e g1 Q) := ⟨s_ifE⟩
instance a_s_ifE  : StF (dIfE tA ta tb e g Q) (tA e g fun c g1 => if c = true then ta e g1 Q else tb e g1 Q) := ⟨s_ifE⟩
theorem s_isi {T : String} (h : ta e g fun x g1 => ∃ n b, tyD g1 x n ∧ kitB n T = some b ∧ Q (.bl b) g1) : dIsi T ta e g Q := h
instance p_s_isi {T : String} : Stp (dIsi T ta e g Q) (ta e g fun x g1 => ∃ n b, tyD g1 x n ∧ kitB n T = some b ∧ Q (.bl b) g1) := ⟨s_isi⟩
instance a_s_isi {T : String} : StF (dIsi T ta e g Q) (ta e g fun x g1 => ∃ n b, tyD g1 x n ∧ kitB n T = some b ∧ Q (.bl b) g1) := ⟨s_isi⟩
theorem s_sl {l h' : DTO} (h : ta e g fun x g1 => l e g1 fun lo g2 => h' e g2 fun hi g3 => slD x lo hi g3 Q) : dSl ta l h' e g Q := h
instance p_s_sl {l h' : DTO} : Stp (dSl ta l h' e g Q) (ta e g fun x g1 => l e g1 fun lo g2 => h' e g2 fun hi g3 => slD x lo hi g3 Q) := ⟨s_sl⟩
instance a_s_sl {l h' : DTO} : StF (dSl ta l h' e g Q) (ta e g fun x g1 => l e g1 fun lo g2 => h' e g2 fun hi g3 => slD x lo hi g3 Q) := ⟨s_sl⟩
theorem s_no (h : QO none g) : dNo e g QO := h
instance p_s_no  : Stp (dNo e g QO) (QO none g) := ⟨s_no⟩
instance a_s_no  : StF (dNo e g QO) (QO none g) := ⟨s_no⟩
theorem s_part (h : ta e g fun x g1 => ∃ i, x = .int i ∧ QO (some i) g1) : dPart ta e g QO := h
instance p_s_part  : Stp (dPart ta e g QO) (ta e g fun x g1 => ∃ i, x = .int i ∧ QO (some i) g1) := ⟨s_part⟩
instance a_s_part  : StF (dPart ta e g QO) (ta e g fun x g1 => ∃ i, x = .int i ∧ QO (some i) g1) := ⟨s_part⟩
theorem s_sb {v : DL.D} {to ti : DTE} (h : to e g fun o g1 => ti e g1 fun i g2 => setD o i v g2 fun g3 => QS e g3) : gSb to ti v e g QS := h
instance p_s_sb {v : DL.D} {to ti : DTE} : Stp (gSb to ti v e g QS) (to e g fun o g1 => ti e g1 fun i g2 => setD o i v g2 fun g3 => QS e g3) := ⟨s_sb⟩
instance a_s_sb {v : DL.D} {to ti : DTE} : StF (gSb to ti v e g QS) (to e g fun o g1 => ti e g1 fun i g2 => setD o i v g2 fun g3 => QS e g3) := ⟨s_sb⟩
theorem s_gtp {n : Nat} {ds : List DL.D} {tgs : DTGs} (hn : ds.length = n) (h : tgs ds e g QS) : gTp n tgs (.tup ds) e g QS := ⟨hn, h⟩
theorem s_gcons {r : List DL.D} {tg : DTG} {u : DTGs} (h : tg d e g fun e1 g1 => u r e1 g1 QS) : gsCons tg u (d :: r) e g QS := ⟨d, r, rfl, h⟩
instance p_s_gcons {r : List DL.D} {tg : DTG} {u : DTGs} : Stp (gsCons tg u (d :: r) e g QS) (tg d e g fun e1 g1 => u r e1 g1 QS) := ⟨s_gcons⟩
instance a_s_gcons {r : List DL.D} {tg : DTG} {u : DTGs} : StF (gsCons tg u (d :: r) e g QS) (tg d e g fun e1 g1 => u r e1 g1 QS) := ⟨s_gcons⟩
theorem s_gnil (h : QS e g) : gsNil [] e g QS := ⟨rfl, h⟩
instance p_s_gnil  : Stp (gsNil [] e g QS) (QS e g) := ⟨s_gnil⟩
instance a_s_gnil  : StF (gsNil [] e g QS) (QS e g) := ⟨s_gnil⟩
theorem s_chain {r r' : DR2} (h : ta e g fun x g1 => tb e g1 fun y g2 => r x y g2 fun z g3 => ∃ k, z = .bl k ∧ (if k = true then tc e g3 fun w g4 => r' y w g4 Q else Q (.bl false) g3)) : dChain r r' ta tb tc e g Q := h
instance p_s_chain {r r' : DR2} : Stp (dChain r r' ta tb tc e g Q) (ta e g fun x g1 => tb e g1 fun y g2 => r x y g2 fun z g3 => ∃ k, z = .bl k ∧ (if k = true then tc e g3 fun w g4 => r' y w g4 Q else Q (.bl false) g3)) := ⟨s_chain⟩
instance a_s_chain {r r' : DR2} : StF (dChain r r' ta tb tc e g Q) (ta e g fun x g1 => tb e g1 fun y g2 => r x y g2 fun z g3 => ∃ k, z = .bl k ∧ (if k = true then tc e g3 fun w g4 => r' y w g4 Q else Q (.bl false) g3)) := ⟨s_chain⟩
theorem s_for {it : DTI} {tg : DTG} {tb : DTS} (h : it e g fun ds keep g1 => ∃ Iv : Nat → EV → GS → Prop, Iv 0 e g1 ∧ (∀ i e' g', i ≤ ds.length → Iv i e' g' → keep g') ∧
  (∀ i d e' g', ds[i]? = some d → Iv i e' g' → tg d e' g' fun e2 g2 => tb { D with nx := Iv (i + 1), ct := Iv (i + 1), bk := D.nx } e2 g2) ∧ ∀ e' g', Iv ds.length e' g' → D.nx e' g') : dFor it tg tb D e g := h
instance p_s_for {it : DTI} {tg : DTG} {tb : DTS} : Stp (dFor it tg tb D e g) (it e g fun ds keep g1 => ∃ Iv : Nat → EV → GS → Prop, Iv 0 e g1 ∧ (∀ i e' g', i ≤ ds.length → Iv i e' g' → keep g') ∧   (∀ i d e' g', ds[i]? = some d → Iv i e' g' → tg d e' g' fun e2 g2 => tb { D with nx := Iv (i + 1), ct := Iv (i + 1), bk := D.nx } e2 g2) ∧ ∀ e' g', Iv ds.length e' g' → D.nx e' g') := ⟨s_for⟩
instance a_s_for {it : DTI} {tg : DTG} {tb : DTS} : StF (dFor it tg tb D e g) (it e g fun ds keep g1 => ∃ Iv : Nat → EV → GS → Prop, Iv 0 e g1 ∧ (∀ i e' g', i ≤ ds.length → Iv i e' g' → keep g') ∧   (∀ i d e' g', ds[i]? = some d → Iv i e' g' → tg d e' g' fun e2 g2 => tb { D with nx := Iv (i + 1), ct := Iv (i + 1), bk := D.nx } e2 g2) ∧ ∀ e' g', Iv ds.length e' g' → D.nx e' g') := ⟨s_for⟩
theorem s_lc {it : DTI} (h : it e g fun ds keep g1 => ∀ p, g1 p = none → ∃ Iv : Nat → List DL.D → GS → Prop, Iv 0 [] (gup g1 p (.lst [])) ∧ (∀ i acc g', i ≤ ds.length → Iv i acc g' → keep g') ∧
  (∀ i d acc g', ds[i]? = some d → Iv i acc g' → tA (e.set j (some d)) g' fun b g3 => if b = true then te (e.set j (some d)) g3 fun y g4 => g4 p = some (.lst acc) ∧ acc.length < sizeLine ∧ Iv (i + 1) (acc ++ [y]) (gup g4 p (.lst (acc ++ [y]))) else Iv (i + 1) acc g3) ∧
  ∀ acc g', Iv ds.length acc g' → Q (.ref p) g') : dLc it j tA te e g Q := h
instance p_s_lc {it : DTI} : Stp (dLc it j tA te e g Q) (it e g fun ds keep g1 => ∀ p, g1 p = none → ∃ Iv : Nat → List DL.D → GS → Prop, Iv 0 [] (gup g1 p (.lst [])) ∧ (∀ i acc g', i ≤ ds.length → Iv i acc g' → keep g') ∧   (∀ i d acc g', ds[i]? = some d → Iv i acc g' → tA (e.set j (some d)) g' fun b g3 => if b = true then te (e.set j (some d)) g3 fun y g4 => g4 p = some (.lst acc) ∧ acc.length < sizeLine ∧ Iv (i + 1) (acc ++ [y]) (gup g4 p (.lst (acc ++ [y]))) else Iv (i + 1) acc g3) ∧   ∀ acc g', Iv ds.length acc g' → Q (.ref p) g') := ⟨s_lc⟩
instance a_s_lc {it : DTI} : StF (dLc it j tA te e g Q) (it e g fun ds keep g1 => ∀ p, g1 p = none → ∃ Iv : Nat → List DL.D → GS → Prop, Iv 0 [] (gup g1 p (.lst [])) ∧ (∀ i acc g', i ≤ ds.length → Iv i acc g' → keep g') ∧   (∀ i d acc g', ds[i]? = some d → Iv i acc g' → tA (e.set j (some d)) g' fun b g3 => if b = true then te (e.set j (some d)) g3 fun y g4 => g4 p = some (.lst acc) ∧ acc.length < sizeLine ∧ Iv (i + 1) (acc ++ [y]) (gup g4 p (.lst (acc ++ [y]))) else Iv (i + 1) acc g3) ∧   ∀ acc g', Iv ds.length acc g' → Q (.ref p) g') := ⟨s_lc⟩
theorem s_while {c : DTT} {tb : DTS} (W : Nat → EV → GS → Prop) (m : Nat) (h0 : W m e g) (h : ∀ m e g, W m e g →
  c e g fun b g1 => if b = true then ∃ N : EV → GS → Prop, (∀ e' g', N e' g' → ∃ m', m' < m ∧ W m' e' g') ∧ tb { D with nx := N, ct := N, bk := D.nx } e g1 else D.nx e g1) : dWhile c tb D e g := ⟨W, ⟨m, h0⟩, h⟩
section
variable {R : List DL.D → (GS → Prop) → GS → Prop}
theorem s_ra1 (h : ta e g fun x g1 => ∃ j : Int, x = .int j ∧ -(2 ^ 62) ≤ j ∧ j < 2 ^ 62 ∧ R (ran 0 j.toNat) (fun _ => True) g1) : iRa1 ta e g R := h
instance p_s_ra1  : Stp (iRa1 ta e g R) (ta e g fun x g1 => ∃ j : Int, x = .int j ∧ -(2 ^ 62) ≤ j ∧ j < 2 ^ 62 ∧ R (ran 0 j.toNat) (fun _ => True) g1) := ⟨s_ra1⟩
instance a_s_ra1  : StF (iRa1 ta e g R) (ta e g fun x g1 => ∃ j : Int, x = .int j ∧ -(2 ^ 62) ≤ j ∧ j < 2 ^ 62 ∧ R (ran 0 j.toNat) (fun _ => True) g1) := ⟨s_ra1⟩
theorem s_ra2 (h : ta e g fun x g1 => tb e g1 fun y g2 => ∃ i j : Int, x = .int i ∧ y = .int j ∧ (-(2 ^ 62) ≤ i ∧ i < 2 ^ 62 ∧ -(2 ^ 62) ≤ j ∧ j < 2 ^ 62) ∧ R (ran i (j - i).toNat) (fun _ => True) g2) : iRa2 ta tb e g R := h
instance p_s_ra2  : Stp (iRa2 ta tb e g R) (ta e g fun x g1 => tb e g1 fun y g2 => ∃ i j : Int, x = .int i ∧ y = .int j ∧ (-(2 ^ 62) ≤ i ∧ i < 2 ^ 62 ∧ -(2 ^ 62) ≤ j ∧ j < 2 ^ 62) ∧ R (ran i (j - i).toNat) (fun _ => True) g2) := ⟨s_ra2⟩
instance a_s_ra2  : StF (iRa2 ta tb e g R) (ta e g fun x g1 => tb e g1 fun y g2 => ∃ i j : Int, x = .int i ∧ y = .int j ∧ (-(2 ^ 62) ≤ i ∧ i < 2 ^ 62 ∧ -(2 ^ 62) ≤ j ∧ j < 2 ^ 62) ∧ R (ran i (j - i).toNat) (fun _ => True) g2) := ⟨s_ra2⟩
theorem s_rev (h : ta e g fun x g1 => ∃ p ds, x = .ref p ∧ rdL g1 p ds ∧ R ds.reverse (fun g => rdL g p ds) g1) : DL.iRev ta e g R := h
instance p_s_rev  : Stp (DL.iRev ta e g R) (ta e g fun x g1 => ∃ p ds, x = .ref p ∧ rdL g1 p ds ∧ R ds.reverse (fun g => rdL g p ds) g1) := ⟨s_rev⟩
instance a_s_rev  : StF (DL.iRev ta e g R) (ta e g fun x g1 => ∃ p ds, x = .ref p ∧ rdL g1 p ds ∧ R ds.reverse (fun g => rdL g p ds) g1) := ⟨s_rev⟩
theorem s_anyL (h : ta e g fun x g1 => ∃ p ds, x = .ref p ∧ rdL g1 p ds ∧ R ds (fun g => rdL g p ds) g1) : iAny ta e g R := .inl h
theorem s_anyT (h : ta e g fun x g1 => ∃ ds, x = .tup ds ∧ R ds (fun _ => True) g1) : iAny ta e g R := .inr (.inl h)
theorem s_anyS (h : ta e g fun x g1 => ∃ z, x = .str z ∧ R (z.cps.toList.map fun c => .str ⟨#[c]⟩) (fun _ => True) g1) : iAny ta e g R := .inr (.inr h)
theorem x_ra1 {P : Int → Prop} {j : Int} (h1 : -4611686018427387904 ≤ j) (h2 : j < 4611686018427387904) (h : P j) : ∃ j' : Int, (DL.D.int j) = .int j' ∧ -(2 ^ 62) ≤ j' ∧ j' < 2 ^ 62 ∧ P j' := ⟨j, rfl, h1, h2, h⟩
theorem x_ra2 {P : Int → Int → Prop} {i j : Int} (h1 : -4611686018427387904 ≤ i) (h2 : i < 4611686018427387904) (h3 : -4611686018427387904 ≤ j) (h4 : j < 4611686018427387904) (h : P i j) : ∃ i' j' : Int, (DL.D.int i) = .int i' ∧ (DL.D.int j) = .int j' ∧ (-(2 ^ 62) ≤ i' ∧ i' < 2 ^ 62 ∧ -(2 ^ 62) ≤ j' ∧ j' < 2 ^ 62) ∧ P i' j' := ⟨i, j, rfl, rfl, ⟨h1, h2, h3, h4⟩, h⟩
theorem x_lst {P : Addr → List DL.D → Prop} {p : Addr} {ds : List DL.D} (hp : g p = some (.lst ds)) (h : P p ds) : ∃ p' ds', (DL.D.ref p) = .ref p' ∧ rdL g p' ds' ∧ P p' ds' := ⟨p, ds, rfl, .inl hp, h⟩
theorem x_lst' {P : Addr → List DL.D → Prop} {p : Addr} (h : ∃ ds, g p = some (.lst ds) ∧ P p ds) : ∃ p' ds', (DL.D.ref p) = .ref p' ∧ rdL g p' ds' ∧ P p' ds' := by
  obtain ⟨ds, a, c⟩ := h
  exact ⟨p, ds, rfl, .inl a, c⟩
theorem x_tp {P : List DL.D → Prop} {ds : List DL.D} (h : P ds) : ∃ ds', (DL.D.tup ds) = .tup ds' ∧ P ds' := ⟨ds, rfl, h⟩
instance p_x_tp {P : List DL.D → Prop} {ds : List DL.D} : Stp (∃ ds', (DL.D.tup ds) = .tup ds' ∧ P ds') (P ds) := ⟨x_tp⟩
instance a_x_tp {P : List DL.D → Prop} {ds : List DL.D} : StF (∃ ds', (DL.D.tup ds) = .tup ds' ∧ P ds') (P ds) := ⟨x_tp⟩
theorem x_st {P : Str → Prop} {z : Str} (h : P z) : ∃ z', (DL.D.str z) = .str z' ∧ P z' := ⟨z, rfl, h⟩
instance p_x_st {P : Str → Prop} {z : Str} : Stp (∃ z', (DL.D.str z) = .str z' ∧ P z') (P z) := ⟨x_st⟩
instance a_x_st {P : Str → Prop} {z : Str} : StF (∃ z', (DL.D.str z) = .str z' ∧ P z') (P z) := ⟨x_st⟩
end
theorem x_bl {P : Bool → Prop} {b : Bool} (h : P b) : ∃ k, (DL.D.bl b) = .bl k ∧ P k := ⟨b, rfl, h⟩
instance p_x_bl {P : Bool → Prop} {b : Bool} : Stp (∃ k, (DL.D.bl b) = .bl k ∧ P k) (P b) := ⟨x_bl⟩
instance a_x_bl {P : Bool → Prop} {b : Bool} : StF (∃ k, (DL.D.bl b) = .bl k ∧ P k) (P b) := ⟨x_bl⟩
theorem x_int {P : Int → Prop} {b : Int} (h : P b) : ∃ k, (DL.D.int b) = .int k ∧ P k := ⟨b, rfl, h⟩
theorem x_sz {xs : List DL.D} {P : Prop} (h : xs.length ≤ 16777216) (h2 : P) : xs.length ≤ sizeLine ∧ P := ⟨by rw [szl]; exact h, h2⟩
theorem x_tru {P : Bool → Prop} {b : Bool} (h : P b) : ∃ k, truD g k (.bl b) ∧ P k := ⟨b, rfl, h⟩
instance p_x_tru {P : Bool → Prop} {b : Bool} : Stp (∃ k, truD g k (.bl b) ∧ P k) (P b) := ⟨x_tru⟩
instance a_x_tru {P : Bool → Prop} {b : Bool} : StF (∃ k, truD g k (.bl b) ∧ P k) (P b) := ⟨x_tru⟩
theorem v_addI {a b : Int} (h : Q (.int (a + b)) g) : addD (.int a) (.int b) g Q := h
instance p_v_addI {a b : Int} : Stp (addD (.int a) (.int b) g Q) (Q (.int (a + b)) g) := ⟨v_addI⟩
instance a_v_addI {a b : Int} : StF (addD (.int a) (.int b) g Q) (Q (.int (a + b)) g) := ⟨v_addI⟩
theorem v_addS {a b : Str} (hz : a.length + b.length ≤ sizeLine) (h : Q (.str (a ++ b)) g) : addD (.str a) (.str b) g Q := ⟨hz, h⟩
theorem v_addT {a b : List DL.D} (hz : a.length + b.length ≤ sizeLine) (h : Q (.tup (a ++ b)) g) : addD (.tup a) (.tup b) g Q := ⟨hz, h⟩
theorem v_addL {p q : Addr} {a b : List DL.D} (h1 : g p = some (.lst a)) (h2 : g q = some (.lst b)) (hz : a.length + b.length ≤ sizeLine) (h : ∀ r, g r = none → Q (.ref r) (gup g r (.lst (a ++ b)))) : addD (.ref p) (.ref q) g Q := ⟨a, b, h1, h2, hz, h⟩
theorem v_sub {a b : Int} (h : Q (.int (a - b)) g) : subD (.int a) (.int b) g Q := ⟨trivial, h⟩
instance p_v_sub {a b : Int} : Stp (subD (.int a) (.int b) g Q) (Q (.int (a - b)) g) := ⟨v_sub⟩
instance a_v_sub {a b : Int} : StF (subD (.int a) (.int b) g Q) (Q (.int (a - b)) g) := ⟨v_sub⟩
theorem v_mulR {a b : Int} (h1 : -18446744073709551616 < b) (h2 : b < 18446744073709551616) (h : Q (.int (a * b)) g) : mulD (.int a) (.int b) g Q := ⟨.inr ⟨h1, h2⟩, h⟩
theorem v_mulL {a b : Int} (h1 : -18446744073709551616 < a) (h2 : a < 18446744073709551616) (h : Q (.int (a * b)) g) : mulD (.int a) (.int b) g Q := ⟨.inl ⟨h1, h2⟩, h⟩
theorem v_mod {a b : Int} (hb : 0 < b) (h : Q (.int (a % b)) g) : modD (.int a) (.int b) g Q := ⟨by omega, by
  show Q (.int (a.fmod b)) g
  rw [Int.fmod_eq_emod_of_nonneg _ (by omega)]
  exact h⟩
theorem v_div {a b : Int} (hb : 0 < b) (hb2 : b < 1073741824) (h : Q (.int (a / b)) g) : fdivD (.int a) (.int b) g Q := ⟨⟨by omega, by omega⟩, by
  show Q (.int (a.fdiv b)) g
  rw [Int.fdiv_eq_ediv_of_nonneg _ (by omega)]
  exact h⟩
theorem v_and {a b : Int} (h : Q (.int (Builtin.bitAnd a b)) g) : andD (.int a) (.int b) g Q := ⟨trivial, h⟩
instance p_v_and {a b : Int} : Stp (andD (.int a) (.int b) g Q) (Q (.int (Builtin.bitAnd a b)) g) := ⟨v_and⟩
instance a_v_and {a b : Int} : StF (andD (.int a) (.int b) g Q) (Q (.int (Builtin.bitAnd a b)) g) := ⟨v_and⟩
theorem v_pow {a b : Int} (hc : CPow a b) (h : Q (.int (a ^ b.toNat)) g) : powD (.int a) (.int b) g Q := ⟨hc, h⟩
theorem v_shl {a b : Int} (hc : CPow a b) (h : Q (.int (a * 2 ^ b.toNat)) g) : shlD (.int a) (.int b) g Q := ⟨hc, h⟩
theorem v_neg {a : Int} (h : Q (.int (-a)) g) : negD (.int a) g Q := h
instance p_v_neg {a : Int} : Stp (negD (.int a) g Q) (Q (.int (-a)) g) := ⟨v_neg⟩
instance a_v_neg {a : Int} : StF (negD (.int a) g Q) (Q (.int (-a)) g) := ⟨v_neg⟩
theorem v_ltI {a b : Int} (h : Q (.bl (decide (a < b))) g) : ltD (.int a) (.int b) g Q := h
instance p_v_ltI {a b : Int} : Stp (ltD (.int a) (.int b) g Q) (Q (.bl (decide (a < b))) g) := ⟨v_ltI⟩
instance a_v_ltI {a b : Int} : StF (ltD (.int a) (.int b) g Q) (Q (.bl (decide (a < b))) g) := ⟨v_ltI⟩
theorem v_leI {a b : Int} (h : Q (.bl (decide (a ≤ b))) g) : leD (.int a) (.int b) g Q := h
instance p_v_leI {a b : Int} : Stp (leD (.int a) (.int b) g Q) (Q (.bl (decide (a ≤ b))) g) := ⟨v_leI⟩
instance a_v_leI {a b : Int} : StF (leD (.int a) (.int b) g Q) (Q (.bl (decide (a ≤ b))) g) := ⟨v_leI⟩
theorem v_gtI {a b : Int} (h : Q (.bl (decide (b < a))) g) : gtD (.int a) (.int b) g Q := h
instance p_v_gtI {a b : Int} : Stp (gtD (.int a) (.int b) g Q) (Q (.bl (decide (b < a))) g) := ⟨v_gtI⟩
instance a_v_gtI {a b : Int} : StF (gtD (.int a) (.int b) g Q) (Q (.bl (decide (b < a))) g) := ⟨v_gtI⟩
theorem v_geI {a b : Int} (h : Q (.bl (decide (b ≤ a))) g) : geD (.int a) (.int b) g Q := h
instance p_v_geI {a b : Int} : Stp (geD (.int a) (.int b) g Q) (Q (.bl (decide (b ≤ a))) g) := ⟨v_geI⟩
instance a_v_geI {a b : Int} : StF (geD (.int a) (.int b) g Q) (Q (.bl (decide (b ≤ a))) g) := ⟨v_geI⟩
theorem v_eqI {a b : Int} (h : Q (.bl (decide (a = b))) g) : eqD (.int a) (.int b) g Q := h
instance p_v_eqI {a b : Int} : Stp (eqD (.int a) (.int b) g Q) (Q (.bl (decide (a = b))) g) := ⟨v_eqI⟩
instance a_v_eqI {a b : Int} : StF (eqD (.int a) (.int b) g Q) (Q (.bl (decide (a = b))) g) := ⟨v_eqI⟩
theorem v_eqS {a b : Str} (h : Q (.bl (decide (a = b))) g) : eqD (.str a) (.str b) g Q := h
instance p_v_eqS {a b : Str} : Stp (eqD (.str a) (.str b) g Q) (Q (.bl (decide (a = b))) g) := ⟨v_eqS⟩
instance a_v_eqS {a b : Str} : StF (eqD (.str a) (.str b) g Q) (Q (.bl (decide (a = b))) g) := ⟨v_eqS⟩
theorem v_eqB {a b : Bool} (h : Q (.bl (decide (a = b))) g) : eqD (.bl a) (.bl b) g Q := h
instance p_v_eqB {a b : Bool} : Stp (eqD (.bl a) (.bl b) g Q) (Q (.bl (decide (a = b))) g) := ⟨v_eqB⟩
instance a_v_eqB {a b : Bool} : StF (eqD (.bl a) (.bl b) g Q) (Q (.bl (decide (a = b))) g) := ⟨v_eqB⟩
theorem v_neI {a b : Int} (h : Q (.bl (!decide (a = b))) g) : neD (.int a) (.int b) g Q := h
instance p_v_neI {a b : Int} : Stp (neD (.int a) (.int b) g Q) (Q (.bl (!decide (a = b))) g) := ⟨v_neI⟩
instance a_v_neI {a b : Int} : StF (neD (.int a) (.int b) g Q) (Q (.bl (!decide (a = b))) g) := ⟨v_neI⟩
theorem v_neS {a b : Str} (h : Q (.bl (!decide (a = b))) g) : neD (.str a) (.str b) g Q := h
instance p_v_neS {a b : Str} : Stp (neD (.str a) (.str b) g Q) (Q (.bl (!decide (a = b))) g) := ⟨v_neS⟩
instance a_v_neS {a b : Str} : StF (neD (.str a) (.str b) g Q) (Q (.bl (!decide (a = b))) g) := ⟨v_neS⟩
theorem v_in1 {c : Nat} {b : Str} (h : Q (.bl (decide (c ∈ b.cps.toList))) g) : inD (.str ⟨#[c]⟩) (.str b) g Q := by
  show Q (.bl (inStr ⟨#[c]⟩ b)) g
  rw [inStr_one]
  exact h
instance p_v_in1 {c : Nat} {b : Str} : Stp (inD (.str ⟨#[c]⟩) (.str b) g Q) (Q (.bl (decide (c ∈ b.cps.toList))) g) := ⟨v_in1⟩
instance a_v_in1 {c : Nat} {b : Str} : StF (inD (.str ⟨#[c]⟩) (.str b) g Q) (Q (.bl (decide (c ∈ b.cps.toList))) g) := ⟨v_in1⟩
theorem v_ixT {ds : List DL.D} {i : Int} (ha : atI ds i = some d) (h : Q d g) : ixD (.tup ds) (.int i) g Q := ⟨d, ha, h⟩
theorem v_ixL {ds : List DL.D} {p : Addr} {i : Int} (hp : g p = some (.lst ds)) (ha : atI ds i = some d) (h : Q d g) : ixD (.ref p) (.int i) g Q := ⟨ds, d, .inl hp, ha, h⟩
theorem v_ixS {z : Str} {i : Int} {c : Nat} (hz : z.length ≤ sizeLine) (ha : atI z.cps.toList i = some c) (h : Q (.str ⟨#[c]⟩) g) : ixD (.str z) (.int i) g Q := ⟨hz, c, ha, h⟩
theorem v_ixL' {p : Addr} {i : Int} (h : ∃ ds, g p = some (.lst ds) ∧ ∃ d, atI ds i = some d ∧ Q d g) : ixD (.ref p) (.int i) g Q := by
  obtain ⟨ds, a, d, b, c⟩ := h
  exact v_ixL a b c
theorem v_ixT' {ds : List DL.D} {i : Int} (h : ∃ d, atI ds i = some d ∧ Q d g) : ixD (.tup ds) (.int i) g Q := h
theorem v_lenL' {p : Addr} (h : ∃ ds, g p = some (.lst ds) ∧ Q (.int (ds.length : Nat)) g) : lenD [.ref p] g Q := by
  obtain ⟨ds, a, c⟩ := h
  exact ⟨ds, .inl a, c⟩
theorem v_tupL' {p : Addr} (h : ∃ ds, g p = some (.lst ds) ∧ Q (.tup ds) g) : tupF [.ref p] g Q := by
  obtain ⟨ds, a, c⟩ := h
  exact ⟨ds, .inl a, c⟩
theorem v_int {i : Int} (h : Q (.int i) g) : intF [.int i] g Q := h
instance p_v_int {i : Int} : Stp (intF [.int i] g Q) (Q (.int i) g) := ⟨v_int⟩
instance a_v_int {i : Int} : StF (intF [.int i] g Q) (Q (.int i) g) := ⟨v_int⟩
theorem v_intB {b : Bool} (h : Q (.int (if b then 1 else 0)) g) : intF [.bl b] g Q := h
instance p_v_intB {b : Bool} : Stp (intF [.bl b] g Q) (Q (.int (if b then 1 else 0)) g) := ⟨v_intB⟩
instance a_v_intB {b : Bool} : StF (intF [.bl b] g Q) (Q (.int (if b then 1 else 0)) g) := ⟨v_intB⟩
theorem v_abs {i : Int} (h : Q (.int (if i < 0 then -i else i)) g) : absD [.int i] g Q := ⟨trivial, h⟩
instance p_v_abs {i : Int} : Stp (absD [.int i] g Q) (Q (.int (if i < 0 then -i else i)) g) := ⟨v_abs⟩
instance a_v_abs {i : Int} : StF (absD [.int i] g Q) (Q (.int (if i < 0 then -i else i)) g) := ⟨v_abs⟩
theorem v_str {i : Int} (hz : i.natAbs.log2 < 1920) (h : Q (.str (toString i)) g) : strF [.int i] g Q := ⟨hz, h⟩
theorem v_lenS {z : Str} (hz : z.length ≤ sizeLine) (h : Q (.int (z.length : Nat)) g) : lenD [.str z] g Q := ⟨hz, h⟩
theorem v_lenT {ds : List DL.D} (h : Q (.int (ds.length : Nat)) g) : lenD [.tup ds] g Q := h
instance p_v_lenT {ds : List DL.D} : Stp (lenD [.tup ds] g Q) (Q (.int (ds.length : Nat)) g) := ⟨v_lenT⟩
instance a_v_lenT {ds : List DL.D} : StF (lenD [.tup ds] g Q) (Q (.int (ds.length : Nat)) g) := ⟨v_lenT⟩
theorem v_lenL {ds : List DL.D} {p : Addr} (hp : g p = some (.lst ds)) (h : Q (.int (ds.length : Nat)) g) : lenD [.ref p] g Q := ⟨ds, .inl hp, h⟩
theorem v_ixK {ds : List DL.D} {i : Int} (ha : atI ds i = some d) (h : Q d g) : ixD (.klst ds) (.int i) g Q := ⟨d, ha, h⟩
theorem v_lenK {ds : List DL.D} (h : Q (.int (ds.length : Nat)) g) : lenD [.klst ds] g Q := h
theorem v_lstK {ds : List DL.D} (h : ∀ p, g p = none → Q (.ref p) (gup g p (.lst ds))) : lstF [.klst ds] g Q := h
theorem v_tupT {ds : List DL.D} (h : Q (.tup ds) g) : tupF [.tup ds] g Q := h
instance p_v_tupT {ds : List DL.D} : Stp (tupF [.tup ds] g Q) (Q (.tup ds) g) := ⟨v_tupT⟩
instance a_v_tupT {ds : List DL.D} : StF (tupF [.tup ds] g Q) (Q (.tup ds) g) := ⟨v_tupT⟩
theorem v_lstT {ds : List DL.D} (h : ∀ p, g p = none → Q (.ref p) (gup g p (.lst ds))) : lstF [.tup ds] g Q := h
instance p_v_lstT {ds : List DL.D} : Stp (lstF [.tup ds] g Q) (∀ p, g p = none → Q (.ref p) (gup g p (.lst ds))) := ⟨v_lstT⟩
theorem v_lstL {ds : List DL.D} {p : Addr} (hp : g p = some (.lst ds)) (h : ∀ p, g p = none → Q (.ref p) (gup g p (.lst ds))) : lstF [.ref p] g Q := ⟨ds, .inl hp, h⟩
theorem v_app' {p : Addr} {ds : List DL.D} (hp : g p = some (.lst ds)) (hz : ds.length < sizeLine) (h : Q .non (gup g p (.lst (ds ++ [y])))) : appD (.ref p) [y] g Q := ⟨ds, hp, hz, h⟩
theorem v_rcvL {p : Addr} {ds : List DL.D} {P : Prop} (hp : g p = some (.lst ds)) (h : P) : rcv "list" (.ref p) g ∧ P := ⟨⟨rfl, ds, .inl hp⟩, h⟩
theorem v_rcvS {z : Str} {P : Prop} (h : P) : rcv "str" (.str z) g ∧ P := ⟨rfl, h⟩
instance p_v_rcvS {z : Str} {P : Prop} : Stp (rcv "str" (.str z) g ∧ P) (P) := ⟨v_rcvS⟩
instance a_v_rcvS {z : Str} {P : Prop} : StF (rcv "str" (.str z) g ∧ P) (P) := ⟨v_rcvS⟩
theorem v_set {p : Addr} {k : Int} {ds : List DL.D} {j : Nat} {v : DL.D} {R : GS → Prop} (hp : g p = some (.lst ds)) (hj : ixN ds.length k = some j) (h : R (gup g p (.lst (ds.set j v)))) : setD (.ref p) (.int k) v g R := ⟨ds, j, hp, hj, h⟩
theorem v_isN (h : Q (.bl true) g) : isND .non .non g Q := ⟨rfl, h⟩
instance p_v_isN  : Stp (isND .non .non g Q) (Q (.bl true) g) := ⟨v_isN⟩
instance a_v_isN  : StF (isND .non .non g Q) (Q (.bl true) g) := ⟨v_isN⟩
theorem iteD {P A B : Prop} [Decidable P] (h1 : P → A) (h2 : ¬ P → B) : if decide P = true then A else B := by
  by_cases h : P
  · rw [if_pos (decide_eq_true h)]; exact h1 h
  · rw [if_neg (by simpa using h)]; exact h2 h
theorem iteN {P A B : Prop} [Decidable P] (h1 : ¬ P → A) (h2 : P → B) : if (!decide P) = true then A else B := by
  by_cases h : P
  · rw [if_neg (by simpa using h)]; exact h2 h
  · rw [if_pos (by simpa using h)]; exact h1 h
theorem iteB {b : Bool} {A B : Prop} (h1 : b = true → A) (h2 : b = false → B) : if b = true then A else B := by
  cases b with
  | true => exact h1 rfl
  | false => exact h2 rfl
theorem iteNB {b : Bool} {A B : Prop} (h1 : b = false → A) (h2 : b = true → B) : if (!b) = true then A else B := by
  cases b with
  | true => exact h2 rfl
  | false => exact h1 rfl
end
theorem atI_ex {α : Type} {xs : List α} {i : Int} (h0 : 0 ≤ i) (h : i < xs.length) : ∃ x, x ∈ xs ∧ atI xs i = some x := by
  have hl : i.toNat < xs.length := by omega
  refine ⟨xs[i.toNat], List.getElem_mem hl, ?_⟩
  have e := L2.atI_nat (xs := xs) (j := i.toNat) (List.getElem?_eq_getElem hl)
  have e0 : ((i.toNat : Nat) : Int) = i := by omega
  rw [e0] at e
  exact e
theorem atI_map {α β : Type} {f : α → β} {xs : List α} {i : Int} {x : α} (h : atI xs i = some x) : atI (xs.map f) i = some (f x) := by
  unfold atI at h ⊢
  rw [List.length_map]
  cases q : ixN xs.length i with
  | none => rw [q] at h; cases h
  | some j =>
    rw [q] at h
    have h' : xs[j]? = some x := h
    show (xs.map f)[j]? = some (f x)
    rw [List.getElem?_map, h']
    rfl
theorem atI_at {α : Type} {xs : List α} {i : Nat} {x : α} (h : xs[i]? = some x) : atI xs ((0 : Int) + (i : Int)) = some x := by
  rw [Int.zero_add]
  exact L2.atI_nat h
def Up (S : List Addr) (g g' : GS) : Prop := (∀ l o, l ∉ S → g l = some o → g' l = some o) ∧ ∀ l, g l ≠ none → g' l ≠ none
section
variable {S : List Addr} {g g' g'' : GS} {p l : Addr} {o : MO}
theorem Up.refl : Up S g g := ⟨fun _ _ _ h => h, fun _ h => h⟩
theorem Up.trans (a : Up S g g') (b : Up S g' g'') : Up S g g'' := ⟨fun l o n h => b.1 l o n (a.1 l o n h), fun l h => b.2 l (a.2 l h)⟩
theorem gup_some {m : MO} (h : g p ≠ none) (l : Addr) : gup g l m p ≠ none := by
  unfold gup
  split
  · exact fun z => by cases z
  · exact h
theorem Up.new (h : g p = none) : Up S g (gup g p o) := ⟨fun l m n e => by rw [gup_ne (fun z => by rw [z, h] at e; cases e)]; exact e, fun l e => gup_some e p⟩
theorem Up.mut (a : Up S g g') (h : g p = none) : Up S g (gup g' p o) := ⟨fun l m n e => by rw [gup_ne (fun z => by rw [z, h] at e; cases e)]; exact a.1 l m n e, fun l e => gup_some (a.2 l e) p⟩
theorem Up.ins (a : Up S g g') (h : p ∈ S) : Up S g (gup g' p o) := ⟨fun l m n e => by rw [gup_ne (fun z => n (by rw [z]; exact h))]; exact a.1 l m n e, fun l e => gup_some (a.2 l e) p⟩
theorem Up.sub {S' : List Addr} (a : Up S g g') (h : ∀ x ∈ S, x ∈ S') : Up S' g g' := ⟨fun l o n e => a.1 l o (fun z => n (h l z)) e, a.2⟩
theorem Up.of0 (a : Up [] g g') : Up S g g' := a.sub fun _ z => nomatch z
theorem Up.fresh (a : Up S g g') (h : g' p = none) : g p = none := by
  cases q : g p with
  | none => rfl
  | some o => exact absurd h (a.2 p (by rw [q]; exact fun z => by cases z))
theorem ne_fresh {q : Addr} (h : g p = none) (h' : g q = some o) : p ≠ q := fun z => by rw [z, h'] at h; cases h
theorem Up.get0 (a : Up [] g g') (h : g l = some o) : g' l = some o := a.1 l o (fun z => nomatch z) h
theorem Up.get1 {q : Addr} (a : Up [q] g g') (n : l ≠ q) (h : g l = some o) : g' l = some o := a.1 l o (fun z => n (List.mem_singleton.mp z)) h
end
theorem bAnd_nn {x y : Int} (hx : 0 ≤ x) (hy : 0 ≤ y) : 0 ≤ Builtin.bitAnd x y := by
  rw [PyProof.Rows.bitAnd_pp hx hy]
  exact Int.natCast_nonneg _
theorem mask_nn (k : Nat) : (0 : Int) ≤ 1 * 2 ^ k - 1 := by
  have h : ∀ k : Nat, (0 : Int) < 2 ^ k := fun k => by
    induction k with
    | zero => decide
    | succ k ih => rw [Int.pow_succ]; omega
  have := h k
  omega
structure SI where
  L : Addr
  L0 : Addr
  ns : List Int
def Src (s : SI) (g : GS) (m : Nat) : Prop := g s.L0 = some (.lst (s.ns.map D.int)) ∧ (s.L0 ≠ s.L ∧ s.ns.length ≤ 63) ∧ ∃ c big seed n : Int, g s.L = some (.lst [.ref s.L0, .int c, .int big, .int seed, .int n]) ∧ 0 ≤ c ∧ 0 ≤ big ∧ 0 ≤ seed ∧ seed < 2147483647 ∧ 0 ≤ n ∧ n ≤ m
def Go (s : SI) (g g' : GS) (m : Nat) : Prop := Up [s.L] g g' ∧ Src s g' m
section
variable {s : SI} {g g' g'' : GS} {m m' : Nat} {p l : Addr} {o : MO}
theorem Src.up (h : Src s g m) (u : Up [] g g') : Src s g' m := by
  obtain ⟨h1, h2, c, big, seed, n, h3, h4⟩ := h
  exact ⟨u.get0 h1, h2, c, big, seed, n, u.get0 h3, h4⟩
theorem Src.mut (h : Src s g m) (n1 : p ≠ s.L) (n2 : p ≠ s.L0) : Src s (gup g p o) m := by
  obtain ⟨h1, h2, c, big, seed, n, h3, h4⟩ := h
  exact ⟨by rw [gup_ne n2.symm]; exact h1, h2, c, big, seed, n, by rw [gup_ne n1.symm]; exact h3, h4⟩
theorem Src.neL (h : Src s g m) (f : g p = none) : p ≠ s.L := by
  obtain ⟨_, _, _, _, _, _, h3, _⟩ := h
  exact ne_fresh f h3
theorem Src.neL0 (h : Src s g m) (f : g p = none) : p ≠ s.L0 := ne_fresh f h.1
theorem Src.le (h : Src s g m) (k : m ≤ m') : Src s g m' := by
  obtain ⟨h1, h2, c, big, seed, n, h3, h4, h5, h6, h7, h8, h9⟩ := h
  exact ⟨h1, h2, c, big, seed, n, h3, h4, h5, h6, h7, h8, by omega⟩
theorem Go.start (h : Src s g m) : Go s g g m := ⟨.refl, h⟩
theorem Go.new (h : Go s g g' m) (f : g' p = none) : Go s g (gup g' p o) m := ⟨h.1.trans (.new f), h.2.up (.new f)⟩
theorem Go.mut (h : Go s g g' m) (f : g p = none) (h0 : Src s g m') : Go s g (gup g' p o) m := ⟨h.1.mut f, h.2.mut (h0.neL f) (h0.neL0 f)⟩
theorem Go.trans (h : Go s g g' m) (k : Go s g' g'' m') : Go s g g'' m' := ⟨h.1.trans k.1, k.2⟩
theorem Go.get (h : Go s g g' m) (n : l ≠ s.L) (e : g l = some o) : g' l = some o := h.1.get1 n e
theorem Go.le (h : Go s g g' m) (k : m ≤ m') : Go s g g' m' := ⟨h.1, h.2.le k⟩
theorem Go.up (h : Go s g g' m) (u : Up [] g' g'') : Go s g g'' m := ⟨h.1.trans u.of0, h.2.up u⟩
end
end DL
namespace DL
open PySem PySem.Spec PyProof.Rows L2
open TL (tl)
theorem len2_le {s t : Str} {n : Nat} (h : (tl s).length + (tl t).length ≤ n) (hn : n ≤ 16777216) : s.length + t.length ≤ sizeLine := by
  rw [szl, TL.len_tl, TL.len_tl]; omega
theorem tl_one (c : Nat) : tl ⟨#[c]⟩ = [c] := rfl
theorem eqP_str (a b : Str) : eqP (.str a) (.str b) = decide (a = b) := by
  unfold eqP
  rw [pd, pd, PyData.eqv, Bool.beq_eq_decide_eq]
theorem eqP_int (a b : Int) : eqP (.int a) (.int b) = decide (a = b) := by
  unfold eqP
  rw [pd, pd, PyData.eqv, Bool.beq_eq_decide_eq]
theorem any_strs (t : Str) : ∀ us : List Str, ((us.map D.str).any fun z => eqP z (.str t)) = decide (t ∈ us)
  | [] => by simp
  | u :: us => by
    rw [List.map_cons, List.any_cons, any_strs t us, eqP_str]
    by_cases h : u = t
    · subst h; simp
    · have h' : ¬ t = u := fun z => h z.symm
      simp [h, h']
theorem any_ints (t : Int) : ∀ us : List Int, ((us.map D.int).any fun z => eqP z (.int t)) = decide (t ∈ us)
  | [] => by simp
  | u :: us => by
    rw [List.map_cons, List.any_cons, any_ints t us, eqP_int]
    by_cases h : u = t
    · subst h; simp
    · have h' : ¬ t = u := fun z => h z.symm
      simp [h, h']
theorem scal_strs (us : List Str) : (us.map D.str).all scalD = true := by simp [scalD]
theorem scal_ints (us : List Int) : (us.map D.int).all scalD = true := by simp [scalD]
section
variable {g : GS} {Q : DK} {p : Addr}
theorem v_inLS {t : Str} {us : List Str} (hp : g p = some (.lst (us.map D.str))) (h : Q (.bl (decide (t ∈ us))) g) : inD (.str t) (.ref p) g Q :=
  ⟨_, .inl hp, .inl ⟨rfl, scal_strs us⟩, by rw [any_strs]; exact h⟩
theorem v_notInLS {t : Str} {us : List Str} (hp : g p = some (.lst (us.map D.str))) (h : Q (.bl (!decide (t ∈ us))) g) : notInD (.str t) (.ref p) g Q := v_inLS hp h
theorem v_inTS {t : Str} {us : List Str} (h : Q (.bl (decide (t ∈ us))) g) : inD (.str t) (.tup (us.map D.str)) g Q := ⟨.inl ⟨rfl, scal_strs us⟩, by rw [any_strs]; exact h⟩
instance a_v_inTS {t : Str} {us : List Str} : StF (inD (.str t) (.tup (us.map D.str)) g Q) (Q (.bl (decide (t ∈ us))) g) := ⟨v_inTS⟩
theorem v_notInTS {t : Str} {us : List Str} (h : Q (.bl (!decide (t ∈ us))) g) : notInD (.str t) (.tup (us.map D.str)) g Q := v_inTS h
instance a_v_notInTS {t : Str} {us : List Str} : StF (notInD (.str t) (.tup (us.map D.str)) g Q) (Q (.bl (!decide (t ∈ us))) g) := ⟨v_notInTS⟩
theorem v_inLI {t : Int} {us : List Int} (hp : g p = some (.lst (us.map D.int))) (h : Q (.bl (decide (t ∈ us))) g) : inD (.int t) (.ref p) g Q :=
  ⟨_, .inl hp, .inl ⟨rfl, scal_ints us⟩, by rw [any_ints]; exact h⟩
theorem v_notInLI {t : Int} {us : List Int} (hp : g p = some (.lst (us.map D.int))) (h : Q (.bl (!decide (t ∈ us))) g) : notInD (.int t) (.ref p) g Q := v_inLI hp h
theorem v_inTI {t : Int} {us : List Int} (h : Q (.bl (decide (t ∈ us))) g) : inD (.int t) (.tup (us.map D.int)) g Q := ⟨.inl ⟨rfl, scal_ints us⟩, by rw [any_ints]; exact h⟩
end
theorem logOk {i : Int} (h : -18446744073709551616 < i ∧ i < 18446744073709551616) : i.natAbs.log2 < 1920 := by
  by_cases e : i.natAbs = 0
  · rw [e]; decide
  · rw [Nat.log2_lt e]
    exact Nat.lt_of_lt_of_le (show i.natAbs < 2 ^ 64 by omega) (Nat.pow_le_pow_right (by decide) (by decide))
/-- distinct ones within a list -/
theorem nodup_len {α : Type} [DecidableEq α] : ∀ (l m : List α), l.Nodup → (∀ x ∈ l, x ∈ m) → l.length ≤ m.length
  | [], m, _, _ => Nat.zero_le _
  | x :: l, m, h, hs => by
    have hx : x ∈ m := hs x List.mem_cons_self
    rw [List.nodup_cons] at h
    have := nodup_len l (m.erase x) h.2 fun y hy => by
      have ne : y ≠ x := fun e => h.1 (e ▸ hy)
      exact (List.mem_erase_of_ne ne).mpr (hs y (List.mem_cons_of_mem _ hy))
    rw [List.length_erase_of_mem hx] at this
    have pos := List.length_pos_of_mem hx
    rw [List.length_cons]
    omega
theorem nodup_map_on {α β : Type} (f : α → β) : ∀ (l : List α), l.Nodup → (∀ x ∈ l, ∀ y ∈ l, f x = f y → x = y) → (l.map f).Nodup
  | [], _, _ => List.nodup_nil
  | x :: l, h, hi => by
    rw [List.nodup_cons] at h
    rw [List.map_cons, List.nodup_cons]
    refine ⟨fun hm => ?_, nodup_map_on f l h.2 fun a ha b hb => hi a (List.mem_cons_of_mem _ ha) b (List.mem_cons_of_mem _ hb)⟩
    obtain ⟨y, hy, e⟩ := List.mem_map.mp hm
    exact h.1 (hi x List.mem_cons_self y (List.mem_cons_of_mem _ hy) e.symm ▸ hy)
theorem Src.neStr {s : SI} {g : GS} {m : Nat} {U : Addr} {us : List Str} (h : Src s g m) (hU : g U = some (.lst (us.map D.str))) : U ≠ s.L := by
  obtain ⟨_, _, c, big, seed, n, h3, _⟩ := h
  rintro rfl
  rw [h3] at hU
  cases us with
  | nil => cases hU
  | cons u us => cases hU
def low (c : Nat) : Prop := 97 ≤ c ∧ c ≤ 122
def dig (c : Nat) : Prop := 48 ≤ c ∧ c ≤ 57
instance (c : Nat) : Decidable (low c) := inferInstanceAs (Decidable (_ ∧ _))
instance (c : Nat) : Decidable (dig c) := inferInstanceAs (Decidable (_ ∧ _))
/-- a letter, then letters and digits, at most 1 + n of them -/
def NameL (n : Nat) (l : List Nat) : Prop := ∃ c r, l = c :: r ∧ low c ∧ (∀ x ∈ r, low x ∨ dig x) ∧ r.length ≤ n
abbrev NameOk (s : Str) : Prop := NameL 6 (tl s)
theorem NameL.app {n m : Nat} {l l2 : List Nat} (h : NameL n l) (h2 : ∀ x ∈ l2, low x ∨ dig x) (hl : l2.length ≤ m) : NameL (n + m) (l ++ l2) := by
  obtain ⟨c, r, rfl, hc, hr, hn⟩ := h
  refine ⟨c, r ++ l2, rfl, hc, fun x hx => ?_, by rw [List.length_append]; omega⟩
  rcases List.mem_append.mp hx with hx | hx
  · exact hr x hx
  · exact h2 x hx
theorem NameL.mono {n m : Nat} {l : List Nat} (h : NameL n l) (hm : n ≤ m) : NameL m l := by
  obtain ⟨c, r, rfl, hc, hr, hn⟩ := h
  exact ⟨c, r, rfl, hc, hr, by omega⟩
theorem NameL.len {n : Nat} {l : List Nat} (h : NameL n l) : l.length ≤ n + 1 := by
  obtain ⟨c, r, rfl, hc, hr, hn⟩ := h
  rw [List.length_cons]; omega
theorem NameL.all {n : Nat} {l : List Nat} (h : NameL n l) : ∀ x ∈ l, low x ∨ dig x := by
  obtain ⟨c, r, rfl, hc, hr, hn⟩ := h
  intro x hx
  rcases List.mem_cons.mp hx with rfl | hx
  · exact .inl hc
  · exact hr x hx
theorem NameL.ne {n : Nat} {l : List Nat} (h : NameL n l) : l ≠ [] := by
  obtain ⟨c, r, rfl, _⟩ := h
  simp
theorem numL_dig {k : Nat} : ∀ x ∈ TL.numL k, low x ∨ dig x := fun x hx => .inr (TL.numL_digits k x hx)
end DL
namespace DL
open PySem PySem.Spec PyProof.Rows L2
open TL (tl)
def mk (l : List Nat) : Str := ⟨l.toArray⟩
theorem tl_mk (l : List Nat) : tl (mk l) = l := rfl
theorem mk_tl (s : Str) : mk (tl s) = s := TL.mk_tl s
theorem mk_inj {a b : List Nat} (h : mk a = mk b) : a = b := by
  have := congrArg tl h
  rwa [tl_mk, tl_mk] at this
theorem mk_app (a b : List Nat) : mk a ++ mk b = mk (a ++ b) := TL.ext_tl (by rw [TL.tl_append, tl_mk, tl_mk, tl_mk])
/-- the signs of a text, walked -/
theorem walk_get {z : Str} {i : Nat} {d : D} (h : (z.cps.toList.map fun c => D.str ⟨#[c]⟩)[i]? = some d) : ∃ c, (tl z)[i]? = some c ∧ d = .str (mk [c]) := by
  rw [List.getElem?_map] at h
  show ∃ c, z.cps.toList[i]? = some c ∧ _
  cases hc : z.cps.toList[i]? with
  | none => rw [hc] at h; cases h
  | some c =>
    rw [hc] at h
    cases h
    exact ⟨c, rfl, rfl⟩
section
variable {g : GS} {Q : DK} {p : Addr}
theorem v_in1' {c : Nat} {b : Str} (h : Q (.bl (decide (c ∈ tl b))) g) : inD (.str (mk [c])) (.str b) g Q := v_in1 h
end
section
variable {g : GS} {Q : DK}
theorem v_addM {a b : List Nat} (hz : a.length + b.length ≤ 16777216) (h : Q (.str (mk (a ++ b))) g) : addD (.str (mk a)) (.str (mk b)) g Q := by
  refine v_addS (by rw [szl, TL.len_tl, TL.len_tl, tl_mk, tl_mk]; exact hz) ?_
  rw [mk_app]; exact h
theorem v_lenM {a : List Nat} (hz : a.length ≤ 16777216) (h : Q (.int (a.length : Nat)) g) : lenD [.str (mk a)] g Q := by
  refine v_lenS (by rw [szl, TL.len_tl, tl_mk]; exact hz) ?_
  rw [TL.len_tl, tl_mk]; exact h
theorem v_eqM {a b : List Nat} (h : Q (.bl (decide (a = b))) g) : eqD (.str (mk a)) (.str (mk b)) g Q := by
  refine v_eqS ?_
  have : decide (mk a = mk b) = decide (a = b) := by
    by_cases h : a = b
    · subst h; simp
    · simp only [h, decide_false, decide_eq_false_iff_not]; exact fun z => h (mk_inj z)
  rw [this]; exact h
instance (priority := 2000) a_v_eqM {a b : List Nat} : StF (eqD (.str (mk a)) (.str (mk b)) g Q) (Q (.bl (decide (a = b))) g) := ⟨v_eqM⟩
theorem v_neM {a b : List Nat} (h : Q (.bl (!decide (a = b))) g) : neD (.str (mk a)) (.str (mk b)) g Q := v_eqM (Q := notV Q) h
instance (priority := 2000) a_v_neM {a b : List Nat} : StF (neD (.str (mk a)) (.str (mk b)) g Q) (Q (.bl (!decide (a = b))) g) := ⟨v_neM⟩
end
theorem empty_mk : ("" : Str) = mk [] := by decide +kernel
/-- the end: the law's promise at the script -/
theorem fin_of {sp : DSp} (h : ∀ (ns : List Int) (g : GS), ns.length ≤ 63 → (∀ a, g a = none) → sp [.klst (ns.map D.int)] g fun d _ => d = .bl true) (K : PySem.W.Frag) (H : Hp) (a : Addr) (ns : List Int) (hn : ns.length ≤ 63) (hO : Only H) (hS : SqL K H a (ns.map V.int)) :
    lSp K sp [.ref a] H (fun v _ => v = .bl true) fun _ _ _ => False := by
  have hF : SqF K H a (ns.map V.int) := by
    rcases hS with (h | h) | h
    · rcases hO a with z | ⟨o, xs, z⟩ <;> rw [z] at h <;> cases h
    · exact .inl h
    · exact .inr h
  refine ⟨[.klst (ns.map D.int)], fun _ => none, fun d _ => d = .bl true, .cons (.kl hF (.ofInts ns)) .nil, (fun _ _ z => nomatch z), h ns _ hn fun _ => rfl, fun v d H' g' _ _ r e => ?_⟩
  subst e
  cases r
  rfl
end DL
namespace DL
open PySem PySem.Spec PyProof.Rows L2
def kD : Key → D
  | .inl i => .int i
  | .inr s => .str s
section
variable {κ : Type} [DecidableEq κ]
def getD (kvs : List (κ × D)) (k : κ) : Option D := (kvs.find? fun kv => decide (kv.1 = k)).map (·.2)
def putD (kvs : List (κ × D)) (k : κ) (v : D) : List (κ × D) :=
  if (kvs.any fun kv => decide (kv.1 = k)) = true then kvs.map (fun kv => if kv.1 = k then (kv.1, v) else kv) else kvs ++ [(k, v)]
def delD (kvs : List (κ × D)) (k : κ) : List (κ × D) := kvs.filter fun kv => decide (kv.1 ≠ k)
def mergeD (kvs more : List (Key × D)) : List (Key × D) := more.foldl (fun acc kv => putD acc kv.1 kv.2) kvs
end
section
variable {κ : Type} [DecidableEq κ] {K : PySem.W.Frag} {H H' : Hp}
theorem RepD.kD {v : V} {k : Key} (r : RepD K H v (DL.kD k)) : v = kV k := by
  cases k <;> (cases r; rfl)
theorem RepKV.get : ∀ {vs : List (κ × V)} {kvs : List (κ × D)} {k : κ}, RepKV K H vs kvs → (getD kvs k = none ∧ valV vs k = none) ∨ ∃ d v, getD kvs k = some d ∧ valV vs k = some v ∧ RepD K H v d
  | _, _, k, .nil => .inl ⟨rfl, rfl⟩
  | (a, v) :: vs, (b, d) :: kvs, k, .cons h t => by
    obtain ⟨h1, h2⟩ := h
    dsimp only at h1 h2
    subst h1
    by_cases e : a = k
    · subst e
      refine .inr ⟨d, v, ?_, ?_, h2⟩ <;> simp [getD, valV]
    · have ih := RepKV.get (k := k) t
      have e1 : getD ((a, d) :: kvs) k = getD kvs k := by simp [getD, List.find?_cons, e]
      have e2 : valV ((a, v) :: vs) k = valV vs k := by simp [valV, List.find?_cons, e]
      rw [e1, e2]
      exact ih
theorem RepKV.any : ∀ {vs : List (κ × V)} {kvs : List (κ × D)} (k : κ), RepKV K H vs kvs → (vs.any fun kv => decide (kv.1 = k)) = (kvs.any fun kv => decide (kv.1 = k))
  | _, _, k, .nil => rfl
  | (a, v) :: vs, (b, d) :: kvs, k, .cons h t => by
    obtain ⟨h1, _⟩ := h
    dsimp only at h1
    subst h1
    rw [List.any_cons, List.any_cons, RepKV.any k t]
theorem RepKV.repl {k : κ} {y : V} {d : D} (r : RepD K H y d) : ∀ {vs : List (κ × V)} {kvs : List (κ × D)}, RepKV K H vs kvs → RepKV K H (vs.map fun kv => if kv.1 = k then (kv.1, y) else kv) (kvs.map fun kv => if kv.1 = k then (kv.1, d) else kv)
  | _, _, .nil => .nil
  | (a, v) :: vs, (b, e) :: kvs, .cons h t => by
    obtain ⟨h1, h2⟩ := h
    dsimp only at h1 h2
    subst h1
    refine .cons ?_ (RepKV.repl r t)
    by_cases e : a = k
    · simp only [e, if_true]; exact ⟨trivial, r⟩
    · simp only [e, if_false]; exact ⟨trivial, h2⟩
theorem RepKV.snoc {k : κ} {y : V} {d : D} (r : RepD K H y d) : ∀ {vs : List (κ × V)} {kvs : List (κ × D)}, RepKV K H vs kvs → RepKV K H (vs ++ [(k, y)]) (kvs ++ [(k, d)])
  | _, _, .nil => .cons ⟨rfl, r⟩ .nil
  | _ :: _, _ :: _, .cons h t => .cons h (RepKV.snoc r t)
theorem RepKV.put {vs : List (κ × V)} {kvs : List (κ × D)} (t : RepKV K H vs kvs) (k : κ) {y : V} {d : D} (r : RepD K H y d) : RepKV K H (putK vs k y) (putD kvs k d) := by
  unfold putK putD
  rw [t.any k]
  split
  · exact t.repl r
  · exact t.snoc r
theorem RepKV.length {vs : List (κ × V)} {kvs : List (κ × D)} (t : RepKV K H vs kvs) : vs.length = kvs.length := PySem.Paired.length t
theorem RepKV.merge : ∀ {ws : List (Key × V)} {ms : List (Key × D)} {vs : List (Key × V)} {kvs : List (Key × D)}, RepKV K H ws ms → RepKV K H vs kvs → RepKV K H (mergeK vs ws) (mergeD kvs ms)
  | _, _, _, _, .nil, t => t
  | (a, v) :: ws, (b, e) :: ms, vs, kvs, .cons h t, u => by
    obtain ⟨h1, h2⟩ := h
    dsimp only at h1 h2
    subst h1
    have := RepKV.merge (ws := ws) (ms := ms) t (u.put a h2)
    exact this
theorem RepG.dct {g : GS} (r : RepG K H g) {p : Addr} {kvs : List (Key × D)} (h : g p = some (.dct kvs)) : ∃ vs, H p = some (.dK vs) ∧ RepKV K H vs kvs := r p _ h
theorem RepG.laidD {g : GS} (r : RepG K H g) {n : Addr} (hn : H n = none) {vs : List (Key × V)} {kvs : List (Key × D)} (l : RepKV K H vs kvs) : RepG K (L2.upd H n (.dK vs)) (gup g n (.dct kvs)) :=
  r.upd (m := .dct kvs) (.new hn) (show ∃ _, _ ∧ _ from ⟨_, upd_same, l.mono (.new hn)⟩)
theorem RepG.setK {g : GS} (r : RepG K H g) {n : Addr} {ys : List (Key × V)} (hn : H n = some (.dK ys)) {vs : List (Key × V)} {kvs : List (Key × D)} (l : RepKV K H vs kvs) : RepG K (L2.upd H n (.dK vs)) (gup g n (.dct kvs)) :=
  r.upd (m := .dct kvs) (.dk hn) (show ∃ _, _ ∧ _ from ⟨_, upd_same, l.mono (.dk hn)⟩)
end
section
variable {X : Cx} {K : PySem.W.Frag} {H H' : Hp} {σ : L2.St} {o i e f value : Expr} {td ty tv tx : DTE} {pos pos' apos cpos : Pos}
def dDNew : DTE := fun _ g Q => ∀ p, g p = none → Q (.ref p) (gup g p (.dct []))
theorem de_dnew : DE X (.Dict [] [] pos) dDNew := ⟨peW pe_dnewK fun σ H Q ⟨e, g, Qd, re, rg, q, k⟩ p hp => k _ _ _ _ (.new hp) (rg.laidD hp .nil) (.ref p) (q p (rg.free hp))⟩
def dPairs : List (DTE × DTE) → EV → GS → (List (D × D) → GS → Prop) → Prop
  | [], _, g, Q => Q [] g
  | (tk, tv) :: r, e, g, Q => tk e g fun x g1 => tv e g1 fun y g2 => dPairs r e g2 fun ps g3 => Q ((x, y) :: ps) g3
/-- a written dict: the pairs, keys ints and texts -/
def dDisp (trs : List (DTE × DTE)) : DTE := fun e g Q => ∀ p, g p = none → dPairs trs e (gup g p (.dct [])) fun ps g2 => g2 p = some (.dct []) ∧ ∃ kvs : List (Key × D), ps = kvs.map (fun kv => (kD kv.1, kv.2)) ∧ kvs.length ≤ 15 ∧ Q (.ref p) (gup g2 p (.dct (mergeD [] kvs)))
structure DPs (X : Cx) (pos : Pos) (keys : List (Option Expr)) (values : List Expr) (trs : List (DTE × DTE)) : Prop where
  pps : PPs X pos keys values (trs.map fun t => (lE X.K t.1, lE X.K t.2))
theorem dps_nil : DPs X pos [] [] [] := ⟨pps_nil⟩
theorem dps_cons {k v : Expr} {ks : List (Option Expr)} {vs : List Expr} {tk tv : DTE} {trs : List (DTE × DTE)} (hk : DE X k tk) (hv : DE X v tv) (hr : DPs X pos ks vs trs) : DPs X pos (some k :: ks) (v :: vs) ((tk, tv) :: trs) := ⟨pps_cons hk.pe hv.pe hr.pps⟩
def RepPs (K : PySem.W.Frag) (H : Hp) : List (V × V) → List (D × D) → Prop := Paired fun p q => RepD K H p.1 q.1 ∧ RepD K H p.2 q.2
theorem lpairs : ∀ (trs : List (DTE × DTE)) {σ : L2.St} {e : EV} {H : Hp} {g : GS} {Qd : List (D × D) → GS → Prop} {Q : List (V × V) → Hp → Prop}, RepE K H σ e → RepG K H g → dPairs trs e g Qd → (∀ vs ds H' g', Ext H H' → RepG K H' g' → RepPs K H' vs ds → Qd ds g' → Q vs H') → tPairs (trs.map fun t => (lE K t.1, lE K t.2)) σ H Q
  | [], _, _, H, g, _, _, re, rg, q, k => k [] [] H g (.refl H) rg .nil q
  | (tk, tv) :: r, σ, e, H, g, Qd, Q, re, rg, q, k => ⟨e, g, _, re, rg, q, fun x dx H1 g1 x1 rg1 r1 q1 => ⟨e, g1, _, re.mono x1, rg1, q1, fun y dy H2 g2 x2 rg2 r2 q2 =>
      lpairs r (re.mono (x1.trans x2)) rg2 q2 fun vs ds H3 g3 x3 rg3 l3 q3 => k _ _ H3 g3 ((x1.trans x2).trans x3) rg3 (.cons ⟨r1.mono (x2.trans x3), r2.mono x3⟩ l3) q3⟩⟩
theorem reps_keys : ∀ {ps : List (V × V)} (kvs : List (Key × D)), RepPs K H ps (kvs.map fun kv => (kD kv.1, kv.2)) → ∃ vs : List (Key × V), ps = vs.map (fun kv => (kV kv.1, kv.2)) ∧ RepKV K H vs kvs
  | _, [], .nil => ⟨[], rfl, .nil⟩
  | (a, v) :: ps, (k, d) :: kvs, .cons h t => by
    obtain ⟨vs, e, r⟩ := reps_keys kvs t
    have e1 := RepD.kD h.1
    dsimp only at e1
    subst e1
    exact ⟨(k, v) :: vs, by rw [e]; rfl, .cons ⟨rfl, h.2⟩ r⟩
theorem de_disp {keys : List (Option Expr)} {values : List Expr} {trs : List (DTE × DTE)} (h : DPs X pos keys values trs) (hall : keys.all (·.isSome) = true) (hl : keys.length = values.length) (h0 : keys ≠ []) (h15 : keys.length ≤ 15) : DE X (.Dict keys values pos) (dDisp trs) :=
  ⟨peW (pe_disp h.pps hall hl h0 h15) fun σ H Q ⟨e, g, Qd, re, rg, q, k⟩ p hp => lpairs trs (re.mono (.new hp)) (rg.laidD hp .nil) (q p (rg.free hp)) fun vs ds H2 g2 x2 rg2 l2 q2 => by
    obtain ⟨h1, kvs, rfl, hz, q2⟩ := q2
    obtain ⟨us, e1, r⟩ := rg2.dct h1
    cases r
    obtain ⟨ws, rfl, rw'⟩ := reps_keys kvs l2
    exact ⟨e1, ws, rfl, by rw [rw'.length]; exact hz, k _ _ _ _ ((Ext.trans (.new hp) x2).trans (.dk e1)) (rg2.setK e1 (rw'.merge .nil)) (.ref p) q2⟩⟩
/-- d[k], k in d .. -/
def dDGet (td ty : DTE) : DTE := fun e g Q => td e g fun x g1 => ty e g1 fun y g2 => ∃ p kvs k v, x = .ref p ∧ g2 p = some (.dct kvs) ∧ y = kD k ∧ getD kvs k = some v ∧ Q v g2
def dDIn (ty td : DTE) : DTE := fun e g Q => ty e g fun y g1 => td e g1 fun x g2 => ∃ p kvs k, x = .ref p ∧ g2 p = some (.dct kvs) ∧ y = kD k ∧ Q (.bl (getD kvs k).isSome) g2
def dDNotIn (ty td : DTE) : DTE := fun e g Q => ty e g fun y g1 => td e g1 fun x g2 => ∃ p kvs k, x = .ref p ∧ g2 p = some (.dct kvs) ∧ y = kD k ∧ Q (.bl (!(getD kvs k).isSome)) g2
theorem de_dget (hu : X.A.units + 1 < cLine) (ho : DE X o td) (hi : DE X i ty) (hs : NoSl i) : DE X (.Subscript o i pos) (dDGet td ty) := ⟨peW (pe_dget hu ho.pe hi.pe hs) fun σ H Q ⟨e, g, Qd, re, rg, q, k⟩ =>
  ⟨e, g, _, re, rg, q, fun x dx H1 g1 x1 rg1 r1 q1 => ⟨e, g1, _, re.mono x1, rg1, q1, fun y dy H2 g2 x2 rg2 r2 q2 => by
    obtain ⟨p, kvs, kk, v, rfl, h, rfl, hv, q2⟩ := q2
    cases r1
    have := r2.kD
    subst this
    obtain ⟨vs, e1, r⟩ := rg2.dct h
    rcases r.get (k := kk) with ⟨z, _⟩ | ⟨d, w, e2, e3, r3⟩
    · rw [z] at hv; cases hv
    · rw [hv] at e2
      cases e2
      exact ⟨p, w, rfl, by rw [← e3]; exact .k e1, k _ _ _ _ (x1.trans x2) rg2 r3 q2⟩⟩⟩⟩
theorem ldin {neg : Bool} {Q : VK} {y x : V} {dx dy : D} {H2 : Hp} {g2 : GS} {Qd : DK} (r1 : RepD K H2 y dy) (r2 : RepD K H2 x dx) (rg2 : RepG K H2 g2) (k : KD K H2 Qd Q) (q : ∃ p kvs kk, dx = .ref p ∧ g2 p = some (.dct kvs) ∧ dy = kD kk ∧ Qd (.bl (if neg then !(getD kvs kk).isSome else (getD kvs kk).isSome)) g2) : ∃ a o, x = .ref a ∧ DGet H2 a y o ∧ Q (.bl (if neg then !o.isSome else o.isSome)) H2 := by
  obtain ⟨p, kvs, kk, rfl, h, rfl, q⟩ := q
  cases r2
  have := r1.kD
  subst this
  obtain ⟨vs, e1, r⟩ := rg2.dct h
  refine ⟨p, valV vs kk, rfl, .k e1, ?_⟩
  have e : (valV vs kk).isSome = (getD kvs kk).isSome := by
    rcases r.get (k := kk) with ⟨z, z2⟩ | ⟨d, w, e2, e3, r3⟩
    · rw [z, z2]; rfl
    · rw [e2, e3]; rfl
  rw [e]
  exact rg2.fin k (.bl _) q
theorem tB_lift {t : DTE} {T : TE} {Q : Bool → Hp → Prop} (w : ∀ σ H Q, lE K t σ H Q → T σ H Q) (h : lT K (dTest t) σ H Q) : tB T σ H Q := w _ _ _ (by
  obtain ⟨e, g, Qd, re, rg, q, k⟩ := h
  refine ⟨e, g, _, re, rg, q, fun x d H1 g1 x1 rg1 rx q1 => ?_⟩
  obtain ⟨b, rfl, q1⟩ := q1
  cases rx
  exact ⟨b, rfl, k _ _ _ x1 rg1 q1⟩)
theorem dt_din (hu : X.A.units + 1 < cLine) (hi : DE X i ty) (ho : DE X o td) (hm : behindInMarks .In o = false) : DT X (.Compare i [.In] [o] pos) (dTest (dDIn ty td)) := ⟨ptW (pt_cmp (pc_din hu hi.pe ho.pe) hm) fun σ H Q h => tB_lift (fun σ H Q ⟨e, g, Qd, re, rg, q, k⟩ =>
  ⟨e, g, _, re, rg, q, fun y dy H1 g1 x1 rg1 r1 q1 => ⟨e, g1, _, re.mono x1, rg1, q1, fun x dx H2 g2 x2 rg2 r2 q2 => ldin (neg := false) (r1.mono x2) r2 rg2 (k.mono (x1.trans x2)) q2⟩⟩) h⟩
theorem dt_dnotin (hu : X.A.units + 1 < cLine) (hi : DE X i ty) (ho : DE X o td) (hm : behindInMarks .NotIn o = false) : DT X (.Compare i [.NotIn] [o] pos) (dTest (dDNotIn ty td)) := ⟨ptW (pt_cmp (pc_dnotin hu hi.pe ho.pe) hm) fun σ H Q h => tB_lift (fun σ H Q ⟨e, g, Qd, re, rg, q, k⟩ =>
  ⟨e, g, _, re, rg, q, fun y dy H1 g1 x1 rg1 r1 q1 => ⟨e, g1, _, re.mono x1, rg1, q1, fun x dx H2 g2 x2 rg2 r2 q2 => ldin (neg := true) (r1.mono x2) r2 rg2 (k.mono (x1.trans x2)) q2⟩⟩) h⟩
/-- d[k] = v; del d[k] -/
def dDPut (td ty tv : DTE) : DTS := fun D e g => tv e g fun v g1 => td e g1 fun x g2 => ty e g2 fun y g3 => ∃ p kvs k, x = .ref p ∧ g3 p = some (.dct kvs) ∧ y = kD k ∧ kvs.length < sizeLine ∧ D.nx e (gup g3 p (.dct (putD kvs k v)))
theorem ds_dput (hu : X.A.units + 1 < cLine) (ho : DE X o td) (hi : DE X i ty) (hv : DE X value tv) (hs : swapsWith value (some (.Subscript o i pos')) pos.line X.env = pure false := by rfl) : DS X (.Assign [.Subscript o i pos'] value pos) (dDPut td ty tv) := ⟨psW (ps_dput hu ho.pe hi.pe hv.pe hs) fun D σ H ⟨e, g, Dd, re, rg, q, k1, _⟩ =>
  ⟨e, g, _, re, rg, q, fun v dv H1 g1 x1 rg1 rv q1 => ⟨e, g1, _, re.mono x1, rg1, q1, fun x dx H2 g2 x2 rg2 rx q2 => ⟨e, g2, _, re.mono (x1.trans x2), rg2, q2, fun y dy H3 g3 x3 rg3 ry q3 => by
    obtain ⟨p, kvs, k, rfl, h, rfl, hz, q3⟩ := q3
    cases rx
    have := ry.kD
    subst this
    obtain ⟨vs, e1, r⟩ := rg3.dct h
    have xx : Ext H (upd H3 p (.dK (putK vs k v))) := ((x1.trans x2).trans x3).trans (.dk e1)
    exact ⟨p, _, rfl, .k e1 (by rw [r.length]; exact hz), (k1.mono xx).fin (re.mono xx) (rg3.setK e1 (r.put k (rv.mono (x2.trans x3)))) q3⟩⟩⟩⟩⟩
def dDDel (td ty : DTE) : DTS := fun D e g => td e g fun x g2 => ty e g2 fun y g3 => ∃ p kvs k, x = .ref p ∧ g3 p = some (.dct kvs) ∧ y = kD k ∧ (getD kvs k).isSome = true ∧ D.nx e (gup g3 p (.dct (delD kvs k)))
/-- d.get(k), d.get(k, x), d.pop(k), d.pop(k, x) -/
def dDGet1 (td ty : DTE) : DTE := fun e g Q => td e g fun x g1 => ∃ p, x = .ref p ∧ (∃ kvs, g1 p = some (.dct kvs)) ∧ ty e g1 fun y g2 => ∃ kvs k, g2 p = some (.dct kvs) ∧ y = kD k ∧ Q ((getD kvs k).getD .non) g2
def dDGet2 (td ty tx : DTE) : DTE := fun e g Q => td e g fun x g1 => ∃ p, x = .ref p ∧ (∃ kvs, g1 p = some (.dct kvs)) ∧ ty e g1 fun y g2 => tx e g2 fun z g3 => ∃ kvs k, g3 p = some (.dct kvs) ∧ y = kD k ∧ Q ((getD kvs k).getD z) g3
def dDPop1 (td ty : DTE) : DTE := fun e g Q => td e g fun x g1 => ∃ p, x = .ref p ∧ (∃ kvs, g1 p = some (.dct kvs)) ∧ ty e g1 fun y g2 => ∃ kvs k v, g2 p = some (.dct kvs) ∧ y = kD k ∧ getD kvs k = some v ∧ Q v (gup g2 p (.dct (delD kvs k)))
theorem RepKV.getD1 {κ : Type} [DecidableEq κ] {vs : List (κ × V)} {kvs : List (κ × D)} (r : RepKV K H vs kvs) (k : κ) {z : V} {dz : D} (h : RepD K H z dz) : RepD K H ((valV vs k).getD z) ((getD kvs k).getD dz) := by
  rcases r.get (k := k) with ⟨z1, z2⟩ | ⟨d, w, e2, e3, r3⟩
  · rw [z1, z2]; exact h
  · rw [e2, e3]; exact r3
theorem de_dget1 (hu : X.A.units + 1 < cLine) (ho : DE X o td) (hi : DE X e ty) (m : M1 X o "get" apos e cpos := by exact ⟨rfl, rfl, rfl, rfl⟩) : DE X (.Call (.Attribute o "get" apos) [e] [] cpos) (dDGet1 td ty) := ⟨peW (pe_dget1 hu ho.pe hi.pe m) fun σ H Q ⟨e, g, Qd, re, rg, q, k⟩ =>
  ⟨e, g, _, re, rg, q, fun x dx H1 g1 x1 rg1 r1 q1 => by
    obtain ⟨p, rfl, ⟨kvs, h⟩, q1⟩ := q1
    cases r1
    obtain ⟨vs, e1, _⟩ := rg1.dct h
    refine ⟨p, rfl, .inl ⟨vs, .inl e1⟩, e, g1, _, re.mono x1, rg1, q1, fun y dy H2 g2 x2 rg2 r2 q2 => ?_⟩
    obtain ⟨kvs, k', h, rfl, q2⟩ := q2
    have := r2.kD
    subst this
    obtain ⟨vs, e1, r⟩ := rg2.dct h
    exact ⟨_, .k e1, k _ _ _ _ (x1.trans x2) rg2 (r.getD1 k' .non) q2⟩⟩⟩
end
section
variable {e : EV} {g : GS} {Q : DK} {D : DEnds} {td ty tv tx : DTE}
theorem s_dnew (h : ∀ p, g p = none → Q (.ref p) (gup g p (.dct []))) : dDNew e g Q := h
instance p_s_dnew  : Stp (dDNew e g Q) (∀ p, g p = none → Q (.ref p) (gup g p (.dct []))) := ⟨s_dnew⟩
theorem s_dget (h : td e g fun x g1 => ty e g1 fun y g2 => ∃ p kvs k v, x = .ref p ∧ g2 p = some (.dct kvs) ∧ y = kD k ∧ getD kvs k = some v ∧ Q v g2) : dDGet td ty e g Q := h
instance p_s_dget  : Stp (dDGet td ty e g Q) (td e g fun x g1 => ty e g1 fun y g2 => ∃ p kvs k v, x = .ref p ∧ g2 p = some (.dct kvs) ∧ y = kD k ∧ getD kvs k = some v ∧ Q v g2) := ⟨s_dget⟩
theorem s_din (h : ty e g fun y g1 => td e g1 fun x g2 => ∃ p kvs k, x = .ref p ∧ g2 p = some (.dct kvs) ∧ y = kD k ∧ Q (.bl (getD kvs k).isSome) g2) : dDIn ty td e g Q := h
instance p_s_din  : Stp (dDIn ty td e g Q) (ty e g fun y g1 => td e g1 fun x g2 => ∃ p kvs k, x = .ref p ∧ g2 p = some (.dct kvs) ∧ y = kD k ∧ Q (.bl (getD kvs k).isSome) g2) := ⟨s_din⟩
theorem s_dnotin (h : ty e g fun y g1 => td e g1 fun x g2 => ∃ p kvs k, x = .ref p ∧ g2 p = some (.dct kvs) ∧ y = kD k ∧ Q (.bl (!(getD kvs k).isSome)) g2) : dDNotIn ty td e g Q := h
instance p_s_dnotin  : Stp (dDNotIn ty td e g Q) (ty e g fun y g1 => td e g1 fun x g2 => ∃ p kvs k, x = .ref p ∧ g2 p = some (.dct kvs) ∧ y = kD k ∧ Q (.bl (!(getD kvs k).isSome)) g2) := ⟨s_dnotin⟩
theorem s_dput (h : tv e g fun v g1 => td e g1 fun x g2 => ty e g2 fun y g3 => ∃ p kvs k, x = .ref p ∧ g3 p = some (.dct kvs) ∧ y = kD k ∧ kvs.length < sizeLine ∧ D.nx e (gup g3 p (.dct (putD kvs k v)))) : dDPut td ty tv D e g := h
instance p_s_dput  : Stp (dDPut td ty tv D e g) (tv e g fun v g1 => td e g1 fun x g2 => ty e g2 fun y g3 => ∃ p kvs k, x = .ref p ∧ g3 p = some (.dct kvs) ∧ y = kD k ∧ kvs.length < sizeLine ∧ D.nx e (gup g3 p (.dct (putD kvs k v)))) := ⟨s_dput⟩
theorem s_ddel (h : td e g fun x g2 => ty e g2 fun y g3 => ∃ p kvs k, x = .ref p ∧ g3 p = some (.dct kvs) ∧ y = kD k ∧ (getD kvs k).isSome = true ∧ D.nx e (gup g3 p (.dct (delD kvs k)))) : dDDel td ty D e g := h
instance p_s_ddel  : Stp (dDDel td ty D e g) (td e g fun x g2 => ty e g2 fun y g3 => ∃ p kvs k, x = .ref p ∧ g3 p = some (.dct kvs) ∧ y = kD k ∧ (getD kvs k).isSome = true ∧ D.nx e (gup g3 p (.dct (delD kvs k)))) := ⟨s_ddel⟩
theorem s_dget1 (h : td e g fun x g1 => ∃ p, x = .ref p ∧ (∃ kvs, g1 p = some (.dct kvs)) ∧ ty e g1 fun y g2 => ∃ kvs k, g2 p = some (.dct kvs) ∧ y = kD k ∧ Q ((getD kvs k).getD .non) g2) : dDGet1 td ty e g Q := h
instance p_s_dget1  : Stp (dDGet1 td ty e g Q) (td e g fun x g1 => ∃ p, x = .ref p ∧ (∃ kvs, g1 p = some (.dct kvs)) ∧ ty e g1 fun y g2 => ∃ kvs k, g2 p = some (.dct kvs) ∧ y = kD k ∧ Q ((getD kvs k).getD .non) g2) := ⟨s_dget1⟩
theorem s_dget2 (h : td e g fun x g1 => ∃ p, x = .ref p ∧ (∃ kvs, g1 p = some (.dct kvs)) ∧ ty e g1 fun y g2 => tx e g2 fun z g3 => ∃ kvs k, g3 p = some (.dct kvs) ∧ y = kD k ∧ Q ((getD kvs k).getD z) g3) : dDGet2 td ty tx e g Q := h
instance p_s_dget2  : Stp (dDGet2 td ty tx e g Q) (td e g fun x g1 => ∃ p, x = .ref p ∧ (∃ kvs, g1 p = some (.dct kvs)) ∧ ty e g1 fun y g2 => tx e g2 fun z g3 => ∃ kvs k, g3 p = some (.dct kvs) ∧ y = kD k ∧ Q ((getD kvs k).getD z) g3) := ⟨s_dget2⟩
theorem s_dpop1 (h : td e g fun x g1 => ∃ p, x = .ref p ∧ (∃ kvs, g1 p = some (.dct kvs)) ∧ ty e g1 fun y g2 => ∃ kvs k v, g2 p = some (.dct kvs) ∧ y = kD k ∧ getD kvs k = some v ∧ Q v (gup g2 p (.dct (delD kvs k)))) : dDPop1 td ty e g Q := h
instance p_s_dpop1  : Stp (dDPop1 td ty e g Q) (td e g fun x g1 => ∃ p, x = .ref p ∧ (∃ kvs, g1 p = some (.dct kvs)) ∧ ty e g1 fun y g2 => ∃ kvs k v, g2 p = some (.dct kvs) ∧ y = kD k ∧ getD kvs k = some v ∧ Q v (gup g2 p (.dct (delD kvs k)))) := ⟨s_dpop1⟩
instance a_s_dpop1  : StF (dDPop1 td ty e g Q) (td e g fun x g1 => ∃ p, x = .ref p ∧ (∃ kvs, g1 p = some (.dct kvs)) ∧ ty e g1 fun y g2 => ∃ kvs k v, g2 p = some (.dct kvs) ∧ y = kD k ∧ getD kvs k = some v ∧ Q v (gup g2 p (.dct (delD kvs k)))) := ⟨s_dpop1⟩
theorem s_disp {trs : List (DTE × DTE)} (h : ∀ p, g p = none → dPairs trs e (gup g p (.dct [])) fun ps g2 => g2 p = some (.dct []) ∧ ∃ kvs : List (Key × DL.D), ps = kvs.map (fun kv => (kD kv.1, kv.2)) ∧ kvs.length ≤ 15 ∧ Q (.ref p) (gup g2 p (.dct (mergeD [] kvs)))) : dDisp trs e g Q := h
instance p_s_disp {trs : List (DTE × DTE)} : Stp (dDisp trs e g Q) (∀ p, g p = none → dPairs trs e (gup g p (.dct [])) fun ps g2 => g2 p = some (.dct []) ∧ ∃ kvs : List (Key × DL.D), ps = kvs.map (fun kv => (kD kv.1, kv.2)) ∧ kvs.length ≤ 15 ∧ Q (.ref p) (gup g2 p (.dct (mergeD [] kvs)))) := ⟨s_disp⟩
instance a_s_disp {trs : List (DTE × DTE)} : StF (dDisp trs e g Q) (∀ p, g p = none → dPairs trs e (gup g p (.dct [])) fun ps g2 => g2 p = some (.dct []) ∧ ∃ kvs : List (Key × DL.D), ps = kvs.map (fun kv => (kD kv.1, kv.2)) ∧ kvs.length ≤ 15 ∧ Q (.ref p) (gup g2 p (.dct (mergeD [] kvs)))) := ⟨s_disp⟩
end
section
variable {κ : Type} [DecidableEq κ]
theorem getD_put (kvs : List (κ × D)) (k j : κ) (v : D) : getD (putD kvs k v) j = if j = k then some v else getD kvs j := by
  have any_get : ∀ kvs : List (κ × D), (kvs.any fun kv => decide (kv.1 = k)) = (getD kvs k).isSome := fun kvs => by
    induction kvs with
    | nil => rfl
    | cons p r ih =>
      rw [List.any_cons, ih]
      by_cases e : p.1 = k <;> simp [getD, List.find?_cons, e]
  unfold putD
  by_cases h : (kvs.any fun kv => decide (kv.1 = k)) = true
  · rw [if_pos h]
    rw [any_get] at h
    clear any_get
    induction kvs with
    | nil => cases h
    | cons p r ih =>
      by_cases e : p.1 = k
      · by_cases ej : j = k
        · subst ej; simp [getD, List.find?_cons, e]
        · have ej' : ¬ k = j := fun z => ej z.symm
          rw [if_neg ej]
          have e2 : getD (p :: r) j = getD r j := by simp [getD, List.find?_cons, e, ej']
          rw [List.map_cons, e2]
          have e3 : ∀ l : List (κ × D), getD (l.map fun kv => if kv.1 = k then (kv.1, v) else kv) j = getD l j := fun l => by
            induction l with
            | nil => rfl
            | cons q l ih =>
              rw [List.map_cons]
              by_cases eq : q.1 = k
              · have : ¬ q.1 = j := fun z => ej (by rw [← z, eq])
                simp only [eq, if_true]
                simp only [getD, List.find?_cons, ej', decide_false] at ih ⊢
                rw [show decide (q.1 = j) = false from decide_eq_false this]
                exact ih
              · simp only [eq, if_false]
                by_cases ek : q.1 = j
                · simp [getD, List.find?_cons, ek]
                · simp only [getD, List.find?_cons, ek, decide_false] at ih ⊢
                  exact ih
          simp only [e, if_true]
          have e4 := e3 r
          simp only [getD, List.find?_cons, ej', decide_false] at e4 ⊢
          exact e4
      · have h' : (getD r k).isSome = true := by
          simp only [getD, List.find?_cons, e, decide_false] at h
          exact h
        have ih := ih h'
        rw [List.map_cons]
        simp only [e, if_false]
        by_cases ej : p.1 = j
        · have : ¬ j = k := fun z => e (by rw [ej, z])
          simp [getD, List.find?_cons, ej, this]
        · have e2 : ∀ l, getD (p :: l) j = getD l j := fun l => by simp [getD, List.find?_cons, ej]
          rw [e2, e2]
          exact ih
  · rw [if_neg h]
    rw [any_get] at h
    have hn : getD kvs k = none := by
      cases q : getD kvs k with
      | none => rfl
      | some x => rw [q] at h; exact absurd rfl h
    clear any_get h
    induction kvs with
    | nil =>
      by_cases e : j = k
      · subst e; simp [getD]
      · have e' : ¬ k = j := fun z => e z.symm
        simp [getD, List.find?_cons, e, e']
    | cons p r ih =>
      have e : ¬ p.1 = k := fun z => by simp [getD, List.find?_cons, z] at hn
      have hn' : getD r k = none := by
        simp only [getD, List.find?_cons, e, decide_false] at hn
        exact hn
      have ih := ih hn'
      rw [List.cons_append]
      by_cases ej : p.1 = j
      · have : ¬ j = k := fun z => e (by rw [ej, z])
        simp [getD, List.find?_cons, ej, this]
      · have e2 : ∀ l, getD (p :: l) j = getD l j := fun l => by simp [getD, List.find?_cons, ej]
        rw [e2, e2]
        exact ih
theorem getD_del (kvs : List (κ × D)) (k j : κ) : getD (delD kvs k) j = if j = k then none else getD kvs j := by
  induction kvs with
  | nil => simp [getD, delD]
  | cons p r ih =>
    unfold delD
    rw [List.filter_cons]
    by_cases e : p.1 = k
    · simp only [ne_eq, e, not_true_eq_false, decide_false, Bool.false_eq_true, if_false]
      have ih' : getD (r.filter fun kv => decide (¬ kv.1 = k)) j = _ := ih
      rw [ih']
      by_cases ej : j = k
      · rw [if_pos ej, if_pos ej]
      · have : ¬ k = j := fun z => ej z.symm
        rw [if_neg ej, if_neg ej]
        simp [getD, List.find?_cons, e, this]
    · simp only [ne_eq, e, not_false_eq_true, decide_true, if_true]
      have ih' : getD (r.filter fun kv => decide (¬ kv.1 = k)) j = _ := ih
      by_cases ej : p.1 = j
      · have : ¬ j = k := fun z => e (by rw [ej, z])
        simp [getD, List.find?_cons, ej, this]
      · have e2 : ∀ l, getD (p :: l) j = getD l j := fun l => by simp [getD, List.find?_cons, ej]
        rw [e2, e2, ih']
theorem putD_len (kvs : List (κ × D)) (k : κ) (v : D) : (putD kvs k v).length ≤ kvs.length + 1 := by
  unfold putD
  split
  · rw [List.length_map]; omega
  · rw [List.length_append]; simp
end
end DL
namespace DL
open PySem PySem.Spec PyProof.Rows L2
open TL (tl)
theorem sIx_to (n : Nat) (k : Int) (h : 0 ≤ k) (d : Nat) : HT.sIx n d (some k) = min k.toNat n := by
  have e := HT.sIx_nat n d k.toNat
  rwa [show ((k.toNat : Nat) : Int) = k by omega] at e
theorem cutD_to {xs : List D} {k : Int} (h : 0 ≤ k) : cutD xs none (some k) = xs.take k.toNat := by
  unfold cutD
  rw [sIx_to _ _ h, HT.sIx_none, List.drop_zero, Nat.sub_zero]
  by_cases hk : k.toNat ≤ xs.length
  · rw [Nat.min_eq_left hk]
  · rw [Nat.min_eq_right (by omega), List.take_of_length_le (Nat.le_refl _), List.take_of_length_le (by omega)]
theorem cutD_from {xs : List D} {k : Int} (h : 0 ≤ k) : cutD xs (some k) none = xs.drop k.toNat := by
  unfold cutD
  rw [sIx_to _ _ h, HT.sIx_none]
  by_cases hk : k.toNat ≤ xs.length
  · rw [Nat.min_eq_left hk, List.take_of_length_le (by rw [List.length_drop]; omega)]
  · rw [Nat.min_eq_right (by omega), List.drop_of_length_le (Nat.le_refl _), List.drop_of_length_le (by omega)]
    simp
theorem cutS_mk (l : List Nat) (lo hi : Option Int) : cutS (mk l) lo hi = mk ((l.drop (HT.sIx l.length 0 lo)).take (HT.sIx l.length l.length hi - HT.sIx l.length 0 lo)) := by
  unfold cutS
  have : (mk l).length = l.length := by rw [TL.len_tl, tl_mk]
  rw [this]
  rfl
theorem cutS_to {l : List Nat} {k : Int} (h : 0 ≤ k) : cutS (mk l) none (some k) = mk (l.take k.toNat) := by
  rw [cutS_mk, sIx_to _ _ h, HT.sIx_none, List.drop_zero, Nat.sub_zero]
  by_cases hk : k.toNat ≤ l.length
  · rw [Nat.min_eq_left hk]
  · rw [Nat.min_eq_right (by omega), List.take_of_length_le (Nat.le_refl _), List.take_of_length_le (by omega)]
theorem cutS_from {l : List Nat} {k : Int} (h : 0 ≤ k) : cutS (mk l) (some k) none = mk (l.drop k.toNat) := by
  rw [cutS_mk, sIx_to _ _ h, HT.sIx_none]
  by_cases hk : k.toNat ≤ l.length
  · rw [Nat.min_eq_left hk, List.take_of_length_le (by rw [List.length_drop]; omega)]
  · rw [Nat.min_eq_right (by omega), List.drop_of_length_le (Nat.le_refl _), List.drop_of_length_le (by omega)]
    simp
theorem cutS_mid {l : List Nat} {j k : Int} (h : 0 ≤ j) (h2 : 0 ≤ k) : cutS (mk l) (some j) (some k) = mk ((l.take k.toNat).drop j.toNat) := by
  rw [cutS_mk, sIx_to _ _ h, sIx_to _ _ h2, List.drop_take]
  by_cases hj : j.toNat ≤ l.length
  · rw [Nat.min_eq_left hj]
    by_cases hk : k.toNat ≤ l.length
    · rw [Nat.min_eq_left hk]
    · rw [Nat.min_eq_right (by omega), List.take_of_length_le (by rw [List.length_drop]; omega), List.take_of_length_le (by rw [List.length_drop]; omega)]
  · rw [Nat.min_eq_right (a := j.toNat) (by omega), List.drop_of_length_le (Nat.le_refl _), List.drop_of_length_le (i := j.toNat) (by omega)]
    simp
section
variable {g : GS} {Q : DK} {l : List Nat} {xs : List D} {j k : Int} {p : Addr}
theorem v_slTo (h0 : 0 ≤ k) (hz : l.length ≤ 16777216) (h : Q (.str (mk (l.take k.toNat))) g) : slD (.str (mk l)) none (some k) g Q := ⟨by rw [szl, TL.len_tl, tl_mk]; exact hz, by rw [cutS_to h0]; exact h⟩
theorem v_slFrom (h0 : 0 ≤ k) (hz : l.length ≤ 16777216) (h : Q (.str (mk (l.drop k.toNat))) g) : slD (.str (mk l)) (some k) none g Q := ⟨by rw [szl, TL.len_tl, tl_mk]; exact hz, by rw [cutS_from h0]; exact h⟩
theorem v_slMid (h1 : 0 ≤ j) (h0 : 0 ≤ k) (hz : l.length ≤ 16777216) (h : Q (.str (mk ((l.take k.toNat).drop j.toNat))) g) : slD (.str (mk l)) (some j) (some k) g Q := ⟨by rw [szl, TL.len_tl, tl_mk]; exact hz, by rw [cutS_mid h1 h0]; exact h⟩
theorem v_slToT (h0 : 0 ≤ k) (h : Q (.tup (xs.take k.toNat)) g) : slD (.tup xs) none (some k) g Q := by
  show Q (.tup (cutD xs none (some k))) g
  rw [cutD_to h0]; exact h
theorem v_slFromT (h0 : 0 ≤ k) (h : Q (.tup (xs.drop k.toNat)) g) : slD (.tup xs) (some k) none g Q := by
  show Q (.tup (cutD xs (some k) none)) g
  rw [cutD_from h0]; exact h
theorem v_slToL (hp : g p = some (.lst xs)) (h0 : 0 ≤ k) (h : ∀ r, g r = none → Q (.ref r) (gup g r (.lst (xs.take k.toNat)))) : slD (.ref p) none (some k) g Q := ⟨xs, .inl hp, by rw [cutD_to h0]; exact h⟩
theorem v_ixM {i : Int} {c : Nat} (hz : l.length ≤ 16777216) (ha : atI l i = some c) (h : Q (.str (mk [c])) g) : ixD (.str (mk l)) (.int i) g Q := v_ixS (by rw [szl, TL.len_tl, tl_mk]; exact hz) ha h
theorem rep_len (l : List Nat) : ∀ n : Nat, ((List.replicate n l).flatten).length = n * l.length
  | 0 => by simp
  | n + 1 => by rw [List.replicate_succ, List.flatten_cons, List.length_append, rep_len l n, Nat.add_mul]; omega
theorem rep_mem {l : List Nat} {n c : Nat} (h : c ∈ (List.replicate n l).flatten) : c ∈ l := by
  rw [List.mem_flatten] at h
  obtain ⟨x, hx, hc⟩ := h
  rwa [List.eq_of_mem_replicate hx] at hc
theorem v_mulX {n : Int} (h1 : 0 ≤ n) (h2 : n ≤ 100000) (hz : l.length * n.toNat ≤ 16777216) (h : ∀ r : List Nat, r.length = l.length * n.toNat → (∀ c ∈ r, c ∈ l) → Q (.str (mk r)) g) : mulD (.str (mk l)) (.int n) g Q :=
  ⟨h1, h2, by rw [TL.len_tl, tl_mk]; exact hz, h _ (by rw [rep_len, Nat.mul_comm]; rfl) fun c hc => rep_mem hc⟩
theorem v_mulM {n : Int} (h1 : 0 ≤ n) (h2 : n ≤ 100000) (hz : l.length * n.toNat ≤ 16777216) (h : Q (.str (mk (List.replicate n.toNat l).flatten)) g) : mulD (.str (mk l)) (.int n) g Q :=
  ⟨h1, h2, by rw [TL.len_tl, tl_mk]; exact hz, h⟩
end
theorem atI_ofNat {α : Type} {xs : List α} {i : Int} {x : α} (h : xs[i.toNat]? = some x) (h0 : 0 ≤ i) : atI xs i = some x := by
  have e := L2.atI_nat h
  have e0 : ((i.toNat : Nat) : Int) = i := by omega
  rwa [e0] at e
/-- a list comprehension over a range whose elements draw -/
theorem lc_go {s : SI} {g0 g : GS} {m0 m : Nat} {lo : Int} {n : Nat} {e : EV} {j : Nat} {te : DTE} {R : Addr → GS → Prop} (P : Nat → D → Prop) (cost : Nat) (hS : Src s g0 m0) (G : Go s g0 g m) (hn : n ≤ 16777216)
    (step : ∀ (i : Nat) g' Q', i < n → Go s g0 g' (m + cost * i) → (∀ d g'', P i d → Go s g' g'' (m + cost * i + cost) → Q' d g'') → te (e.set j (some (.int (lo + i)))) g' Q')
    (q : ∀ (acc : List D) p g', acc.length = n → (∀ (i : Nat) (d : D), acc[i]? = some d → P i d) → Go s g0 g' (m + cost * n) → g0 p = none → g' p = some (.lst acc) → R p g') :
    ∀ p, g p = none → ∃ Iv : Nat → List D → GS → Prop, Iv 0 [] (gup g p (.lst [])) ∧ (∀ i acc g', i ≤ (ran lo n).length → Iv i acc g' → True) ∧
      (∀ i d acc g', (ran lo n)[i]? = some d → Iv i acc g' → dYes (e.set j (some d)) g' fun b g3 => if b = true then te (e.set j (some d)) g3 fun y g4 => g4 p = some (.lst acc) ∧ acc.length < sizeLine ∧ Iv (i + 1) (acc ++ [y]) (gup g4 p (.lst (acc ++ [y]))) else Iv (i + 1) acc g3) ∧
      ∀ acc g', Iv (ran lo n).length acc g' → R p g' := by
  intro p hp
  have hp0 : g0 p = none := G.1.fresh hp
  refine ⟨fun i acc g' => acc.length = i ∧ (∀ (k : Nat) (d : D), acc[k]? = some d → P k d) ∧ Go s g0 g' (m + cost * i) ∧ g' p = some (.lst acc), ⟨rfl, (fun k d h => by simp at h), by simpa using G.new hp, gup_same⟩, fun _ _ _ _ _ => trivial, fun i d acc g' hd ⟨hl, hP, G', hg⟩ => ?_, fun acc g' ⟨hl, hP, G', hg⟩ => ?_⟩
  · obtain ⟨hi, rfl⟩ := ran_get hd
    show te _ g' _
    refine step i g' _ hi G' fun d g'' hd G2 => ?_
    refine ⟨G2.get (hS.neL hp0) hg, by rw [szl]; omega, by rw [List.length_append, hl]; rfl, fun k x hk => ?_, ?_, gup_same⟩
    · by_cases hkl : k < acc.length
      · rw [List.getElem?_append_left hkl] at hk
        exact hP k x hk
      · rw [List.getElem?_append_right (by omega)] at hk
        have : k - acc.length = 0 := by
          have := (List.getElem?_eq_some_iff.mp hk).1
          simp at this; omega
        rw [this] at hk
        cases hk
        have : k = i := by omega
        subst this
        exact hd
    · have e1 : m + cost * i + cost = m + cost * (i + 1) := by rw [Nat.mul_add]; omega
      rw [← e1]
      exact (G'.trans G2).mut hp0 hS
  · rw [ran_len] at hl G'
    exact q acc p g' hl hP G' hp0 hg
theorem all_of_get {P : D → Prop} {acc : List D} (h : ∀ (i : Nat) (d : D), acc[i]? = some d → P d) : ∀ d ∈ acc, P d := fun d hd => by
  obtain ⟨i, hi⟩ := List.mem_iff_getElem?.mp hd
  exact h i d hi
end DL
namespace DL
open PySem PySem.Spec PyProof.Rows L2
section
variable {g : GS} {Q : DK} {p : Addr}
theorem v_min2 {i j : Int} (h : Q (.int (if j < i then j else i)) g) : min2D [.int i, .int j] g Q := h
theorem v_max2 {i j : Int} (h : Q (.int (if j > i then j else i)) g) : max2D [.int i, .int j] g Q := h
end
end DL
namespace DL
open PySem L2
section
variable {X : Cx} {K : PySem.W.Frag} {H : Hp}
theorem RepL.bls : ∀ {vs : List V} (bs : List Bool), RepL K H vs (bs.map D.bl) → vs = bs.map V.bl
  | _, [], .nil => rfl
  | _, b :: bs, .cons h t => by
    cases h
    rw [List.map_cons, RepL.bls bs t]
def boolsD (f : List Bool → Bool) : DRC := fun xs g Q => match xs with
  | [.ref p] => ∃ bs : List Bool, rdL g p (bs.map D.bl) ∧ Q (.bl (f bs)) g
  | _ => False
theorem call_bools {id : String} {f : List Bool → Bool} (h : CallR X (.builtin id) (fun vs H Q => ∃ (a : Addr) (bs : List Bool), vs = [V.ref a] ∧ SqL X.K H a (bs.map V.bl) ∧ Q (.bl (f bs)) H)) : CallR X (.builtin id) (lRC X.K (boolsD f)) := fun pins s σ H xs us Q I rs ⟨ds, g, Qd, l, rg, q, k⟩ => by
  rcases l with _ | ⟨r1, _ | ⟨r2, l⟩⟩
  · exact q.elim
  · cases r1 with
    | ref p =>
      obtain ⟨bs, hp, q⟩ := q
      obtain ⟨xs, hs, l⟩ := rg.sq hp
      have := l.bls bs
      subst this
      exact h pins s σ H _ us Q I rs ⟨p, bs, rfl, hs, rg.fin k (.bl _) q⟩
    | _ => exact q.elim
  · cases r1 <;> exact q.elim
abbrev allD : DRC := boolsD fun bs => bs.all id
abbrev anyD : DRC := boolsD fun bs => bs.any id
theorem call_anyD (hc : X.calm = true) : CallR X (.builtin "any") (lRC X.K anyD) := call_bools (cr_any hc)
variable {g : GS} {Q : DK} {p : Addr}
theorem v_all {bs : List Bool} (hp : g p = some (.lst (bs.map D.bl))) (h : Q (.bl (bs.all id)) g) : allD [.ref p] g Q := ⟨bs, .inl hp, h⟩
theorem v_any {bs : List Bool} (hp : g p = some (.lst (bs.map D.bl))) (h : Q (.bl (bs.any id)) g) : anyD [.ref p] g Q := ⟨bs, .inl hp, h⟩
end
end DL
namespace DL
open PySem PySem.Spec PyProof.Rows L2
theorem lc_map {α : Type} {ds : List D} {keep : GS → Prop} {e : EV} {j : Nat} {te : DTE} {R : Addr → GS → Prop} {g : GS} (l : List α) (td f : α → D) (hl : ds = l.map td) (hk : ∀ g', Up [] g g' → keep g') (hn : l.length ≤ 16777216)
    (step : ∀ (i : Nat) (a : α) g' Q', l[i]? = some a → Up [] g g' → (∀ g'', Up [] g' g'' → Q' (f a) g'') → te (e.set j (some (td a))) g' Q')
    (q : ∀ p g', g p = none → Up [] g g' → g' p = some (.lst (l.map f)) → R p g') :
    ∀ p, g p = none → ∃ Iv : Nat → List D → GS → Prop, Iv 0 [] (gup g p (.lst [])) ∧ (∀ i acc g', i ≤ ds.length → Iv i acc g' → keep g') ∧
      (∀ i d acc g', ds[i]? = some d → Iv i acc g' → dYes (e.set j (some d)) g' fun b g3 => if b = true then te (e.set j (some d)) g3 fun y g4 => g4 p = some (.lst acc) ∧ acc.length < sizeLine ∧ Iv (i + 1) (acc ++ [y]) (gup g4 p (.lst (acc ++ [y]))) else Iv (i + 1) acc g3) ∧
      ∀ acc g', Iv ds.length acc g' → R p g' := by
  intro p hp
  subst hl
  refine ⟨fun i acc g' => acc = (l.take i).map f ∧ Up [] g g' ∧ g' p = some (.lst acc), ⟨rfl, .new hp, gup_same⟩, fun i acc g' _ h => hk g' h.2.1, fun i d acc g' hd ⟨ha, U, hg⟩ => ?_, fun acc g' ⟨ha, U, hg⟩ => ?_⟩
  · rw [List.getElem?_map] at hd
    cases hli : l[i]? with
    | none => rw [hli] at hd; cases hd
    | some a =>
      rw [hli] at hd
      cases hd
      show te _ g' _
      refine step i a g' _ hli U fun g'' U2 => ?_
      have hi := (List.getElem?_eq_some_iff.mp hli).1
      refine ⟨U2.get0 hg, ?_, ?_, (U.trans U2).mut hp, gup_same⟩
      · rw [szl, ha, List.length_map, List.length_take]; omega
      · rw [ha, List.take_add_one, hli, List.map_append]; rfl
  · rw [List.length_map, List.take_length] at ha
    subst ha
    exact q p g' hp U hg
theorem lc_filt {α : Type} {ds : List D} {keep : GS → Prop} {e : EV} {j : Nat} {tA : DTT} {te : DTE} {R : Addr → GS → Prop} {g : GS} (l : List α) (td f : α → D) (b : α → Bool) (hl : ds = l.map td) (hk : ∀ g', Up [] g g' → keep g') (hn : l.length ≤ 16777216)
    (stepB : ∀ (i : Nat) (a : α) g' (Q' : Bool → GS → Prop), l[i]? = some a → Up [] g g' → (∀ g'', Up [] g' g'' → Q' (b a) g'') → tA (e.set j (some (td a))) g' Q')
    (step : ∀ (i : Nat) (a : α) g' Q', l[i]? = some a → b a = true → Up [] g g' → (∀ g'', Up [] g' g'' → Q' (f a) g'') → te (e.set j (some (td a))) g' Q')
    (q : ∀ p g', g p = none → Up [] g g' → g' p = some (.lst ((l.filter b).map f)) → R p g') :
    ∀ p, g p = none → ∃ Iv : Nat → List D → GS → Prop, Iv 0 [] (gup g p (.lst [])) ∧ (∀ i acc g', i ≤ ds.length → Iv i acc g' → keep g') ∧
      (∀ i d acc g', ds[i]? = some d → Iv i acc g' → tA (e.set j (some d)) g' fun b g3 => if b = true then te (e.set j (some d)) g3 fun y g4 => g4 p = some (.lst acc) ∧ acc.length < sizeLine ∧ Iv (i + 1) (acc ++ [y]) (gup g4 p (.lst (acc ++ [y]))) else Iv (i + 1) acc g3) ∧
      ∀ acc g', Iv ds.length acc g' → R p g' := by
  intro p hp
  subst hl
  refine ⟨fun i acc g' => acc = ((l.take i).filter b).map f ∧ Up [] g g' ∧ g' p = some (.lst acc), ⟨rfl, .new hp, gup_same⟩, fun i acc g' _ h => hk g' h.2.1, fun i d acc g' hd ⟨ha, U, hg⟩ => ?_, fun acc g' ⟨ha, U, hg⟩ => ?_⟩
  · rw [List.getElem?_map] at hd
    cases hli : l[i]? with
    | none => rw [hli] at hd; cases hd
    | some a =>
      rw [hli] at hd
      cases hd
      have hi := (List.getElem?_eq_some_iff.mp hli).1
      have e1 : l.take (i + 1) = l.take i ++ [a] := by rw [List.take_add_one, hli]; rfl
      refine stepB i a g' _ hli U fun g'' U1 => ?_
      cases hb : b a with
      | false =>
        refine (if_neg (by decide)).mpr ?_
        refine ⟨?_, U.trans U1, U1.get0 hg⟩
        rw [ha, e1, List.filter_append, show [a].filter b = [] by simp [hb], List.append_nil]
      | true =>
        refine (if_pos rfl).mpr ?_
        refine step i a g'' _ hli hb (U.trans U1) fun g3 U2 => ?_
        refine ⟨U2.get0 (U1.get0 hg), ?_, ?_, ((U.trans U1).trans U2).mut hp, gup_same⟩
        · rw [szl, ha, List.length_map]
          have := List.length_filter_le b (l.take i)
          rw [List.length_take] at this
          omega
        · rw [ha, e1, List.filter_append, show [a].filter b = [a] by simp [hb], List.map_append]; rfl
  · rw [List.length_map, List.take_length] at ha
    subst ha
    exact q p g' hp U hg
section
variable {g : GS} {Q : DK}
theorem v_nin1 {c : Nat} {b : Str} (h : Q (.bl (!decide (c ∈ TL.tl b))) g) : notInD (.str (mk [c])) (.str b) g Q := v_in1' (Q := notV Q) h
theorem v_split {a b : Str} (hb : (b.length == 0) = false) (ha : a.length ≤ 16777214) (h : ∀ p, g p = none → Q (.ref p) (gup g p (.lst ((Txt.split a b).map D.str)))) : splitD (.str a) [.str b] g Q := ⟨hb, by rw [szl]; omega, h⟩
end
theorem joinL_le (y : List Nat) : ∀ (ps : List (List Nat)), ∀ p ∈ ps, p.length ≤ (TL.joinL y ps).length
  | [], p, h => (nomatch h)
  | [q], p, h => by rw [List.mem_singleton.mp h]; exact Nat.le_refl _
  | q :: r :: ps, p, h => by
    show p.length ≤ (q ++ (y ++ TL.joinL y (r :: ps))).length
    rw [List.length_append, List.length_append]
    rcases List.mem_cons.mp h with rfl | h
    · omega
    · have := joinL_le y (r :: ps) p h; omega
theorem split_le {x y p : Str} (h : p ∈ Txt.split x y) : p.length ≤ x.length := by
  have e := congrArg TL.tl (PySem.StrLaws.join_split x y)
  rw [TL.tl_join] at e
  have := joinL_le (TL.tl y) _ _ (List.mem_map_of_mem (f := TL.tl) h)
  rw [e] at this
  rw [TL.len_tl, TL.len_tl]
  exact this
end DL
namespace DL
open PySem PySem.Spec PyProof.Rows L2
open TL (tl)
def plainB : List Nat → Bool
  | [] => false
  | c :: r => decide (low c) && (c :: r).all fun c => decide (low c) || decide (dig c)
def nameB (l : List Nat) : Bool := decide (l.length ≤ 8) && plainB l
def boardB (z : Str) : Bool := decide ((tl z).length ≤ 600) && (Txt.split z ".").all fun w => plainB (tl w)
theorem plainB_cons {c : Nat} {r : List Nat} : plainB (c :: r) = (decide (low c) && (c :: r).all fun c => decide (low c) || decide (dig c)) := rfl
theorem NameOk.plain {z : Str} (h : NameOk z) : nameB (tl z) = true := by
  obtain ⟨c, r, e, hc, hr, hl⟩ := h
  unfold nameB
  rw [e, plainB_cons, Bool.and_eq_true, Bool.and_eq_true]
  refine ⟨decide_eq_true (by rw [List.length_cons]; omega), decide_eq_true hc, List.all_eq_true.mpr fun x hx => ?_⟩
  rw [Bool.or_eq_true]
  rcases List.mem_cons.mp hx with rfl | hx
  · exact .inl (decide_eq_true hc)
  · rcases hr x hx with h | h
    · exact .inl (decide_eq_true h)
    · exact .inr (decide_eq_true h)
theorem plainB_chars {l : List Nat} (h : plainB l = true) : ∀ c ∈ l, low c ∨ dig c := fun c hc => by
  cases l with
  | nil => cases hc
  | cons d r =>
    rw [plainB_cons, Bool.and_eq_true] at h
    have := List.all_eq_true.mp h.2 c hc
    rw [Bool.or_eq_true] at this
    exact this.elim (fun z => .inl (of_decide_eq_true z)) (fun z => .inr (of_decide_eq_true z))
end DL
namespace DL
open PySem PySem.Spec PyProof.Rows L2
theorem joinL_bd (y : List Nat) (B : Nat) : ∀ (ps : List (List Nat)), (∀ p ∈ ps, p.length ≤ B) → (TL.joinL y ps).length ≤ ps.length * (B + y.length)
  | [], _ => Nat.zero_le _
  | [q], h => by
    have := h q (List.mem_singleton.mpr rfl)
    show q.length ≤ 1 * _
    omega
  | q :: r :: ps, h => by
    have h1 := h q List.mem_cons_self
    have ih := joinL_bd y B (r :: ps) fun p hp => h p (List.mem_cons_of_mem _ hp)
    show (q ++ (y ++ TL.joinL y (r :: ps))).length ≤ _
    rw [List.length_append, List.length_append, List.length_cons, Nat.add_mul]
    omega
theorem joinL_mem (y : List Nat) : ∀ (ps : List (List Nat)) (c : Nat), c ∈ TL.joinL y ps → c ∈ y ∨ ∃ p ∈ ps, c ∈ p
  | [], c, h => (nomatch h)
  | [q], c, h => .inr ⟨q, List.mem_singleton.mpr rfl, h⟩
  | q :: r :: ps, c, h => by
    have h : c ∈ q ++ (y ++ TL.joinL y (r :: ps)) := h
    rcases List.mem_append.mp h with h | h
    · exact .inr ⟨q, List.mem_cons_self, h⟩
    · rcases List.mem_append.mp h with h | h
      · exact .inl h
      · rcases joinL_mem y (r :: ps) c h with h | ⟨p, hp, h⟩
        · exact .inl h
        · exact .inr ⟨p, List.mem_cons_of_mem _ hp, h⟩
theorem sum_bd (B : Nat) : ∀ (zs : List Str), (∀ z ∈ zs, (TL.tl z).length ≤ B) → (zs.map (·.length)).sum ≤ zs.length * B
  | [], _ => Nat.zero_le _
  | z :: zs, h => by
    have h1 := h z List.mem_cons_self
    have ih := sum_bd B zs fun p hp => h p (List.mem_cons_of_mem _ hp)
    rw [List.map_cons, List.sum_cons, List.length_cons, Nat.add_mul, TL.len_tl]
    omega
theorem join_bd {y : Str} {B : Nat} {zs : List Str} (h : ∀ z ∈ zs, (TL.tl z).length ≤ B) : (TL.tl (Txt.join y zs)).length ≤ zs.length * (B + (TL.tl y).length) := by
  rw [TL.join_eq, TL.tl_join]
  have := joinL_bd (TL.tl y) B (zs.map TL.tl) fun p hp => by
    obtain ⟨z, hz, rfl⟩ := List.mem_map.mp hp
    exact h z hz
  rwa [List.length_map] at this
section
variable {g : GS} {Q : DK} {p : Addr}
theorem v_joinL {y : Str} {zs : List Str} {B : Nat} (hp : g p = some (.lst (zs.map D.str))) (hB : ∀ z ∈ zs, (TL.tl z).length ≤ B) (hz : zs.length * (B + (TL.tl y).length) ≤ 16777216)
    (h : (TL.tl (Txt.join y zs)).length ≤ zs.length * (B + (TL.tl y).length) → Q (.str (Txt.join y zs)) g) : joinD (.str y) [.ref p] g Q :=
  ⟨zs, .inl hp, by have := sum_bd B zs hB; rw [Nat.mul_add] at hz; rw [TL.len_tl y]; omega, h (join_bd hB)⟩
end
theorem strs_of {P : Str → Prop} : ∀ {acc : List D}, (∀ d ∈ acc, ∃ z, d = .str z ∧ P z) → ∃ as : List Str, acc = as.map D.str ∧ ∀ z ∈ as, P z
  | [], _ => ⟨[], rfl, fun z hz => nomatch hz⟩
  | d :: acc, h => by
    obtain ⟨as, rfl, ha⟩ := strs_of (acc := acc) fun x hx => h x (List.mem_cons_of_mem _ hx)
    obtain ⟨z, rfl, hz⟩ := h d List.mem_cons_self
    exact ⟨z :: as, rfl, fun y hy => (List.mem_cons.mp hy).elim (fun e => by rw [e]; exact hz) (ha y)⟩
theorem num_mk {v : Int} (h : 0 ≤ v) : Str.ofString (toString v) = mk (TL.numL v.toNat) := by
  obtain ⟨m, rfl⟩ := Int.eq_ofNat_of_zero_le h
  rw [← TL.tl_num, mk_tl]
  rfl
end DL
namespace DL
open PySem PySem.Spec PyProof.Rows L2
open TL (tl)
def starC (g : List Nat) (R : Nat → Bool) : Nat → Bool
  | 0 => R 0
  | p + 1 => R (p + 1) || (g[p]? == some 42 && starC g R p)
def baseA (g : List Nat) (c : Nat) (S : Nat → Bool) : Nat → Bool
  | 0 => false
  | p + 1 => (S (p + 1) && g[p]? == some 42) || (S p && (g[p]? == some 63 || g[p]? == some c))
theorem baseA_succ (g : List Nat) (c : Nat) (S : Nat → Bool) (p : Nat) : baseA g c S (p + 1) = ((S (p + 1) && g[p]? == some 42) || (S p && (g[p]? == some 63 || g[p]? == some c))) := rfl
def stepA (g : List Nat) (S : Nat → Bool) (c : Nat) : Nat → Bool := starC g (baseA g c S)
def startA (g : List Nat) : Nat → Bool := starC g fun p => p == 0
def standA (g b : List Nat) : Nat → Bool := b.foldl (stepA g) (startA g)
def fitsB (g b : List Nat) : Bool := standA g b g.length
/-- the places, ascending -/
def plsL (g : List Nat) (S : Nat → Bool) : List Nat := (List.range (g.length + 1)).filter S
/-- the law's own -/
def baseB (g : List Nat) (c : Nat) (S : Nat → Bool) : Nat → Bool := fun p =>
  (S p && g[p]? == some 42) || match p with
  | 0 => false
  | p + 1 => S p && (g[p]? == some 63 || g[p]? == some c)
theorem baseB_succ (g : List Nat) (c : Nat) (S : Nat → Bool) (p : Nat) : baseB g c S (p + 1) = ((S (p + 1) && g[p + 1]? == some 42) || (S p && (g[p]? == some 63 || g[p]? == some c))) := rfl
def stepB (g : List Nat) (S : Nat → Bool) (c : Nat) : Nat → Bool := starC g (baseB g c S)
theorem star_of {g : List Nat} {R : Nat → Bool} {p : Nat} (h : R p = true) : starC g R p = true := by
  cases p with
  | zero => exact h
  | succ p => unfold starC; rw [h]; rfl
theorem star_next {g : List Nat} {R : Nat → Bool} {p : Nat} (h : starC g R p = true) (hg : g[p]? = some 42) : starC g R (p + 1) = true := by
  unfold starC; rw [h, hg]; simp
theorem star_cases {g : List Nat} {R : Nat → Bool} {p : Nat} (h : starC g R p = true) : R p = true ∨ ∃ q, p = q + 1 ∧ g[q]? = some 42 ∧ starC g R q = true := by
  cases p with
  | zero => exact .inl h
  | succ p =>
    unfold starC at h
    rw [Bool.or_eq_true, Bool.and_eq_true] at h
    rcases h with h | ⟨h1, h2⟩
    · exact .inl h
    · exact .inr ⟨p, rfl, eq_of_beq h1, h2⟩
structure Twin (g : List Nat) (A B : Nat → Bool) : Prop where
  sub : ∀ p, A p = true → B p = true
  back : ∀ p, A (p + 1) = true → g[p]? = some 42 → B p = true
  sup : ∀ p, B p = true → A p = true ∨ (g[p]? = some 42 ∧ A (p + 1) = true)
  clo : ∀ p, A p = true → g[p]? = some 42 → A (p + 1) = true
theorem twin_start (g : List Nat) : Twin g (startA g) (startA g) where
  sub p h := h
  back p h hg := by
    rcases star_cases h with h | ⟨q, e, _, h⟩
    · simp at h
    · cases e; exact h
  sup p h := .inl h
  clo p h hg := star_next h hg
theorem twin_step {g : List Nat} {A B : Nat → Bool} (T : Twin g A B) (c : Nat) : Twin g (stepA g A c) (stepB g B c) := by
  have b1 : ∀ k, B k = true → g[k]? = some 42 → stepB g B c k = true := fun k h hg => star_of (by unfold baseB; rw [h, hg]; simp)
  have b2 : ∀ k, B k = true → (g[k]? = some 63 ∨ g[k]? = some c) → stepB g B c (k + 1) = true := fun k h hg => star_of (by
    rw [baseB_succ, h]
    rcases hg with hg | hg <;> rw [hg] <;> simp)
  have a1 : ∀ k, A (k + 1) = true → g[k]? = some 42 → stepA g A c (k + 1) = true := fun k h hg => star_of (by rw [baseA_succ, h, hg]; simp)
  have a2 : ∀ k, A k = true → (g[k]? = some 63 ∨ g[k]? = some c) → stepA g A c (k + 1) = true := fun k h hg => star_of (by
    rw [baseA_succ, h]
    rcases hg with hg | hg <;> rw [hg] <;> simp)
  have ca : ∀ p, baseA g c A p = true → ∃ k, p = k + 1 ∧ ((A (k + 1) = true ∧ g[k]? = some 42) ∨ (A k = true ∧ (g[k]? = some 63 ∨ g[k]? = some c))) := fun p h => by
    cases p with
    | zero => cases h
    | succ k =>
      refine ⟨k, rfl, ?_⟩
      rw [baseA_succ] at h
      simp only [Bool.or_eq_true, Bool.and_eq_true, beq_iff_eq] at h
      exact h
  have cb : ∀ p, baseB g c B p = true → (B p = true ∧ g[p]? = some 42) ∨ ∃ k, p = k + 1 ∧ B k = true ∧ (g[k]? = some 63 ∨ g[k]? = some c) := fun p h => by
    unfold baseB at h
    rw [Bool.or_eq_true] at h
    rcases h with h | h
    · simp only [Bool.and_eq_true, beq_iff_eq] at h; exact .inl h
    · cases p with
      | zero => cases h
      | succ k =>
        simp only [Bool.or_eq_true, Bool.and_eq_true, beq_iff_eq] at h
        exact .inr ⟨k, rfl, h⟩
  have sub : ∀ p, stepA g A c p = true → stepB g B c p = true := fun p => by
    induction p with
    | zero =>
      intro h
      rcases star_cases h with h | ⟨q, e, _⟩
      · obtain ⟨k, e, _⟩ := ca _ h; cases e
      · cases e
    | succ p ih =>
      intro h
      rcases star_cases h with h | ⟨q, e, hg, h⟩
      · obtain ⟨k, e, h⟩ := ca _ h
        cases e
        rcases h with ⟨h, hg⟩ | ⟨h, hg⟩
        · exact star_next (b1 _ (T.back _ h hg) hg) hg
        · exact b2 _ (T.sub _ h) hg
      · cases e
        exact star_next (ih h) hg
  refine ⟨sub, fun p h hg => ?_, fun p => ?_, fun p h hg => star_next h hg⟩
  · rcases star_cases h with h | ⟨q, e, hg', h⟩
    · obtain ⟨k, e, h⟩ := ca _ h
      cases e
      rcases h with ⟨h, _⟩ | ⟨h, _⟩
      · exact b1 _ (T.back _ h hg) hg
      · exact b1 _ (T.sub _ h) hg
    · cases e
      exact sub _ h
  · induction p with
    | zero =>
      intro h
      rcases star_cases h with h | ⟨q, e, _⟩
      · rcases cb _ h with ⟨h, hg⟩ | ⟨k, e, _⟩
        · refine .inr ⟨hg, a1 _ ?_ hg⟩
          rcases T.sup _ h with h | h
          · exact T.clo _ h hg
          · exact h.2
        · cases e
      · cases e
    | succ p ih =>
      intro h
      rcases star_cases h with h | ⟨q, e, hg, h⟩
      · rcases cb _ h with ⟨h, hg⟩ | ⟨k, e, h, hg⟩
        · refine .inr ⟨hg, a1 _ ?_ hg⟩
          rcases T.sup _ h with h | h
          · exact T.clo _ h hg
          · exact h.2
        · cases e
          rcases T.sup _ h with h | ⟨hs, h⟩
          · exact .inl (a2 _ h hg)
          · exact .inl (a1 _ h hs)
      · cases e
        rcases ih h with h | ⟨_, h⟩
        · exact .inl (star_next h hg)
        · exact .inl h
theorem twin_fold (g : List Nat) : ∀ (b : List Nat) (A B : Nat → Bool), Twin g A B → Twin g (b.foldl (stepA g) A) (b.foldl (stepB g) B)
  | [], _, _, T => T
  | c :: b, _, _, T => twin_fold g b _ _ (twin_step T c)
/-- the law's own answer -/
theorem fits_law (g b : List Nat) : (b.foldl (stepB g) (startA g)) g.length = fitsB g b := by
  have T := twin_fold g b _ _ (twin_start g)
  cases h : fitsB g b with
  | true => exact T.sub _ h
  | false =>
    cases h2 : (b.foldl (stepB g) (startA g)) g.length with
    | false => rfl
    | true =>
      rcases T.sup _ h2 with h3 | ⟨h3, _⟩
      · have h : (b.foldl (stepA g) (startA g)) g.length = false := h
        rw [h] at h3; cases h3
      · rw [List.getElem?_eq_none (Nat.le_refl _)] at h3; cases h3
theorem fits_star (b : List Nat) : fitsB [42] b = true := by
  have : ∀ (b : List Nat) (S : Nat → Bool), S 1 = true → (b.foldl (stepA [42]) S) 1 = true := fun b => by
    induction b with
    | nil => exact fun S h => h
    | cons c b ih => exact fun S h => ih _ (star_of (p := 1) (by rw [show (1 : Nat) = 0 + 1 from rfl, baseA_succ, h]; rfl))
  exact this b _ rfl
theorem snocInd {α : Type} {P : List α → Prop} (h0 : P []) (h1 : ∀ l a, P l → P (l ++ [a])) (l : List α) : P l := by
  have : ∀ l : List α, P l.reverse := fun l => by
    induction l with
    | nil => exact h0
    | cons a l ih => rw [List.reverse_cons]; exact h1 _ _ ih
  have := this l.reverse
  rwa [List.reverse_reverse] at this
theorem fits_plain {g : List Nat} (h1 : 42 ∉ g) (h2 : 63 ∉ g) (b : List Nat) : fitsB g b = decide (g = b) := by
  have n42 : ∀ p, g[p]? ≠ some 42 := fun p e => h1 (List.mem_of_getElem? e)
  have n63 : ∀ p, g[p]? ≠ some 63 := fun p e => h2 (List.mem_of_getElem? e)
  have st : ∀ R p, starC g R p = R p := fun R p => by
    cases p with
    | zero => rfl
    | succ p => unfold starC; rw [beq_eq_false_iff_ne.mpr (n42 p), Bool.false_and, Bool.or_false]
  have key : ∀ b p, standA g b p = true ↔ (p = b.length ∧ p ≤ g.length ∧ g.take p = b) ∨ (b = [] ∧ p = 0) := fun b => by
    induction b using snocInd with
    | h0 =>
      intro p
      show startA g p = true ↔ _
      unfold startA
      rw [st]
      rw [beq_iff_eq]
      constructor
      · intro e; exact .inr ⟨rfl, e⟩
      · rintro (⟨e, _⟩ | ⟨_, e⟩) <;> exact e
    | h1 l c ih =>
      intro p
      have e : standA g (l ++ [c]) p = baseA g c (standA g l) p := by
        unfold standA
        rw [List.foldl_append]
        exact st _ _
      rw [e]
      cases p with
      | zero =>
        unfold baseA
        constructor
        · intro z; cases z
        · rintro (⟨e, _⟩ | ⟨e, _⟩)
          · simp at e
          · simp at e
      | succ p =>
        rw [baseA_succ, beq_eq_false_iff_ne.mpr (n42 p), beq_eq_false_iff_ne.mpr (n63 p)]
        simp only [Bool.and_false, Bool.false_or, Bool.and_eq_true, beq_iff_eq, ih]
        constructor
        · rintro ⟨h, hc⟩
          have hp := (List.getElem?_eq_some_iff.mp hc).1
          left
          have ht : g.take (p + 1) = g.take p ++ [c] := by rw [List.take_add_one, hc]; rfl
          rcases h with ⟨e1, e2, e3⟩ | ⟨rfl, rfl⟩
          · exact ⟨by rw [List.length_append, List.length_singleton, e1], hp, by rw [ht, e3]⟩
          · exact ⟨rfl, hp, by rw [ht]; rfl⟩
        · rintro (⟨e1, e2, e3⟩ | ⟨e, _⟩)
          · have hl : p = l.length := by rw [List.length_append, List.length_singleton] at e1; omega
            have hp : p < g.length := by omega
            rw [List.take_add_one, List.getElem?_eq_getElem hp] at e3
            have e4 := List.append_inj e3 (by rw [List.length_take, ← hl]; omega)
            refine ⟨.inl ⟨hl, by omega, e4.1⟩, ?_⟩
            rw [List.getElem?_eq_getElem hp]
            have := e4.2
            simpa using this
          · simp at e
  by_cases h : g = b
  · rw [decide_eq_true h]
    exact (key b g.length).mpr (.inl ⟨by rw [h], Nat.le_refl _, by rw [List.take_length]; exact h⟩)
  · rw [decide_eq_false h]
    cases hf : fitsB g b with
    | false => rfl
    | true =>
      exfalso
      rcases (key b g.length).mp hf with ⟨e1, _, e3⟩ | ⟨e1, e2⟩
      · rw [List.take_length] at e3; exact h e3
      · rw [e1] at h; exact h (List.length_eq_zero_iff.mp e2)
/-- no place, no further one -/
theorem step_none {g : List Nat} {S : Nat → Bool} {n c : Nat} (h : ∀ p, p ≤ n → S p = false) : ∀ p, p ≤ n → stepA g S c p = false := fun p => by
  induction p with
  | zero => intro _; rfl
  | succ p ih =>
    intro hp
    unfold stepA starC
    have e : baseA g c S (p + 1) = false := by rw [baseA_succ, h _ hp, h p (by omega)]; simp
    rw [e]
    have := ih (by omega)
    unfold stepA at this
    rw [this]; simp
theorem fold_none {g : List Nat} {n : Nat} : ∀ (b : List Nat) {S : Nat → Bool}, (∀ p, p ≤ n → S p = false) → ∀ p, p ≤ n → (b.foldl (stepA g) S) p = false
  | [], _, h => h
  | c :: b, _, h => fold_none b (step_none h)
end DL
namespace DL
open PySem PySem.Spec PyProof.Rows L2
open TL (tl)
theorem ran0 {n i : Nat} {d : D} (h : (ran 0 n)[i]? = some d) : i < n ∧ d = .int (i : Int) := by
  obtain ⟨h1, h2⟩ := ran_get h
  exact ⟨h1, by rw [h2, Int.zero_add]⟩
def plI (L : List Nat) : List Int := L.map fun (k : Nat) => (k : Int)
def plD (L : List Nat) : List D := (plI L).map D.int
theorem plD_len (L : List Nat) : (plD L).length = L.length := by unfold plD plI; rw [List.length_map, List.length_map]
theorem plD_snoc (L : List Nat) (k : Nat) : plD (L ++ [k]) = plD L ++ [.int (k : Nat)] := by unfold plD plI; rw [List.map_append, List.map_append]; rfl
theorem plI_mem {L : List Nat} {k : Nat} : ((k : Int) ∈ plI L) ↔ k ∈ L := by
  unfold plI
  rw [List.mem_map]
  exact ⟨fun ⟨a, h, e⟩ => by rw [← show a = k by omega]; exact h, fun h => ⟨k, h, rfl⟩⟩
theorem star_mk : ("*" : Str) = mk [42] := by decide +kernel
theorem ques_mk : ("?" : Str) = mk [63] := by decide +kernel
theorem excl_mk : ("!" : Str) = mk [33] := by decide +kernel
theorem mk_sing {a b : Nat} : mk [a] = mk [b] ↔ a = b := ⟨fun h => by have := mk_inj h; injection this, fun h => by rw [h]⟩
theorem plsL_congr {g : List Nat} {S S' : Nat → Bool} (h : ∀ p, p ≤ g.length → S p = S' p) : plsL g S = plsL g S' := by
  unfold plsL
  exact List.filter_congr fun p hp => h p (by have := List.mem_range.mp hp; omega)
theorem plsL_mem {g : List Nat} {S : Nat → Bool} {p : Nat} : p ∈ plsL g S ↔ p ≤ g.length ∧ S p = true := by
  unfold plsL
  rw [List.mem_filter, List.mem_range]
  exact ⟨fun h => ⟨by omega, h.2⟩, fun h => ⟨by omega, h.2⟩⟩
theorem plsL_len (g : List Nat) (S : Nat → Bool) : (plsL g S).length ≤ g.length + 1 := by
  unfold plsL
  have := List.length_filter_le S (List.range (g.length + 1))
  rwa [List.length_range] at this
theorem filt_snoc (S : Nat → Bool) (i : Nat) : (List.range (i + 1)).filter S = (List.range i).filter S ++ (if S i = true then [i] else []) := by
  rw [List.range_succ, List.filter_append]
  congr 1
  cases h : S i <;> simp [h]
theorem starC_step (g : List Nat) (R : Nat → Bool) (p : Nat) : starC g R (p + 1) = (R (p + 1) || (g[p]? == some 42 && starC g R p)) := rfl
/-- which items a pattern lets -/
def lstep (b : List Nat) (acc : Bool) : List Nat → Bool
  | [] => acc
  | c :: r => if c = 33 then (if fitsB r b = true then false else acc) else if fitsB (c :: r) b = true then true else acc
theorem lstep_cons (b : List Nat) (acc : Bool) (c : Nat) (r : List Nat) : lstep b acc (c :: r) = if c = 33 then (if fitsB r b = true then false else acc) else if fitsB (c :: r) b = true then true else acc := rfl
def letsB (p b : Str) : Bool := ((Txt.split p ",").map tl).foldl (lstep (tl b)) false
def PatOk (p : Str) : Prop := (tl p).length ≤ 1000 ∧ ∀ x ∈ Txt.split p ",", tl x ≠ []
theorem comma_len : (("," : Str).length == 0) = false := by decide +kernel
end DL
namespace DL
open PySem PySem.Spec PyProof.Rows L2
open TL (tl)
section
variable {g : GS} {Q : DK} {l : List Nat} {p : Addr}
theorem v_slAny {lo hi : Option Int} (hz : l.length ≤ 16777216) (h : ∀ r : List Nat, (∀ c ∈ r, c ∈ l) → r.length ≤ l.length → Q (.str (mk r)) g) : slD (.str (mk l)) lo hi g Q :=
  ⟨by rw [szl, TL.len_tl, tl_mk]; exact hz, by
    rw [cutS_mk]
    exact h _ (fun c hc => List.mem_of_mem_drop (List.mem_of_mem_take hc)) (by rw [List.length_take, List.length_drop]; omega)⟩
theorem v_pop {ds : List D} {y : D} (hp : g p = some (.lst ds)) (hy : ds[ds.length - 1]? = some y) (h : Q y (gup g p (.lst ds.dropLast))) : popD (.ref p) [] g Q := ⟨ds, y, hp, hy, h⟩
theorem v_popAt {ds : List D} {y : D} {i : Int} (hp : g p = some (.lst ds)) (h0 : 0 ≤ i) (hn : ds.length ≤ 16777216) (hy : ds[i.toNat]? = some y) (h : Q y (gup g p (.lst (ds.eraseIdx i.toNat)))) : popD (.ref p) [.int i] g Q := by
  have hi := (List.getElem?_eq_some_iff.mp hy).1
  refine ⟨ds, i.toNat, y, hp, by omega, by omega, ?_, hy, h⟩
  unfold seqIndex?
  rw [if_neg (by omega : ¬ i < 0)]
  have e : (decide (0 ≤ i) && decide (i < (ds.length : Int))) = true := by rw [decide_eq_true h0, decide_eq_true (by omega)]; rfl
  exact if_pos e
end
structure BoardOk (z : Str) : Prop where
  ok : boardB z = true
  len : (tl z).length ≤ 60
  chr : ∀ c ∈ tl z, low c ∨ dig c ∨ c = 46
  ne : tl z ≠ []
theorem joinL_ne (y : List Nat) : ∀ (ps : List (List Nat)), ps ≠ [] → (∀ p ∈ ps, p ≠ []) → TL.joinL y ps ≠ []
  | [], h, _ => absurd rfl h
  | [q], _, h => h q (List.mem_singleton.mpr rfl)
  | q :: r :: ps, _, h => by
    show q ++ (y ++ TL.joinL y (r :: ps)) ≠ []
    have := h q List.mem_cons_self
    intro z
    exact this (List.append_eq_nil_iff.mp z).1
theorem NameOk.chars {z : Str} (h : NameOk z) : ∀ c ∈ tl z, low c ∨ dig c := by
  have := h.plain
  unfold nameB at this
  rw [Bool.and_eq_true] at this
  exact plainB_chars this.2
theorem NameOk.plainT {z : Str} (h : NameOk z) : plainB (tl z) = true := by
  have := h.plain
  unfold nameB at this
  rw [Bool.and_eq_true] at this
  exact this.2
theorem NameOk.ne {z : Str} (h : NameOk z) : tl z ≠ [] := fun e => by
  have := h.plainT
  rw [e] at this; cases this
theorem board_ok {ws : List Str} (h : ∀ w ∈ ws, NameOk w) (h0 : ws ≠ []) (hn : ws.length ≤ 6) : BoardOk (Txt.join "." ws) := by
  have hl := join_bd (y := ("." : Str)) (B := 8) (zs := ws) fun w hw => by have := (h w hw).len; omega
  have hd : (tl ("." : Str)).length = 1 := by decide +kernel
  rw [hd] at hl
  have hl : (tl (Txt.join "." ws)).length ≤ 54 := Nat.le_trans hl (Nat.mul_le_mul_right 9 hn)
  have hs : Txt.split (Txt.join "." ws) "." = ws := TL.split_join (s := 46) (S := []) (by decide +kernel) (by decide +kernel) h0 fun w hw hm => by
    have := (h w hw).chars 46 hm
    unfold low dig at this
    omega
  refine ⟨?_, by omega, fun c hc => ?_, ?_⟩
  · unfold boardB
    rw [hs, decide_eq_true (by omega : (tl (Txt.join "." ws)).length ≤ 600), Bool.true_and]
    exact List.all_eq_true.mpr fun w hw => (h w hw).plainT
  · rw [TL.join_eq, TL.tl_join] at hc
    rcases joinL_mem _ _ c hc with hc | ⟨p, hp, hc⟩
    · have e : tl ("." : Str) = [46] := by decide +kernel
      rw [e] at hc
      exact .inr (.inr (List.mem_singleton.mp hc))
    · obtain ⟨w, hw, rfl⟩ := List.mem_map.mp hp
      exact ((h w hw).chars c hc).elim .inl fun z => .inr (.inl z)
  · rw [TL.join_eq, TL.tl_join]
    refine joinL_ne _ _ (fun e => h0 (List.map_eq_nil_iff.mp e)) fun p hp => ?_
    obtain ⟨w, hw, rfl⟩ := List.mem_map.mp hp
    exact (h w hw).ne
structure GlobOk (z : Str) : Prop where
  ne : tl z ≠ []
  len : (tl z).length ≤ 70
  chr : ∀ c ∈ tl z, low c ∨ dig c ∨ c = 46 ∨ c = 42 ∨ c = 63
structure ItemOk (z : Str) : Prop where
  ne : tl z ≠ []
  len : (tl z).length ≤ 80
  chr : ∀ c ∈ tl z, c ≠ 44
theorem pat_ok {is : List Str} (h : ∀ w ∈ is, ItemOk w) (h0 : is ≠ []) (hn : is.length ≤ 10) : PatOk (Txt.join "," is) ∧ Txt.split (Txt.join "," is) "," = is := by
  have hl := join_bd (y := ("," : Str)) (B := 80) (zs := is) fun w hw => (h w hw).len
  have hd : (tl ("," : Str)).length = 1 := by decide +kernel
  rw [hd] at hl
  have hl : (tl (Txt.join "," is)).length ≤ 810 := Nat.le_trans hl (Nat.mul_le_mul_right 81 hn)
  have hs : Txt.split (Txt.join "," is) "," = is := TL.split_join (s := 44) (S := []) (by decide +kernel) (by decide +kernel) h0 fun w hw hm => (h w hw).chr 44 hm rfl
  exact ⟨⟨by omega, fun x hx => by rw [hs] at hx; exact (h x hx).ne⟩, hs⟩
theorem pat_star : PatOk "*" := by
  have e : Txt.join "," [("*" : Str)] = "*" := by decide +kernel
  have e2 : tl ("*" : Str) = [42] := by decide +kernel
  rw [← e]
  exact (pat_ok (is := ["*"]) (fun w hw => by
    rw [List.mem_singleton.mp hw]
    exact ⟨by rw [e2]; simp, by rw [e2]; simp, fun c hc => by rw [e2] at hc; rw [List.mem_singleton.mp hc]; decide⟩) (by simp) (by simp)).1
end DL
namespace DL
open PySem PySem.Spec PyProof.Rows L2
open TL (tl)
def blD (n : Nat) (S : Nat → Bool) : List D := (List.range (n + 1)).map fun p => .bl (S p)
theorem blD_len (n : Nat) (S : Nat → Bool) : (blD n S).length = n + 1 := by unfold blD; rw [List.length_map, List.length_range]
theorem blD_get {n : Nat} {S : Nat → Bool} {p : Nat} (h : p ≤ n) : (blD n S)[p]? = some (.bl (S p)) := by
  unfold blD
  rw [List.getElem?_map, List.getElem?_range (by omega)]
  rfl
theorem blD_congr {n : Nat} {S T : Nat → Bool} (h : ∀ p, p ≤ n → S p = T p) : blD n S = blD n T := by
  unfold blD
  exact List.map_congr_left fun p hp => by rw [h p (by have := List.mem_range.mp hp; omega)]
theorem blD_set {n : Nat} {S T : Nat → Bool} {k : Nat} (h : ∀ p, p ≤ n → T p = (S p || decide (p = k))) : (blD n S).set k (.bl true) = blD n T := by
  refine List.ext_getElem? fun i => ?_
  by_cases hi : i ≤ n
  · rw [blD_get hi, List.getElem?_set, h i hi]
    by_cases hk : k = i
    · subst hk
      rw [if_pos rfl, if_pos (by rw [blD_len]; omega)]; simp
    · rw [if_neg hk, blD_get hi]
      have : ¬ i = k := fun z => hk z.symm
      simp [this]
  · rw [List.getElem?_eq_none (by rw [List.length_set, blD_len]; omega), List.getElem?_eq_none (by rw [blD_len]; omega)]
theorem blD_false (n : Nat) : (List.replicate (n + 1) [D.bl false]).flatten = blD n fun _ => false := by
  unfold blD
  induction n with
  | zero => rfl
  | succ n ih => rw [List.range_succ, List.map_append, ← ih, List.replicate_succ', List.flatten_append]; rfl
theorem blD_start (n : Nat) : [D.bl true] ++ (List.replicate n [D.bl false]).flatten = blD n fun p => p == 0 := by
  unfold blD
  induction n with
  | zero => rfl
  | succ n ih => rw [List.range_succ, List.map_append, ← ih, List.replicate_succ', List.flatten_append, List.append_assoc]; rfl
theorem v_rep {g : GS} {Q : DK} {p : Addr} {xs : List D} {k : Int} (hp : g p = some (.lst xs)) (h0 : 0 ≤ k) (hz : xs.length * k.toNat ≤ 16777216) (h1 : k ≤ 16777216) (h : ∀ r, g r = none → Q (.ref r) (gup g r (.lst (List.replicate k.toNat xs).flatten))) : mulD (.ref p) (.int k) g Q :=
  ⟨xs, hp, by omega, by omega, by rw [szl]; exact hz, h⟩
theorem perm_erase {α : Type} : ∀ (l : List α) (i : Nat) (h : i < l.length), (l[i] :: l.eraseIdx i).Perm l
  | a :: r, 0, _ => List.Perm.refl _
  | a :: r, i + 1, h => by
    have hr : i < r.length := by simpa using h
    have ih := perm_erase r i hr
    exact (List.Perm.swap a r[i] (r.eraseIdx i)).trans (List.Perm.cons a ih)
theorem ixN_at {n k : Nat} {i : Int} (h : i = (k : Int)) (hk : k < n) : ixN n i = some k := by
  subst h
  unfold ixN
  rw [if_pos (by omega), if_pos (by omega)]
  congr 1
theorem starTo_end {g : List Nat} {R : Nat → Bool} {k p : Nat} (h : p ≤ k) : (if p ≤ k then starC g R p else R p) = starC g R p := if_pos h
def starTo (g : List Nat) (R : Nat → Bool) (k p : Nat) : Bool := if p ≤ k then starC g R p else R p
theorem starTo_0 (g : List Nat) (R : Nat → Bool) (p : Nat) : starTo g R 0 p = R p := by
  unfold starTo
  by_cases h : p ≤ 0
  · rw [if_pos h]
    have : p = 0 := by omega
    subst this; rfl
  · rw [if_neg h]
theorem starTo_self (g : List Nat) (R : Nat → Bool) (k : Nat) : starTo g R k k = starC g R k := if_pos (Nat.le_refl _)
theorem starTo_yes {g : List Nat} {R : Nat → Bool} {k : Nat} (h1 : starC g R k = true) (h2 : g[k]? = some 42) (p : Nat) : starTo g R (k + 1) p = (starTo g R k p || decide (p = k + 1)) := by
  unfold starTo
  by_cases h : p ≤ k
  · rw [if_pos h, if_pos (by omega), decide_eq_false (by omega), Bool.or_false]
  · by_cases e : p = k + 1
    · subst e
      rw [if_pos (Nat.le_refl _), decide_eq_true rfl, Bool.or_true, starC_step, h1, h2]; simp
    · rw [if_neg h, if_neg (by omega), decide_eq_false e, Bool.or_false]
theorem starTo_no {g : List Nat} {R : Nat → Bool} {k : Nat} (h1 : ¬ (starC g R k = true ∧ g[k]? = some 42)) (p : Nat) : starTo g R (k + 1) p = starTo g R k p := by
  unfold starTo
  by_cases h : p ≤ k
  · rw [if_pos h, if_pos (by omega)]
  · by_cases e : p = k + 1
    · subst e
      rw [if_pos (Nat.le_refl _), if_neg h, starC_step]
      have : (g[k]? == some 42 && starC g R k) = false := by
        cases h3 : (g[k]? == some 42 && starC g R k) with
        | false => rfl
        | true =>
          rw [Bool.and_eq_true] at h3
          exact absurd ⟨h3.2, eq_of_beq h3.1⟩ h1
      rw [this, Bool.or_false]
    · rw [if_neg h, if_neg (by omega)]
def bOn (g : List Nat) (c : Nat) (S : Nat → Bool) (k p : Nat) : Bool := (decide (p < k) && (S p && g[p]? == some 42)) || match p with
  | 0 => false
  | p + 1 => decide (p < k) && (S p && (g[p]? == some 63 || g[p]? == some c))
theorem bOn_succ (g : List Nat) (c : Nat) (S : Nat → Bool) (k p : Nat) : bOn g c S k (p + 1) = ((decide (p + 1 < k) && (S (p + 1) && g[p + 1]? == some 42)) || (decide (p < k) && (S p && (g[p]? == some 63 || g[p]? == some c)))) := rfl
theorem bOn_zero (g : List Nat) (c : Nat) (S : Nat → Bool) (k : Nat) : bOn g c S k 0 = (decide (0 < k) && (S 0 && g[0]? == some 42)) := by
  show (_ || false) = _
  rw [Bool.or_false]
theorem bOn_0 (g : List Nat) (c : Nat) (S : Nat → Bool) (p : Nat) : bOn g c S 0 p = false := by
  cases p with
  | zero => rw [bOn_zero]; rfl
  | succ p => rw [bOn_succ]; rfl
theorem bOn_end (g : List Nat) (c : Nat) (S : Nat → Bool) (p : Nat) : bOn g c S g.length p = baseB g c S p := by
  have e : ∀ p x, (decide (p < g.length) && (S p && g[p]? == some x)) = (S p && g[p]? == some x) := fun p x => by
    by_cases h : p < g.length
    · rw [decide_eq_true h, Bool.true_and]
    · rw [List.getElem?_eq_none (by omega)]; simp
  have e2 : ∀ p, (decide (p < g.length) && (S p && (g[p]? == some 63 || g[p]? == some c))) = (S p && (g[p]? == some 63 || g[p]? == some c)) := fun p => by
    by_cases h : p < g.length
    · rw [decide_eq_true h, Bool.true_and]
    · rw [List.getElem?_eq_none (by omega)]; simp
  cases p with
  | zero =>
    rw [bOn_zero, e]
    show _ = ((S 0 && g[0]? == some 42) || false)
    rw [Bool.or_false]
  | succ p => rw [bOn_succ, e, e2]; rfl
theorem bOn_step {g : List Nat} {c : Nat} {S : Nat → Bool} {k : Nat} {c1 c2 : Bool} (h1 : c1 = (S k && g[k]? == some 42)) (h2 : c2 = (S k && (g[k]? == some 63 || g[k]? == some c))) (p : Nat) :
    bOn g c S (k + 1) p = ((bOn g c S k p || (c1 && decide (p = k))) || (c2 && decide (p = k + 1))) := by
  subst h1 h2
  have d : ∀ p, decide (p < k + 1) = (decide (p < k) || decide (p = k)) := fun p => by
    by_cases a : p < k
    · rw [decide_eq_true a, decide_eq_true (by omega)]; rfl
    · by_cases b : p = k
      · rw [decide_eq_true b, decide_eq_true (by omega)]; simp
      · rw [decide_eq_false a, decide_eq_false b, decide_eq_false (by omega)]; rfl
  cases p with
  | zero =>
    rw [bOn_zero, bOn_zero, d, decide_eq_false (by omega : ¬ 0 = k + 1), Bool.and_false, Bool.or_false]
    by_cases e : 0 = k
    · subst e; simp
    · simp [e]
  | succ p =>
    rw [bOn_succ, bOn_succ, d, d]
    have e3 : decide (p + 1 = k + 1) = decide (p = k) := decide_eq_decide.mpr (by omega)
    rw [e3]
    by_cases e1 : p + 1 = k
    · subst e1
      have e2 : ¬ p = p + 1 := by omega
      simp [e2]
      exact Bool.or_comm _ _
    · by_cases e2 : p = k
      · subst e2; simp [e1]
      · simp [e1, e2]
end DL
namespace DL
open PySem L2
open PySem.W (alike dataLt AllAlike Sortable dataLe sortVals dataKind EachIs sorting_copy_old)
def leP (a b : D) : Bool := dataLe false pd a b
def srtOk (ds : List D) : Prop := pures ds = true ∧ deps ds ≤ 60 ∧ AllAlike (ds.map pd) ∧ Sortable (ds.map pd)
def sortedD : DRC := fun xs g Q => match xs with
  | [.ref p] => ∃ ds, rdL g p ds ∧ srtOk ds ∧ ∀ r, g r = none → Q (.ref r) (gup g r (.lst (ds.mergeSort leP)))
  | _ => False
theorem pds_map (ds : List D) : pds ds = ds.map pd := by
  induction ds with
  | nil => rfl
  | cons d ds ih => rw [pds, ih]; rfl
section
variable {X : Cx} {K : PySem.W.Frag} {H : Hp}
theorem pures_mem : ∀ {ds : List D}, pures ds = true → ∀ d ∈ ds, pure? d = true
  | d :: ds, h, x, hx => by
    rw [pures, Bool.and_eq_true] at h
    rcases List.mem_cons.mp hx with rfl | hx
    · exact h.1
    · exact pures_mem h.2 x hx
theorem deps_mem : ∀ {ds : List D} {n : Nat}, deps ds ≤ n → ∀ d ∈ ds, dep d ≤ n
  | d :: ds, n, h, x, hx => by
    rw [deps] at h
    rcases List.mem_cons.mp hx with rfl | hx
    · omega
    · exact deps_mem (by omega) x hx
/-- a list of values stands for the data -/
def StD (K : PySem.W.Frag) (H : Hp) (u : Value) (d : D) : Prop := ∃ v, RepD K H v d ∧ RelV v u
theorem std_of : ∀ {vs : List V} {us : List Value} {ds : List D}, RepL K H vs ds → Vals vs us → EachIs (StD K H) us ds
  | _, _, _, .nil, .nil => .nil
  | _, _, _, .cons r l, .cons v t => .cons ⟨_, r, v⟩ (std_of l t)
theorem of_std : ∀ {us : List Value} {ds : List D}, EachIs (StD K H) us ds → ∃ vs, RepL K H vs ds ∧ Vals vs us
  | _, _, .nil => ⟨[], .nil, .nil⟩
  | _, _, .cons ⟨v, r, q⟩ t => by
    obtain ⟨vs, l, w⟩ := of_std t
    exact ⟨v :: vs, .cons r l, .cons q w⟩
theorem each_and {α β : Type} {R S : α → β → Prop} : ∀ {as : List α} {bs : List β}, EachIs R as bs → (∀ a b, b ∈ bs → R a b → S a b) → EachIs S as bs
  | _, _, .nil, _ => .nil
  | _, _, .cons h t, k => .cons (k _ _ List.mem_cons_self h) (each_and t fun a b hb => k a b (List.mem_cons_of_mem _ hb))
theorem each_mapD {α : Type} {R : α → PyData → Prop} : ∀ {as : List α} {bs : List D}, EachIs (fun a b => R a (pd b)) as bs → EachIs R as (bs.map pd)
  | _, _, .nil => .nil
  | _, _, .cons h t => .cons h (each_mapD t)
theorem call_sortedD (hu : X.A.units + 65 < cLine) : CallR X (.builtin "sorted") (lRC X.K sortedD) := fun pins s σ H xs us Q I rs ⟨ds, g, Qd, l, rg, q, k⟩ => by
  rcases l with _ | ⟨r1, _ | ⟨r2, l⟩⟩
  · exact q.elim
  · cases r1 with
    | ref p =>
      obtain ⟨ds, hp, ⟨hpu, hdp, hal, hsk⟩, q⟩ := q
      obtain ⟨vs, hs, l⟩ := rg.sq hp
      obtain ⟨its, rv, hl, hz⟩ := I.list hs
      rw [Vals.ref1 rs]
      have hlen := rv.length
      have e0 := std_of l rv
      have er : EachIs (fun u d => ∃ as, Reads s.heap u (pd d) as) its ds := each_and e0 fun u d hd ⟨v, r, w⟩ => Dp.reads I (pd d) v u (r.dp (pures_mem hpu d hd)) w
      have er2 : EachIs (fun u d => ∃ as, Reads (PySem.W.sortingHeap (PySem.W.copyHeap s.heap its) (s.heap.objs.size + 1) its) u (pd d) as) its ds := each_and er fun u d _ ⟨as, r⟩ => ⟨as, PyProof.Rows.Reads.keeps (fun b o e => sorting_copy_old e) r⟩
      have S := PySem.W.SortsAt.data (prog := X.prog) (w := X.w) (A := X.A.in1.in1) (s := { s with heap := PySem.W.sortingHeap (PySem.W.copyHeap s.heap its) (s.heap.objs.size + 1) its }) (each_mapD er2) hal hsk (fun d hd => by
        obtain ⟨d', hd', rfl⟩ := List.mem_map.mp hd
        have h1 := pd_dep d'
        have h2 := deps_mem hdp d' hd'
        show X.A.units + 1 + 1 + _ < _
        omega)
      have out := PySem.W.sortVals_data (R := StD X.K H) (enc := pd) false e0 er2 hal
      obtain ⟨vs', l', w'⟩ := of_std out
      refine PySem.W.sorted_vals hl.isList S (by rw [← hlen]; exact hz) ?_
      obtain ⟨ep, he'⟩ := PyProof.Rows.sortedAll_at s.heap its (sortVals (dataKind (PySem.W.sortingHeap (PySem.W.copyHeap s.heap its) (s.heap.objs.size + 1) its) (ds.map pd)) false its its).toArray
      have hl2 : vs'.length = its.length := by rw [w'.length]; exact PySem.W.sortVals_length false rfl
      have hz2 : vs'.length ≤ sizeLine := by rw [hl2, ← hlen]; exact hz
      exact ⟨.ref _, upd H (s.heap.objs.size + 1) (.lst vs'), I.laid (t' := s.toks) (fun _ _ => PyProof.Rows.sortedAll_old) (Nat.le_succ _) ⟨hz2, _, ep, w', he'⟩, rfl, rg.finL k (I.hok.fresh (Nat.le_succ _)) l' q⟩
    | _ => exact q.elim
  · cases r1 <;> exact q.elim
end
end DL
namespace DL
open PySem PySem.Spec PyProof.Rows L2
open TL (tl)
structure SiteR where
  name : Str
  off : Int
  mem : Int
  term : Int
  lot : Str
abbrev SiteR.d (s : SiteR) : D := .tup [.str "site", .str s.name, .int s.off, .int s.mem, .int s.term, .str s.lot]
structure FeedR where
  giver : Str
  taker : Str
  pat : Str
  hops : Int
  size : Int
abbrev FeedR.d (f : FeedR) : D := .tup [.str "feed", .str f.giver, .str f.taker, .str f.pat, .int f.hops, .int f.size]
structure StwR where
  pat : Str
  addr : Str
  pol : D
abbrev StwR.d (s : StwR) : D := .tup [.str "steward", .str s.pat, .str s.addr, s.pol]
abbrev lineD (p : Str × Str) : D := .tup [.str p.1, .str p.2]
structure BookR where
  window : Int
  w1 : Int
  w2 : Int
  sites : List SiteR
  lines : List (Str × Str)
  feeds : List FeedR
  stws : List StwR
  lists : List D
abbrev BookR.ds (b : BookR) : List D := [.str "book", .int b.window, .tup [.int b.w1, .int b.w2], .tup (b.sites.map SiteR.d), .tup (b.lines.map lineD), .tup (b.feeds.map FeedR.d), .tup (b.stws.map StwR.d), .tup b.lists]
def optD : Option Str → D
  | none => .non
  | some z => .str z
def dOf {α : Type} (f : α → D) : Option α → D
  | none => .non
  | some a => f a
def siteOf (ss : List SiteR) (n : Str) : Option SiteR := ss.find? fun s => decide (s.name = n)
def feedOf (fs : List FeedR) (a b : Str) : Option FeedR := fs.find? fun f => decide (f.giver = a) && decide (f.taker = b)
theorem find_first {α : Type} {l : List α} {i : Nat} {x : α} {p : α → Bool} (hi : l[i]? = some x) (h : ∀ y ∈ l.take i, p y = false) (hx : p x = true) : l.find? p = some x := by
  have hl := (List.getElem?_eq_some_iff.mp hi)
  have e := List.take_append_drop i l
  rw [List.drop_eq_getElem_cons hl.1, hl.2] at e
  rw [← e, List.find?_append, List.find?_eq_none.mpr fun y hy => by rw [h y hy]; decide, List.find?_cons_of_pos hx]
  rfl
/-- what is right about a book that is drawn -/
structure SiteOk (s : SiteR) : Prop where
  name : NameOk s.name
  lot : PatOk s.lot
structure FeedOkR (f : FeedR) : Prop where
  giver : NameOk f.giver
  taker : NameOk f.taker
  pat : PatOk f.pat
  hops : 1 ≤ f.hops ∧ f.hops ≤ 9
  size : 1 ≤ f.size ∧ f.size ≤ 99
structure BookOk (b : BookR) : Prop where
  sites : ∀ s ∈ b.sites, SiteOk s
  ns : b.sites.length ≤ 100
  nf : b.feeds.length ≤ 1000
  nl : b.lines.length ≤ 1000
  nd : (b.sites.map (·.name)).Nodup
  lines : ∀ p ∈ b.lines, (∃ s ∈ b.sites, s.name = p.1) ∧ ∃ s ∈ b.sites, s.name = p.2
  feeds : ∀ f ∈ b.feeds, FeedOkR f ∧ (∃ s ∈ b.sites, s.name = f.giver) ∧ ∃ s ∈ b.sites, s.name = f.taker
  win : 0 ≤ b.window ∧ b.window ≤ 100
  waits : 1 ≤ b.w1 ∧ b.w1 ≤ b.w2 ∧ b.w2 ≤ 100
end DL
namespace DL
open PySem L2
section
variable {X : Cx} {K : PySem.W.Frag} {H : Hp}
def intsD (r : List Int → DK → GS → Prop) : DRC := fun xs g Q => match xs with
  | [.ref p] => ∃ ns : List Int, rdL g p (ns.map D.int) ∧ r ns Q g
  | _ => False
abbrev sumD : DRC := intsD fun ns Q g => Q (.int ns.sum) g
abbrev minID : DRC := intsD fun ns Q g => 0 < ns.length ∧ ∀ m, m ∈ ns → (∀ y, y ∈ ns → m ≤ y) → Q (.int m) g
theorem call_ints {f : Value} {r : List Int → DK → GS → Prop} (h : ∀ {pins : List (Addr × Obj)} {s : Shared} {σ : L2.St} {H : Hp} {us : List Value} {Q : VK} {g : GS} {Qd : DK} {p : Addr} {ns : List Int}, Inv X pins σ H s → Vals [V.ref p] us → SqL X.K H p (ns.map V.int) → RepG X.K H g → KD X.K H Qd Q → r ns Qd g → wpAny (model X.prog X.w) X.A (call f us) (EP X pins σ Q) X.xe s) : CallR X f (lRC X.K (intsD r)) := fun pins s σ H xs us Q I rs ⟨ds, g, Qd, l, rg, q, k⟩ => by
  rcases l with _ | ⟨r1, _ | ⟨r2, l⟩⟩
  · exact q.elim
  · cases r1 with
    | ref p =>
      obtain ⟨ns, hp, q⟩ := q
      obtain ⟨xs, hs, l⟩ := rg.sq hp
      have := l.ints ns
      subst this
      exact h I rs hs rg k q
    | _ => exact q.elim
  · cases r1 <;> exact q.elim
theorem call_minID (hc : X.calm = true) : CallR X (.builtin "min") (lRC X.K minID) := call_ints fun I rs hs rg k q => cr_min hc _ _ _ _ _ _ _ I rs ⟨_, _, rfl, hs, q.1, fun m h1 h2 => rg.fin k (.int _) (q.2 m h1 h2)⟩
def minSD : DRC := fun xs g Q => match xs with
  | [.ref p] => ∃ ss : List Str, rdL g p (ss.map D.str) ∧ ss ≠ [] ∧ ∀ m, m ∈ ss → (∀ y, y ∈ ss → ¬ y.cps.toList < m.cps.toList) → Q (.str m) g
  | _ => False
open PySem.W (dataLt AllAlike minD) in
theorem minD_strs : ∀ (ss : List Str) (x : Str), ∃ m : Str, minD (.str x) (ss.map PyData.str) = .str m ∧ m ∈ x :: ss ∧ ∀ y ∈ x :: ss, ¬ y.cps.toList < m.cps.toList
  | [], x => ⟨x, rfl, List.mem_cons_self, fun y hy => by rw [List.mem_singleton.mp hy]; exact List.lt_irrefl _⟩
  | y :: ss, x => by
    have e : minD (.str x) ((y :: ss).map PyData.str) = minD (if y.cps.toList < x.cps.toList then .str y else .str x) (ss.map PyData.str) := by
      unfold minD
      rw [List.map_cons, List.foldl_cons, PySem.W.dataLt_str]
      by_cases h : y.cps.toList < x.cps.toList
      · rw [if_pos h, if_pos (decide_eq_true h)]
      · rw [if_neg h, if_neg (by rw [decide_eq_false h]; decide)]
    rw [e]
    by_cases h : y.cps.toList < x.cps.toList
    · rw [if_pos h]
      obtain ⟨m, h1, h2, h3⟩ := minD_strs ss y
      refine ⟨m, h1, List.mem_cons_of_mem _ h2, fun z hz => ?_⟩
      rcases List.mem_cons.mp hz with rfl | hz
      · exact fun hlt => h3 y List.mem_cons_self (List.lt_trans h hlt)
      · exact h3 z hz
    · rw [if_neg h]
      obtain ⟨m, h1, h2, h3⟩ := minD_strs ss x
      refine ⟨m, h1, ?_, fun z hz => ?_⟩
      · rcases List.mem_cons.mp h2 with rfl | h2
        · exact List.mem_cons_self
        · exact List.mem_cons_of_mem _ (List.mem_cons_of_mem _ h2)
      · rcases List.mem_cons.mp hz with rfl | hz
        · exact h3 z List.mem_cons_self
        · rcases List.mem_cons.mp hz with rfl | hz
          · intro hlt
            have h5 := List.not_lt.mp h
            have h6 := List.not_lt.mp (h3 x List.mem_cons_self)
            exact absurd hlt (List.not_lt.mpr (List.le_trans h6 h5))
          · exact h3 z (List.mem_cons_of_mem _ hz)
open PyProof.Rows in
theorem call_minSD (hc : X.calm = true) (hu : X.A.units + 65 < cLine) : CallR X (.builtin "min") (lRC X.K minSD) := fun pins s σ H xs us Q I rs ⟨ds, g, Qd, l, rg, q, k⟩ => by
  rcases l with _ | ⟨r1, _ | ⟨r2, l⟩⟩
  · exact q.elim
  · cases r1 with
    | ref p =>
      obtain ⟨ss, hp, h0, q⟩ := q
      obtain ⟨xs, hs, l⟩ := rg.sq hp
      have := l.strs ss
      subst this
      obtain ⟨its, rv, hl, hz⟩ := I.list hs
      rw [Vals.ref1 rs]
      obtain ⟨x, t, rfl⟩ : ∃ x t, ss = x :: t := by
        cases ss with
        | nil => exact absurd rfl h0
        | cons x t => exact ⟨x, t, rfl⟩
      have hra : ∀ {vs : List Str} {us : List Value}, Vals (vs.map V.str) us → ReadsAll s.heap us (vs.map PyData.str) [] := fun {vs} => by
        induction vs with
        | nil => intro us h; cases h; exact .nil
        | cons a vs ih =>
          intro us h
          rw [List.map_cons] at h
          cases h with
          | cons h1 h2 =>
            obtain ⟨tk, rfl⟩ := h1
            exact .cons (.str a tk) (ih h2)
      obtain ⟨m, e1, e2, e3⟩ := minD_strs t x
      have hal : PySem.W.AlikeAll ((x :: t).map PyData.str) := ⟨fun d hd d' hd' => by
        obtain ⟨y, _, rfl⟩ := List.mem_map.mp hd
        obtain ⟨z, _, rfl⟩ := List.mem_map.mp hd'
        rfl, fun d hd => by
        obtain ⟨y, _, rfl⟩ := List.mem_map.mp hd
        exact fun z => by cases z⟩
      have hdp : PyData.depthAll ((x :: t).map PyData.str) = 0 := by
        generalize x :: t = l
        induction l with
        | nil => rfl
        | cons a l ih => rw [List.map_cons, PyData.depthAll, ih]; rfl
      refine PySem.W.min_list_data (x := .str x) (xs := t.map .str) (I.ok.hd hc) hl.isList (hra (vs := x :: t) rv) hal (by
        show X.A.units + 1 + PyData.depthAll ((x :: t).map PyData.str) < cLine
        rw [hdp]; omega) fun i v h' tk bs hi hr hk => ?_
      rw [e1] at hr
      cases hr
      exact ⟨.str m, H, I.kept hk, ⟨_, rfl⟩, rg.fin k (.str m) (q m e2 e3)⟩
    | _ => exact q.elim
  · cases r1 <;> exact q.elim
abbrev minLD : DRC := fun xs g Q => minID xs g Q ∨ minSD xs g Q
theorem call_minLD (hc : X.calm = true) (hu : X.A.units + 65 < cLine) : CallR X (.builtin "min") (lRC X.K minLD) := fun pins s σ H xs us Q I rs ⟨ds, g, Qd, l, rg, q, k⟩ => q.elim (fun q => call_minID hc pins s σ H xs us Q I rs ⟨ds, g, Qd, l, rg, q, k⟩) fun q => call_minSD hc hu pins s σ H xs us Q I rs ⟨ds, g, Qd, l, rg, q, k⟩
end
end DL
namespace DL
open PySem PySem.Spec PyProof.Rows L2
open TL (tl)
theorem set_same {e : EV} {j : Nat} : ∃ x, e = e.set j x := ⟨(e[j]?).getD none, by
  apply List.ext_getElem?
  intro i
  rw [List.getElem?_set]
  by_cases h : j = i
  · subst h
    rw [if_pos rfl]
    by_cases hl : j < e.length
    · rw [if_pos hl, List.getElem?_eq_getElem hl]; rfl
    · rw [if_neg hl, List.getElem?_eq_none (by omega)]
  · rw [if_neg h]⟩
theorem set_set {e : EV} {j : Nat} {x y : Option D} : (e.set j x).set j y = e.set j y := List.set_set ..
/-- a loop that stops at the first that has p -/
theorem find_iv {α : Type} {ds : List DL.D} {keep : GS → Prop} {tb : DTS} {D : DEnds} {e : EV} {g1 : GS} {j : Nat} (R : GS → Prop) (l : List α) (td : α → DL.D) (p : α → Bool) (hl : ds = l.map td) (h0 : R g1) (hk : ∀ g', R g' → keep g')
    (step : ∀ (i : Nat) (a : α) (x : Option DL.D) (W : EV → GS → Prop) g', l[i]? = some a → R g' → (p a = true → l.find? p = some a) → (p a = false → ∀ g'', R g'' → W ((e.set j x).set j (some (td a))) g'') →
      tb { D with nx := W, ct := W, bk := D.nx } ((e.set j x).set j (some (td a))) g')
    (fin : ∀ x g', R g' → l.find? p = none → D.nx (e.set j x) g') :
    ∃ Iv : Nat → EV → GS → Prop, Iv 0 e g1 ∧ (∀ i e' g', i ≤ ds.length → Iv i e' g' → keep g') ∧ (∀ i d e' g', ds[i]? = some d → Iv i e' g' → gNm j d e' g' fun e2 g2 => tb { D with nx := Iv (i + 1), ct := Iv (i + 1), bk := D.nx } e2 g2) ∧ ∀ e' g', Iv ds.length e' g' → D.nx e' g' := by
  subst hl
  refine ⟨fun i e' g' => R g' ∧ (∀ y ∈ l.take i, p y = false) ∧ ∃ x, e' = e.set j x, ⟨h0, (fun y h => nomatch h), set_same⟩, fun i e' g' _ h => hk g' h.1, ?_, ?_⟩
  · rintro i d e' g' hd ⟨U, hA, x, rfl⟩
    rw [List.getElem?_map] at hd
    cases hi : l[i]? with
    | none => rw [hi] at hd; cases hd
    | some a =>
      rw [hi] at hd
      cases hd
      refine step i a x _ g' hi U (fun h => find_first hi hA h) fun h g'' U2 => ⟨U2, fun y hy => ?_, ?_⟩
      · rw [List.take_add_one, hi] at hy
        rcases List.mem_append.mp hy with hy | hy
        · exact hA y hy
        · rw [List.mem_singleton.mp hy]; exact h
      · exact ⟨_, set_set⟩
  · rintro e' g' ⟨U, hA, x, rfl⟩
    rw [List.length_map, List.take_length] at hA
    exact fin x g' U (List.find?_eq_none.mpr fun y hy => by rw [hA y hy]; decide)
theorem atI_zero {α : Type} {x : α} {r : List α} : atI (x :: r) 0 = some x := atI_ofNat rfl (by omega)
theorem v_ixT0 {g : GS} {Q : DK} {x : D} {r : List D} (h : Q x g) : ixD (.tup (x :: r)) (.int 0) g Q := v_ixT atI_zero h
instance w_v_ixT0 {g : GS} {Q : DK} {x : D} {r : List D} : StW (ixD (.tup (x :: r)) (.int 0) g Q) (Q x g) := ⟨v_ixT0⟩
instance a_v_ixT0 {g : GS} {Q : DK} {x : D} {r : List D} : StF (ixD (.tup (x :: r)) (.int 0) g Q) (Q x g) := ⟨v_ixT0⟩
open PySem.W (dataLt AllAlike Sortable dataLe alike keyToks)
abbrev sOk (z : Str) : Prop := PyData.strOk z = true
theorem sOk_of {z : Str} (h : ∀ c ∈ tl z, c < 1114112) : sOk z := by
  show z.cps.all (fun c => decide (c < 0x110000)) = true
  rw [Array.all_eq_true']
  intro c hc
  exact decide_eq_true (h c (Array.mem_toList_iff.mpr hc))
theorem NameOk.sOk {z : Str} (h : NameOk z) : DL.sOk z := sOk_of fun c hc => by
  have := h.chars c hc
  unfold low dig at this
  omega
theorem pures_strs : ∀ {ss : List Str}, (∀ z ∈ ss, sOk z) → pures (ss.map D.str) = true
  | [], _ => rfl
  | a :: l, h => by
    rw [List.map_cons, pures, pures_strs fun z hz => h z (List.mem_cons_of_mem _ hz), Bool.and_true]
    rw [pure?]
    exact h a List.mem_cons_self
theorem deps_strs (ss : List Str) : deps (ss.map D.str) = 0 := by
  induction ss with
  | nil => rfl
  | cons a l ih => rw [List.map_cons, deps, ih]; rfl
section
variable {g : GS} {Q : DK} {p : Addr}
theorem v_max2S {i j : Str} (h : Q (.str (if i.cps.toList < j.cps.toList then j else i)) g) : max2D [.str i, .str j] g Q := h
theorem v_min2S {i j : Str} (h : Q (.str (if j.cps.toList < i.cps.toList then j else i)) g) : min2D [.str i, .str j] g Q := h
theorem v_sumL {p : Addr} {ns : List Int} (hp : g p = some (.lst (ns.map D.int))) (h : Q (.int ns.sum) g) : sumD [.ref p] g Q := ⟨ns, .inl hp, h⟩
end
theorem perm_map_inv {α β : Type} {f : α → β} : ∀ {ys xs : List β}, ys.Perm xs → ∀ l : List α, xs = l.map f → ∃ l' : List α, ys = l'.map f ∧ l'.Perm l := fun h => by
  induction h with
  | nil => intro l e; exact ⟨[], rfl, by rw [List.map_eq_nil_iff.mp e.symm]⟩
  | cons x p ih =>
    intro l e
    cases l with
    | nil => cases e
    | cons a l =>
      rw [List.map_cons] at e
      injection e with e1 e2
      obtain ⟨l', h1, h2⟩ := ih l e2
      exact ⟨a :: l', by rw [List.map_cons, e1, h1], h2.cons a⟩
  | swap x y l0 =>
    intro l e
    match l, e with
    | a :: b :: l, e =>
      rw [List.map_cons, List.map_cons] at e
      injection e with e1 e2
      injection e2 with e2 e3
      exact ⟨b :: a :: l, by rw [List.map_cons, List.map_cons, e1, e2, e3], List.Perm.swap ..⟩
  | trans p1 p2 ih1 ih2 =>
    intro l e
    obtain ⟨l2, h1, h2⟩ := ih2 l e
    obtain ⟨l3, h3, h4⟩ := ih1 l2 h1
    exact ⟨l3, h3, h4.trans h2⟩
theorem fine_line {a b : Str} (ha : sOk a) (hb : sOk b) : fine (.tup [.str a, .str b]) := ⟨by simp only [pure?, pures]; rw [ha, hb]; rfl, by simp [dep, deps]⟩
theorem pures_lines : ∀ {ps : List (Str × Str)}, (∀ p ∈ ps, sOk p.1 ∧ sOk p.2) → pures (ps.map lineD) = true
  | [], _ => rfl
  | a :: l, h => by
    have h1 := h a List.mem_cons_self
    rw [List.map_cons, pures, pures_lines fun z hz => h z (List.mem_cons_of_mem _ hz), Bool.and_true]
    exact (fine_line h1.1 h1.2).1
theorem deps_lines (ps : List (Str × Str)) : deps (ps.map lineD) ≤ 60 := by
  induction ps with
  | nil => rw [List.map_nil, deps]; omega
  | cons a l ih =>
    rw [List.map_cons, deps]
    have e : dep (lineD a) ≤ 60 := by
      show dep (.tup [.str a.1, .str a.2]) ≤ 60
      simp only [dep, deps]
      omega
    omega
theorem srt_lines {ps : List (Str × Str)} (h : ∀ p ∈ ps, sOk p.1 ∧ sOk p.2) : srtOk (ps.map lineD) := by
  refine ⟨pures_lines h, deps_lines ps, ?_, .inl ?_⟩
  · intro d hd d' hd'
    rw [List.map_map] at hd hd'
    obtain ⟨x, _, rfl⟩ := List.mem_map.mp hd
    obtain ⟨y, _, rfl⟩ := List.mem_map.mp hd'
    rfl
  · intro d hd
    rw [List.map_map] at hd
    obtain ⟨x, _, rfl⟩ := List.mem_map.mp hd
    exact ⟨_, _, rfl⟩
section
variable {g : GS} {Q : DK} {p : Addr}
theorem v_sortLines {ps : List (Str × Str)} (hp : g p = some (.lst (ps.map lineD))) (hs : ∀ p ∈ ps, sOk p.1 ∧ sOk p.2) (h : ∀ r (qs : List (Str × Str)), qs.Perm ps → g r = none → Q (.ref r) (gup g r (.lst (qs.map lineD)))) : sortedD [.ref p] g Q :=
  ⟨_, .inl hp, srt_lines hs, fun r hr => by
    obtain ⟨qs, h1, h2⟩ := perm_map_inv (List.mergeSort_perm (ps.map lineD) leP) ps rfl
    rw [h1]
    exact h r qs h2 hr⟩
theorem v_notInLd {xs ds : List D} (hp : g p = some (.lst ds)) (hx : fine (.tup xs)) (h1 : pures ds = true) (h2 : deps ds ≤ 60) (h : Q (.bl (!(ds.any fun z => eqP z (.tup xs)))) g) : notInD (.tup xs) (.ref p) g Q :=
  ⟨ds, .inl hp, .inr ⟨hx, h1, h2⟩, h⟩
theorem v_inLd {xs ds : List D} (hp : g p = some (.lst ds)) (hx : fine (.tup xs)) (h1 : pures ds = true) (h2 : deps ds ≤ 60) (h : Q (.bl (ds.any fun z => eqP z (.tup xs))) g) : inD (.tup xs) (.ref p) g Q :=
  ⟨ds, .inl hp, .inr ⟨hx, h1, h2⟩, h⟩
end
theorem ite_mem {α : Type} {c : Prop} [Decidable c] {l : List α} {x y : α} (hx : x ∈ l) (hy : y ∈ l) : (if c then x else y) ∈ l := by
  by_cases h : c
  · rw [if_pos h]; exact hx
  · rw [if_neg h]; exact hy
theorem ite_of {α : Type} {c : Prop} [Decidable c] {P : α → Prop} {x y : α} (hx : P x) (hy : P y) : P (if c then y else x) := by
  by_cases h : c
  · rw [if_pos h]; exact hy
  · rw [if_neg h]; exact hx
end DL
namespace DL
open PySem PySem.Spec PyProof.Rows L2
open TL (tl)
structure NtR where
  name : Str
  num : Int
  author : Str
  date : Int
  boards : List Str
  subj : Str
  refs : List D
  kw : Str
  krest : List D
  seals : List Str
  body : D
abbrev NtR.id (n : NtR) : D := .tup [.str n.name, .int n.num]
abbrev NtR.kind (n : NtR) : D := .tup (.str n.kw :: n.krest)
abbrev NtR.ds (n : NtR) : List D := [.str "notice", n.id, .str n.author, .int n.date, .tup (n.boards.map D.str), .str n.subj, .tup n.refs, n.kind, .tup (n.seals.map D.str), n.body]
inductive BasR where
  | board (p : Str) | frm (a b : Str) | word (w : Str) | over (n : Int) | sealed (a : Str) | any | answer | replace
def BasR.d : BasR → D
  | .board p => .tup [.str "board", .str p]
  | .frm a b => .tup [.str "from", .str a, .str b]
  | .word w => .tup [.str "word", .str w]
  | .over n => .tup [.str "over", .int n]
  | .sealed a => .tup [.str "sealed", .str a]
  | .any => .tup [.str "any"]
  | .answer => .tup [.str "answer"]
  | .replace => .tup [.str "replace"]
inductive TstR where
  | bas (b : BasR) | two (o : Str) (a b : BasR)
def TstR.d : TstR → D
  | .bas b => b.d
  | .two o a b => .tup [.str o, .tup [.str "not", a.d], b.d]
inductive VerR where
  | pass | hold | refuse (w : Str) | send (a : Str)
def VerR.d : VerR → D
  | .pass => .tup [.str "pass"]
  | .hold => .tup [.str "hold"]
  | .refuse w => .tup [.str "refuse", .str w]
  | .send a => .tup [.str "send", .str a]
/-- bodies that are drawn -/
inductive BodR where
  | data (ns : List Int) | parts (r : Str) | rows (rs : List Str)
def BodR.d : BodR → D
  | .data ns => .tup [.str "data", .str "pairs", .tup (ns.map D.int)]
  | .parts r => .tup [.str "parts", .tup [.tup [.str "text", .str "plain", .tup [.str r]], .tup [.str "text", .str "plain", .tup []]]]
  | .rows rs => .tup [.str "text", .str "plain", .tup (rs.map D.str)]
end DL
namespace DL
open PySem PySem.Spec PyProof.Rows L2
open TL (tl)
def adjB (ls : List (Str × Str)) (y z : Str) : Bool := ls.any fun p => (decide (p.1 = y) && decide (p.2 = z)) || (decide (p.2 = y) && decide (p.1 = z))
theorem adj_mem {ls : List (Str × Str)} {y z : Str} : adjB ls y z = true ↔ ∃ p ∈ ls, (p.1 = y ∧ p.2 = z) ∨ (p.2 = y ∧ p.1 = z) := by
  unfold adjB
  rw [List.any_eq_true]
  simp
/-- the table behind t steps from a -/
def tb (ls : List (Str × Str)) (a : Str) : Nat → Str → Option Nat
  | 0, z => if z = a then some 0 else none
  | t + 1, z => match tb ls a t z with
    | some d => some d
    | none => if (ls.any fun p => (decide (tb ls a t p.1 = some t) && decide (p.2 = z)) || (decide (tb ls a t p.2 = some t) && decide (p.1 = z))) = true then some (t + 1) else none
theorem adj_symm {ls : List (Str × Str)} {y z : Str} (h : adjB ls y z = true) : adjB ls z y = true := by
  obtain ⟨p, hp, ⟨h3, h4⟩ | ⟨h3, h4⟩⟩ := adj_mem.mp h
  · exact adj_mem.mpr ⟨p, hp, .inr ⟨h4, h3⟩⟩
  · exact adj_mem.mpr ⟨p, hp, .inl ⟨h4, h3⟩⟩
inductive Wk (ls : List (Str × Str)) (x : Str) : Nat → Str → Prop
  | nil : Wk ls x 0 x
  | snoc {n : Nat} {y z : Str} : Wk ls x n y → adjB ls y z = true → Wk ls x (n + 1) z
theorem Wk.cons {ls : List (Str × Str)} {x y : Str} (h : adjB ls x y = true) : ∀ {n : Nat} {z : Str}, Wk ls y n z → Wk ls x (n + 1) z
  | _, _, .nil => .snoc .nil h
  | _, _, .snoc w a => .snoc (Wk.cons h w) a
theorem Wk.rev {ls : List (Str × Str)} {x : Str} : ∀ {n : Nat} {z : Str}, Wk ls x n z → Wk ls z n x
  | _, _, .nil => .nil
  | _, _, .snoc w a => Wk.cons (adj_symm a) w.rev
def Rp (kvs : List (L2.Key × D)) (f : Str → Option Nat) : Prop := ∀ z, getD kvs (.inr z) = (f z).map fun (d : Nat) => D.int d
theorem Rp.put {kvs : List (L2.Key × D)} {f f' : Str → Option Nat} (h : Rp kvs f) (z : Str) (k : Nat) (he : ∀ y, f' y = if y = z then some k else f y) : Rp (putD kvs (.inr z) (.int k)) f' := fun y => by
  rw [getD_put, he y]
  by_cases e : y = z
  · rw [if_pos e, if_pos (by rw [e])]; rfl
  · rw [if_neg e, if_neg (fun e2 => e (by injection e2)), h y]
end DL
namespace DL
open PySem PySem.Spec PyProof.Rows L2
open TL (tl)
end DL
namespace DL
open PySem PySem.Spec PyProof.Rows L2
open TL (tl)
structure ListR where
  addr : Str
  board : Option Str
  mem : List Str
abbrev ListR.d (l : ListR) : D := .tup [.str "list", .str l.addr, optD l.board, .tup (l.mem.map D.str)]
/-- keys of a dictionary -/
theorem getD_some (kvs : List (L2.Key × D)) (k : L2.Key) : (getD kvs k).isSome = true ↔ k ∈ kvs.map (·.1) := by
  unfold getD
  rw [Option.isSome_map, List.find?_isSome, List.mem_map]
  constructor
  · rintro ⟨x, hx, e⟩
    exact ⟨x, hx, of_decide_eq_true e⟩
  · rintro ⟨x, hx, e⟩
    exact ⟨x, hx, decide_eq_true e⟩
theorem putD_any (kvs : List (L2.Key × D)) (k : L2.Key) : (kvs.any fun kv => decide (kv.1 = k)) = true ↔ k ∈ kvs.map (·.1) := by
  rw [List.any_eq_true, List.mem_map]
  constructor
  · rintro ⟨x, hx, e⟩
    exact ⟨x, hx, of_decide_eq_true e⟩
  · rintro ⟨x, hx, e⟩
    exact ⟨x, hx, decide_eq_true e⟩
theorem putD_old {kvs : List (L2.Key × D)} {k : L2.Key} (h : k ∈ kvs.map (·.1)) (v : D) : (putD kvs k v).map (·.1) = kvs.map (·.1) := by
  unfold putD
  rw [if_pos ((putD_any kvs k).mpr h), List.map_map]
  apply List.map_congr_left
  intro a _
  show (if a.1 = k then (a.1, v) else a).1 = a.1
  split <;> rfl
theorem putD_add {kvs : List (L2.Key × D)} {k : L2.Key} (h : k ∉ kvs.map (·.1)) (v : D) : (putD kvs k v).map (·.1) = kvs.map (·.1) ++ [k] := by
  unfold putD
  rw [if_neg fun e => h ((putD_any kvs k).mp e), List.map_append]
  rfl
abbrev Ky (kvs : List (L2.Key × D)) (ms : List Str) : Prop := kvs.map (·.1) = ms.map Sum.inr
theorem Ky.len {kvs : List (L2.Key × D)} {ms : List Str} (h : Ky kvs ms) : kvs.length = ms.length := by
  have := congrArg List.length h
  rwa [List.length_map, List.length_map] at this
section
variable (L : List ListR) (nb : Str → Str → Bool) (a : Str)
/-- list x is done: its near members are met or told -/
def Done (ms ps : List Str) (l : ListR) : Prop := ∀ m ∈ l.mem, nb l.addr m = true → (m ∈ L.map ListR.addr → m ∈ ms) ∧ (m ∉ L.map ListR.addr → m ∈ ps)
end
variable {L : List ListR} {nb : Str → Str → Bool} {a : Str}
theorem Done.mono {ms ms' ps ps' : List Str} {l : ListR} (h : Done L nb ms ps l) (h1 : ∀ x ∈ ms, x ∈ ms') (h2 : ∀ x ∈ ps, x ∈ ps') : Done L nb ms' ps' l := fun m hm hn => ⟨fun e => h1 _ ((h m hm hn).1 e), fun e => h2 _ ((h m hm hn).2 e)⟩
end DL
namespace DL
open PySem PySem.Spec PyProof.Rows L2
def putFd (f : Str) (v : D) : List (Str × D) → List (Str × D)
  | [] => [(f, v)]
  | (g, x) :: r => if g = f then (g, v) :: r else (g, x) :: putFd f v r
section
variable {X : Cx} {K : PySem.W.Frag} {H : Hp}
theorem RepF.put {f : Str} {v : V} {d : D} (r : RepD K H v d) : ∀ {vs : List (Str × V)} {fs : List (Str × D)}, RepF K H vs fs → RepF K H (putF f v vs) (putFd f d fs)
  | _, _, .nil => .cons ⟨rfl, r⟩ .nil
  | _, _, .cons (a := (k, x)) (b := (k2, y)) (l₁ := vs) (l₂ := fs) h t => by
    obtain ⟨e, r2⟩ := h
    have e : k = k2 := e
    subst e
    show RepF K H (if k = f then (k, v) :: vs else (k, x) :: putF f v vs) (if k = f then (k, d) :: fs else (k, y) :: putFd f d fs)
    by_cases hk : k = f
    · rw [if_pos hk, if_pos hk]
      exact .cons ⟨rfl, r⟩ t
    · rw [if_neg hk, if_neg hk]
      exact .cons ⟨rfl, r2⟩ (RepF.put r t)
theorem RepF.len {vs : List (Str × V)} {fs : List (Str × D)} (r : RepF K H vs fs) : vs.length = fs.length := PySem.Paired.length r
variable {o value e : Expr} {es : List Expr} {to tv : DTE} {t : DTA} {pos pos' apos p0 : Pos} {n f m x : Str} {k : Nat} {fa pa : Addr} {fd : FuncData} {ps : List Str} {sp : DSp}
/-- o.f -/
def dFld (n f : Str) (to : DTE) : DTE := fun e g Q => to e g fun x g1 => ∃ a fs d, x = .ref a ∧ g1 a = some (.ins n fs) ∧ fs.lookup f = some d ∧ Q d g1
/-- o.f = value -/
def dSFld (n f : Str) (to tv : DTE) : DTS := fun D e g => tv e g fun v g1 => to e g1 fun x g2 => ∃ a fs, x = .ref a ∧ g2 a = some (.ins n fs) ∧ fs.length < 1000 ∧ D.nx e (gup g2 a (.ins n (putFd f v fs)))
/-- o.m(..) -/
def dMeth (n m : Str) (sp : DSp) (to : DTE) (t : DTA) : DTE := fun e g Q => to e g fun x g1 => ∃ a fs, x = .ref a ∧ g1 a = some (.ins n fs) ∧ fs.lookup m = none ∧ t e g1 fun ds g2 => sp (x :: ds) g2 Q
/-- C(..) -/
def dMake (n : Str) (sp : DSp) (t : DTA) : DTE := fun e g Q => t e g fun ds g1 => ∀ a, g1 a = none → sp (.ref a :: ds) (gup g1 a (.ins n [])) fun d g2 => d = .non ∧ Q (.ref a) g2
/-- o.f, a property -/
def dProp (n : Str) (sp : DSp) (to : DTE) : DTE := fun e g Q => to e g fun x g1 => ∃ a fs, x = .ref a ∧ g1 a = some (.ins n fs) ∧ sp [x] g1 Q
/-- list(range(a, b)), list(range(b)) -/
def dLRg2 (ta tb : DTE) : DTE := fun e g Q => ta e g fun x g1 => tb e g1 fun y g2 => ∃ i j, x = .int i ∧ y = .int j ∧ RgOk i j ∧ ∀ p, g2 p = none → Q (.ref p) (gup g2 p (.lst (ran i (j - i).toNat)))
end
section
variable {e : EV} {g : GS} {Q : DK} {to tv ta tb : DTE} {t : DTA} {n f m : Str} {sp : DSp} {D : DEnds}
theorem s_fld (h : to e g fun x g1 => ∃ a fs d, x = .ref a ∧ g1 a = some (.ins n fs) ∧ fs.lookup f = some d ∧ Q d g1) : dFld n f to e g Q := h
instance w_s_fld  : StW (dFld n f to e g Q) (to e g fun x g1 => ∃ a fs d, x = .ref a ∧ g1 a = some (.ins n fs) ∧ fs.lookup f = some d ∧ Q d g1) := ⟨s_fld⟩
instance a_s_fld  : StF (dFld n f to e g Q) (to e g fun x g1 => ∃ a fs d, x = .ref a ∧ g1 a = some (.ins n fs) ∧ fs.lookup f = some d ∧ Q d g1) := ⟨s_fld⟩
theorem s_sfld (h : tv e g fun v g1 => to e g1 fun x g2 => ∃ a fs, x = .ref a ∧ g2 a = some (.ins n fs) ∧ fs.length < 1000 ∧ D.nx e (gup g2 a (.ins n (putFd f v fs)))) : dSFld n f to tv D e g := h
instance w_s_sfld  : StW (dSFld n f to tv D e g) (tv e g fun v g1 => to e g1 fun x g2 => ∃ a fs, x = .ref a ∧ g2 a = some (.ins n fs) ∧ fs.length < 1000 ∧ D.nx e (gup g2 a (.ins n (putFd f v fs)))) := ⟨s_sfld⟩
instance a_s_sfld  : StF (dSFld n f to tv D e g) (tv e g fun v g1 => to e g1 fun x g2 => ∃ a fs, x = .ref a ∧ g2 a = some (.ins n fs) ∧ fs.length < 1000 ∧ D.nx e (gup g2 a (.ins n (putFd f v fs)))) := ⟨s_sfld⟩
theorem s_meth (h : to e g fun x g1 => ∃ a fs, x = .ref a ∧ g1 a = some (.ins n fs) ∧ fs.lookup m = none ∧ t e g1 fun ds g2 => sp (x :: ds) g2 Q) : dMeth n m sp to t e g Q := h
instance w_s_meth  : StW (dMeth n m sp to t e g Q) (to e g fun x g1 => ∃ a fs, x = .ref a ∧ g1 a = some (.ins n fs) ∧ fs.lookup m = none ∧ t e g1 fun ds g2 => sp (x :: ds) g2 Q) := ⟨s_meth⟩
instance a_s_meth  : StF (dMeth n m sp to t e g Q) (to e g fun x g1 => ∃ a fs, x = .ref a ∧ g1 a = some (.ins n fs) ∧ fs.lookup m = none ∧ t e g1 fun ds g2 => sp (x :: ds) g2 Q) := ⟨s_meth⟩
theorem s_make (h : t e g fun ds g1 => ∀ a, g1 a = none → sp (.ref a :: ds) (gup g1 a (.ins n [])) fun d g2 => d = .non ∧ Q (.ref a) g2) : dMake n sp t e g Q := h
instance w_s_make  : StW (dMake n sp t e g Q) (t e g fun ds g1 => ∀ a, g1 a = none → sp (.ref a :: ds) (gup g1 a (.ins n [])) fun d g2 => d = .non ∧ Q (.ref a) g2) := ⟨s_make⟩
instance a_s_make  : StF (dMake n sp t e g Q) (t e g fun ds g1 => ∀ a, g1 a = none → sp (.ref a :: ds) (gup g1 a (.ins n [])) fun d g2 => d = .non ∧ Q (.ref a) g2) := ⟨s_make⟩
theorem s_prop (h : to e g fun x g1 => ∃ a fs, x = .ref a ∧ g1 a = some (.ins n fs) ∧ sp [x] g1 Q) : dProp n sp to e g Q := h
instance w_s_prop  : StW (dProp n sp to e g Q) (to e g fun x g1 => ∃ a fs, x = .ref a ∧ g1 a = some (.ins n fs) ∧ sp [x] g1 Q) := ⟨s_prop⟩
instance a_s_prop  : StF (dProp n sp to e g Q) (to e g fun x g1 => ∃ a fs, x = .ref a ∧ g1 a = some (.ins n fs) ∧ sp [x] g1 Q) := ⟨s_prop⟩
theorem s_lrg2 (h : ta e g fun x g1 => tb e g1 fun y g2 => ∃ i j, x = .int i ∧ y = .int j ∧ RgOk i j ∧ ∀ p, g2 p = none → Q (.ref p) (gup g2 p (.lst (ran i (j - i).toNat)))) : dLRg2 ta tb e g Q := h
instance w_s_lrg2  : StW (dLRg2 ta tb e g Q) (ta e g fun x g1 => tb e g1 fun y g2 => ∃ i j, x = .int i ∧ y = .int j ∧ RgOk i j ∧ ∀ p, g2 p = none → Q (.ref p) (gup g2 p (.lst (ran i (j - i).toNat)))) := ⟨s_lrg2⟩
instance a_s_lrg2  : StF (dLRg2 ta tb e g Q) (ta e g fun x g1 => tb e g1 fun y g2 => ∃ i j, x = .int i ∧ y = .int j ∧ RgOk i j ∧ ∀ p, g2 p = none → Q (.ref p) (gup g2 p (.lst (ran i (j - i).toNat)))) := ⟨s_lrg2⟩
end
end DL
namespace DL
open PySem PySem.Spec PyProof.Rows L2
inductive ChR where
  | new (n : Int) (id : D) | gone (n : Int)
@[reducible] def ChR.d : ChR → D
  | .new n id => .tup [.str "new", .int n, id]
  | .gone n => .tup [.str "gone", .int n]
def stepK (kvs : List (L2.Key × D)) : ChR → List (L2.Key × D)
  | .new n id => putD kvs (.inl n) id
  | .gone n => delD kvs (.inl n)
def kvsOf (cs : List ChR) : List (L2.Key × D) := cs.foldl stepK []
def stepN (ns : List Int) : ChR → List Int
  | .new n _ => if n ∈ ns then ns else ns ++ [n]
  | .gone n => ns.filter fun x => decide (x ≠ n)
def numsOf (cs : List ChR) : List Int := cs.foldl stepN []
abbrev Kyi (kvs : List (L2.Key × D)) (ns : List Int) : Prop := kvs.map (·.1) = ns.map Sum.inl
theorem inl_mem {ns : List Int} {z : Int} : (Sum.inl z : L2.Key) ∈ ns.map (Sum.inl : Int → L2.Key) ↔ z ∈ ns := by
  rw [List.mem_map]
  constructor
  · rintro ⟨x, hx, e⟩
    injection e with e
    rw [← e]; exact hx
  · intro h
    exact ⟨z, h, rfl⟩
theorem Kyi.step {kvs : List (L2.Key × D)} {ns : List Int} (h : Kyi kvs ns) (c : ChR) : Kyi (stepK kvs c) (stepN ns c) := by
  have h : kvs.map (·.1) = ns.map Sum.inl := h
  cases c with
  | new n id =>
    show (putD kvs (.inl n) id).map (·.1) = (if n ∈ ns then ns else ns ++ [n]).map Sum.inl
    by_cases hn : n ∈ ns
    · rw [if_pos hn, putD_old (by rw [h]; exact inl_mem.mpr hn), h]
    · rw [if_neg hn, putD_add (by rw [h]; exact fun e => hn (inl_mem.mp e)), h, List.map_append]
      rfl
  | gone n =>
    show (delD kvs (.inl n)).map (·.1) = (ns.filter fun x => decide (x ≠ n)).map Sum.inl
    unfold delD
    have e1 : (kvs.filter fun kv => decide (kv.1 ≠ (Sum.inl n : L2.Key))).map (·.1) = (kvs.map (·.1)).filter fun k => decide (k ≠ (Sum.inl n : L2.Key)) := by
      rw [List.filter_map]; rfl
    rw [e1, h, List.filter_map]
    congr 1
    apply List.filter_congr
    intro x _
    by_cases hx : x = n
    · subst hx; simp
    · have h2 : (Sum.inl x : L2.Key) ≠ Sum.inl n := fun e => hx (by injection e)
      simp [hx]
theorem kvs_nums (cs : List ChR) : Kyi (kvsOf cs) (numsOf cs) := by
  have : ∀ (cs : List ChR) (kvs : List (L2.Key × D)) (ns : List Int), Kyi kvs ns → Kyi (cs.foldl stepK kvs) (cs.foldl stepN ns) := fun cs => by
    induction cs with
    | nil => exact fun _ _ h => h
    | cons c cs ih => exact fun kvs ns h => ih _ _ (h.step c)
  exact this cs [] [] rfl
theorem kvsOf_snoc (cs : List ChR) (c : ChR) : kvsOf (cs ++ [c]) = stepK (kvsOf cs) c := by
  unfold kvsOf; rw [List.foldl_append]; rfl
def SFs (l n : Int) (k d : Addr) : List (Str × D) := [("limit", .int l), ("last_stamp", .int n), ("kept_changes", .ref k), ("id_by_number", .ref d)]
/-- a story at a that has heard cs -/
structure StAt (g : GS) (a k d : Addr) (l : Int) (cs : List ChR) : Prop where
  ins : g a = some (.ins "Story" (SFs l cs.length k d))
  kept : g k = some (.lst ((cs.drop (cs.length - l.toNat)).map ChR.d))
  ids : g d = some (.dct (kvsOf cs))
  l0 : 0 ≤ l
theorem StAt.up {g g' : GS} {a k d : Addr} {l : Int} {cs : List ChR} (h : StAt g a k d l cs) (U : Up [] g g') : StAt g' a k d l cs := ⟨U.get0 h.ins, U.get0 h.kept, U.get0 h.ids, h.l0⟩
theorem StAt.ne {g : GS} {a k d : Addr} {l : Int} {cs : List ChR} (h : StAt g a k d l cs) : a ≠ k ∧ a ≠ d ∧ k ≠ d := by
  have h1 := h.ins
  have h2 := h.kept
  have h3 := h.ids
  refine ⟨fun e => ?_, fun e => ?_, fun e => ?_⟩
  · rw [e, h2] at h1; cases h1
  · rw [e, h3] at h1; cases h1
  · rw [e, h3] at h2; cases h2
end DL
namespace DL
open PySem PySem.Spec PyProof.Rows L2
theorem mem_nums (cs : List ChR) (n : Int) : n ∈ numsOf cs ↔ (getD (kvsOf cs) (.inl n)).isSome = true := by
  rw [getD_some]
  have h : (kvsOf cs).map (·.1) = (numsOf cs).map Sum.inl := kvs_nums cs
  rw [h]
  exact inl_mem.symm
/-- the same table, perhaps in another order -/
def EqV (cs cs' : List ChR) : Prop := ∀ n : Int, getD (kvsOf cs) (.inl n) = getD (kvsOf cs') (.inl n)
theorem EqV.refl (cs : List ChR) : EqV cs cs := fun _ => rfl
theorem EqV.trans {a b c : List ChR} (h : EqV a b) (k : EqV b c) : EqV a c := fun n => (h n).trans (k n)
theorem EqV.mem {cs cs' : List ChR} (h : EqV cs cs') (n : Int) : n ∈ numsOf cs ↔ n ∈ numsOf cs' := by rw [mem_nums, mem_nums, h n]
theorem EqV.snoc {cs cs' : List ChR} (h : EqV cs cs') (c : ChR) : EqV (cs ++ [c]) (cs' ++ [c]) := fun n => by
  rw [kvsOf_snoc, kvsOf_snoc]
  cases c with
  | new m id =>
    show getD (putD _ _ _) _ = getD (putD _ _ _) _
    rw [getD_put, getD_put, h n]
  | gone m =>
    show getD (delD _ _) _ = getD (delD _ _) _
    rw [getD_del, getD_del, h n]
theorem EqV.app {cs cs' : List ChR} (h : EqV cs cs') (ch : List ChR) : EqV (cs ++ ch) (cs' ++ ch) := by
  induction ch generalizing cs cs' with
  | nil => rw [List.append_nil, List.append_nil]; exact h
  | cons c ch ih =>
    have := ih (h.snoc c)
    rwa [List.append_assoc, List.append_assoc] at this
def KFs (n : Int) (d : Addr) : List (Str × D) := [("stamp_heard", .int n), ("id_by_number", .ref d)]
/-- a desk at a, its table at d, that has heard the first changes cs -/
structure DeskAt (g : GS) (a d : Addr) (cs : List ChR) : Prop where
  ins : g a = some (.ins "Desk" (KFs cs.length d))
  ids : ∃ cs', g d = some (.dct (kvsOf cs')) ∧ EqV cs' cs ∧ cs'.length ≤ cs.length
theorem DeskAt.up {g g' : GS} {a d : Addr} {cs : List ChR} (h : DeskAt g a d cs) (U : Up [] g g') : DeskAt g' a d cs := by
  obtain ⟨h1, cs', h2, h3⟩ := h
  exact ⟨U.get0 h1, cs', U.get0 h2, h3⟩
theorem DeskAt.ne {g : GS} {a d : Addr} {cs : List ChR} (h : DeskAt g a d cs) : a ≠ d := fun e => by
  obtain ⟨h1, cs', h2, _⟩ := h
  rw [e, h2] at h1; cases h1
theorem ne_of {g : GS} {p q : Addr} {x y : MO} (h : g p = some x) (k : g q = some y) (n : x ≠ y) : p ≠ q := fun e => n (by rw [e, k] at h; injection h with h; exact h.symm)
end DL
namespace DL
open PySem PySem.Spec PyProof.Rows L2
open TL (tl)
section
variable {ds : List DL.D} {keep : GS → Prop} {tg : DTG} {tb : DTS} {D : DEnds} {e : EV} {g1 : GS}
theorem for1 (j1 : Nat) (R : Nat → Option DL.D → GS → Prop) (h0 : ∃ x1, e = List.set (e) j1 x1 ∧ R 0 x1 g1) (hk : ∀ i x1 g', i ≤ ds.length → R i x1 g' → keep g')
    (hs : ∀ i d x1 g', ds[i]? = some d → R i x1 g' → tg d (List.set (e) j1 x1) g' fun e2 g2 => tb { D with nx := fun e' g' => ∃ y1, e' = List.set (e) j1 y1 ∧ R (i + 1) y1 g', ct := fun e' g' => ∃ y1, e' = List.set (e) j1 y1 ∧ R (i + 1) y1 g', bk := D.nx } e2 g2) (hd : ∀ x1 g', R ds.length x1 g' → D.nx (List.set (e) j1 x1) g') :
    ∃ Iv : Nat → EV → GS → Prop, Iv 0 e g1 ∧ (∀ i e' g', i ≤ ds.length → Iv i e' g' → keep g') ∧ (∀ i d e' g', ds[i]? = some d → Iv i e' g' → tg d e' g' fun e2 g2 => tb { D with nx := Iv (i + 1), ct := Iv (i + 1), bk := D.nx } e2 g2) ∧ ∀ e' g', Iv ds.length e' g' → D.nx e' g' :=
  ⟨fun i e' g' => ∃ x1, e' = List.set (e) j1 x1 ∧ R i x1 g', h0, fun i e' g' hi ⟨x1, _, h⟩ => hk i x1 g' hi h, fun i d e' g' hd ⟨x1, he, h⟩ => by subst he; exact hs i d x1 g' hd h, fun e' g' ⟨x1, he, h⟩ => by subst he; exact hd x1 g' h⟩
theorem for2 (j1 j2 : Nat) (R : Nat → Option DL.D → Option DL.D → GS → Prop) (h0 : ∃ x1 x2, e = List.set (List.set (e) j1 x1) j2 x2 ∧ R 0 x1 x2 g1) (hk : ∀ i x1 x2 g', i ≤ ds.length → R i x1 x2 g' → keep g')
    (hs : ∀ i d x1 x2 g', ds[i]? = some d → R i x1 x2 g' → tg d (List.set (List.set (e) j1 x1) j2 x2) g' fun e2 g2 => tb { D with nx := fun e' g' => ∃ y1 y2, e' = List.set (List.set (e) j1 y1) j2 y2 ∧ R (i + 1) y1 y2 g', ct := fun e' g' => ∃ y1 y2, e' = List.set (List.set (e) j1 y1) j2 y2 ∧ R (i + 1) y1 y2 g', bk := D.nx } e2 g2) (hd : ∀ x1 x2 g', R ds.length x1 x2 g' → D.nx (List.set (List.set (e) j1 x1) j2 x2) g') :
    ∃ Iv : Nat → EV → GS → Prop, Iv 0 e g1 ∧ (∀ i e' g', i ≤ ds.length → Iv i e' g' → keep g') ∧ (∀ i d e' g', ds[i]? = some d → Iv i e' g' → tg d e' g' fun e2 g2 => tb { D with nx := Iv (i + 1), ct := Iv (i + 1), bk := D.nx } e2 g2) ∧ ∀ e' g', Iv ds.length e' g' → D.nx e' g' :=
  ⟨fun i e' g' => ∃ x1 x2, e' = List.set (List.set (e) j1 x1) j2 x2 ∧ R i x1 x2 g', h0, fun i e' g' hi ⟨x1, x2, _, h⟩ => hk i x1 x2 g' hi h, fun i d e' g' hd ⟨x1, x2, he, h⟩ => by subst he; exact hs i d x1 x2 g' hd h, fun e' g' ⟨x1, x2, he, h⟩ => by subst he; exact hd x1 x2 g' h⟩
theorem for3 (j1 j2 j3 : Nat) (R : Nat → Option DL.D → Option DL.D → Option DL.D → GS → Prop) (h0 : ∃ x1 x2 x3, e = List.set (List.set (List.set (e) j1 x1) j2 x2) j3 x3 ∧ R 0 x1 x2 x3 g1) (hk : ∀ i x1 x2 x3 g', i ≤ ds.length → R i x1 x2 x3 g' → keep g')
    (hs : ∀ i d x1 x2 x3 g', ds[i]? = some d → R i x1 x2 x3 g' → tg d (List.set (List.set (List.set (e) j1 x1) j2 x2) j3 x3) g' fun e2 g2 => tb { D with nx := fun e' g' => ∃ y1 y2 y3, e' = List.set (List.set (List.set (e) j1 y1) j2 y2) j3 y3 ∧ R (i + 1) y1 y2 y3 g', ct := fun e' g' => ∃ y1 y2 y3, e' = List.set (List.set (List.set (e) j1 y1) j2 y2) j3 y3 ∧ R (i + 1) y1 y2 y3 g', bk := D.nx } e2 g2) (hd : ∀ x1 x2 x3 g', R ds.length x1 x2 x3 g' → D.nx (List.set (List.set (List.set (e) j1 x1) j2 x2) j3 x3) g') :
    ∃ Iv : Nat → EV → GS → Prop, Iv 0 e g1 ∧ (∀ i e' g', i ≤ ds.length → Iv i e' g' → keep g') ∧ (∀ i d e' g', ds[i]? = some d → Iv i e' g' → tg d e' g' fun e2 g2 => tb { D with nx := Iv (i + 1), ct := Iv (i + 1), bk := D.nx } e2 g2) ∧ ∀ e' g', Iv ds.length e' g' → D.nx e' g' :=
  ⟨fun i e' g' => ∃ x1 x2 x3, e' = List.set (List.set (List.set (e) j1 x1) j2 x2) j3 x3 ∧ R i x1 x2 x3 g', h0, fun i e' g' hi ⟨x1, x2, x3, _, h⟩ => hk i x1 x2 x3 g' hi h, fun i d e' g' hd ⟨x1, x2, x3, he, h⟩ => by subst he; exact hs i d x1 x2 x3 g' hd h, fun e' g' ⟨x1, x2, x3, he, h⟩ => by subst he; exact hd x1 x2 x3 g' h⟩
theorem for4 (j1 j2 j3 j4 : Nat) (R : Nat → Option DL.D → Option DL.D → Option DL.D → Option DL.D → GS → Prop) (h0 : ∃ x1 x2 x3 x4, e = List.set (List.set (List.set (List.set (e) j1 x1) j2 x2) j3 x3) j4 x4 ∧ R 0 x1 x2 x3 x4 g1) (hk : ∀ i x1 x2 x3 x4 g', i ≤ ds.length → R i x1 x2 x3 x4 g' → keep g')
    (hs : ∀ i d x1 x2 x3 x4 g', ds[i]? = some d → R i x1 x2 x3 x4 g' → tg d (List.set (List.set (List.set (List.set (e) j1 x1) j2 x2) j3 x3) j4 x4) g' fun e2 g2 => tb { D with nx := fun e' g' => ∃ y1 y2 y3 y4, e' = List.set (List.set (List.set (List.set (e) j1 y1) j2 y2) j3 y3) j4 y4 ∧ R (i + 1) y1 y2 y3 y4 g', ct := fun e' g' => ∃ y1 y2 y3 y4, e' = List.set (List.set (List.set (List.set (e) j1 y1) j2 y2) j3 y3) j4 y4 ∧ R (i + 1) y1 y2 y3 y4 g', bk := D.nx } e2 g2) (hd : ∀ x1 x2 x3 x4 g', R ds.length x1 x2 x3 x4 g' → D.nx (List.set (List.set (List.set (List.set (e) j1 x1) j2 x2) j3 x3) j4 x4) g') :
    ∃ Iv : Nat → EV → GS → Prop, Iv 0 e g1 ∧ (∀ i e' g', i ≤ ds.length → Iv i e' g' → keep g') ∧ (∀ i d e' g', ds[i]? = some d → Iv i e' g' → tg d e' g' fun e2 g2 => tb { D with nx := Iv (i + 1), ct := Iv (i + 1), bk := D.nx } e2 g2) ∧ ∀ e' g', Iv ds.length e' g' → D.nx e' g' :=
  ⟨fun i e' g' => ∃ x1 x2 x3 x4, e' = List.set (List.set (List.set (List.set (e) j1 x1) j2 x2) j3 x3) j4 x4 ∧ R i x1 x2 x3 x4 g', h0, fun i e' g' hi ⟨x1, x2, x3, x4, _, h⟩ => hk i x1 x2 x3 x4 g' hi h, fun i d e' g' hd ⟨x1, x2, x3, x4, he, h⟩ => by subst he; exact hs i d x1 x2 x3 x4 g' hd h, fun e' g' ⟨x1, x2, x3, x4, he, h⟩ => by subst he; exact hd x1 x2 x3 x4 g' h⟩
theorem for5 (j1 j2 j3 j4 j5 : Nat) (R : Nat → Option DL.D → Option DL.D → Option DL.D → Option DL.D → Option DL.D → GS → Prop) (h0 : ∃ x1 x2 x3 x4 x5, e = List.set (List.set (List.set (List.set (List.set (e) j1 x1) j2 x2) j3 x3) j4 x4) j5 x5 ∧ R 0 x1 x2 x3 x4 x5 g1) (hk : ∀ i x1 x2 x3 x4 x5 g', i ≤ ds.length → R i x1 x2 x3 x4 x5 g' → keep g')
    (hs : ∀ i d x1 x2 x3 x4 x5 g', ds[i]? = some d → R i x1 x2 x3 x4 x5 g' → tg d (List.set (List.set (List.set (List.set (List.set (e) j1 x1) j2 x2) j3 x3) j4 x4) j5 x5) g' fun e2 g2 => tb { D with nx := fun e' g' => ∃ y1 y2 y3 y4 y5, e' = List.set (List.set (List.set (List.set (List.set (e) j1 y1) j2 y2) j3 y3) j4 y4) j5 y5 ∧ R (i + 1) y1 y2 y3 y4 y5 g', ct := fun e' g' => ∃ y1 y2 y3 y4 y5, e' = List.set (List.set (List.set (List.set (List.set (e) j1 y1) j2 y2) j3 y3) j4 y4) j5 y5 ∧ R (i + 1) y1 y2 y3 y4 y5 g', bk := D.nx } e2 g2) (hd : ∀ x1 x2 x3 x4 x5 g', R ds.length x1 x2 x3 x4 x5 g' → D.nx (List.set (List.set (List.set (List.set (List.set (e) j1 x1) j2 x2) j3 x3) j4 x4) j5 x5) g') :
    ∃ Iv : Nat → EV → GS → Prop, Iv 0 e g1 ∧ (∀ i e' g', i ≤ ds.length → Iv i e' g' → keep g') ∧ (∀ i d e' g', ds[i]? = some d → Iv i e' g' → tg d e' g' fun e2 g2 => tb { D with nx := Iv (i + 1), ct := Iv (i + 1), bk := D.nx } e2 g2) ∧ ∀ e' g', Iv ds.length e' g' → D.nx e' g' :=
  ⟨fun i e' g' => ∃ x1 x2 x3 x4 x5, e' = List.set (List.set (List.set (List.set (List.set (e) j1 x1) j2 x2) j3 x3) j4 x4) j5 x5 ∧ R i x1 x2 x3 x4 x5 g', h0, fun i e' g' hi ⟨x1, x2, x3, x4, x5, _, h⟩ => hk i x1 x2 x3 x4 x5 g' hi h, fun i d e' g' hd ⟨x1, x2, x3, x4, x5, he, h⟩ => by subst he; exact hs i d x1 x2 x3 x4 x5 g' hd h, fun e' g' ⟨x1, x2, x3, x4, x5, he, h⟩ => by subst he; exact hd x1 x2 x3 x4 x5 g' h⟩
end
end DL
namespace DL
open PySem PySem.Spec PyProof.Rows L2
open TL (tl)
abbrev kT (k : List Key) : D := .tup (k.map kD)
section
variable {X : Cx} {K : PySem.W.Frag} {H H' : Hp} {σ : L2.St}
variable {a b c e tg iter elt o i value f : Expr} {es rest : List Expr} {ta tb tc te td ty tv tx : DTE} {tA tB : DTT} {t : DTA} {pos pos' apos cpos : Pos}
theorem RepG.dtt {g : GS} (r : RepG K H g) {p : Addr} {kvs : List (List Key × D)} (h : g p = some (.dtt kvs)) : ∃ vs, H p = some (.dT vs) ∧ RepKV K H vs kvs := r p _ h
def dTNew : DTE := fun _ g Q => ∀ p, g p = none → Q (.ref p) (gup g p (.dtt []))
def dTGet (td ty : DTE) : DTE := fun e g Q => td e g fun x g1 => ty e g1 fun y g2 => ∃ p kvs k v, x = .ref p ∧ g2 p = some (.dtt kvs) ∧ y = kT k ∧ getD kvs k = some v ∧ Q v g2
def dTIn (ty td : DTE) : DTE := fun e g Q => ty e g fun y g1 => td e g1 fun x g2 => ∃ p kvs k, x = .ref p ∧ g2 p = some (.dtt kvs) ∧ y = kT k ∧ Q (.bl (getD kvs k).isSome) g2
def dTNotIn (ty td : DTE) : DTE := fun e g Q => ty e g fun y g1 => td e g1 fun x g2 => ∃ p kvs k, x = .ref p ∧ g2 p = some (.dtt kvs) ∧ y = kT k ∧ Q (.bl (!(getD kvs k).isSome)) g2
def dTPut (td ty tv : DTE) : DTS := fun D e g => tv e g fun v g1 => td e g1 fun x g2 => ty e g2 fun y g3 => ∃ p kvs k, x = .ref p ∧ g3 p = some (.dtt kvs) ∧ y = kT k ∧ kvs.length < sizeLine ∧ D.nx e (gup g3 p (.dtt (putD kvs k v)))
def dTGet1 (td ty : DTE) : DTE := fun e g Q => td e g fun x g1 => ∃ p, x = .ref p ∧ (∃ kvs, g1 p = some (.dtt kvs)) ∧ ty e g1 fun y g2 => ∃ kvs k, g2 p = some (.dtt kvs) ∧ y = kT k ∧ Q ((getD kvs k).getD .non) g2
def dTGet2 (td ty tx : DTE) : DTE := fun e g Q => td e g fun x g1 => ∃ p, x = .ref p ∧ (∃ kvs, g1 p = some (.dtt kvs)) ∧ ty e g1 fun y g2 => tx e g2 fun z g3 => ∃ kvs k, g3 p = some (.dtt kvs) ∧ y = kT k ∧ Q ((getD kvs k).getD z) g3
end
section
variable {X : Cx} {K : PySem.W.Frag} {H H' : Hp} {σ : L2.St}
variable {a b c e tg iter elt o i value f : Expr} {es rest : List Expr} {ta tb tc te td ty tv tx : DTE} {tA tB : DTT} {t : DTA} {T : DTS} {pos pos' apos cpos : Pos} {st : Stmt}
def Lk (K : PySem.W.Frag) (H : Hp) (p : Addr) (o o' : MO) (u : HO) : Prop := H p = some u ∧ Mut (some u) ∧ (∀ od (H' : Hp), H' p = some (.frz od u) → RepO K H' p o' → RepO K (L2.upd H' p u) p o) ∧ (∀ od xs, u ≠ .tup xs ∧ u ≠ .lst xs ∧ u ≠ .frz od (.lst xs)) ∧ ∀ od, RepO K (L2.upd H p (.frz od u)) p o'
section
variable {p : Addr} {o o' : MO} {u : HO} {od : Obj}
theorem Lk.ext (l : Lk K H p o o' u) (x : Ext (L2.upd H p (.frz od u)) H') : H' p = some (.frz od u) ∧ Ext H (L2.upd H' p u) ∧ Ext0 H' (L2.upd H' p u) := by
  have e1 := x.2 p od u upd_same
  refine ⟨e1, ⟨fun b xs e => ?_, fun b ob v e => ?_⟩, fun b xs e => ?_, fun b ob xs e => ?_⟩
  · have nb : b ≠ p := fun z => by rw [z, l.1] at e; cases e; exact (l.2.2.2.1 od xs).1 rfl
    rw [upd_ne nb]
    exact x.1 b xs (by rw [upd_ne nb]; exact e)
  · have nb : b ≠ p := fun z => by rw [z, l.1] at e; cases e; exact l.2.1
    rw [upd_ne nb]
    exact x.2 b ob v (by rw [upd_ne nb]; exact e)
  · have nb : b ≠ p := fun z => by rw [z, e1] at e; cases e
    rw [upd_ne nb]; exact e
  · have nb : b ≠ p := fun z => by
      rw [z, e1] at e
      have e : HO.frz od u = .frz ob (.lst xs) := Option.some.inj e
      injection e with _ e
      exact (l.2.2.2.1 od xs).2.1 e
    rw [upd_ne nb]; exact e
theorem Lk.back (l : Lk K H p o o' u) {g : GS} (x : Ext (L2.upd H p (.frz od u)) H') (rg : RepG K H' g) (hg : g p = some o') : RepG K (L2.upd H' p u) (gup g p o) :=
  rg.upd0 (l.ext x).2.2 (l.2.2.1 od H' (l.ext x).1 (rg p o' hg))
end
def iDk (ta : DTE) : DTI := fun e g R => ta e g fun x g1 => ∃ p, x = .ref p ∧ ((∃ kvs, g1 p = some (.dctf kvs) ∧ R (kvs.map fun kv => kD kv.1) (fun g => g p = some (.dctf kvs)) g1) ∨ ∃ kvs, g1 p = some (.dttf kvs) ∧ R (kvs.map fun kv => kT kv.1) (fun g => g p = some (.dttf kvs)) g1)
end
end DL
namespace DL
open PySem PySem.Spec PyProof.Rows PySem.W L2
open TL (tl)
end DL
namespace DL
open PySem PySem.Spec PyProof.Rows L2
open TL (tl)
open PySem.W (keyToks keyToksAll)
section
variable {D : DEnds} {e : EV} {g : GS} {Q : DK} {QB : Bool → GS → Prop} {td ty tv tx te : DTE} {T : DTS}
theorem s_tnew (h : ∀ p, g p = none → Q (.ref p) (gup g p (.dtt []))) : dTNew e g Q := h
instance w_s_tnew  : StW (dTNew e g Q) (∀ p, g p = none → Q (.ref p) (gup g p (.dtt []))) := ⟨s_tnew⟩
theorem s_tget (h : td e g fun x g1 => ty e g1 fun y g2 => ∃ p kvs k v, x = .ref p ∧ g2 p = some (.dtt kvs) ∧ y = kT k ∧ getD kvs k = some v ∧ Q v g2) : dTGet td ty e g Q := h
instance w_s_tget  : StW (dTGet td ty e g Q) (td e g fun x g1 => ty e g1 fun y g2 => ∃ p kvs k v, x = .ref p ∧ g2 p = some (.dtt kvs) ∧ y = kT k ∧ getD kvs k = some v ∧ Q v g2) := ⟨s_tget⟩
instance a_s_tget  : StF (dTGet td ty e g Q) (td e g fun x g1 => ty e g1 fun y g2 => ∃ p kvs k v, x = .ref p ∧ g2 p = some (.dtt kvs) ∧ y = kT k ∧ getD kvs k = some v ∧ Q v g2) := ⟨s_tget⟩
theorem s_tin (h : ty e g fun y g1 => td e g1 fun x g2 => ∃ p kvs k, x = .ref p ∧ g2 p = some (.dtt kvs) ∧ y = kT k ∧ Q (.bl (getD kvs k).isSome) g2) : dTIn ty td e g Q := h
instance w_s_tin  : StW (dTIn ty td e g Q) (ty e g fun y g1 => td e g1 fun x g2 => ∃ p kvs k, x = .ref p ∧ g2 p = some (.dtt kvs) ∧ y = kT k ∧ Q (.bl (getD kvs k).isSome) g2) := ⟨s_tin⟩
instance a_s_tin  : StF (dTIn ty td e g Q) (ty e g fun y g1 => td e g1 fun x g2 => ∃ p kvs k, x = .ref p ∧ g2 p = some (.dtt kvs) ∧ y = kT k ∧ Q (.bl (getD kvs k).isSome) g2) := ⟨s_tin⟩
theorem s_tnotin (h : ty e g fun y g1 => td e g1 fun x g2 => ∃ p kvs k, x = .ref p ∧ g2 p = some (.dtt kvs) ∧ y = kT k ∧ Q (.bl (!(getD kvs k).isSome)) g2) : dTNotIn ty td e g Q := h
instance w_s_tnotin  : StW (dTNotIn ty td e g Q) (ty e g fun y g1 => td e g1 fun x g2 => ∃ p kvs k, x = .ref p ∧ g2 p = some (.dtt kvs) ∧ y = kT k ∧ Q (.bl (!(getD kvs k).isSome)) g2) := ⟨s_tnotin⟩
instance a_s_tnotin  : StF (dTNotIn ty td e g Q) (ty e g fun y g1 => td e g1 fun x g2 => ∃ p kvs k, x = .ref p ∧ g2 p = some (.dtt kvs) ∧ y = kT k ∧ Q (.bl (!(getD kvs k).isSome)) g2) := ⟨s_tnotin⟩
theorem s_tput (h : tv e g fun v g1 => td e g1 fun x g2 => ty e g2 fun y g3 => ∃ p kvs k, x = .ref p ∧ g3 p = some (.dtt kvs) ∧ y = kT k ∧ kvs.length < sizeLine ∧ D.nx e (gup g3 p (.dtt (putD kvs k v)))) : dTPut td ty tv D e g := h
instance w_s_tput  : StW (dTPut td ty tv D e g) (tv e g fun v g1 => td e g1 fun x g2 => ty e g2 fun y g3 => ∃ p kvs k, x = .ref p ∧ g3 p = some (.dtt kvs) ∧ y = kT k ∧ kvs.length < sizeLine ∧ D.nx e (gup g3 p (.dtt (putD kvs k v)))) := ⟨s_tput⟩
instance a_s_tput  : StF (dTPut td ty tv D e g) (tv e g fun v g1 => td e g1 fun x g2 => ty e g2 fun y g3 => ∃ p kvs k, x = .ref p ∧ g3 p = some (.dtt kvs) ∧ y = kT k ∧ kvs.length < sizeLine ∧ D.nx e (gup g3 p (.dtt (putD kvs k v)))) := ⟨s_tput⟩
theorem s_tget1 (h : td e g fun x g1 => ∃ p, x = .ref p ∧ (∃ kvs, g1 p = some (.dtt kvs)) ∧ ty e g1 fun y g2 => ∃ kvs k, g2 p = some (.dtt kvs) ∧ y = kT k ∧ Q ((getD kvs k).getD .non) g2) : dTGet1 td ty e g Q := h
instance w_s_tget1  : StW (dTGet1 td ty e g Q) (td e g fun x g1 => ∃ p, x = .ref p ∧ (∃ kvs, g1 p = some (.dtt kvs)) ∧ ty e g1 fun y g2 => ∃ kvs k, g2 p = some (.dtt kvs) ∧ y = kT k ∧ Q ((getD kvs k).getD .non) g2) := ⟨s_tget1⟩
instance a_s_tget1  : StF (dTGet1 td ty e g Q) (td e g fun x g1 => ∃ p, x = .ref p ∧ (∃ kvs, g1 p = some (.dtt kvs)) ∧ ty e g1 fun y g2 => ∃ kvs k, g2 p = some (.dtt kvs) ∧ y = kT k ∧ Q ((getD kvs k).getD .non) g2) := ⟨s_tget1⟩
theorem s_tget2 (h : td e g fun x g1 => ∃ p, x = .ref p ∧ (∃ kvs, g1 p = some (.dtt kvs)) ∧ ty e g1 fun y g2 => tx e g2 fun z g3 => ∃ kvs k, g3 p = some (.dtt kvs) ∧ y = kT k ∧ Q ((getD kvs k).getD z) g3) : dTGet2 td ty tx e g Q := h
instance w_s_tget2  : StW (dTGet2 td ty tx e g Q) (td e g fun x g1 => ∃ p, x = .ref p ∧ (∃ kvs, g1 p = some (.dtt kvs)) ∧ ty e g1 fun y g2 => tx e g2 fun z g3 => ∃ kvs k, g3 p = some (.dtt kvs) ∧ y = kT k ∧ Q ((getD kvs k).getD z) g3) := ⟨s_tget2⟩
instance a_s_tget2  : StF (dTGet2 td ty tx e g Q) (td e g fun x g1 => ∃ p, x = .ref p ∧ (∃ kvs, g1 p = some (.dtt kvs)) ∧ ty e g1 fun y g2 => tx e g2 fun z g3 => ∃ kvs k, g3 p = some (.dtt kvs) ∧ y = kT k ∧ Q ((getD kvs k).getD z) g3) := ⟨s_tget2⟩
theorem s_iDk {R : List DL.D → (GS → Prop) → GS → Prop} {ta : DTE} (h : ta e g fun x g1 => ∃ p, x = .ref p ∧ ((∃ kvs, g1 p = some (.dctf kvs) ∧ R (kvs.map fun kv => kD kv.1) (fun g => g p = some (.dctf kvs)) g1) ∨ ∃ kvs, g1 p = some (.dttf kvs) ∧ R (kvs.map fun kv => kT kv.1) (fun g => g p = some (.dttf kvs)) g1)) : iDk ta e g R := h
instance w_s_iDk {R : List DL.D → (GS → Prop) → GS → Prop} {ta : DTE} : StW (iDk ta e g R) (ta e g fun x g1 => ∃ p, x = .ref p ∧ ((∃ kvs, g1 p = some (.dctf kvs) ∧ R (kvs.map fun kv => kD kv.1) (fun g => g p = some (.dctf kvs)) g1) ∨ ∃ kvs, g1 p = some (.dttf kvs) ∧ R (kvs.map fun kv => kT kv.1) (fun g => g p = some (.dttf kvs)) g1)) := ⟨s_iDk⟩
instance a_s_iDk {R : List DL.D → (GS → Prop) → GS → Prop} {ta : DTE} : StF (iDk ta e g R) (ta e g fun x g1 => ∃ p, x = .ref p ∧ ((∃ kvs, g1 p = some (.dctf kvs) ∧ R (kvs.map fun kv => kD kv.1) (fun g => g p = some (.dctf kvs)) g1) ∨ ∃ kvs, g1 p = some (.dttf kvs) ∧ R (kvs.map fun kv => kT kv.1) (fun g => g p = some (.dttf kvs)) g1)) := ⟨s_iDk⟩
end
theorem two {A B C : Prop} (main : A → B → C) (y : A) (n : B) : C := main y n
end DL
namespace DL
open PySem PySem.Spec PyProof.Rows L2
open TL (tl)
end DL
namespace DL
open PySem PySem.Spec PyProof.Rows L2
open TL (tl)
theorem v_notN {g : GS} {Q : DK} (h : Q (.bl false) g) : notND .non .non g Q := ⟨rfl, h⟩
instance w_v_notN {g : GS} {Q : DK} : StW (notND .non .non g Q) (Q (.bl false) g) := ⟨v_notN⟩
instance a_v_notN {g : GS} {Q : DK} : StF (notND .non .non g Q) (Q (.bl false) g) := ⟨v_notN⟩
end DL
namespace DL
open PySem PySem.Spec PyProof.Rows L2
section
variable {T U : DTS} {D : DEnds} {e : EV} {g : GS}
theorem cut0 (P : GS → Prop) (h : T { D with nx := fun e' g' => e' = e ∧ P g' } e g) (k : ∀ g', P g' → U D e g') : dSeq T U D e g := s_cut (fun e' g' => e' = e ∧ P g') h fun e' g' ⟨h1, h2⟩ => by subst h1; exact k g' h2
theorem cut1 (j1 : Nat) (P : Option DL.D → GS → Prop) (h : T { D with nx := fun e' g' => ∃ x1, e' = List.set (e) j1 x1 ∧ P x1 g' } e g) (k : ∀ x1 g', P x1 g' → U D (List.set (e) j1 x1) g') : dSeq T U D e g := s_cut (fun e' g' => ∃ x1, e' = List.set (e) j1 x1 ∧ P x1 g') h fun e' g' ⟨x1, h1, h2⟩ => by subst h1; exact k x1 g' h2
end
end DL
namespace DL
open PySem PySem.Spec PyProof.Rows L2
inductive FK where
  | pu
  | go (s : SI) (m : Nat)
def FB : FK → GS → GS → Prop
  | .pu, g0, g => Up [] g0 g
  | .go s m, g0, g => (∃ m0, Src s g0 m0) ∧ Go s g0 g m
def FK.off : FK → Addr → Prop
  | .pu, _ => True
  | .go s _, p => p ≠ s.L
abbrev FL := List (Addr × MO × Bool)
def FE (k : FK) (g0 g : GS) (q : Addr × MO × Bool) : Prop := g q.1 = some q.2.1 ∧ k.off q.1 ∧ (q.2.2 = true ↔ g0 q.1 = none)
def Fr (k : FK) (g0 g : GS) (l : FL) : Prop := FB k g0 g ∧ (∀ q ∈ l, FE k g0 g q) ∧ l.Pairwise fun a b => a.2.2 = true → a.1 ≠ b.1
section
variable {k : FK} {g0 g g' : GS} {l : FL} {s : SI} {m m' : Nat} {p : Addr} {o o' : MO} {b : Bool}
theorem FB.fresh (h : FB k g0 g) (f : g p = none) : g0 p = none := by
  cases k with
  | pu => exact Up.fresh h f
  | go s m => exact h.2.1.fresh f
theorem FB.new (h : FB k g0 g) (f : g p = none) : FB k g0 (gup g p o) := by
  cases k with
  | pu => exact Up.trans h (.new f)
  | go s m => exact ⟨h.1, h.2.new f⟩
theorem FB.mut (h : FB k g0 g) (f : g0 p = none) : FB k g0 (gup g p o) := by
  cases k with
  | pu => exact Up.mut h f
  | go s m => obtain ⟨⟨m0, h0⟩, h⟩ := h; exact ⟨⟨m0, h0⟩, h.mut f h0⟩
theorem FB.offn (h : FB k g0 g) (f : g p = none) : k.off p := by
  cases k with
  | pu => trivial
  | go s m => exact h.2.2.neL f
theorem FB.off0 (h : FB k g0 g) (f : g0 p = none) : k.off p := by
  cases k with
  | pu => trivial
  | go s m => obtain ⟨⟨m0, h0⟩, h⟩ := h; exact h0.neL f
theorem Fr.at (F : Fr k g0 g l) (i : Nat) (e : l[i]? = some (p, o, b)) : g p = some o := (F.2.1 _ (List.mem_of_getElem? e)).1
theorem Fr.off (F : Fr k g0 g l) (i : Nat) (e : l[i]? = some (p, o, b)) : k.off p := (F.2.1 _ (List.mem_of_getElem? e)).2.1
theorem Fr.neL (F : Fr (.go s m) g0 g l) (i : Nat) (e : l[i]? = some (p, o, b)) : p ≠ s.L := (F.2.1 _ (List.mem_of_getElem? e)).2.1
theorem Fr.new (F : Fr k g0 g l) (o : MO) (h : g p = none) : Fr k g0 (gup g p o) ((p, o, true) :: l) := by
  have f0 := F.1.fresh h
  refine ⟨F.1.new h, fun q hq => ?_, List.pairwise_cons.mpr ⟨fun q hq _ => ne_fresh h (F.2.1 q hq).1, F.2.2⟩⟩
  rcases List.mem_cons.mp hq with rfl | hq
  · exact ⟨gup_same, F.1.offn h, fun _ => f0, fun _ => rfl⟩
  · have z := F.2.1 q hq
    exact ⟨by rw [gup_ne (Ne.symm (ne_fresh h z.1))]; exact z.1, z.2⟩
theorem Fr.mut (F : Fr k g0 g l) (i : Nat) (o' : MO) (e : l[i]? = some (p, o, true)) : Fr k g0 (gup g p o') (l.set i (p, o', true)) := by
  have hi : i < l.length := (List.getElem?_eq_some_iff.mp e).1
  have ei : l[i] = (p, o, true) := (List.getElem?_eq_some_iff.mp e).2
  have z := F.2.1 _ (List.mem_of_getElem? e)
  have f0 : g0 p = none := z.2.2.mp rfl
  have ne : ∀ j, j < l.length → j ≠ i → ∀ q, l[j]? = some q → q.1 ≠ p := fun j hj hji q hq => by
    have eq : l[j] = q := (List.getElem?_eq_some_iff.mp hq).2
    have pw := List.pairwise_iff_getElem.mp F.2.2
    by_cases h : j < i
    · intro hz
      have zq := F.2.1 q (List.mem_of_getElem? hq)
      have : q.2.2 = true := zq.2.2.mpr (by rw [hz]; exact f0)
      have := pw j i hj hi h (by rw [eq]; exact this)
      rw [eq, ei] at this
      exact this hz
    · intro hz
      have := pw i j hi hj (by omega) (by rw [ei])
      rw [eq, ei] at this
      exact this hz.symm
  refine ⟨F.1.mut f0, fun q hq => ?_, ?_⟩
  · obtain ⟨j, hj, eq⟩ := List.mem_iff_getElem.mp hq
    rw [List.length_set] at hj
    by_cases hji : j = i
    · subst hji
      rw [List.getElem_set_self] at eq
      subst eq
      exact ⟨gup_same, z.2.1, fun _ => f0, fun _ => rfl⟩
    · rw [List.getElem_set_ne (Ne.symm hji)] at eq
      have hq' : l[j]? = some q := by rw [← eq]; exact List.getElem?_eq_getElem hj
      have zq := F.2.1 q (List.mem_of_getElem? hq')
      exact ⟨by rw [gup_ne (ne j hj hji q hq')]; exact zq.1, zq.2⟩
  · refine List.pairwise_iff_getElem.mpr fun a c ha' hc' hac => ?_
    have ha := ha'
    have hc := hc'
    rw [List.length_set] at ha hc
    have pw := List.pairwise_iff_getElem.mp F.2.2 a c ha hc hac
    by_cases h1 : a = i
    · subst h1
      rw [List.getElem_set_self, List.getElem_set_ne (by omega)]
      intro _
      exact Ne.symm (ne c hc (by omega) _ (List.getElem?_eq_getElem hc))
    · by_cases h2 : c = i
      · subst h2
        rw [List.getElem_set_self, List.getElem_set_ne (by omega)]
        intro _
        exact ne a ha (by omega) _ (List.getElem?_eq_getElem ha)
      · rw [List.getElem_set_ne (Ne.symm h1), List.getElem_set_ne (Ne.symm h2)]
        exact pw
theorem Fr.call (F : Fr (.go s m) g0 g l) (G : Go s g g' m') : Fr (.go s m') g0 g' l :=
  ⟨⟨F.1.1, F.1.2.trans G⟩, fun q hq => have z := F.2.1 q hq; ⟨G.get z.2.1 z.1, z.2⟩, F.2.2⟩
theorem Fr.up (F : Fr k g0 g l) (u : Up [] g g') : Fr k g0 g' l := by
  refine ⟨?_, fun q hq => have z := F.2.1 q hq; ⟨u.get0 z.1, z.2⟩, F.2.2⟩
  cases k with
  | pu => exact Up.trans F.1 u
  | go s m => exact ⟨F.1.1, F.1.2.up u⟩
theorem Fr.src (F : Fr (.go s m) g0 g l) : Src s g m := F.1.2.2
theorem Fr.gov (F : Fr (.go s m) g0 g l) (h : m ≤ m') : Go s g0 g m' := F.1.2.le h
theorem Fr.upv (F : Fr .pu g0 g l) : Up [] g0 g := F.1
theorem Fr.le (F : Fr (.go s m) g0 g l) (h : m ≤ m') : Fr (.go s m') g0 g l := ⟨⟨F.1.1, F.1.2.le h⟩, F.2⟩
theorem Fr.startG (h : Src s g m) : Fr (.go s m) g g [] := ⟨⟨⟨m, h⟩, .start h⟩, fun _ z => (nomatch z), List.Pairwise.nil⟩
theorem Fr.startP : Fr .pu g g [] := ⟨.refl, fun _ z => (nomatch z), List.Pairwise.nil⟩
/-- an object that stood before -/
theorem Fr.argG (F : Fr (.go s m) g g l) (h : g p = some o) (n : p ≠ s.L) (hl : l.all (fun q => !q.2.2) = true := by rfl) : Fr (.go s m) g g ((p, o, false) :: l) := by
  refine ⟨F.1, fun q hq => ?_, List.pairwise_cons.mpr ⟨fun q hq z => (by cases z), F.2.2⟩⟩
  rcases List.mem_cons.mp hq with rfl | hq
  · exact ⟨h, n, fun z => (by cases z), fun z => by rw [h] at z; cases z⟩
  · exact F.2.1 q hq
theorem Fr.argP (F : Fr .pu g g l) (h : g p = some o) : Fr .pu g g ((p, o, false) :: l) := by
  refine ⟨F.1, fun q hq => ?_, List.pairwise_cons.mpr ⟨fun q hq z => (by cases z), F.2.2⟩⟩
  rcases List.mem_cons.mp hq with rfl | hq
  · exact ⟨h, trivial, fun z => (by cases z), fun z => by rw [h] at z; cases z⟩
  · exact F.2.1 q hq
/-- an object made by a call -/
theorem Fr.ret (F : Fr k g0 g l) (h : g p = none) (F' : Fr k g0 g' l) (h' : g' p = some o) : Fr k g0 g' ((p, o, true) :: l) := by
  have f0 := F.1.fresh h
  refine ⟨F'.1, fun q hq => ?_, List.pairwise_cons.mpr ⟨fun q hq _ => ne_fresh h (F.2.1 q hq).1, F'.2.2⟩⟩
  rcases List.mem_cons.mp hq with rfl | hq
  · exact ⟨h', F.1.off0 f0, fun _ => f0, fun _ => rfl⟩
  · exact F'.2.1 q hq
theorem Fr.retG {m2 : Nat} (F : Fr (.go s m) g0 g l) (h : g p = none) (G : Go s g g' m2) (h' : g' p = some o) : Fr (.go s m2) g0 g' ((p, o, true) :: l) := by
  have F' := F.call G
  have f0 := F.1.fresh h
  refine ⟨F'.1, fun q hq => ?_, List.pairwise_cons.mpr ⟨fun q hq _ => ne_fresh h (F.2.1 q hq).1, F'.2.2⟩⟩
  rcases List.mem_cons.mp hq with rfl | hq
  · exact ⟨h', F.1.off0 f0, fun _ => f0, fun _ => rfl⟩
  · exact F'.2.1 q hq
theorem Fr.fresh (F : Fr k g0 g l) (i : Nat) (e : l[i]? = some (p, o, true)) : g0 p = none := (F.2.1 _ (List.mem_of_getElem? e)).2.2.mp rfl
theorem Fr.drop (F : Fr k g0 g l) (n : Nat) : Fr k g0 g (l.drop n) := ⟨F.1, fun q hq => F.2.1 q (List.mem_of_mem_drop hq), F.2.2.sublist (List.drop_sublist ..)⟩
theorem Fr.sub {l' : FL} (F : Fr k g0 g l) (h : l'.Sublist l) : Fr k g0 g l' := ⟨F.1, fun q hq => F.2.1 q (h.subset hq), F.2.2.sublist h⟩
theorem Fr.nil (F : Fr k g0 g l) : Fr k g0 g [] := ⟨F.1, fun _ z => (nomatch z), List.Pairwise.nil⟩
/-- told from here -/
def unown (l : FL) : FL := l.map fun q => (q.1, q.2.1, false)
theorem Fr.hereP (F : Fr k g0 g l) : Fr .pu g g (unown l) := by
  refine ⟨.refl, fun q hq => ?_, ?_⟩
  · obtain ⟨x, hx, rfl⟩ := List.mem_map.mp hq
    have z := F.2.1 x hx
    exact ⟨z.1, trivial, fun z => (by cases z), fun w => by rw [z.1] at w; cases w⟩
  · refine List.pairwise_map.mpr (List.pairwise_of_forall fun a b z => ?_)
    cases z
end
def sOnly : List D → Bool
  | [] => true
  | .str _ :: r => sOnly r
  | _ => false
def mxl : List D → Nat
  | [] => 0
  | .str z :: r => max (TL.tl z).length (mxl r)
  | _ :: r => mxl r
theorem mxl_mem : ∀ {xs : List D} {d : D}, sOnly xs = true → d ∈ xs → ∃ l : List Nat, d = .str (mk l) ∧ l.length ≤ mxl xs
  | [], d, _, h => nomatch h
  | .str z :: r, d, h1, h => by
    rcases List.mem_cons.mp h with rfl | h
    · exact ⟨TL.tl z, by rw [mk_tl], by unfold mxl; omega⟩
    · obtain ⟨l, e, hl⟩ := mxl_mem (xs := r) h1 h
      exact ⟨l, e, by unfold mxl; omega⟩
theorem mxl_nil : mxl [] = 0 := rfl
theorem mxl_mk (l : List Nat) (r : List D) : mxl (.str (mk l) :: r) = max l.length (mxl r) := rfl
def iOnly : List D → Bool
  | [] => true
  | .int _ :: r => iOnly r
  | _ => false
def mxi : List D → Int
  | [] => -1000000
  | [.int i] => i
  | .int i :: r => max i (mxi r)
  | _ :: r => mxi r
def mni : List D → Int
  | [] => 1000000
  | [.int i] => i
  | .int i :: r => min i (mni r)
  | _ :: r => mni r
theorem mxi_mem : ∀ {xs : List D} {d : D}, iOnly xs = true → d ∈ xs → ∃ i : Int, d = .int i ∧ i ≤ mxi xs ∧ mni xs ≤ i
  | [], d, _, h => nomatch h
  | [.int i], d, h1, h => by
    rcases List.mem_cons.mp h with rfl | h
    · exact ⟨i, rfl, Int.le_refl _, Int.le_refl _⟩
    · exact nomatch h
  | .int i :: y :: r, d, h1, h => by
    have e1 : mxi (.int i :: y :: r) = max i (mxi (y :: r)) := rfl
    have e2 : mni (.int i :: y :: r) = min i (mni (y :: r)) := rfl
    rcases List.mem_cons.mp h with rfl | h
    · exact ⟨i, rfl, by omega, by omega⟩
    · obtain ⟨j, e, hl, hl2⟩ := mxi_mem (xs := y :: r) h1 h
      exact ⟨j, e, by omega, by omega⟩
/-- an object laid -/
def FA (g : GS) (o : MO) (R : Addr → GS → Prop) : Prop := ∀ p, g p = none → R p (gup g p o)
section
variable {e : EV} {g : GS} {Q : DK} {QA : List DL.D → GS → Prop} {D : DEnds} {d y : DL.D} {k : FK} {g0 : GS} {l : FL} {s : SI} {m : Nat} {p q : Addr} {o : MO} {b b' : Bool} {ds xs ys : List DL.D}
theorem k_FA {R : Addr → GS → Prop} (F : Fr k g0 g l) (h : ∀ p g', Fr k g0 g' ((p, o, true) :: l) → R p g') : FA g o R := fun p hp => h p _ (F.new _ hp)
theorem f_lst {t : DTA} (h : t e g fun xs g1 => xs.length ≤ sizeLine ∧ FA g1 (.lst xs) fun p g' => Q (.ref p) g') : dLst t e g Q := h
instance a_f_lst {t : DTA} : StF (dLst t e g Q) (t e g fun xs g1 => xs.length ≤ sizeLine ∧ FA g1 (.lst xs) fun p g' => Q (.ref p) g') := ⟨f_lst⟩
theorem f_dnew (h : FA g (.dct []) fun p g' => Q (.ref p) g') : dDNew e g Q := h
instance a_f_dnew  : StF (dDNew e g Q) (FA g (.dct []) fun p g' => Q (.ref p) g') := ⟨f_dnew⟩
theorem f_tnew (h : FA g (.dtt []) fun p g' => Q (.ref p) g') : dTNew e g Q := h
instance a_f_tnew  : StF (dTNew e g Q) (FA g (.dtt []) fun p g' => Q (.ref p) g') := ⟨f_tnew⟩
theorem k_app (F : Fr k g0 g l) (n : Nat) (e : l[n]? = some (p, .lst ds, true)) (hz : ds.length < 16777216) (h : ∀ g', Fr k g0 g' (l.set n (p, .lst (ds ++ [y]), true)) → Q .non g') : appD (.ref p) [y] g Q :=
  v_app' (F.at n e) (by rw [szl]; exact hz) (h _ (F.mut n _ e))
theorem k_set {i : Int} {j : Nat} {v : DL.D} {R : GS → Prop} (F : Fr k g0 g l) (n : Nat) (e : l[n]? = some (p, .lst ds, true)) (hj : ixN ds.length i = some j) (h : ∀ g', Fr k g0 g' (l.set n (p, .lst (ds.set j v), true)) → R g') : setD (.ref p) (.int i) v g R :=
  v_set (F.at n e) hj (h _ (F.mut n _ e))
theorem k_popAt {i : Int} (F : Fr k g0 g l) (n : Nat) (e : l[n]? = some (p, .lst ds, true)) (h0 : 0 ≤ i) (hn : ds.length ≤ 16777216) (hy : ds[i.toNat]? = some y) (h : ∀ g', Fr k g0 g' (l.set n (p, .lst (ds.eraseIdx i.toNat), true)) → Q y g') : popD (.ref p) [.int i] g Q :=
  v_popAt (F.at n e) h0 hn hy (h _ (F.mut n _ e))
theorem k_slToL {i : Int} (F : Fr k g0 g l) (n : Nat) (e : l[n]? = some (p, .lst xs, b)) (h0 : 0 ≤ i) (h : ∀ r g', Fr k g0 g' ((r, .lst (xs.take i.toNat), true) :: l) → Q (.ref r) g') : slD (.ref p) none (some i) g Q := v_slToL (F.at n e) h0 fun r hr => h r _ (F.new _ hr)
theorem k_lstT (F : Fr k g0 g l) (h : ∀ r g', Fr k g0 g' ((r, .lst xs, true) :: l) → Q (.ref r) g') : lstF [.tup xs] g Q := v_lstT fun r hr => h r _ (F.new _ hr)
theorem k_addL (F : Fr k g0 g l) (n n' : Nat) (e : l[n]? = some (p, .lst xs, b)) (e' : l[n']? = some (q, .lst ys, b')) (hz : xs.length + ys.length ≤ 16777216) (h : ∀ r g', Fr k g0 g' ((r, .lst (xs ++ ys), true) :: l) → Q (.ref r) g') : addD (.ref p) (.ref q) g Q :=
  v_addL (F.at n e) (F.at n' e') (by rw [szl]; exact hz) fun r hr => h r _ (F.new _ hr)
theorem k_rep {i : Int} (F : Fr k g0 g l) (n : Nat) (e : l[n]? = some (p, .lst xs, b)) (h0 : 0 ≤ i) (hz : xs.length * i.toNat ≤ 16777216) (h1 : i ≤ 16777216) (h : ∀ r g', Fr k g0 g' ((r, .lst (List.replicate i.toNat xs).flatten, true) :: l) → Q (.ref r) g') : mulD (.ref p) (.int i) g Q :=
  v_rep (F.at n e) h0 hz h1 fun r hr => h r _ (F.new _ hr)
theorem k_split {a c : Str} (F : Fr k g0 g l) (hb : (c.length == 0) = false) (ha : a.length ≤ 16777214) (h : ∀ r g', Fr k g0 g' ((r, .lst ((Txt.split a c).map DL.D.str), true) :: l) → Q (.ref r) g') : splitD (.str a) [.str c] g Q := v_split hb ha fun r hr => h r _ (F.new _ hr)
theorem k_ixM {i : Int} {l : List Nat} (hz : l.length ≤ 16777216) (h0 : 0 ≤ i) (h1 : i < l.length) (h : ∀ c, c ∈ l → Q (.str (mk [c])) g) : ixD (.str (mk l)) (.int i) g Q := by
  obtain ⟨c, hc, hat⟩ := atI_ex h0 h1
  exact v_ixM hz hat (h c hc)
theorem k_ixAL {i : Int} (F : Fr k g0 g l) (n : Nat) (e : l[n]? = some (p, .lst ds, b)) (h0 : 0 ≤ i) (h1 : i < ds.length) (h : ∀ d, d ∈ ds → Q d g) : ixD (.ref p) (.int i) g Q := by
  obtain ⟨c, hc, hat⟩ := atI_ex h0 h1
  exact v_ixL (F.at n e) hat (h c hc)
theorem k_ixASL {i : Int} (F : Fr k g0 g l) (n : Nat) (e : l[n]? = some (p, .lst ds, b)) (hs : sOnly ds = true) (h0 : 0 ≤ i) (h1 : i < ds.length) (h : ∀ r : List Nat, r.length ≤ mxl ds → Q (.str (mk r)) g) : ixD (.ref p) (.int i) g Q :=
  k_ixAL F n e h0 h1 fun d hd => by obtain ⟨r, rfl, hr⟩ := mxl_mem hs hd; exact h r hr
theorem k_ixAIL {i : Int} (F : Fr k g0 g l) (n : Nat) (e : l[n]? = some (p, .lst ds, b)) (hs : iOnly ds = true) (h0 : 0 ≤ i) (h1 : i < ds.length) (h : ∀ v : Int, v ≤ mxi ds → mni ds ≤ v → Q (.int v) g) : ixD (.ref p) (.int i) g Q :=
  k_ixAL F n e h0 h1 fun d hd => by obtain ⟨r, rfl, hr, hr2⟩ := mxi_mem hs hd; exact h r hr hr2
theorem k_min2 {i j : Int} (h : Q (.int (min i j)) g) : min2D [.int i, .int j] g Q := v_min2 (by
  have : (if j < i then j else i) = min i j := by split <;> omega
  rw [this]; exact h)
instance a_k_min2 {i j : Int} : StF (min2D [.int i, .int j] g Q) (Q (.int (min i j)) g) := ⟨k_min2⟩
theorem k_max2 {i j : Int} (h : Q (.int (max i j)) g) : max2D [.int i, .int j] g Q := v_max2 (by
  have : (if j > i then j else i) = max i j := by split <;> omega
  rw [this]; exact h)
instance a_k_max2 {i j : Int} : StF (max2D [.int i, .int j] g Q) (Q (.int (max i j)) g) := ⟨k_max2⟩
theorem k_mul1 {c : Nat} {n : Int} (h1 : 0 ≤ n) (h2 : n ≤ 100000) (h : Q (.str (mk (List.replicate n.toNat c))) g) : mulD (.str (mk [c])) (.int n) g Q := v_mulM h1 h2 (by simp; omega) (by
  have : (List.replicate n.toNat [c]).flatten = List.replicate n.toNat c := by simp
  rw [this]; exact h)
theorem k_mulS {l : List Nat} {n : Int} (h1 : 0 ≤ n) (h2 : n ≤ 100000) (B : Nat) (hl : l.length ≤ B) (hB : B * n.toNat ≤ 16777216) (h : ∀ r : List Nat, r.length ≤ B * n.toNat → (∀ c ∈ r, c ∈ l) → Q (.str (mk r)) g) : mulD (.str (mk l)) (.int n) g Q := by
  have : l.length * n.toNat ≤ B * n.toNat := Nat.mul_le_mul_right _ hl
  exact v_mulX h1 h2 (by omega) fun r hr hc => h r (by omega) hc
theorem k_isI {z : Int} (h : Q (.bl false) g) : isND (.int z) .non g Q := ⟨rfl, h⟩
instance a_k_isI {z : Int} : StF (isND (.int z) .non g Q) (Q (.bl false) g) := ⟨k_isI⟩
theorem k_notI {z : Int} (h : Q (.bl true) g) : notND (.int z) .non g Q := ⟨rfl, h⟩
instance a_k_notI {z : Int} : StF (notND (.int z) .non g Q) (Q (.bl true) g) := ⟨k_notI⟩
theorem k_isS {z : Str} (h : Q (.bl false) g) : isND (.str z) .non g Q := ⟨rfl, h⟩
instance a_k_isS {z : Str} : StF (isND (.str z) .non g Q) (Q (.bl false) g) := ⟨k_isS⟩
theorem k_notS {z : Str} (h : Q (.bl true) g) : notND (.str z) .non g Q := ⟨rfl, h⟩
instance a_k_notS {z : Str} : StF (notND (.str z) .non g Q) (Q (.bl true) g) := ⟨k_notS⟩
theorem k_isT {z : List DL.D} (h : Q (.bl false) g) : isND (.tup z) .non g Q := ⟨rfl, h⟩
instance a_k_isT {z : List DL.D} : StF (isND (.tup z) .non g Q) (Q (.bl false) g) := ⟨k_isT⟩
theorem k_notT {z : List DL.D} (h : Q (.bl true) g) : notND (.tup z) .non g Q := ⟨rfl, h⟩
instance a_k_notT {z : List DL.D} : StF (notND (.tup z) .non g Q) (Q (.bl true) g) := ⟨k_notT⟩
theorem k_isR {z : Addr} (h : Q (.bl false) g) : isND (.ref z) .non g Q := ⟨rfl, h⟩
instance a_k_isR {z : Addr} : StF (isND (.ref z) .non g Q) (Q (.bl false) g) := ⟨k_isR⟩
theorem k_notR {z : Addr} (h : Q (.bl true) g) : notND (.ref z) .non g Q := ⟨rfl, h⟩
instance a_k_notR {z : Addr} : StF (notND (.ref z) .non g Q) (Q (.bl true) g) := ⟨k_notR⟩
theorem k_isB {z : Bool} (h : Q (.bl false) g) : isND (.bl z) .non g Q := ⟨rfl, h⟩
instance a_k_isB {z : Bool} : StF (isND (.bl z) .non g Q) (Q (.bl false) g) := ⟨k_isB⟩
theorem k_notB {z : Bool} (h : Q (.bl true) g) : notND (.bl z) .non g Q := ⟨rfl, h⟩
instance a_k_notB {z : Bool} : StF (notND (.bl z) .non g Q) (Q (.bl true) g) := ⟨k_notB⟩
theorem v_eq1 {a c : Nat} (h : Q (.bl (decide (a = c))) g) : eqD (.str (mk [a])) (.str (mk [c])) g Q := v_eqM (by
  have : decide ([a] = [c]) = decide (a = c) := decide_eq_decide.mpr ⟨fun h => by injection h, fun h => by rw [h]⟩
  rw [this]; exact h)
instance (priority := 3000) a_v_eq1 {a c : Nat} : StF (eqD (.str (mk [a])) (.str (mk [c])) g Q) (Q (.bl (decide (a = c))) g) := ⟨v_eq1⟩
theorem v_ne1 {a c : Nat} (h : Q (.bl (!decide (a = c))) g) : neD (.str (mk [a])) (.str (mk [c])) g Q := v_eq1 (Q := notV Q) h
instance (priority := 3000) a_v_ne1 {a c : Nat} : StF (neD (.str (mk [a])) (.str (mk [c])) g Q) (Q (.bl (!decide (a = c))) g) := ⟨v_ne1⟩
theorem v_in1M {c : Nat} {l : List Nat} (h : Q (.bl (decide (c ∈ l))) g) : inD (.str (mk [c])) (.str (mk l)) g Q := v_in1' h
instance (priority := 3000) a_v_in1M {c : Nat} {l : List Nat} : StF (inD (.str (mk [c])) (.str (mk l)) g Q) (Q (.bl (decide (c ∈ l))) g) := ⟨v_in1M⟩
theorem v_notIn1M {c : Nat} {l : List Nat} (h : Q (.bl (!decide (c ∈ l))) g) : notInD (.str (mk [c])) (.str (mk l)) g Q := v_in1' (Q := notV Q) h
instance (priority := 3000) a_v_notIn1M {c : Nat} {l : List Nat} : StF (notInD (.str (mk [c])) (.str (mk l)) g Q) (Q (.bl (!decide (c ∈ l))) g) := ⟨v_notIn1M⟩
/-- a text of at most B signs -/
def StB (B : Nat) (d : DL.D) : Prop := ∃ r : List Nat, d = .str (mk r) ∧ r.length ≤ B
theorem StB.strs {B : Nat} : ∀ {acc : List DL.D}, (∀ d ∈ acc, StB B d) → ∃ zs : List Str, acc = zs.map DL.D.str ∧ ∀ z ∈ zs, (TL.tl z).length ≤ B
  | [], _ => ⟨[], rfl, fun z hz => nomatch hz⟩
  | d :: acc, h => by
    obtain ⟨zs, rfl, hz⟩ := StB.strs fun x hx => h x (List.mem_cons_of_mem _ hx)
    obtain ⟨r, rfl, hr⟩ := h d List.mem_cons_self
    exact ⟨mk r :: zs, rfl, fun y hy => (List.mem_cons.mp hy).elim (fun e => by rw [e, tl_mk]; exact hr) (hz y)⟩
theorem k_joinS {c acc : List _} {B : Nat} (F : Fr k g0 g l) (n : Nat) (e : l[n]? = some (p, .lst acc, b)) (hP : ∀ d ∈ acc, StB B d) (hz : acc.length * (B + List.length c) ≤ 16777216)
    (h : ∀ r : List Nat, r.length ≤ acc.length * (B + c.length) → Q (.str (mk r)) g) : joinD (.str (mk c)) [.ref p] g Q := by
  obtain ⟨zs, rfl, hzs⟩ := StB.strs hP
  rw [List.length_map] at hz h
  exact v_joinL (F.at n e) hzs (by rw [tl_mk]; exact hz) fun hl => by
    have := h (TL.tl (Txt.join (mk c) zs)) (by rw [tl_mk] at hl; exact hl)
    rw [mk_tl] at this
    exact this
theorem ite_tt {A B : Prop} (h : A) : if true = true then A else B := by rw [if_pos rfl]; exact h
theorem ite_ff {A B : Prop} (h : B) : if false = true then A else B := by rw [if_neg (by decide)]; exact h
theorem ite_ntt {A B : Prop} (h : B) : if (!true) = true then A else B := by rw [if_neg (by decide)]; exact h
theorem ite_nff {A B : Prop} (h : A) : if (!false) = true then A else B := by rw [if_pos (by decide)]; exact h
end
end DL
namespace DL
open PySem
def cut : List Nat → List (List Nat)
  | [] => [[]]
  | c :: cs => if c = 44 then [] :: cut cs else match cut cs with
    | p :: ps => (c :: p) :: ps
    | [] => [[c]]
theorem cut_ne : ∀ l, cut l ≠ []
  | [] => by simp [cut]
  | c :: cs => by
    unfold cut
    split
    · simp
    · split <;> simp
theorem cut_free : ∀ l, ∀ p ∈ cut l, 44 ∉ p
  | [], p, h => by simp [cut] at h; subst h; simp
  | c :: cs, p, h => by
    unfold cut at h
    split at h
    · rcases List.mem_cons.mp h with rfl | h
      · simp
      · exact cut_free cs p h
    · rename_i hc
      cases e : cut cs with
      | nil => exact absurd e (cut_ne cs)
      | cons q qs =>
        rw [e] at h
        have ih := cut_free cs
        rw [e] at ih
        rcases List.mem_cons.mp h with rfl | h
        · have := ih q List.mem_cons_self
          simp [this]
          omega
        · exact ih p (List.mem_cons_of_mem _ h)
theorem cut_join : ∀ l, TL.joinL [44] (cut l) = l
  | [] => rfl
  | c :: cs => by
    have ih := cut_join cs
    unfold cut
    cases e : cut cs with
    | nil => exact absurd e (cut_ne cs)
    | cons q qs =>
      rw [e] at ih
      split
      · rename_i hc
        show [] ++ ([44] ++ TL.joinL [44] (q :: qs)) = _
        rw [ih, hc]; rfl
      · cases qs with
        | nil =>
          have : q = cs := ih
          rw [← this]; rfl
        | cons r rs =>
          show (c :: q) ++ ([44] ++ TL.joinL [44] (r :: rs)) = _
          have : q ++ ([44] ++ TL.joinL [44] (r :: rs)) = cs := ih
          rw [← this]; rfl
def GL : List Nat := [97, 98, 99, 100, 101, 102, 103, 104, 105, 106, 107, 108, 109, 110, 111, 112, 113, 114, 115, 116, 117, 118, 119, 120, 121, 122, 48, 49, 50, 51, 52, 53, 54, 55, 56, 57, 46, 42, 63]
/-- an item's glob -/
def glb : List Nat → List Nat
  | 33 :: r => r
  | l => l
def okI (p : List Nat) : Bool := !(glb p).isEmpty && (glb p).all fun c => decide (c ∈ GL)
/-- may become an item -/
def pk (q : List Nat) : Bool := decide (q = [] ∨ q = [33]) || okI q
theorem cut_split (l : List Nat) : Txt.split (mk l) "," = (cut l).map mk := by
  have e : (mk l : Str) = Txt.join "," ((cut l).map mk) := TL.ext_tl (by
    have c1 : TL.tl ("," : Str) = [44] := by decide +kernel
    rw [TL.join_eq, tl_mk, TL.tl_join, List.map_map, c1]
    have : (cut l).map (TL.tl ∘ mk) = cut l := by
      exact (List.map_congr_left (g := id) (fun x _ => tl_mk x)).trans (List.map_id _)
    rw [this]
    exact (cut_join l).symm)
  rw [e]
  exact TL.split_join (s := 44) (S := []) (by decide +kernel) (by decide +kernel) (fun z => cut_ne l (List.map_eq_nil_iff.mp z)) fun p hp => by
    obtain ⟨x, hx, rfl⟩ := List.mem_map.mp hp
    rw [tl_mk]
    exact cut_free l x hx
theorem k_cut {k : FK} {g0 g : GS} {lo : FL} {l : List Nat} {Q : DK} (F : Fr k g0 g lo) (ha : l.length ≤ 16777214) (h : ∀ r g', Fr k g0 g' ((r, .lst ((cut l).map fun p => .str (mk p)), true) :: lo) → Q (.ref r) g') : splitD (.str (mk l)) [.str (mk [44])] g Q :=
  k_split F (by decide +kernel) (by rw [TL.len_tl, tl_mk]; exact ha) fun r g' F' => h r g' (by
    have e : ((Txt.split (mk l) (mk [44])).map DL.D.str) = (cut l).map fun p => .str (mk p) := by
      have c1 : (mk [44] : Str) = "," := by decide +kernel
      rw [c1, cut_split, List.map_map]; rfl
    rw [e] at F'
    exact F')
theorem get_map {α β : Type} {f : α → β} {xs : List α} {i : Nat} {d : β} (h : (xs.map f)[i]? = some d) : ∃ a, xs[i]? = some a ∧ d = f a := by
  rw [List.getElem?_map] at h
  cases e : xs[i]? with
  | none => rw [e] at h; cases h
  | some a => rw [e] at h; cases h; exact ⟨a, rfl, rfl⟩
theorem take_snoc {α : Type} {xs : List α} {i : Nat} {a : α} (h : xs[i]? = some a) : xs.take (i + 1) = xs.take i ++ [a] := by
  rw [List.take_add_one, h]; rfl
end DL
set_option maxHeartbeats 4000000
namespace DL
open PySem PySem.Spec PyProof.Rows L2
def dLc2 (it : DTI) (j0 j1 : Nat) (tt : DTT) (te : DTE) : DTE := fun e g Q => it e g fun ds keep g1 => ∀ p, g1 p = none → ∃ Iv : Nat → List D → GS → Prop, Iv 0 [] (gup g1 p (.lst [])) ∧ (∀ i acc g', i ≤ ds.length → Iv i acc g' → keep g') ∧
  (∀ i d acc g', ds[i]? = some d → Iv i acc g' → ∃ a b, d = .tup [a, b] ∧ tt ((e.set j0 (some a)).set j1 (some b)) g' fun c g3 => if c = true then te ((e.set j0 (some a)).set j1 (some b)) g3 fun y g4 => g4 p = some (.lst acc) ∧ acc.length < sizeLine ∧ Iv (i + 1) (acc ++ [y]) (gup g4 p (.lst (acc ++ [y]))) else Iv (i + 1) acc g3) ∧
  ∀ acc g', Iv ds.length acc g' → Q (.ref p) g'
section
variable {α : Type} {k : FK} {g0 g : GS} {lo : FL} {ds : List D} {keep : GS → Prop} {e : EV} {j j0 j1 : Nat} {tA : DTT} {te : DTE} {R : Addr → GS → Prop}
theorem lcM (xs : List α) (td f : α → D) (F : Fr k g0 g lo) (hl : ds = xs.map td) (hk : ∀ g', Fr k g0 g' lo → keep g') (hn : xs.length ≤ 16777216)
    (step : ∀ (i : Nat) (a : α) g' Q', xs[i]? = some a → Fr .pu g' g' (unown lo) → (∀ g'', Up [] g' g'' → Q' (f a) g'') → te (e.set j (some (td a))) g' Q')
    (q : ∀ p g', Fr k g0 g' ((p, .lst (xs.map f), true) :: lo) → R p g') :
    ∀ p, g p = none → ∃ Iv : Nat → List D → GS → Prop, Iv 0 [] (gup g p (.lst [])) ∧ (∀ i acc g', i ≤ ds.length → Iv i acc g' → keep g') ∧
      (∀ i d acc g', ds[i]? = some d → Iv i acc g' → dYes (e.set j (some d)) g' fun b g3 => if b = true then te (e.set j (some d)) g3 fun y g4 => g4 p = some (.lst acc) ∧ acc.length < sizeLine ∧ Iv (i + 1) (acc ++ [y]) (gup g4 p (.lst (acc ++ [y]))) else Iv (i + 1) acc g3) ∧
      ∀ acc g', Iv ds.length acc g' → R p g' :=
  lc_map xs td f hl (fun g' U => hk g' (F.up U)) hn (fun i a g' Q' hi U kk => step i a g' Q' hi ((F.up U).hereP) kk) fun p g' hp U hg => q p g' (F.ret hp (F.up U) hg)
theorem lcFi (xs : List α) (td f : α → D) (b : α → Bool) (F : Fr k g0 g lo) (hl : ds = xs.map td) (hk : ∀ g', Fr k g0 g' lo → keep g') (hn : xs.length ≤ 16777216)
    (stepB : ∀ (i : Nat) (a : α) g' (Q' : Bool → GS → Prop), xs[i]? = some a → Fr .pu g' g' (unown lo) → (∀ g'', Up [] g' g'' → Q' (b a) g'') → tA (e.set j (some (td a))) g' Q')
    (step : ∀ (i : Nat) (a : α) g' Q', xs[i]? = some a → b a = true → Fr .pu g' g' (unown lo) → (∀ g'', Up [] g' g'' → Q' (f a) g'') → te (e.set j (some (td a))) g' Q')
    (q : ∀ p g', Fr k g0 g' ((p, .lst ((xs.filter b).map f), true) :: lo) → R p g') :
    ∀ p, g p = none → ∃ Iv : Nat → List D → GS → Prop, Iv 0 [] (gup g p (.lst [])) ∧ (∀ i acc g', i ≤ ds.length → Iv i acc g' → keep g') ∧
      (∀ i d acc g', ds[i]? = some d → Iv i acc g' → tA (e.set j (some d)) g' fun b g3 => if b = true then te (e.set j (some d)) g3 fun y g4 => g4 p = some (.lst acc) ∧ acc.length < sizeLine ∧ Iv (i + 1) (acc ++ [y]) (gup g4 p (.lst (acc ++ [y]))) else Iv (i + 1) acc g3) ∧
      ∀ acc g', Iv ds.length acc g' → R p g' :=
  lc_filt xs td f b hl (fun g' U => hk g' (F.up U)) hn (fun i a g' Q' hi U kk => stepB i a g' Q' hi ((F.up U).hereP) kk) (fun i a g' Q' hi hb U kk => step i a g' Q' hi hb ((F.up U).hereP) kk) fun p g' hp U hg => q p g' (F.ret hp (F.up U) hg)
theorem s_lc2 {it : DTI} {Q : DK} (h : it e g fun ds keep g1 => ∀ p, g1 p = none → ∃ Iv : Nat → List D → GS → Prop, Iv 0 [] (gup g1 p (.lst [])) ∧ (∀ i acc g', i ≤ ds.length → Iv i acc g' → keep g') ∧
  (∀ i d acc g', ds[i]? = some d → Iv i acc g' → ∃ a b, d = .tup [a, b] ∧ tA ((e.set j0 (some a)).set j1 (some b)) g' fun c g3 => if c = true then te ((e.set j0 (some a)).set j1 (some b)) g3 fun y g4 => g4 p = some (.lst acc) ∧ acc.length < sizeLine ∧ Iv (i + 1) (acc ++ [y]) (gup g4 p (.lst (acc ++ [y]))) else Iv (i + 1) acc g3) ∧
  ∀ acc g', Iv ds.length acc g' → Q (.ref p) g') : dLc2 it j0 j1 tA te e g Q := h
instance a_s_lc2 {it : DTI} {Q : DK} : StF (dLc2 it j0 j1 tA te e g Q) (it e g fun ds keep g1 => ∀ p, g1 p = none → ∃ Iv : Nat → List D → GS → Prop, Iv 0 [] (gup g1 p (.lst [])) ∧ (∀ i acc g', i ≤ ds.length → Iv i acc g' → keep g') ∧   (∀ i d acc g', ds[i]? = some d → Iv i acc g' → ∃ a b, d = .tup [a, b] ∧ tA ((e.set j0 (some a)).set j1 (some b)) g' fun c g3 => if c = true then te ((e.set j0 (some a)).set j1 (some b)) g3 fun y g4 => g4 p = some (.lst acc) ∧ acc.length < sizeLine ∧ Iv (i + 1) (acc ++ [y]) (gup g4 p (.lst (acc ++ [y]))) else Iv (i + 1) acc g3) ∧   ∀ acc g', Iv ds.length acc g' → Q (.ref p) g') := ⟨s_lc2⟩
end
section
variable {α : Type} {k : FK} {g0 g : GS} {lo : FL} {Q : DK} {p : Addr} {b : Bool} {xs : List α}
theorem k_anyM {f : α → Bool} (F : Fr k g0 g lo) (n : Nat) (e : lo[n]? = some (p, .lst (xs.map fun x => .bl (f x)), b)) (h : Q (.bl (xs.any f)) g) : anyD [.ref p] g Q :=
  v_any (bs := xs.map f) (by rw [List.map_map]; exact F.at n e) (by rw [List.any_map]; exact h)
theorem k_allM {f : α → Bool} (F : Fr k g0 g lo) (n : Nat) (e : lo[n]? = some (p, .lst (xs.map fun x => .bl (f x)), b)) (h : Q (.bl (xs.all f)) g) : allD [.ref p] g Q :=
  v_all (bs := xs.map f) (by rw [List.map_map]; exact F.at n e) (by rw [List.all_map]; exact h)
theorem k_sumM {f : α → Int} (F : Fr k g0 g lo) (n : Nat) (e : lo[n]? = some (p, .lst (xs.map fun x => .int (f x)), b)) (h : Q (.int (xs.map f).sum) g) : sumD [.ref p] g Q :=
  v_sumL (ns := xs.map f) (by rw [List.map_map]; exact F.at n e) h
end
end DL
set_option maxHeartbeats 4000000
namespace DL
open PySem PySem.Spec PyProof.Rows L2
def ranC (lo c : Int) (n : Nat) : List D := (List.range n).map fun (i : Nat) => .int (lo + (i : Nat) * c)
/-- how many -/
def ranN (i j c : Nat) : Nat := (j - i + c - 1) / c
def iRa3 (ta tb tc : DTE) : DTI := fun e g R => ta e g fun x g1 => tb e g1 fun y g2 => tc e g2 fun z g3 => ∃ i j c : Nat, x = .int i ∧ y = .int j ∧ z = .int c ∧ (i < 1073741824 ∧ j < 1073741824 ∧ 0 < c ∧ c < 1073741824) ∧ R (ranC i c (ranN i j c)) (fun _ => True) g3
section
variable {X : Cx} {a b c tg : Expr} {ta tb tc : DTE} {pos : Pos}
theorem s_ra3 {e : EV} {g : GS} {R : List D → (GS → Prop) → GS → Prop} (h : ta e g fun x g1 => tb e g1 fun y g2 => tc e g2 fun z g3 => ∃ i j c : Nat, x = .int i ∧ y = .int j ∧ z = .int c ∧ (i < 1073741824 ∧ j < 1073741824 ∧ 0 < c ∧ c < 1073741824) ∧ R (ranC i c (ranN i j c)) (fun _ => True) g3) : iRa3 ta tb tc e g R := h
instance a_s_ra3 {e : EV} {g : GS} {R : List D → (GS → Prop) → GS → Prop} : StF (iRa3 ta tb tc e g R) (ta e g fun x g1 => tb e g1 fun y g2 => tc e g2 fun z g3 => ∃ i j c : Nat, x = .int i ∧ y = .int j ∧ z = .int c ∧ (i < 1073741824 ∧ j < 1073741824 ∧ 0 < c ∧ c < 1073741824) ∧ R (ranC i c (ranN i j c)) (fun _ => True) g3) := ⟨s_ra3⟩
end
end DL
set_option maxHeartbeats 4000000
namespace DL
open PySem PySem.Spec PyProof.Rows L2
def bytD (bs : List Nat) : List D := bs.map fun b => .int ((b : Nat) : Int)
/-- as many units as stay below the width -/
def tk (w : Nat) : Nat → List (List Nat) → Nat
  | _, [] => 0
  | a, u :: us => if a + u.length < w then tk w (a + u.length) us + 1 else 0
/-- words of four signs, the last may have less -/
def W4 : List (List Nat) → Prop
  | [] => True
  | [w] => 1 ≤ w.length ∧ w.length ≤ 4
  | w :: v :: ws => w.length = 4 ∧ W4 (v :: ws)
theorem W4.take : ∀ (n : Nat) (ws : List (List Nat)), W4 ws → ws.flatten.take (n * 4) = (ws.take n).flatten
  | 0, ws, _ => by simp
  | n + 1, [], _ => by simp
  | n + 1, [w], h => by
    have : w.length ≤ 4 := h.2
    have e : [w].flatten = w := by simp
    rw [List.take_succ_cons, List.take_nil, e, List.take_of_length_le (by omega)]
  | n + 1, w :: v :: ws, h => by
    have ih := W4.take n (v :: ws) h.2
    show (w ++ (v :: ws).flatten).take ((n + 1) * 4) = w ++ ((v :: ws).take n).flatten
    rw [← ih, Nat.add_mul, Nat.one_mul]
    rw [show n * 4 + 4 = w.length + n * 4 by rw [h.1, Nat.add_comm], List.take_length_add_append]
theorem W4.drop : ∀ (n : Nat) (ws : List (List Nat)), W4 ws → ws.flatten.drop (n * 4) = (ws.drop n).flatten ∧ W4 (ws.drop n)
  | 0, ws, h => by simp; exact h
  | n + 1, [], _ => by simp [W4]
  | n + 1, [w], h => by
    have : w.length ≤ 4 := h.2
    simp [W4]
    omega
  | n + 1, w :: v :: ws, h => by
    obtain ⟨ih, i2⟩ := W4.drop n (v :: ws) h.2
    refine ⟨?_, i2⟩
    show (w ++ (v :: ws).flatten).drop ((n + 1) * 4) = ((v :: ws).drop n).flatten
    rw [← ih, Nat.add_mul, Nat.one_mul]
    rw [show n * 4 + 4 = w.length + n * 4 by rw [h.1, Nat.add_comm], List.drop_length_add_append]
theorem W4.ne {ws : List (List Nat)} (h : W4 ws) (hn : ws ≠ []) : ws.flatten ≠ [] := fun z => by
  match ws, h, hn with
  | [w], h, _ =>
    have h1 : 1 ≤ w.length := h.1
    simp at z
    rw [z] at h1
    simp at h1
  | w :: v :: ws, h, _ =>
    have h1 : w.length = 4 := h.1
    simp at z
    rw [z.1] at h1
    simp at h1
section
variable {g : GS} {Q : DK} {k : FK} {g0 : GS} {lo : FL} {p : Addr} {b : Bool}
theorem v_ixTN {ds : List DL.D} {d : DL.D} {i : Int} (n : Nat) (hi : i = (n : Int)) (ha : ds[n]? = some d) (h : Q d g) : ixD (.tup ds) (.int i) g Q := by
  subst hi
  exact v_ixT (atI_ofNat (by rw [Int.toNat_natCast]; exact ha) (by omega)) h
theorem k_ixLN {ds : List DL.D} {d : DL.D} {i : Int} (n : Nat) (hi : i = (n : Int)) (F : Fr k g0 g lo) (m : Nat) (e : lo[m]? = some (p, .lst ds, b)) (ha : ds[n]? = some d) (h : Q d g) : ixD (.ref p) (.int i) g Q := by
  subst hi
  exact v_ixL (F.at m e) (atI_ofNat (by rw [Int.toNat_natCast]; exact ha) (by omega)) h
end
theorem ends1 (l : List Nat) (c : Nat) : Txt.endswith (mk l) (mk [c]) = decide (l.getLast? = some c) := by
  unfold Txt.endswith
  have e1 : (mk l : Str).length = l.length := by rw [TL.len_tl, tl_mk]
  have e2 : (mk [c] : Str).length = 1 := rfl
  have e3 : (mk l : Str).cps.toList = l := rfl
  have e4 : (mk [c] : Str).cps.toList = [c] := rfl
  rw [StrLaws.subAt_eq, e1, e2, e3, e4]
  rcases List.eq_nil_or_concat l with rfl | ⟨r, x, rfl⟩
  · rfl
  · rw [List.concat_eq_append, List.getLast?_append]
    have : (r ++ [x]).drop ((r ++ [x]).length - 1) = [x] := by
      rw [List.length_append, List.length_singleton, Nat.add_sub_cancel]
      exact List.drop_left
    rw [this]
    simp
    by_cases h : x = c <;> simp [h]
theorem starts1 (l : List Nat) (c : Nat) : Txt.startswith (mk l) (mk [c]) = decide (l.head? = some c) := by
  unfold Txt.startswith
  have e1 : (mk l : Str).length = l.length := by rw [TL.len_tl, tl_mk]
  have e2 : (mk [c] : Str).length = 1 := rfl
  have e3 : (mk l : Str).cps.toList = l := rfl
  have e4 : (mk [c] : Str).cps.toList = [c] := rfl
  rw [StrLaws.subAt_eq, e1, e2, e3, e4]
  cases l with
  | nil => rfl
  | cons x r =>
    simp
    by_cases h : x = c <;> simp [h]
section
variable {g : GS} {Q : DK} {α : Type} {k : FK} {g0 : GS} {lo : FL} {p : Addr} {b : Bool}
theorem v_ends1 {l : List Nat} {c : Nat} (h : Q (.bl (decide (l.getLast? = some c))) g) : endsD (.str (mk l)) [.str (mk [c])] g Q := by
  show Q (.bl (Txt.endswith (mk l) (mk [c]))) g
  rw [ends1]; exact h
instance a_v_ends1 {l : List Nat} {c : Nat} : StF (endsD (.str (mk l)) [.str (mk [c])] g Q) (Q (.bl (decide (l.getLast? = some c))) g) := ⟨v_ends1⟩
theorem v_starts1 {l : List Nat} {c : Nat} (h : Q (.bl (decide (l.head? = some c))) g) : startsD (.str (mk l)) [.str (mk [c])] g Q := by
  show Q (.bl (Txt.startswith (mk l) (mk [c]))) g
  rw [starts1]; exact h
instance a_v_starts1 {l : List Nat} {c : Nat} : StF (startsD (.str (mk l)) [.str (mk [c])] g Q) (Q (.bl (decide (l.head? = some c))) g) := ⟨v_starts1⟩
end
/-- rows of texts -/
abbrev rwD (us : List (List Nat)) : List D := us.map fun u => .str (mk u)
/-- a part that is no parts -/
inductive Prt where
  | txt (q : Bool) (rows : List (List Nat))
  | dat (c : Fin 3) (bs : List Nat)
abbrev textS : Str := mk [116, 101, 120, 116]
abbrev dataS : Str := mk [100, 97, 116, 97]
abbrev plainL : List Nat := [112, 108, 97, 105, 110]
abbrev quotedL : List Nat := [113, 117, 111, 116, 101, 100]
abbrev pairsL : List Nat := [112, 97, 105, 114, 115]
abbrev quadsL : List Nat := [113, 117, 97, 100, 115]
abbrev runsL : List Nat := [114, 117, 110, 115]
def datL : Fin 3 → List Nat
  | 0 => pairsL
  | 1 => quadsL
  | 2 => runsL
def Prt.ds : Prt → List D
  | .txt q rows => [.str textS, .str (mk (if q = true then quotedL else plainL)), .tup (rwD rows)]
  | .dat c bs => [.str dataS, .str (mk (datL c)), .tup (bytD bs)]
def Prt.ok : Prt → Prop
  | .txt _ rows => rows.length ≤ 20 ∧ ∀ r ∈ rows, r.length ≤ 200
  | .dat _ bs => bs.length ≤ 120 ∧ ∀ b ∈ bs, b < 256
theorem v_strN {g : GS} {Q : DK} {c : Nat} (hc : c < 18446744073709551616) (h : Q (.str (mk (TL.numL c))) g) : strF [.int (c : Int)] g Q :=
  v_str (logOk ⟨by omega, by omega⟩) (by
    have := num_mk (v := (c : Int)) (by omega)
    rw [Int.toNat_natCast] at this
    show Q (.str (Str.ofString (toString (c : Int)))) g
    rw [this]
    exact h)
theorem v_strI {g : GS} {Q : DK} {i : Int} (h0 : 0 ≤ i) (hc : i < 18446744073709551616) (h : Q (.str (mk (TL.numL i.toNat))) g) : strF [.int i] g Q :=
  v_str (logOk ⟨by omega, by omega⟩) (by
    have := num_mk (v := i) h0
    show Q (.str (Str.ofString (toString i))) g
    rw [this]
    exact h)
theorem k_ext {g : GS} {Q : DK} {k : FK} {g0 : GS} {lo : FL} {p q : Addr} {b' : Bool} {xs ys : List DL.D} (F : Fr k g0 g lo) (n n' : Nat) (e : lo[n]? = some (p, .lst xs, true)) (e' : lo[n']? = some (q, .lst ys, b')) (hz : xs.length + ys.length ≤ 16777216)
    (h : ∀ g', Fr k g0 g' (lo.set n (p, .lst (xs ++ ys), true)) → Q .non g') : extD (.ref p) [.ref q] g Q := ⟨xs, ys, F.at n e, F.at n' e', by rw [szl]; exact hz, h _ (F.mut n _ e)⟩
theorem v_strB {g : GS} {Q : DK} {i : Int} (k B : Nat) (hk : 0 < k) (hB : B = 10 ^ k) (hB2 : B ≤ 1000000000000000000) (h0 : 0 ≤ i) (hi : i < B) (h : ∀ r : List Nat, r.length ≤ k → Q (.str (mk r)) g) : strF [.int i] g Q :=
  v_strI h0 (by omega) (h _ (TL.numL_len hk (by rw [← hB]; omega)))
theorem v_inI2 {g : GS} {Q : DK} {t a b : Int} (h : Q (.bl (decide (t = a ∨ t = b))) g) : inD (.int t) (.tup [.int a, .int b]) g Q :=
  v_inTI (us := [a, b]) (by
    have : decide (t ∈ [a, b]) = decide (t = a ∨ t = b) := decide_eq_decide.mpr (by simp)
    rw [this]; exact h)
instance a_v_inI2 {g : GS} {Q : DK} {t a b : Int} : StF (inD (.int t) (.tup [.int a, .int b]) g Q) (Q (.bl (decide (t = a ∨ t = b))) g) := ⟨v_inI2⟩
end DL
set_option maxHeartbeats 4000000
namespace DL
open PySem PySem.Spec PyProof.Rows L2
abbrev AL (α : Type) := List (Str × α)
section
variable {α : Type} {td : α → D} {l : AL α} {k : Str} {v : α}
def encS (td : α → D) (l : AL α) : List (L2.Key × D) := l.map fun p => (.inr p.1, td p.2)
def lkS (l : AL α) (k : Str) : Option α := (l.find? fun p => decide (p.1 = k)).map (·.2)
def ptS (l : AL α) (k : Str) (v : α) : AL α := if (l.any fun p => decide (p.1 = k)) = true then l.map (fun p => if p.1 = k then (p.1, v) else p) else l ++ [(k, v)]
theorem inr_dec (a b : Str) : decide ((Sum.inr a : L2.Key) = Sum.inr b) = decide (a = b) := decide_eq_decide.mpr ⟨fun h => Sum.inr.inj h, fun h => by rw [h]⟩
theorem getD_encO : getD (encS td l) (.inr k) = (lkS l k).map td := by
  unfold getD encS lkS
  induction l with
  | nil => rfl
  | cons p r ih =>
    rw [List.map_cons, List.find?_cons, List.find?_cons]
    show Option.map _ (match decide ((Sum.inr p.1 : L2.Key) = Sum.inr k) with | true => _ | false => _) = _
    rw [inr_dec]
    cases decide (p.1 = k) with
    | true => rfl
    | false => exact ih
theorem enc_any : ((encS td l).any fun kv => decide (kv.1 = (Sum.inr k : L2.Key))) = l.any fun p => decide (p.1 = k) := by
  unfold encS
  rw [List.any_map]
  exact congrArg (fun f => List.any l f) (funext fun p => inr_dec p.1 k)
theorem putD_encO : putD (encS td l) (.inr k) (td v) = encS td (ptS l k v) := by
  unfold putD ptS
  rw [enc_any]
  split
  · unfold encS
    rw [List.map_map, List.map_map]
    refine List.map_congr_left fun p _ => ?_
    show (if (Sum.inr p.1 : L2.Key) = Sum.inr k then (Sum.inr p.1, td v) else (Sum.inr p.1, td p.2)) = _
    by_cases h : p.1 = k
    · rw [if_pos (by rw [h])]
      show _ = (Sum.inr (if p.1 = k then (p.1, v) else p).1, td (if p.1 = k then (p.1, v) else p).2)
      rw [if_pos h]
    · rw [if_neg fun e => h (Sum.inr.inj e)]
      show _ = (Sum.inr (if p.1 = k then (p.1, v) else p).1, td (if p.1 = k then (p.1, v) else p).2)
      rw [if_neg h]
  · unfold encS
    rw [List.map_append]; rfl
theorem encS_len : (encS td l).length = l.length := List.length_map ..
theorem lk_any : (l.any fun p => decide (p.1 = k)) = (lkS l k).isSome := by
  unfold lkS
  rw [Option.isSome_map]
  induction l with
  | nil => rfl
  | cons p r ih =>
    rw [List.any_cons, List.find?_cons]
    cases decide (p.1 = k) with
    | true => rfl
    | false => rw [Bool.false_or]; exact ih
theorem lk_mem : (lkS l k).isSome = true ↔ k ∈ l.map (·.1) := by
  rw [← lk_any, List.any_eq_true, List.mem_map]
  exact ⟨fun ⟨p, hp, h⟩ => ⟨p, hp, of_decide_eq_true h⟩, fun ⟨p, hp, h⟩ => ⟨p, hp, decide_eq_true h⟩⟩
theorem lkS_append (l m : AL α) (k : Str) : lkS (l ++ m) k = (lkS l k).or (lkS m k) := by
  unfold lkS
  rw [List.find?_append]
  cases List.find? (fun p => decide (p.1 = k)) l <;> rfl
theorem lkS_one (k' : Str) : lkS [(k', v)] k = if k' = k then some v else none := by
  unfold lkS
  rw [List.find?_cons]
  by_cases h : k' = k
  · rw [if_pos h, decide_eq_true h]; rfl
  · rw [if_neg h, decide_eq_false h]; rfl
theorem pt_new (h : lkS l k = none) : ptS l k v = l ++ [(k, v)] := by
  unfold ptS
  rw [lk_any, h, if_neg (by simp)]
theorem pt_lk (k' : Str) : lkS (ptS l k v) k' = if k' = k then some v else lkS l k' := by
  unfold ptS
  by_cases h : (l.any fun p => decide (p.1 = k)) = true
  · rw [if_pos h]
    induction l with
    | nil => cases h
    | cons p r ih =>
      rw [List.map_cons]
      unfold lkS
      rw [List.find?_cons, List.find?_cons]
      by_cases hp : p.1 = k
      · rw [if_pos hp]
        by_cases hk : k' = k
        · rw [if_pos hk, decide_eq_true (show p.1 = k' by rw [hp, hk])]; rfl
        · rw [if_neg hk, decide_eq_false (show ¬ p.1 = k' by rw [hp]; exact fun e => hk e.symm)]
          by_cases h2 : (r.any fun p => decide (p.1 = k)) = true
          · have := ih h2
            rw [if_neg hk] at this
            exact this
          · have : (r.map fun p => if p.1 = k then (p.1, v) else p) = r := by
              refine (List.map_congr_left (g := id) fun q hq => ?_).trans (List.map_id _)
              rw [if_neg fun e => h2 (List.any_eq_true.mpr ⟨q, hq, decide_eq_true e⟩)]
              rfl
            rw [this]
      · rw [if_neg hp]
        have h2 : (r.any fun p => decide (p.1 = k)) = true := by
          rw [List.any_cons, decide_eq_false hp, Bool.false_or] at h; exact h
        have := ih h2
        by_cases hk : p.1 = k'
        · rw [decide_eq_true hk]
          have : k' ≠ k := fun e => hp (hk.trans e)
          rw [if_neg this]
        · rw [decide_eq_false hk]
          exact this
  · rw [if_neg h, lkS_append, lkS_one]
    have hn : lkS l k = none := by rw [lk_any] at h; cases e : lkS l k with
      | none => rfl
      | some a => rw [e] at h; exact absurd rfl h
    by_cases hk : k' = k
    · rw [if_pos hk, hk, hn, if_pos rfl]; rfl
    · rw [if_neg hk, if_neg fun e => hk e.symm]
      cases lkS l k' <;> rfl
theorem pt_len : (ptS l k v).length ≤ l.length + 1 := by
  unfold ptS
  split
  · rw [List.length_map]; omega
  · rw [List.length_append]; exact Nat.le_refl _
end
def getK (x y : D) (g : GS) (Q : DK) : Prop := ∃ p kvs k v, x = .ref p ∧ g p = some (.dct kvs) ∧ y = kD k ∧ getD kvs k = some v ∧ Q v g
def inK (y x : D) (g : GS) (Q : DK) : Prop := ∃ p kvs k, x = .ref p ∧ g p = some (.dct kvs) ∧ y = kD k ∧ Q (.bl (getD kvs k).isSome) g
def notInK (y x : D) (g : GS) (Q : DK) : Prop := ∃ p kvs k, x = .ref p ∧ g p = some (.dct kvs) ∧ y = kD k ∧ Q (.bl (!(getD kvs k).isSome)) g
def rcK (x : D) (g : GS) (R : Addr → Prop) : Prop := ∃ p, x = .ref p ∧ (∃ kvs, g p = some (.dct kvs)) ∧ R p
def g1K (p : Addr) (y : D) (g : GS) (Q : DK) : Prop := ∃ kvs k, g p = some (.dct kvs) ∧ y = kD k ∧ Q ((getD kvs k).getD .non) g
def g2K (p : Addr) (y z : D) (g : GS) (Q : DK) : Prop := ∃ kvs k, g p = some (.dct kvs) ∧ y = kD k ∧ Q ((getD kvs k).getD z) g
def putK (x y v : D) (g : GS) (R : GS → Prop) : Prop := ∃ p kvs k, x = .ref p ∧ g p = some (.dct kvs) ∧ y = kD k ∧ kvs.length < sizeLine ∧ R (gup g p (.dct (putD kvs k v)))
def delK (x y : D) (g : GS) (R : GS → Prop) : Prop := ∃ p kvs k, x = .ref p ∧ g p = some (.dct kvs) ∧ y = kD k ∧ (getD kvs k).isSome = true ∧ R (gup g p (.dct (delD kvs k)))
section
variable {e : EV} {g : GS} {Q : DK} {td ty tv tx : DTE} {D : DEnds}
theorem f_dget (h : td e g fun x g1 => ty e g1 fun y g2 => getK x y g2 Q) : dDGet td ty e g Q := h
instance a_f_dget  : StF (dDGet td ty e g Q) (td e g fun x g1 => ty e g1 fun y g2 => getK x y g2 Q) := ⟨f_dget⟩
theorem f_din (h : ty e g fun y g1 => td e g1 fun x g2 => inK y x g2 Q) : dDIn ty td e g Q := h
instance a_f_din  : StF (dDIn ty td e g Q) (ty e g fun y g1 => td e g1 fun x g2 => inK y x g2 Q) := ⟨f_din⟩
theorem f_dnotin (h : ty e g fun y g1 => td e g1 fun x g2 => notInK y x g2 Q) : dDNotIn ty td e g Q := h
instance a_f_dnotin  : StF (dDNotIn ty td e g Q) (ty e g fun y g1 => td e g1 fun x g2 => notInK y x g2 Q) := ⟨f_dnotin⟩
theorem f_dget1 (h : td e g fun x g1 => rcK x g1 fun p => ty e g1 fun y g2 => g1K p y g2 Q) : dDGet1 td ty e g Q := h
instance a_f_dget1  : StF (dDGet1 td ty e g Q) (td e g fun x g1 => rcK x g1 fun p => ty e g1 fun y g2 => g1K p y g2 Q) := ⟨f_dget1⟩
theorem f_dget2 (h : td e g fun x g1 => rcK x g1 fun p => ty e g1 fun y g2 => tx e g2 fun z g3 => g2K p y z g3 Q) : dDGet2 td ty tx e g Q := h
instance a_f_dget2  : StF (dDGet2 td ty tx e g Q) (td e g fun x g1 => rcK x g1 fun p => ty e g1 fun y g2 => tx e g2 fun z g3 => g2K p y z g3 Q) := ⟨f_dget2⟩
theorem f_dput (h : tv e g fun v g1 => td e g1 fun x g2 => ty e g2 fun y g3 => putK x y v g3 (D.nx e)) : dDPut td ty tv D e g := h
instance a_f_dput  : StF (dDPut td ty tv D e g) (tv e g fun v g1 => td e g1 fun x g2 => ty e g2 fun y g3 => putK x y v g3 (D.nx e)) := ⟨f_dput⟩
theorem f_ddel (h : td e g fun x g2 => ty e g2 fun y g3 => delK x y g3 (D.nx e)) : dDDel td ty D e g := h
instance a_f_ddel  : StF (dDDel td ty D e g) (td e g fun x g2 => ty e g2 fun y g3 => delK x y g3 (D.nx e)) := ⟨f_ddel⟩
end
section
variable {α : Type} {td : α → D} {x : Str} {v : α} {kvs : List (L2.Key × DL.D)} {k : FK} {g0 g : GS} {l : FL} {p : Addr} {b : Bool} {Q : DK} {R : GS → Prop} {d z : DL.D} {al : AL α}
theorem k_rcK {R : Addr → Prop} (F : Fr k g0 g l) (n : Nat) (e : l[n]? = some (p, .dct kvs, b)) (h : R p) : rcK (.ref p) g R := ⟨p, rfl, ⟨_, F.at n e⟩, h⟩
theorem k_g1S (F : Fr k g0 g l) (n : Nat) (e : l[n]? = some (p, .dct (encS td al), b)) (h : Q (((lkS al x).map td).getD .non) g) : g1K p (.str x) g Q := ⟨_, .inr x, F.at n e, rfl, by rw [getD_encO]; exact h⟩
theorem k_g2S (F : Fr k g0 g l) (n : Nat) (e : l[n]? = some (p, .dct (encS td al), b)) (h : Q (((lkS al x).map td).getD z) g) : g2K p (.str x) z g Q := ⟨_, .inr x, F.at n e, rfl, by rw [getD_encO]; exact h⟩
theorem k_getS (F : Fr k g0 g l) (n : Nat) (e : l[n]? = some (p, .dct (encS td al), b)) (h : lkS al x = some v) (q : Q (td v) g) : getK (.ref p) (.str x) g Q :=
  ⟨p, _, .inr x, _, rfl, F.at n e, rfl, by rw [getD_encO, h]; rfl, q⟩
theorem k_inS (F : Fr k g0 g l) (n : Nat) (e : l[n]? = some (p, .dct (encS td al), b)) (q : Q (.bl (lkS al x).isSome) g) : inK (.str x) (.ref p) g Q :=
  ⟨p, _, .inr x, rfl, F.at n e, rfl, by rw [getD_encO, Option.isSome_map]; exact q⟩
theorem k_notInS (F : Fr k g0 g l) (n : Nat) (e : l[n]? = some (p, .dct (encS td al), b)) (q : Q (.bl (!(lkS al x).isSome)) g) : notInK (.str x) (.ref p) g Q :=
  ⟨p, _, .inr x, rfl, F.at n e, rfl, by rw [getD_encO, Option.isSome_map]; exact q⟩
theorem k_put (F : Fr k g0 g l) (n : Nat) (e : l[n]? = some (p, .dct kvs, true)) (kk : L2.Key) (hl : kvs.length < 16777216) (h : ∀ g', Fr k g0 g' (l.set n (p, .dct (putD kvs kk d), true)) → R g') : putK (.ref p) (kD kk) d g R :=
  ⟨p, kvs, kk, rfl, F.at n e, rfl, by rw [szl]; exact hl, h _ (F.mut n _ e)⟩
/-- d[x] = v, rows of pairs -/
theorem k_putS (v : α) (F : Fr k g0 g l) (n : Nat) (e : l[n]? = some (p, .dct (encS td al), true)) (hd : d = td v) (hl : al.length < 16777216) (h : ∀ g', Fr k g0 g' (l.set n (p, .dct (encS td (ptS al x v)), true)) → R g') : putK (.ref p) (.str x) d g R := by
  refine k_put (kk := .inr x) F n e (by rw [encS_len]; exact hl) ?_
  rw [hd, putD_encO]
  exact h
end
section
variable {g : GS} {Q : DK}
theorem v_eqNI {j : Int} (h : Q (.bl false) g) : eqD .non (.int j) g Q := ⟨⟨rfl, by decide⟩, ⟨rfl, by unfold dep; decide⟩, by
  have : eqP .non (.int j) = false := rfl
  rw [this]; exact h⟩
theorem v_eqON {o : Option Nat} {i : Nat} {j : Int} (hj : j = (i : Int)) (h : Q (.bl (decide (o = some i))) g) : eqD ((o.map fun k : Nat => D.int (k : Int)).getD .non) (.int j) g Q := by
  subst hj
  cases o with
  | none => exact v_eqNI h
  | some k => exact v_eqI (by
      have : decide (((k : Nat) : Int) = ((i : Nat) : Int)) = decide (some k = some i) := decide_eq_decide.mpr ⟨fun h => by rw [Int.ofNat.inj h], fun h => by rw [Option.some.inj h]⟩
      rw [this]; exact h)
theorem v_ltSS {i j : Str} (h : Q (.bl (decide (i.cps.toList < j.cps.toList))) g) : ltD (.str i) (.str j) g Q := h
instance a_v_ltSS {i j : Str} : StF (ltD (.str i) (.str j) g Q) (Q (.bl (decide (i.cps.toList < j.cps.toList))) g) := ⟨v_ltSS⟩
end
end DL
set_option maxHeartbeats 4000000
namespace DL
open PySem PySem.Spec PyProof.Rows L2
def isBD : DR2 := fun x y g Q => ∃ a b, x = .bl a ∧ y = .bl b ∧ Q (.bl (decide (a = b))) g
def notBD : DR2 := fun x y g Q => ∃ a b, x = .bl a ∧ y = .bl b ∧ Q (.bl (!decide (a = b))) g
section
variable {X : Cx}
theorem v_isB {a b : Bool} {g : GS} {Q : DK} (h : Q (.bl (decide (a = b))) g) : isBD (.bl a) (.bl b) g Q := ⟨a, b, rfl, rfl, h⟩
instance a_v_isB {a b : Bool} {g : GS} {Q : DK} : StF (isBD (.bl a) (.bl b) g Q) (Q (.bl (decide (a = b))) g) := ⟨v_isB⟩
theorem v_notB {a b : Bool} {g : GS} {Q : DK} (h : Q (.bl (!decide (a = b))) g) : notBD (.bl a) (.bl b) g Q := ⟨a, b, rfl, rfl, h⟩
instance a_v_notB {a b : Bool} {g : GS} {Q : DK} : StF (notBD (.bl a) (.bl b) g Q) (Q (.bl (!decide (a = b))) g) := ⟨v_notB⟩
end
end DL
namespace DL
open PySem PySem.Spec PyProof.Rows L2
def parK (i j : Nat) (D : DEnds) (e : EV) : List DL.D → GS → Prop
  | [x, y], g => D.nx ((e.set i (some x)).set j (some y)) g
  | _, _ => False
def dPar (i j : Nat) (t : DTA) : DTS := fun D e g => t e g fun xs g1 => parK i j D e xs g1
section
variable {X : Cx} {a b : Expr} {t : DTA} {pos : Pos}
theorem ds_par {i j : Nat} {x y : Str} {px py pt : Pos} {kt k2 pt2} (hc : X.calm = true) (hN : X.N.Nodup) (hi : X.N[i]? = some x) (hj : X.N[j]? = some y) (hij : i ≠ j)
    (hx : X.env.scope.names.lookup x = some .local) (hy : X.env.scope.names.lookup y = some .local) (ha : DA X [a, b] t)
    (hw : swappedStores [.Tuple [.Name x px, .Name y py] kt pt] (.Tuple [a, b] k2 pt2) X.env = pure (some [x, y]))
    (hs : swapsWithSole [.Tuple [.Name x px, .Name y py] kt pt] (.Tuple [a, b] k2 pt2) pos.line X.env = pure false := by rfl) :
    DS X (.Assign [.Tuple [.Name x px, .Name y py] kt pt] (.Tuple [a, b] k2 pt2) pos) (dPar i j t) := ⟨psW (ps_par hc hN hi hj hij hx hy ha.pa hw hs) fun D σ H ⟨e, g, Dd, re, rg, q, k1, _⟩ =>
  ⟨e, g, _, re, rg, q, fun vs ds H1 g1 x1 rg1 l1 q1 => by
    match ds, l1, q1 with
    | [d1, d2], l1, q1 =>
      rcases l1 with _ | ⟨r1, _ | ⟨r2, _ | _⟩⟩
      exact ⟨_, _, rfl, (k1.mono x1).fin (((re.mono x1).set r1 i).set r2 j) rg1 q1⟩⟩⟩
end
section
variable {i j : Nat} {D : DEnds} {e : EV} {t : DTA} {g : GS} {x y : DL.D}
theorem s_par (h : t e g fun xs g1 => parK i j D e xs g1) : dPar i j t D e g := h
theorem x_par (h : D.nx ((e.set i (some x)).set j (some y)) g) : parK i j D e [x, y] g := h
instance p_s_par : Stp (dPar i j t D e g) (t e g fun xs g1 => parK i j D e xs g1) := ⟨s_par⟩
instance a_s_par : StF (dPar i j t D e g) (t e g fun xs g1 => parK i j D e xs g1) := ⟨s_par⟩
instance p_x_par : Stp (parK i j D e [x, y] g) (D.nx ((e.set i (some x)).set j (some y)) g) := ⟨x_par⟩
instance a_x_par : StF (parK i j D e [x, y] g) (D.nx ((e.set i (some x)).set j (some y)) g) := ⟨x_par⟩
end
end DL
set_option maxHeartbeats 4000000
namespace DL
open PySem PySem.Spec PyProof.Rows L2
abbrev tdN (k : Nat) : D := .int (k : Int)
def hopStep (i : Nat) (acc : AL Nat) (f : FeedR) : AL Nat :=
  if lkS acc f.giver = some i ∧ ((i : Int) + 1 ≤ f.hops) ∧ lkS acc f.taker = none then acc ++ [(f.taker, i + 1)] else acc
def hopsL (F : List FeedR) (o : Str) : Nat → AL Nat
  | 0 => [(o, 0)]
  | n + 1 => F.foldl (hopStep n) (hopsL F o n)
theorem hopStep_len (i : Nat) (acc : AL Nat) (f : FeedR) : (hopStep i acc f).length ≤ acc.length + 1 := by
  unfold hopStep
  split
  · rw [List.length_append]; exact Nat.le_refl _
  · omega
theorem hopFold_len (i : Nat) : ∀ (F : List FeedR) (acc : AL Nat), (F.foldl (hopStep i) acc).length ≤ acc.length + F.length
  | [], acc => Nat.le_refl _
  | f :: F, acc => by
    rw [List.foldl_cons, List.length_cons]
    have h1 := hopFold_len i F (hopStep i acc f)
    have h2 := hopStep_len i acc f
    omega
theorem hops_len (F : List FeedR) (o : Str) : ∀ n, (hopsL F o n).length ≤ 1 + n * F.length
  | 0 => by show 1 ≤ _; omega
  | n + 1 => by
    have h1 := hops_len F o n
    have h2 := hopFold_len n F (hopsL F o n)
    show (F.foldl (hopStep n) (hopsL F o n)).length ≤ _
    rw [Nat.add_mul]
    omega
/-- rounds: by their law -/
def hv (F : List FeedR) (o : Str) : Nat → Str → Option Nat
  | 0, z => if o = z then some 0 else none
  | t + 1, z => match hv F o t z with
    | some k => some k
    | none => if (F.any fun f => decide (hv F o t f.giver = some t ∧ (t : Int) + 1 ≤ f.hops ∧ f.taker = z)) = true then some (t + 1) else none
theorem hv_le {F : List FeedR} {o : Str} : ∀ {t : Nat} {z : Str} {k : Nat}, hv F o t z = some k → k ≤ t
  | 0, z, k, h => by
    unfold hv at h
    split at h
    · cases h; exact Nat.le_refl _
    · cases h
  | t + 1, z, k, h => by
    unfold hv at h
    split at h
    · rename_i k' e
      cases h
      have := hv_le e
      omega
    · split at h
      · cases h; exact Nat.le_refl _
      · cases h
theorem hv_fold {F : List FeedR} {o : Str} {t : Nat} {base : AL Nat} (hb : ∀ z, lkS base z = hv F o t z) : ∀ (G : List FeedR) (acc : AL Nat) (P : List FeedR),
    (∀ z, lkS acc z = match hv F o t z with | some k => some k | none => if (P.any fun f => decide (hv F o t f.giver = some t ∧ (t : Int) + 1 ≤ f.hops ∧ f.taker = z)) = true then some (t + 1) else none) →
    ∀ z, lkS (G.foldl (hopStep t) acc) z = match hv F o t z with | some k => some k | none => if ((P ++ G).any fun f => decide (hv F o t f.giver = some t ∧ (t : Int) + 1 ≤ f.hops ∧ f.taker = z)) = true then some (t + 1) else none
  | [], acc, P, h => fun z => by rw [List.append_nil]; exact h z
  | f :: G, acc, P, h => by
    rw [List.foldl_cons]
    have e : P ++ f :: G = (P ++ [f]) ++ G := by simp
    rw [e]
    refine hv_fold hb G (hopStep t acc f) (P ++ [f]) fun z => ?_
    have hg : lkS acc f.giver = some t ↔ hv F o t f.giver = some t := by
      rw [h f.giver]
      cases e : hv F o t f.giver with
      | some k => exact Iff.rfl
      | none =>
        show (if (P.any fun f => decide (hv F o t f.giver = some t ∧ (t : Int) + 1 ≤ f.hops ∧ f.taker = _)) = true then some (t + 1) else none) = some t ↔ none = some t
        constructor
        · intro z
          split at z
          · exact absurd (Option.some.inj z) (by omega)
          · cases z
        · intro z; cases z
    unfold hopStep
    by_cases hc : lkS acc f.giver = some t ∧ ((t : Int) + 1 ≤ f.hops) ∧ lkS acc f.taker = none
    · rw [if_pos hc, lkS_append, lkS_one, h z]
      have hc1 := hg.mp hc.1
      cases e : hv F o t z with
      | some k => rfl
      | none =>
        rw [List.any_append]
        simp only [List.any_cons, List.any_nil, Bool.or_false]
        by_cases hz : f.taker = z
        · rw [if_pos hz, decide_eq_true (show hv F o t f.giver = some t ∧ (t : Int) + 1 ≤ f.hops ∧ f.taker = z from ⟨hc1, hc.2.1, hz⟩), Bool.or_true, if_pos rfl]
          split <;> rfl
        · rw [if_neg hz, decide_eq_false (show ¬ (hv F o t f.giver = some t ∧ (t : Int) + 1 ≤ f.hops ∧ f.taker = z) from fun w => hz w.2.2), Bool.or_false]
          split <;> rfl
    · rw [if_neg hc, h z]
      cases e : hv F o t z with
      | some k => rfl
      | none =>
        rw [List.any_append]
        simp only [List.any_cons, List.any_nil, Bool.or_false]
        by_cases hz : (hv F o t f.giver = some t ∧ (t : Int) + 1 ≤ f.hops ∧ f.taker = z)
        · have : lkS acc f.taker ≠ none := fun w => hc ⟨hg.mpr hz.1, hz.2.1, w⟩
          rw [hz.2.2, h z, e] at this
          have this : ¬ (if (P.any fun f => decide (hv F o t f.giver = some t ∧ (t : Int) + 1 ≤ f.hops ∧ f.taker = z)) = true then some (t + 1) else none) = none := this
          have hp : (P.any fun f => decide (hv F o t f.giver = some t ∧ (t : Int) + 1 ≤ f.hops ∧ f.taker = z)) = true := by
            false_or_by_contra
            rename_i q
            exact this (if_neg q)
          rw [hp, Bool.true_or]
        · rw [decide_eq_false hz, Bool.or_false]
theorem hops_hv (F : List FeedR) (o : Str) : ∀ t z, lkS (hopsL F o t) z = hv F o t z
  | 0, z => by
    show lkS [(o, 0)] z = _
    rw [lkS_one]; rfl
  | t + 1, z => by
    have ih := hops_hv F o t
    show lkS (F.foldl (hopStep t) (hopsL F o t)) z = _
    rw [hv_fold (base := hopsL F o t) ih F (hopsL F o t) [] (fun z => by
      rw [ih z]
      cases hv F o t z with
      | some k => rfl
      | none => rfl)]
    rfl
theorem hopStep_sub {i : Nat} {acc : AL Nat} {f : FeedR} {S : Str → Prop} (hf : S f.taker) (h : ∀ z ∈ acc.map (·.1), S z) : ∀ z ∈ (hopStep i acc f).map (·.1), S z := by
  unfold hopStep
  split
  · intro z hz
    rw [List.map_append] at hz
    rcases List.mem_append.mp hz with hz | hz
    · exact h z hz
    · simp at hz; rw [hz]; exact hf
  · exact h
theorem hopFold_sub {i : Nat} {S : Str → Prop} : ∀ {F : List FeedR} {acc : AL Nat}, (∀ f ∈ F, S f.taker) → (∀ z ∈ acc.map (·.1), S z) → ∀ z ∈ (F.foldl (hopStep i) acc).map (·.1), S z
  | [], _, _, h => h
  | f :: F, acc, hf, h => hopFold_sub (F := F) (fun f h => hf f (List.mem_cons_of_mem _ h)) (hopStep_sub (hf f List.mem_cons_self) h)
theorem hops_sub {F : List FeedR} {o : Str} {S : Str → Prop} (ho : S o) (hF : ∀ f ∈ F, S f.taker) : ∀ n, ∀ z ∈ (hopsL F o n).map (·.1), S z
  | 0 => fun z hz => by
    have : z ∈ [o] := hz
    rw [List.mem_singleton.mp this]; exact ho
  | n + 1 => hopFold_sub hF (hops_sub ho hF n)
theorem hv_mono {F : List FeedR} {o : Str} {z : Str} {k : Nat} {t : Nat} (h : hv F o t z = some k) : ∀ d, hv F o (t + d) z = some k
  | 0 => h
  | d + 1 => by
    have := hv_mono h d
    show hv F o (t + d + 1) z = some k
    unfold hv
    rw [this]
theorem hv_at {F : List FeedR} {o : Str} : ∀ {t : Nat} {z : Str} {k : Nat}, hv F o t z = some k → hv F o k z = some k
  | 0, z, k, h => by
    have := hv_le h
    have : k = 0 := by omega
    subst this; exact h
  | t + 1, z, k, h => by
    have h0 := h
    unfold hv at h
    split at h
    · rename_i k' e
      cases h
      exact hv_at e
    · split at h
      · cases h; exact h0
      · cases h
/-- found last -/
theorem hv_new {F : List FeedR} {o : Str} {t : Nat} {z : Str} (h : hv F o (t + 1) z = some (t + 1)) : hv F o t z = none ∧ ∃ f ∈ F, hv F o t f.giver = some t ∧ (t : Int) + 1 ≤ f.hops ∧ f.taker = z := by
  unfold hv at h
  split at h
  · rename_i k e
    cases h
    have := hv_le e
    omega
  · rename_i e
    split at h
    · rename_i hf
      obtain ⟨f, hm, hd⟩ := List.any_eq_true.mp hf
      exact ⟨e, f, hm, of_decide_eq_true hd⟩
    · cases h
theorem hv_go {F : List FeedR} {o : Str} {t : Nat} {f : FeedR} (hf : f ∈ F) (hg : hv F o t f.giver = some t) (hh : (t : Int) + 1 ≤ f.hops) : ∃ k, hv F o (t + 1) f.taker = some k := by
  unfold hv
  cases e : hv F o t f.taker with
  | some k => exact ⟨k, rfl⟩
  | none =>
    refine ⟨t + 1, ?_⟩
    rw [if_pos (List.any_eq_true.mpr ⟨f, hf, decide_eq_true ⟨hg, hh, rfl⟩⟩)]
end DL
set_option maxHeartbeats 4000000
namespace DL
open PySem PySem.Spec PyProof.Rows L2
abbrev mnS (a b : Str) : Str := if b.cps.toList < a.cps.toList then b else a
abbrev mxS (a b : Str) : Str := if a.cps.toList < b.cps.toList then b else a
theorem ltS_or {a b : Str} (h : a ≠ b) : a.cps.toList < b.cps.toList ∨ b.cps.toList < a.cps.toList := by
  false_or_by_contra
  rename_i q
  have h1 : ¬ a.cps.toList < b.cps.toList := fun z => q (.inl z)
  have h2 : ¬ b.cps.toList < a.cps.toList := fun z => q (.inr z)
  exact h (TL.ext_tl (List.le_antisymm (List.not_lt.mp h2) (List.not_lt.mp h1)))
theorem mn_lt_mx {a b : Str} (h : a ≠ b) : (mnS a b).cps.toList < (mxS a b).cps.toList := by
  unfold mnS mxS
  rcases ltS_or h with h1 | h1
  · rw [if_pos h1, if_neg (fun z => List.lt_irrefl _ (List.lt_trans h1 z))]
    exact h1
  · rw [if_pos h1, if_neg (fun z => List.lt_irrefl _ (List.lt_trans h1 z))]
    exact h1
theorem mn_mx {a b z : Str} (h : z = a ∨ z = b) (hab : a ≠ b) : z = mnS a b ∨ z = mxS a b := by
  unfold mnS mxS
  rcases ltS_or hab with h1 | h1
  · rw [if_pos h1, if_neg (fun z => List.lt_irrefl _ (List.lt_trans h1 z))]
    exact h
  · rw [if_pos h1, if_neg (fun z => List.lt_irrefl _ (List.lt_trans h1 z))]
    exact h.symm
structure LinesOk (ps : List (Str × Str)) : Prop where
  nd : ps.Nodup
  lt : ∀ p ∈ ps, p.1.cps.toList < p.2.cps.toList
theorem LinesOk.nil : LinesOk [] := ⟨List.nodup_nil, fun _ h => nomatch h⟩
theorem LinesOk.perm {ps qs : List (Str × Str)} (h : LinesOk ps) (p : qs.Perm ps) : LinesOk qs := ⟨p.nodup_iff.mpr h.nd, fun x hx => h.lt x (p.mem_iff.mp hx)⟩
theorem LinesOk.take {ps : List (Str × Str)} (h : LinesOk ps) (n : Nat) : LinesOk (ps.take n) := ⟨h.nd.sublist (List.take_sublist _ _), fun x hx => h.lt x (List.mem_of_mem_take hx)⟩
theorem LinesOk.snoc {ps : List (Str × Str)} (h : LinesOk ps) {p : Str × Str} (hp : p ∉ ps) (hl : p.1.cps.toList < p.2.cps.toList) : LinesOk (ps ++ [p]) := by
  refine ⟨List.nodup_append.mpr ⟨h.nd, by simp, fun a ha b hb e => ?_⟩, fun x hx => ?_⟩
  · rw [List.mem_singleton.mp hb] at e
    exact hp (e ▸ ha)
  · rcases List.mem_append.mp hx with hx | hx
    · exact h.lt x hx
    · rw [List.mem_singleton.mp hx]; exact hl
theorem eqP_line (p q : Str × Str) : eqP (lineD p) (.tup [.str q.1, .str q.2]) = decide (p = q) := by
  obtain ⟨a, i⟩ := p
  obtain ⟨b, j⟩ := q
  unfold eqP
  simp only [pd, pds, PyData.eqv, PyData.eqvAll]
  by_cases h : a = b
  · by_cases h2 : i = j
    · subst h; subst h2; simp
    · simp [h, h2]
  · simp [h]
theorem any_line (q : Str × Str) (ps : List (Str × Str)) : ((ps.map lineD).any fun z => eqP z (.tup [.str q.1, .str q.2])) = decide (q ∈ ps) := by
  induction ps with
  | nil => rfl
  | cons p r ih =>
    rw [List.map_cons, List.any_cons, ih, eqP_line]
    by_cases h : p = q
    · rw [decide_eq_true h, decide_eq_true (show q ∈ p :: r by rw [h]; exact List.mem_cons_self)]; rfl
    · rw [decide_eq_false h, Bool.false_or]
      exact decide_eq_decide.mpr ⟨fun z => List.mem_cons_of_mem _ z, fun z => (List.mem_cons.mp z).resolve_left fun e => h e.symm⟩
def bothW (ps : List (Str × Str)) : List (Str × Str) := ps.flatMap fun p => [(p.1, p.2), (p.2, p.1)]
theorem bothW_mem {ps : List (Str × Str)} {q : Str × Str} (h : q ∈ bothW ps) : q ∈ ps ∨ (q.2, q.1) ∈ ps := by
  obtain ⟨p, hp, h⟩ := List.mem_flatMap.mp h
  rcases List.mem_cons.mp h with rfl | h
  · exact .inl hp
  · rw [List.mem_singleton.mp h]; exact .inr hp
theorem bothW_nd : ∀ {ps : List (Str × Str)}, LinesOk ps → (bothW ps).Nodup
  | [], _ => List.nodup_nil
  | p :: r, h => by
    have hr : LinesOk r := ⟨(List.nodup_cons.mp h.nd).2, fun x hx => h.lt x (List.mem_cons_of_mem _ hx)⟩
    have hn := (List.nodup_cons.mp h.nd).1
    have hl := h.lt p List.mem_cons_self
    have ne : p.1 ≠ p.2 := fun e => by rw [e] at hl; exact List.lt_irrefl _ hl
    show ([(p.1, p.2), (p.2, p.1)] ++ bothW r).Nodup
    refine List.nodup_append.mpr ⟨?_, bothW_nd hr, fun a ha b hb e => ?_⟩
    · rw [List.nodup_cons]
      refine ⟨fun z => ?_, by simp⟩
      have := List.mem_singleton.mp z
      exact ne (congrArg Prod.fst this)
    · subst e
      have hb := bothW_mem hb
      rcases List.mem_cons.mp ha with rfl | ha
      · rcases hb with hb | hb
        · exact hn hb
        · exact List.lt_irrefl _ (List.lt_trans hl (hr.lt _ hb))
      · rw [List.mem_singleton.mp ha] at hb
        rcases hb with hb | hb
        · exact List.lt_irrefl _ (List.lt_trans hl (hr.lt _ hb))
        · exact hn hb
theorem bothW_app (ps qs : List (Str × Str)) : bothW (ps ++ qs) = bothW ps ++ bothW qs := List.flatMap_append ..
abbrev gtF (f : FeedR) : Str × Str := (f.giver, f.taker)
def okx (t : Nat) (w : List Str) (f : FeedR) : Bool := decide (w[t]? = some f.giver) && (!decide (f.taker ∈ w) && decide ((t : Int) + 1 ≤ f.hops))
def extW (F : List FeedR) (t : Nat) (w : List Str) : List (List Str) := (F.filter (okx t w)).map fun f => w ++ [f.taker]
def lvl (F : List FeedR) (st : List (List Str)) : Nat → List (List Str)
  | 0 => st
  | t + 1 => (lvl F st t).flatMap (extW F t)
def waysL (F : List FeedR) (st : List (List Str)) (n : Nat) : List (List Str) := (List.range n).flatMap (lvl F st)
structure NetF (F : List FeedR) (N : List Str) : Prop where
  nd : (F.map gtF).Nodup
  tk : ∀ f ∈ F, f.taker ∈ N
  n8 : N.length ≤ 8
  nn : N.Nodup
structure WayOk (N : List Str) (t : Nat) (w : List Str) : Prop where
  len : w.length = t + 1
  nd : w.Nodup
  mem : ∀ z ∈ w, z ∈ N
section
variable {F : List FeedR} {N : List Str} {st : List (List Str)}
theorem map_nd_of {α β γ : Type} {f : α → β} {h : α → γ} : ∀ {l : List α}, (l.map f).Nodup → (∀ a ∈ l, ∀ b ∈ l, h a = h b → f a = f b) → (l.map h).Nodup
  | [], _, _ => List.nodup_nil
  | a :: l, hn, hh => by
    rw [List.map_cons, List.nodup_cons] at hn ⊢
    refine ⟨fun z => ?_, map_nd_of hn.2 fun x hx y hy => hh x (List.mem_cons_of_mem _ hx) y (List.mem_cons_of_mem _ hy)⟩
    obtain ⟨b, hb, e⟩ := List.mem_map.mp z
    have := hh b (List.mem_cons_of_mem _ hb) a List.mem_cons_self e
    exact hn.1 (by rw [← this]; exact List.mem_map_of_mem hb)
theorem extW_len (hF : NetF F N) {t : Nat} {w : List Str} (hw : WayOk N t w) : (extW F t w).length ≤ 7 := by
  unfold extW
  rw [List.length_map]
  have hnd : ((F.filter (okx t w)).map (·.taker)).Nodup := by
    refine map_nd_of (f := gtF) (hF.nd.sublist (List.Sublist.map _ List.filter_sublist)) fun a ha b hb e => ?_
    have h1 := (List.mem_filter.mp ha).2
    have h2 := (List.mem_filter.mp hb).2
    unfold okx at h1 h2
    rw [Bool.and_eq_true] at h1 h2
    have h1 := of_decide_eq_true h1.1
    have h2 := of_decide_eq_true h2.1
    rw [h1] at h2
    exact Prod.ext (Option.some.inj h2) e
  have hw0 : ∃ z, z ∈ w := by
    have := hw.len
    cases w with
    | nil => cases this
    | cons z r => exact ⟨z, List.mem_cons_self⟩
  obtain ⟨z, hz⟩ := hw0
  have := nodup_len ((F.filter (okx t w)).map (·.taker)) (N.erase z) hnd (fun y hy => by
    obtain ⟨f, hf, rfl⟩ := List.mem_map.mp hy
    have h1 := (List.mem_filter.mp hf).2
    unfold okx at h1
    rw [Bool.and_eq_true, Bool.and_eq_true, Bool.not_eq_true'] at h1
    have h2 := of_decide_eq_false h1.2.1
    exact (List.mem_erase_of_ne fun e => h2 (by rw [e]; exact hz)).mpr (hF.tk f (List.mem_filter.mp hf).1))
  rw [List.length_map, List.length_erase_of_mem (hw.mem z hz)] at this
  have := hF.n8
  omega
theorem extW_ok (hF : NetF F N) {t : Nat} {w : List Str} (hw : WayOk N t w) : ∀ v ∈ extW F t w, WayOk N (t + 1) v := fun v hv => by
  obtain ⟨f, hf, rfl⟩ := List.mem_map.mp hv
  have h1 := (List.mem_filter.mp hf).2
  unfold okx at h1
  rw [Bool.and_eq_true, Bool.and_eq_true, Bool.not_eq_true'] at h1
  have h2 := of_decide_eq_false h1.2.1
  refine ⟨by rw [List.length_append, hw.len]; rfl, List.nodup_append.mpr ⟨hw.nd, by simp, fun a ha b hb e => ?_⟩, fun z hz => ?_⟩
  · rw [List.mem_singleton.mp hb] at e
    exact h2 (e ▸ ha)
  · rcases List.mem_append.mp hz with hz | hz
    · exact hw.mem z hz
    · rw [List.mem_singleton.mp hz]; exact hF.tk f (List.mem_filter.mp hf).1
theorem lvl_ok (hF : NetF F N) (hs : ∀ w ∈ st, WayOk N 0 w) : ∀ t, ∀ w ∈ lvl F st t, WayOk N t w
  | 0 => hs
  | t + 1 => fun w hw => by
    obtain ⟨v, hv, hw⟩ := List.mem_flatMap.mp hw
    exact extW_ok hF (lvl_ok hF hs t v hv) w hw
theorem flat_len {α β : Type} {f : α → List β} {k : Nat} : ∀ {l : List α}, (∀ a ∈ l, (f a).length ≤ k) → (l.flatMap f).length ≤ k * l.length
  | [], _ => Nat.zero_le _
  | a :: l, h => by
    rw [List.flatMap_cons, List.length_append, List.length_cons, Nat.mul_add]
    have := h a List.mem_cons_self
    have := flat_len (l := l) fun x hx => h x (List.mem_cons_of_mem _ hx)
    omega
theorem lvl_len (hF : NetF F N) (hs : ∀ w ∈ st, WayOk N 0 w) (h1 : st.length ≤ 1) : ∀ t, (lvl F st t).length ≤ 7 ^ t
  | 0 => h1
  | t + 1 => by
    have h2 := lvl_len hF hs h1 t
    have h3 := flat_len (f := extW F t) (k := 7) fun w hw => extW_len hF (lvl_ok hF hs t w hw)
    have h4 : 7 * (lvl F st t).length ≤ 7 * 7 ^ t := Nat.mul_le_mul_left _ h2
    show ((lvl F st t).flatMap (extW F t)).length ≤ _
    rw [Nat.pow_succ]
    omega
theorem waysL_succ (n : Nat) : waysL F st (n + 1) = waysL F st n ++ lvl F st n := by
  unfold waysL
  rw [List.range_succ, List.flatMap_append]
  simp
theorem waysL_len (hF : NetF F N) (hs : ∀ w ∈ st, WayOk N 0 w) (h1 : st.length ≤ 1) : ∀ n, (waysL F st n).length ≤ 7 ^ n
  | 0 => by show (0 : Nat) ≤ _; omega
  | n + 1 => by
    rw [waysL_succ, List.length_append, Nat.pow_succ]
    have := waysL_len hF hs h1 n
    have := lvl_len hF hs h1 n
    have : 1 ≤ 7 ^ n := Nat.one_le_pow _ _ (by omega)
    omega
end
/-- the first way that ends at each place -/
def lastS (w : List Str) : Str := (w.getLast?).getD ⟨#[]⟩
theorem lastS_snoc (w : List Str) (z : Str) : lastS (w ++ [z]) = z := by
  unfold lastS
  rw [List.getLast?_append]; rfl
theorem lastS_at {w : List Str} {t : Nat} (h : w.length = t + 1) : w[t]? = some (lastS w) := by
  unfold lastS
  rw [List.getLast?_eq_getElem?, h, Nat.add_sub_cancel]
  rw [List.getElem?_eq_getElem (by omega)]; rfl
section
variable {F F' : List FeedR} {cs N : List Str} {o : Str}
theorem way_hv (hFF : ∀ f ∈ F', f.giver ∈ cs → f ∈ F) (htk : ∀ f ∈ F', f.taker ∈ cs) (ho : o ∈ cs) (hh : ∀ f ∈ F, 0 ≤ f.hops) (hs : ∀ t, ∀ w ∈ lvl F' [[o]] t, w.length = t + 1) : ∀ t, ∀ w ∈ lvl F' [[o]] t, lastS w ∈ cs ∧ ∃ k, k ≤ t ∧ hv F o t (lastS w) = some k
  | 0 => fun w hw => by
    rw [List.mem_singleton.mp (show w ∈ [[o]] from hw)]
    refine ⟨ho, 0, Nat.le_refl _, ?_⟩
    show (if o = o then some 0 else none) = some 0
    rw [if_pos rfl]
  | t + 1 => fun w hw => by
    obtain ⟨v, hv', hw⟩ := List.mem_flatMap.mp hw
    obtain ⟨h1, k, hk, hvk⟩ := way_hv hFF htk ho hh hs t v hv'
    obtain ⟨f, hf, rfl⟩ := List.mem_map.mp hw
    obtain ⟨hfF, hok⟩ := List.mem_filter.mp hf
    unfold okx at hok
    rw [Bool.and_eq_true, Bool.and_eq_true] at hok
    have hg := of_decide_eq_true hok.1
    have hhp := of_decide_eq_true hok.2.2
    rw [lastS_at (hs t v hv')] at hg
    have hg := Option.some.inj hg
    rw [lastS_snoc]
    refine ⟨htk f hfF, ?_⟩
    have hgk := hv_at (by rw [hg] at hvk; exact hvk : hv F o t f.giver = some k)
    obtain ⟨j, hj⟩ := hv_go (hFF f hfF (by rw [← hg]; exact h1)) hgk (by omega)
    have hj2 := hv_le hj
    refine ⟨j, by omega, ?_⟩
    have := hv_mono hj (t - k)
    have e : k + 1 + (t - k) = t + 1 := by omega
    rw [e] at this
    exact this
theorem hv_way (hF : ∀ f ∈ F, f ∈ F') : ∀ t z, hv F o t z = some t → ∃ w ∈ lvl F' [[o]] t, w.length = t + 1 ∧ lastS w = z ∧ ∀ y ∈ w, ∃ k, hv F o t y = some k
  | 0, z, h => by
    have : o = z := by
      unfold hv at h
      split at h
      · assumption
      · cases h
    subst this
    exact ⟨[o], List.mem_singleton.mpr rfl, rfl, rfl, fun y hy => by rw [List.mem_singleton.mp hy]; exact ⟨0, h⟩⟩
  | t + 1, z, h => by
    obtain ⟨hn, f, hf, hg, hh, rfl⟩ := hv_new h
    obtain ⟨w, hw, hl, hlast, hall⟩ := hv_way hF t f.giver hg
    have hnot : f.taker ∉ w := fun hm => by
      obtain ⟨k, hk⟩ := hall _ hm
      rw [hn] at hk; cases hk
    refine ⟨w ++ [f.taker], List.mem_flatMap.mpr ⟨w, hw, List.mem_map.mpr ⟨f, List.mem_filter.mpr ⟨hF f hf, ?_⟩, rfl⟩⟩, by rw [List.length_append, hl]; rfl, lastS_snoc _ _, fun y hy => ?_⟩
    · unfold okx
      rw [lastS_at hl, hlast, decide_eq_true rfl, decide_eq_false hnot, decide_eq_true hh]; rfl
    · rcases List.mem_append.mp hy with hy | hy
      · obtain ⟨k, hk⟩ := hall y hy
        exact ⟨k, hv_mono hk 1⟩
      · rw [List.mem_singleton.mp hy]; exact ⟨t + 1, h⟩
end
end DL
set_option maxHeartbeats 4000000
namespace DL
open PySem PySem.Spec PyProof.Rows L2
open PySem.W (dataLt minD AlikeAll alike alikeAll)
section
variable {X : Cx}
/-- xs.insert(i, y) -/
def insD : DRM := fun x ys g Q => match x, ys with
  | .ref p, [.int i, y] => ∃ ds, g p = some (.lst ds) ∧ ds.length < sizeLine ∧ 0 ≤ i ∧ i < 2 ^ 63 ∧ Q .non (gup g p (.lst (ds.take i.toNat ++ [y] ++ ds.drop i.toNat)))
  | _, _ => False
theorem mt_insD : MtR X "list.insert" (lRM X.K insD) := fun pins s σ H x xs v us Q I rx rs ⟨d, ds, g, Qd, r, l, rg, q, k⟩ => by
  cases r with
  | ref p => rcases l with _ | ⟨r1, _ | ⟨r2, _ | ⟨r3, l⟩⟩⟩
             · exact q.elim
             · cases r1 <;> exact q.elim
             · cases r1 with
               | int i =>
                 obtain ⟨ds, h, hz, h0, h1, q⟩ := q
                 obtain ⟨xs, e, l⟩ := rg.lst h
                 exact mt_insert pins s σ H _ _ v us Q I rx rs ⟨p, xs, i, _, rfl, rfl, e, by rw [l.length]; exact hz, h0, h1, k _ _ _ _ (.lst e) (rg.setL e (((l.take _).app (.cons r2 .nil)).app (l.drop _))) .non q⟩
               | _ => exact q.elim
             · cases r1 <;> exact q.elim
  | _ => rcases l with _ | ⟨r1, _ | ⟨r2, _ | ⟨r3, l⟩⟩⟩ <;> exact q.elim
/-- min(xs) of data -/
def minPD : DRC := fun xs g Q => match xs with
  | [.ref p] => ∃ ds, rdL g p ds ∧ ds ≠ [] ∧ pures ds = true ∧ deps ds ≤ 60 ∧ AlikeAll (ds.map pd) ∧ ∀ d, d ∈ ds → pd d = minD ((ds.map pd).headD .none) (ds.map pd).tail → Q d g
  | _ => False
theorem depAll_le : ∀ {ds : List D} {n : Nat}, deps ds ≤ n → PyData.depthAll (ds.map pd) ≤ n + 1
  | [], n, _ => by simp [PyData.depthAll]
  | d :: ds, n, h => by
    rw [deps] at h
    rw [List.map_cons, PyData.depthAll]
    have h1 := pd_dep d
    have h2 := depAll_le (ds := ds) (n := n) (by omega)
    omega
theorem readsAllD {pins : List (Addr × Obj)} {σ : L2.St} {H : Hp} {s : Shared} (I : Inv X pins σ H s) : ∀ {vs : List V} {us : List Value} {ds : List D}, RepL X.K H vs ds → Vals vs us → pures ds = true → ∃ as, ReadsAll s.heap us (ds.map pd) as
  | _, _, _, .nil, .nil, _ => ⟨_, .nil⟩
  | _, _, _, .cons h t, .cons v1 v2, hp => by
    rw [pures, Bool.and_eq_true] at hp
    obtain ⟨a1, r1⟩ := Dp.reads I (pd _) _ _ (h.dp hp.1) v1
    obtain ⟨a2, r2⟩ := readsAllD I t v2 hp.2
    exact ⟨_, .cons r1 r2⟩
theorem valsGetU : ∀ {vs : List V} {us : List Value} {i : Nat} {u : Value}, Vals vs us → us[i]? = some u → ∃ v, vs[i]? = some v ∧ RelV v u
  | _, _, i, _, .nil, h => by simp at h
  | _, _, 0, _, .cons (a := a) r _, h => ⟨a, rfl, by cases h; exact r⟩
  | _, _, i + 1, _, .cons _ t, h => by
    obtain ⟨v, h1, h2⟩ := valsGetU t (show _[i]? = _ from h)
    exact ⟨v, h1, h2⟩
theorem call_minPD (hc : X.calm = true) (hu : X.A.units + 65 < cLine) : CallR X (.builtin "min") (lRC X.K minPD) := fun pins s σ H xs us Q I rs ⟨ds, g, Qd, l, rg, q, k⟩ => by
  rcases l with _ | ⟨r1, _ | ⟨r2, l⟩⟩
  · exact q.elim
  · cases r1 with
    | ref p =>
      obtain ⟨ds, hp, h0, hpu, hdp, hal, q⟩ := q
      obtain ⟨vs, hs, l⟩ := rg.sq hp
      obtain ⟨its, rv, hl, hz⟩ := I.list hs
      rw [Vals.ref1 rs]
      obtain ⟨x, t, rfl⟩ : ∃ x t, ds = x :: t := by
        cases ds with
        | nil => exact absurd rfl h0
        | cons x t => exact ⟨x, t, rfl⟩
      obtain ⟨as, hra⟩ := readsAllD I l rv hpu
      refine PySem.W.min_list_data (x := pd x) (xs := t.map pd) (I.ok.hd hc) hl.isList hra hal (by
        have := depAll_le (ds := x :: t) hdp
        show X.A.units + 1 + PyData.depthAll ((x :: t).map pd) < cLine
        omega) fun i v h' tk bs hi hr hk => ?_
      have hi2 : its[i]? = some v := by
        have : its.toArray[i]? = some v := hi
        simpa using this
      obtain ⟨w, hw, rw'⟩ := valsGetU rv hi2
      obtain ⟨d, hd, rd⟩ := l.getV hw
      obtain ⟨a3, r3⟩ := Dp.reads I (pd d) _ _ (rd.dp (pures_mem hpu d (List.mem_of_getElem? hd))) rw'
      have e := (Reads.unique (PyProof.Rows.Reads.keeps hk r3) _ _ hr).1
      exact ⟨w, H, I.kept hk, rw', rg.fin k rd (q d (List.mem_of_getElem? hd) e)⟩
    | _ => exact q.elim
  · cases r1 <;> exact q.elim
end
end DL
set_option maxHeartbeats 4000000
namespace DL
open PySem PySem.Spec PyProof.Rows L2
open PySem.W (dataLt minD AlikeAll alike alikeAll keyToksAll toks_all_cons)
abbrev wyT (w : List Str) : D := .tup (w.map D.str)
def slt : List Str → List Str → Bool
  | [], [] => false
  | [], _ :: _ => true
  | _ :: _, [] => false
  | a :: as, b :: bs => if a = b then slt as bs else decide (a.cps.toList < b.cps.toList)
theorem pds_strs (w : List Str) : pds (w.map D.str) = w.map PyData.str := by
  rw [pds_map, List.map_map]
  exact List.map_congr_left fun x _ => by show pd (.str x) = _; rw [pd]
theorem pd_way (w : List Str) : pd (wyT w) = .tuple (w.map PyData.str) := by rw [pd, pds_strs]
theorem alike_strs : ∀ a b : List Str, alikeAll (a.map PyData.str) (b.map PyData.str) = true
  | [], _ => by rw [List.map_nil, alikeAll]
  | _ :: _, [] => by rw [List.map_nil, List.map_cons, alikeAll]
  | a :: as, b :: bs => by rw [List.map_cons, List.map_cons, alikeAll, alike, alike_strs as bs]; rfl
theorem alike_way (a b : List Str) : alike (pd (wyT a)) (pd (wyT b)) = true := by rw [pd_way, pd_way, alike, alike_strs]
theorem toks_lt : ∀ a b : List Str, PyProof.Rows.lexLt itemOrd (keyToksAll (a.map PyData.str)) (keyToksAll (b.map PyData.str)) = slt a b
  | [], [] => by rw [lex_irrefl]; rfl
  | [], b :: bs => by
    rw [List.map_cons, List.map_nil, toks_all_cons]
    simp only [keyToksAll]
    rw [lex_diff (O := itemOrd) (by simp)]
    simp [itemLt, slt]
  | a :: as, [] => by
    rw [List.map_cons, List.map_nil, toks_all_cons]
    simp only [keyToksAll]
    rw [lex_diff (O := itemOrd) (by simp)]
    simp [itemLt, slt]
  | a :: as, b :: bs => by
    rw [List.map_cons, List.map_cons]
    have ha : alike (.str a) (.str b) = true := by rw [alike]
    by_cases h : a = b
    · subst h
      rw [PySem.W.dataLt_all_yes ha (by simp [PyData.eqv]), toks_lt as bs]
      show _ = if a = a then slt as bs else _
      rw [if_pos rfl]
    · rw [PySem.W.dataLt_all_no ha (by simp [PyData.eqv, h]), PySem.W.dataLt_str]
      show _ = if a = b then slt as bs else _
      rw [if_neg h]
theorem dataLt_way (a b : List Str) : dataLt (pd (wyT a)) (pd (wyT b)) = slt a b := by
  rw [pd_way, pd_way, PySem.W.dataLt_tuple, toks_lt]
theorem lt_cps {a b : Str} (h1 : ¬ a.cps.toList < b.cps.toList) (h2 : ¬ b.cps.toList < a.cps.toList) : a = b :=
  PySem.W.str_of_cps (List.le_antisymm (List.not_lt.mp h2) (List.not_lt.mp h1))
theorem slt_irr : ∀ a : List Str, slt a a = false
  | [] => rfl
  | a :: as => by
    show (if a = a then slt as as else _) = false
    rw [if_pos rfl, slt_irr as]
theorem slt_total : ∀ {a b : List Str}, slt a b = false → slt b a = false → a = b
  | [], [], _, _ => rfl
  | [], _ :: _, h, _ => by cases h
  | _ :: _, [], _, h => by cases h
  | a :: as, b :: bs, h1, h2 => by
    have h1 : (if a = b then slt as bs else decide (a.cps.toList < b.cps.toList)) = false := h1
    have h2 : (if b = a then slt bs as else decide (b.cps.toList < a.cps.toList)) = false := h2
    by_cases h : a = b
    · subst h
      rw [if_pos rfl] at h1 h2
      rw [slt_total h1 h2]
    · rw [if_neg h] at h1
      rw [if_neg (fun z => h z.symm)] at h2
      exact absurd (lt_cps (of_decide_eq_false h1) (of_decide_eq_false h2)) h
theorem slt_trans : ∀ {a b c : List Str}, slt a b = true → slt b c = true → slt a c = true
  | [], [], _, h, _ => by cases h
  | [], _ :: _, [], _, h => by cases h
  | [], _ :: _, _ :: _, _, _ => rfl
  | _ :: _, [], _, h, _ => by cases h
  | _ :: _, _ :: _, [], _, h => by cases h
  | a :: as, b :: bs, c :: cs, h1, h2 => by
    have h1 : (if a = b then slt as bs else decide (a.cps.toList < b.cps.toList)) = true := h1
    have h2 : (if b = c then slt bs cs else decide (b.cps.toList < c.cps.toList)) = true := h2
    show (if a = c then slt as cs else decide (a.cps.toList < c.cps.toList)) = true
    by_cases h : a = b
    · subst h
      rw [if_pos rfl] at h1
      by_cases h3 : a = c
      · subst h3
        rw [if_pos rfl] at h2 ⊢
        exact slt_trans h1 h2
      · rw [if_neg h3] at h2 ⊢
        exact h2
    · rw [if_neg h] at h1
      by_cases h3 : b = c
      · subst h3
        rw [if_neg h]
        exact h1
      · rw [if_neg h3] at h2
        have h4 := List.lt_trans (of_decide_eq_true h1) (of_decide_eq_true h2)
        rw [if_neg (fun z => by subst z; exact absurd h4 (List.lt_irrefl _))]
        exact decide_eq_true h4
theorem slt_snoc : ∀ {a b : List Str} {z : Str}, a.length = b.length → slt (a ++ [z]) (b ++ [z]) = slt a b
  | [], [], z, _ => by
    show (if z = z then slt [] [] else _) = false
    rw [if_pos rfl]; rfl
  | [], _ :: _, _, h => by simp at h
  | _ :: _, [], _, h => by simp at h
  | a :: as, b :: bs, z, h => by
    have ih := slt_snoc (a := as) (b := bs) (z := z) (by simpa using h)
    show (if a = b then slt (as ++ [z]) (bs ++ [z]) else _) = (if a = b then slt as bs else _)
    rw [ih]
def minStep (acc : Option (List Str)) (w : List Str) : Option (List Str) := match acc with
  | none => some w
  | some v => if slt w v = true then some w else some v
def IsMinW (ws : List (List Str)) : Option (List Str) → Prop
  | none => ws = []
  | some w => w ∈ ws ∧ ∀ y ∈ ws, slt y w = false
theorem isMinW_snoc {ws : List (List Str)} {o : Option (List Str)} {w : List Str} (h : IsMinW ws o) : IsMinW (ws ++ [w]) (minStep o w) := by
  cases o with
  | none =>
    have h : ws = [] := h
    subst h
    exact ⟨by simp, fun y hy => by rw [show y = w by simpa using hy]; exact slt_irr w⟩
  | some v =>
    obtain ⟨h1, h2⟩ := h
    show IsMinW _ (if slt w v = true then some w else some v)
    by_cases hs : slt w v = true
    · rw [if_pos hs]
      refine ⟨by simp, fun y hy => ?_⟩
      rcases List.mem_append.mp hy with hy | hy
      · cases e : slt y w with
        | false => rfl
        | true => have := h2 y hy; rw [slt_trans e hs] at this; cases this
      · rw [List.mem_singleton.mp hy]; exact slt_irr w
    · rw [if_neg hs]
      refine ⟨List.mem_append_left _ h1, fun y hy => ?_⟩
      rcases List.mem_append.mp hy with hy | hy
      · exact h2 y hy
      · rw [List.mem_singleton.mp hy]; exact Bool.eq_false_iff.mpr hs
theorem pd_way_inj {a b : List Str} (h : pd (wyT a) = pd (wyT b)) : a = b := by
  rw [pd_way, pd_way] at h
  have h := PyData.tuple.inj h
  exact (List.map_inj_right fun x y e => PyData.str.inj e).mp h
theorem minD_ways : ∀ (t : List (List Str)) (x : List Str), ∃ m, minD (pd (wyT x)) ((t.map wyT).map pd) = pd (wyT m) ∧ (m = x ∨ m ∈ t) ∧ ∀ y, y = x ∨ y ∈ t → slt y m = false := fun t => by
  induction t with
  | nil =>
    refine fun x => ⟨x, rfl, .inl rfl, fun y hy => ?_⟩
    rcases hy with rfl | hy
    · exact slt_irr y
    · cases hy
  | cons a t ih =>
    intro x
    have e : minD (pd (wyT x)) (((a :: t).map wyT).map pd) = minD (if dataLt (pd (wyT a)) (pd (wyT x)) then pd (wyT a) else pd (wyT x)) ((t.map wyT).map pd) := rfl
    rw [e, dataLt_way]
    by_cases hs : slt a x = true
    · rw [if_pos hs]
      obtain ⟨m, e1, e2, e3⟩ := ih a
      refine ⟨m, e1, .inr (e2.elim (fun h => h ▸ List.mem_cons_self) (List.mem_cons_of_mem _)), fun y hy => ?_⟩
      rcases hy with rfl | hy
      · cases e4 : slt y m with
        | false => rfl
        | true => have := e3 a (.inl rfl); rw [slt_trans hs e4] at this; cases this
      · rcases List.mem_cons.mp hy with rfl | hy
        · exact e3 y (.inl rfl)
        · exact e3 y (.inr hy)
    · rw [if_neg hs]
      obtain ⟨m, e1, e2, e3⟩ := ih x
      refine ⟨m, e1, e2.imp id (List.mem_cons_of_mem _), fun y hy => ?_⟩
      rcases hy with rfl | hy
      · exact e3 y (.inl rfl)
      · rcases List.mem_cons.mp hy with rfl | hy
        · cases e4 : slt y m with
          | false => rfl
          | true =>
            have h5 := e3 x (.inl rfl)
            -- x not below m, y below m, so y below x
            cases e6 : slt m x with
            | true => exact absurd (slt_trans e4 e6) hs
            | false => rw [slt_total h5 e6] at hs; exact absurd e4 hs
        · exact e3 y (.inr hy)
theorem pures_ways {ws : List (List Str)} (h : ∀ w ∈ ws, ∀ z ∈ w, sOk z) : pures (ws.map wyT) = true := by
  induction ws with
  | nil => rfl
  | cons a w ih =>
    have h1 : pures (a.map D.str) = true := pures_strs (h a List.mem_cons_self)
    have h2 := ih fun w hw => h w (List.mem_cons_of_mem _ hw)
    show (pure? (.tup (a.map D.str)) && pures (w.map wyT)) = true
    rw [h2, pure?, h1]; rfl
theorem deps_ways (ws : List (List Str)) : deps (ws.map wyT) ≤ 1 := by
  induction ws with
  | nil => exact Nat.zero_le _
  | cons a w ih => rw [List.map_cons, deps, dep, deps_strs]; omega
section
variable {k : FK} {g0 g : GS} {lo : FL} {Q : DK} {p : Addr} {b : Bool}
theorem k_minW {ws : List (List Str)} (F : Fr k g0 g lo) (n : Nat) (e : lo[n]? = some (p, .lst (ws.map wyT), b)) (h0 : ws ≠ []) (hs : ∀ w ∈ ws, ∀ z ∈ w, sOk z) (h : ∀ m, IsMinW ws (some m) → Q (wyT m) g) : minPD [.ref p] g Q := by
  obtain ⟨x, t, rfl⟩ : ∃ x t, ws = x :: t := by
    cases ws with
    | nil => exact absurd rfl h0
    | cons x t => exact ⟨x, t, rfl⟩
  refine ⟨(x :: t).map wyT, .inl (F.at n e), by simp, pures_ways hs, by have := deps_ways (x :: t); omega, ⟨fun a ha c hc => ?_, fun a ha z => ?_⟩, fun d hd he => ?_⟩
  · obtain ⟨a', ha', rfl⟩ := List.mem_map.mp ha
    obtain ⟨c', hc', rfl⟩ := List.mem_map.mp hc
    obtain ⟨a2, _, rfl⟩ := List.mem_map.mp ha'
    obtain ⟨c2, _, rfl⟩ := List.mem_map.mp hc'
    exact alike_way _ _
  · obtain ⟨a', ha', rfl⟩ := List.mem_map.mp ha
    obtain ⟨a2, _, rfl⟩ := List.mem_map.mp ha'
    rw [pd_way] at z; cases z
  · obtain ⟨m', hm', rfl⟩ := List.mem_map.mp hd
    obtain ⟨m, e1, e2, e3⟩ := minD_ways t x
    have he : pd (wyT m') = minD (pd (wyT x)) ((t.map wyT).map pd) := he
    have := pd_way_inj (he.trans e1)
    subst this
    exact h m' ⟨hm', fun y hy => e3 y (List.mem_cons.mp hy)⟩
theorem v_ltW {a c : List Str} (ha : ∀ z ∈ a, sOk z) (hc : ∀ z ∈ c, sOk z) (h : Q (.bl (slt a c)) g) : ltD (wyT a) (wyT c) g Q :=
  ⟨pures_strs ha, pures_strs hc, by rw [deps_strs]; omega, alike_way a c, by show Q (.bl (dataLt (pd (wyT a)) (pd (wyT c)))) g; rw [dataLt_way]; exact h⟩
end
end DL
set_option maxHeartbeats 4000000
namespace DL
open PySem
section
variable (H : Str → Option Nat) (ps : Nat → FeedR → Bool) (t : Nat)
def wCond (f : FeedR) : Bool := decide (H f.giver = some t) && (decide (H f.taker = some (t + 1)) && ps t f)
def wStep (acc : AL (List Str)) (f : FeedR) : AL (List Str) :=
  if wCond H ps t f = true then match lkS acc f.giver with
    | some w => match lkS acc f.taker with
      | none => ptS acc f.taker (w ++ [f.taker])
      | some v => if slt (w ++ [f.taker]) v = true then ptS acc f.taker (w ++ [f.taker]) else acc
    | none => acc
  else acc
def wAll (G : List FeedR) (base : AL (List Str)) : Nat → AL (List Str)
  | 0 => base
  | t + 1 => G.foldl (wStep H ps t) (wAll G base t)
def wCand (base : AL (List Str)) (G : List FeedR) (z : Str) : List (List Str) := G.filterMap fun f => if wCond H ps t f = true ∧ f.taker = z then (lkS base f.giver).map fun w => w ++ [z] else none
end
section
variable {H : Str → Option Nat} {ps : Nat → FeedR → Bool} {t : Nat}
theorem wStep_lk (acc : AL (List Str)) (f : FeedR) (z : Str) : lkS (wStep H ps t acc f) z = if wCond H ps t f = true ∧ f.taker = z then (match lkS acc f.giver with | some w => minStep (lkS acc z) (w ++ [z]) | none => lkS acc z) else lkS acc z := by
  unfold wStep
  by_cases hc : wCond H ps t f = true
  · rw [if_pos hc]
    cases hg : lkS acc f.giver with
    | none =>
      show lkS acc z = if wCond H ps t f = true ∧ f.taker = z then lkS acc z else lkS acc z
      rw [ite_self]
    | some w =>
      cases ht : lkS acc f.taker with
      | none =>
        show lkS (ptS acc f.taker (w ++ [f.taker])) z = _
        rw [pt_lk]
        by_cases hz : z = f.taker
        · subst hz
          rw [if_pos rfl, if_pos ⟨hc, rfl⟩]
          show _ = minStep (lkS acc f.taker) _
          rw [ht]; rfl
        · rw [if_neg hz, if_neg (fun x => hz x.2.symm)]
      | some v =>
        show lkS (if slt (w ++ [f.taker]) v = true then ptS acc f.taker (w ++ [f.taker]) else acc) z = _
        by_cases hz : z = f.taker
        · subst hz
          rw [if_pos (⟨hc, rfl⟩ : wCond H ps t f = true ∧ f.taker = f.taker)]
          show _ = minStep (lkS acc f.taker) _
          rw [ht]
          show _ = if slt (w ++ [f.taker]) v = true then some (w ++ [f.taker]) else some v
          by_cases hs : slt (w ++ [f.taker]) v = true
          · rw [if_pos hs, if_pos hs, pt_lk, if_pos rfl]
          · rw [if_neg hs, if_neg hs, ht]
        · rw [if_neg (fun x : wCond H ps t f = true ∧ f.taker = z => hz x.2.symm)]
          split
          · rw [pt_lk, if_neg hz]
          · rfl
  · rw [if_neg hc, if_neg (fun x => hc x.1)]
theorem wRound (base : AL (List Str)) (hb : ∀ z, H z = some (t + 1) → lkS base z = none) : ∀ (n : Nat) (P : List FeedR), P.length = n → (∀ z, H z ≠ some (t + 1) → lkS (P.foldl (wStep H ps t) base) z = lkS base z) ∧ (∀ z, H z = some (t + 1) → IsMinW (wCand H ps t base P z) (lkS (P.foldl (wStep H ps t) base) z)) := fun n => by
  induction n with
  | zero =>
    intro P hP
    rw [List.length_eq_zero_iff.mp hP]
    refine ⟨fun z _ => rfl, fun z hz => ?_⟩
    show IsMinW [] (lkS base z)
    rw [hb z hz]; rfl
  | succ n ih =>
    intro P hP
    rcases List.eq_nil_or_concat P with rfl | ⟨P, f, e⟩
    · cases hP
    rw [List.concat_eq_append] at e
    subst e
    have hP : P.length = n := by simpa using hP
    obtain ⟨ih1, ih2⟩ := ih P hP
    rw [List.foldl_append]
    show (∀ z, H z ≠ some (t + 1) → lkS (wStep H ps t (P.foldl (wStep H ps t) base) f) z = lkS base z) ∧ (∀ z, H z = some (t + 1) → IsMinW _ (lkS (wStep H ps t (P.foldl (wStep H ps t) base) f) z))
    refine ⟨fun z hz => ?_, fun z hz => ?_⟩
    · rw [wStep_lk, if_neg (fun x => ?_), ih1 z hz]
      obtain ⟨h1, rfl⟩ := x
      unfold wCond at h1
      rw [Bool.and_eq_true, Bool.and_eq_true] at h1
      exact hz (of_decide_eq_true h1.2.1)
    · rw [wStep_lk]
      have ec : wCand H ps t base (P ++ [f]) z = wCand H ps t base P z ++ (if wCond H ps t f = true ∧ f.taker = z then (lkS base f.giver).map fun w => w ++ [z] else none).toList := by
        unfold wCand
        rw [List.filterMap_append]
        congr 1
      rw [ec]
      by_cases hc : wCond H ps t f = true ∧ f.taker = z
      · rw [if_pos hc, if_pos hc]
        have hg : H f.giver ≠ some (t + 1) := by
          have h1 := hc.1
          unfold wCond at h1
          rw [Bool.and_eq_true] at h1
          rw [of_decide_eq_true h1.1]
          intro x
          have := Option.some.inj x
          omega
        rw [ih1 _ hg]
        cases hw : lkS base f.giver with
        | none =>
          show IsMinW (_ ++ []) _
          rw [List.append_nil]
          exact ih2 z hz
        | some w => exact isMinW_snoc (ih2 z hz)
      · rw [if_neg hc, if_neg hc]
        show IsMinW (_ ++ []) _
        rw [List.append_nil]
        exact ih2 z hz
theorem isMinW_up {cs es : List (List Str)} {r : Option (List Str)} (h : IsMinW cs r) (h1 : ∀ c ∈ cs, c ∈ es) (h2 : ∀ y ∈ es, ∃ c ∈ cs, slt y c = false) : IsMinW es r := by
  cases r with
  | none =>
    have h : cs = [] := h
    show es = []
    cases es with
    | nil => rfl
    | cons y es =>
      obtain ⟨c, hc, _⟩ := h2 y List.mem_cons_self
      rw [h] at hc; cases hc
  | some w =>
    refine ⟨h1 w h.1, fun y hy => ?_⟩
    obtain ⟨c, hc, hyc⟩ := h2 y hy
    have hcw := h.2 c hc
    cases e : slt y w with
    | false => rfl
    | true =>
      cases e2 : slt w c with
      | true => rw [slt_trans e e2] at hyc; cases hyc
      | false => rw [slt_total hcw e2] at hyc; rw [e] at hyc; cases hyc
end
section
variable {F F' G : List FeedR} {cs : List Str} {o : Str} {M : Nat} {ps : Nat → FeedR → Bool}
def endW (F' : List FeedR) (o : Str) (k : Nat) (z : Str) : List (List Str) := (lvl F' [[o]] k).filter fun w => decide (lastS w = z)
theorem endW_mem {k : Nat} {z : Str} {w : List Str} : w ∈ endW F' o k z ↔ w ∈ lvl F' [[o]] k ∧ lastS w = z := by
  unfold endW
  rw [List.mem_filter, decide_eq_true_iff]
/-- all who stand on a way were reached by then -/
theorem way_all (hFF : ∀ f ∈ F', f.giver ∈ cs → f ∈ F) (htk : ∀ f ∈ F', f.taker ∈ cs) (ho : o ∈ cs) (hh : ∀ f ∈ F, 0 ≤ f.hops) (hs : ∀ t, ∀ w ∈ lvl F' [[o]] t, w.length = t + 1) : ∀ t, ∀ w ∈ lvl F' [[o]] t, ∀ y ∈ w, ∃ k, k ≤ t ∧ hv F o t y = some k
  | 0 => fun w hw y hy => by
    have hw' : w = [o] := List.mem_singleton.mp (show w ∈ [[o]] from hw)
    obtain ⟨_, k, hk, hv'⟩ := way_hv hFF htk ho hh hs 0 w hw
    rw [hw'] at hy hv'
    rw [List.mem_singleton.mp hy]
    exact ⟨k, hk, hv'⟩
  | t + 1 => fun w hw y hy => by
    obtain ⟨_, k1, hk1, hv1⟩ := way_hv hFF htk ho hh hs (t + 1) w hw
    obtain ⟨v, hv', hw'⟩ := List.mem_flatMap.mp hw
    obtain ⟨f, hf, rfl⟩ := List.mem_map.mp hw'
    rcases List.mem_append.mp hy with hy | hy
    · obtain ⟨k, hk, e⟩ := way_all hFF htk ho hh hs t v hv' y hy
      exact ⟨k, by omega, hv_mono e 1⟩
    · rw [lastS_snoc] at hv1
      rw [List.mem_singleton.mp hy]
      exact ⟨k1, hk1, hv1⟩
theorem wAll_min (hF : ∀ f ∈ F, f ∈ F') (hFF : ∀ f ∈ F', f.giver ∈ cs → f ∈ F) (hFG : ∀ f ∈ F, f ∈ G) (htk : ∀ f ∈ F', f.taker ∈ cs) (hgv : ∀ f ∈ F, f.giver ∈ cs) (ho : o ∈ cs) (hh : ∀ f ∈ F, 0 ≤ f.hops) (hs : ∀ t, ∀ w ∈ lvl F' [[o]] t, w.length = t + 1)
    (hps : ∀ t f, f ∈ G → f.giver ∈ cs → f.taker ∈ cs → (ps t f = true ↔ f ∈ F ∧ (t : Int) + 1 ≤ f.hops)) (hcs : ∀ z k, hv F o M z = some k → z ∈ cs) :
    ∀ t, t ≤ M → (∀ z k, hv F o M z = some k → k ≤ t → IsMinW (endW F' o k z) (lkS (wAll (hv F o M) ps G [(o, [o])] t) z)) ∧ (∀ z, (∀ k, hv F o M z = some k → t < k) → lkS (wAll (hv F o M) ps G [(o, [o])] t) z = none)
  | 0, _ => by
    have key : ∀ z, hv F o M z = some 0 → o = z := fun z h => by
      have h0 : (if o = z then some 0 else none) = some 0 := hv_at h
      split at h0
      · assumption
      · cases h0
    refine ⟨fun z k hk k0 => ?_, fun z hz => ?_⟩
    · have : k = 0 := by omega
      subst this
      have := key z hk
      subst this
      show IsMinW _ (lkS [(o, [o])] o)
      rw [lkS_one, if_pos rfl]
      have e : ∀ w, w ∈ [[o]] ↔ w ∈ endW F' o 0 o := fun w => by
        rw [endW_mem]
        refine ⟨fun h => ⟨h, by rw [List.mem_singleton.mp h]; rfl⟩, fun h => h.1⟩
      exact ⟨(e _).mp (by simp), fun y hy => by rw [List.mem_singleton.mp ((e y).mpr hy)]; exact slt_irr _⟩
    · show lkS [(o, [o])] z = none
      rw [lkS_one, if_neg]
      intro e
      subst e
      have h0 : hv F o 0 o = some 0 := if_pos rfl
      have := hz 0 (by have := hv_mono h0 M; rwa [Nat.zero_add] at this)
      omega
  | t + 1, hM => by
    obtain ⟨ih1, ih2⟩ := wAll_min hF hFF hFG htk hgv ho hh hs hps hcs t (by omega)
    have hb : ∀ z, hv F o M z = some (t + 1) → lkS (wAll (hv F o M) ps G [(o, [o])] t) z = none := fun z hz => ih2 z fun k hk => by
      rw [hz] at hk
      have := Option.some.inj hk
      omega
    obtain ⟨r1, r2⟩ := wRound (ps := ps) _ hb G.length G rfl
    refine ⟨fun z k hk hkt => ?_, fun z hz => ?_⟩
    · by_cases hk1 : k = t + 1
      · subst hk1
        refine isMinW_up (r2 z hk) (fun c hc => ?_) (fun y hy => ?_)
        · unfold wCand at hc
          obtain ⟨f, hf, e⟩ := List.mem_filterMap.mp hc
          split at e
          case isFalse => cases e
          rename_i hcd
          obtain ⟨h1, rfl⟩ := hcd
          unfold wCond at h1
          rw [Bool.and_eq_true, Bool.and_eq_true] at h1
          have hg := of_decide_eq_true h1.1
          cases hw : lkS (wAll (hv F o M) ps G [(o, [o])] t) f.giver with
          | none => rw [hw] at e; cases e
          | some w =>
            rw [hw] at e
            cases e
            have hm := ih1 f.giver t hg (Nat.le_refl _)
            rw [hw] at hm
            obtain ⟨hwl, hwg⟩ := endW_mem.mp hm.1
            obtain ⟨hfF, hhop⟩ := (hps t f hf (hcs _ _ hg) (hcs _ _ hk)).mp h1.2.2
            refine endW_mem.mpr ⟨List.mem_flatMap.mpr ⟨w, hwl, List.mem_map.mpr ⟨f, List.mem_filter.mpr ⟨hF f hfF, ?_⟩, rfl⟩⟩, lastS_snoc _ _⟩
            have hnot : f.taker ∉ w := fun hm2 => by
              obtain ⟨k, hk2, e2⟩ := way_all hFF htk ho hh hs t w hwl _ hm2
              have e3 := hv_mono e2 (M - t)
              rw [show t + (M - t) = M by omega, hk] at e3
              have := Option.some.inj e3
              omega
            unfold okx
            rw [lastS_at (hs t w hwl), hwg, decide_eq_true rfl, decide_eq_false hnot, decide_eq_true hhop]; rfl
        · obtain ⟨hy1, hy2⟩ := endW_mem.mp hy
          obtain ⟨v, hv', hw'⟩ := List.mem_flatMap.mp hy1
          obtain ⟨f, hf, rfl⟩ := List.mem_map.mp hw'
          rw [lastS_snoc] at hy2
          subst hy2
          obtain ⟨hfF', hok⟩ := List.mem_filter.mp hf
          unfold okx at hok
          rw [Bool.and_eq_true, Bool.and_eq_true] at hok
          have hg := of_decide_eq_true hok.1
          have hhp := of_decide_eq_true hok.2.2
          rw [lastS_at (hs t v hv')] at hg
          have hg := Option.some.inj hg
          obtain ⟨h1, j, hj, hvj⟩ := way_hv hFF htk ho hh hs t v hv'
          rw [hg] at h1 hvj
          have hfF := hFF f hfF' h1
          have hjt : j = t := by
            by_cases hlt : j < t
            · obtain ⟨m, hm⟩ := hv_go hfF (hv_at hvj) (by omega)
              have hm2 := hv_le hm
              have e3 := hv_mono hm (M - (j + 1))
              rw [show j + 1 + (M - (j + 1)) = M by omega, hk] at e3
              have := Option.some.inj e3
              omega
            · omega
          subst hjt
          have hgM : hv F o M f.giver = some j := by
            have e3 := hv_mono hvj (M - j)
            rwa [show j + (M - j) = M by omega] at e3
          have hm := ih1 f.giver j hgM (Nat.le_refl _)
          have hvm : v ∈ endW F' o j f.giver := endW_mem.mpr ⟨hv', hg⟩
          cases hw : lkS (wAll (hv F o M) ps G [(o, [o])] j) f.giver with
          | none =>
            rw [hw] at hm
            have hm : endW F' o j f.giver = [] := hm
            rw [hm] at hvm; cases hvm
          | some w =>
            rw [hw] at hm
            have hcd : wCond (hv F o M) ps j f = true := by
              unfold wCond
              rw [decide_eq_true hgM, decide_eq_true hk, (hps j f (hFG f hfF) h1 (htk f hfF')).mpr ⟨hfF, hhp⟩]; rfl
            refine ⟨w ++ [f.taker], List.mem_filterMap.mpr ⟨f, hFG f hfF, by rw [if_pos ⟨hcd, rfl⟩, hw]; rfl⟩, ?_⟩
            rw [slt_snoc (by rw [hs j v hv', hs j w (endW_mem.mp hm.1).1])]
            exact hm.2 v hvm
      · show IsMinW _ (lkS (G.foldl (wStep (hv F o M) ps t) (wAll (hv F o M) ps G [(o, [o])] t)) z)
        rw [r1 z (by rw [hk]; intro e; exact hk1 (Option.some.inj e))]
        exact ih1 z k hk (by omega)
    · show lkS (G.foldl (wStep (hv F o M) ps t) (wAll (hv F o M) ps G [(o, [o])] t)) z = none
      rw [r1 z (fun e => by have := hz _ e; omega)]
      exact ih2 z fun k hk => by have := hz k hk; omega
/-- of all ways to z those with the fewest hops, of these the least -/
def LeastW (ws : List (List Str)) (z : Str) : Option (List Str) → Prop
  | none => ∀ w ∈ ws, lastS w ≠ z
  | some w => w ∈ ws ∧ lastS w = z ∧ ∀ y ∈ ws, lastS y = z → w.length ≤ y.length ∧ (y.length = w.length → slt y w = false)
theorem leastW_uniq {ws : List (List Str)} {z : Str} {r p : Option (List Str)} (h : LeastW ws z r) (h2 : LeastW ws z p) : r = p := by
  cases r with
  | none =>
    cases p with
    | none => rfl
    | some w => exact absurd h2.2.1 (h w h2.1)
  | some v =>
    cases p with
    | none => exact absurd h.2.1 (h2 v h.1)
    | some w =>
      obtain ⟨a1, a2⟩ := h.2.2 w h2.1 h2.2.1
      obtain ⟨b1, b2⟩ := h2.2.2 v h.1 h.2.1
      rw [slt_total (b2 (by omega)) (a2 (by omega))]
theorem least_all (hF : ∀ f ∈ F, f ∈ F') (hFF : ∀ f ∈ F', f.giver ∈ cs → f ∈ F) (hFG : ∀ f ∈ F, f ∈ G) (htk : ∀ f ∈ F', f.taker ∈ cs) (hgv : ∀ f ∈ F, f.giver ∈ cs) (ho : o ∈ cs) (hh : ∀ f ∈ F, 0 ≤ f.hops) (hs : ∀ t, ∀ w ∈ lvl F' [[o]] t, w.length = t + 1)
    (hps : ∀ t f, f ∈ G → f.giver ∈ cs → f.taker ∈ cs → (ps t f = true ↔ f ∈ F ∧ (t : Int) + 1 ≤ f.hops)) (hcs : ∀ z k, hv F o M z = some k → z ∈ cs) (z : Str) :
    LeastW (waysL F' [[o]] (M + 1)) z (lkS (wAll (hv F o M) ps G [(o, [o])] M) z) := by
  obtain ⟨h1, h2⟩ := wAll_min hF hFF hFG htk hgv ho hh hs hps hcs M (Nat.le_refl _)
  have reach : ∀ t, t ≤ M → ∀ w ∈ lvl F' [[o]] t, lastS w = z → ∃ k, k ≤ t ∧ hv F o M z = some k := fun t ht w hw hz => by
    obtain ⟨_, k, hk, e⟩ := way_hv hFF htk ho hh hs t w hw
    rw [hz] at e
    have e3 := hv_mono e (M - t)
    rw [show t + (M - t) = M by omega] at e3
    exact ⟨k, hk, e3⟩
  cases e : hv F o M z with
  | none =>
    rw [h2 z fun k hk => by rw [e] at hk; cases hk]
    intro w hw hz
    obtain ⟨t, ht, hw⟩ := List.mem_flatMap.mp hw
    obtain ⟨k, _, hk⟩ := reach t (by have := List.mem_range.mp ht; omega) w hw hz
    rw [e] at hk; cases hk
  | some k =>
    have hkM := hv_le e
    have hm := h1 z k e hkM
    obtain ⟨w0, hw0, _, hz0, _⟩ := hv_way hF k z (hv_at e)
    cases hr : lkS (wAll (hv F o M) ps G [(o, [o])] M) z with
    | none =>
      rw [hr] at hm
      have hm : endW F' o k z = [] := hm
      have := (endW_mem (F' := F') (o := o)).mpr ⟨hw0, hz0⟩
      rw [hm] at this; cases this
    | some w =>
      rw [hr] at hm
      obtain ⟨hw1, hw2⟩ := endW_mem.mp hm.1
      refine ⟨List.mem_flatMap.mpr ⟨k, List.mem_range.mpr (by omega), hw1⟩, hw2, fun y hy hz => ?_⟩
      obtain ⟨t, ht, hy⟩ := List.mem_flatMap.mp hy
      obtain ⟨k2, hk2, e2⟩ := reach t (by have := List.mem_range.mp ht; omega) y hy hz
      rw [e] at e2
      have e2 := Option.some.inj e2
      have l1 := hs k w hw1
      have l2 := hs t y hy
      refine ⟨by omega, fun hl => hm.2 y (endW_mem.mpr ⟨?_, hz⟩)⟩
      have : t = k := by omega
      rw [← this]; exact hy
end
def optW (r : Option (List Str)) : DL.D := match r with
  | some w => wyT w
  | none => .non
section
variable {k : FK} {g0 g : GS} {lo : FL} {Q : DK} {p : Addr} {ds : List D} {y : D}
theorem k_ins {i : Int} (F : Fr k g0 g lo) (n : Nat) (e : lo[n]? = some (p, .lst ds, true)) (h0 : 0 ≤ i) (h1 : i < 1000000) (hz : ds.length < 16777216) (h : ∀ g', Fr k g0 g' (lo.set n (p, .lst (ds.take i.toNat ++ [y] ++ ds.drop i.toNat), true)) → Q .non g') : insD (.ref p) [.int i, y] g Q :=
  ⟨ds, F.at n e, by rw [szl]; exact hz, h0, by omega, h _ (F.mut n _ e)⟩
end
theorem strs_ins (w : List Str) (x : Str) (i : Nat) : (w.map D.str).take i ++ [.str x] ++ (w.map D.str).drop i = (w.take i ++ [x] ++ w.drop i).map D.str := by
  rw [List.map_append, List.map_append, List.map_take, List.map_drop]; rfl
theorem ins_len {α : Type} (w : List α) (x : α) (i : Nat) : (w.take i ++ [x] ++ w.drop i).length = w.length + 1 := by
  rw [List.length_append, List.length_append, List.length_take, List.length_drop, List.length_singleton]; omega
theorem ins_mem {α : Type} {w : List α} {x z : α} {i : Nat} (h : z ∈ w.take i ++ [x] ++ w.drop i) : z ∈ w ∨ z = x := by
  rcases List.mem_append.mp h with h | h
  · rcases List.mem_append.mp h with h | h
    · exact .inl (List.mem_of_mem_take h)
    · exact .inr (List.mem_singleton.mp h)
  · exact .inl (List.mem_of_mem_drop h)
end DL
/-- the automatic steps -/
local macro_rules | `(tactic| walk_at "go1") => `(tactic| refine DL.Stp.go ?_)
local macro_rules | `(tactic| walk_at "step1") => `(tactic| first
  | walk_at "go1"
  | ((with_reducible refine DL.s_var ?_); refine ⟨_, rfl, ?_⟩)
  | ((with_reducible refine DL.x_ra1 ?_ ?_ ?_); omega; omega)
  | ((with_reducible refine DL.x_ra2 ?_ ?_ ?_ ?_ ?_); omega; omega; omega; omega)
  | ((with_reducible refine DL.x_lst' ?_); refine ⟨_, by assumption, ?_⟩)
  | ((with_reducible refine DL.v_mod ?_ ?_); omega)
  | ((with_reducible refine DL.v_div ?_ ?_ ?_); omega; omega)
  | ((with_reducible refine DL.v_mulR ?_ ?_ ?_); omega; omega)
  | ((with_reducible refine DL.v_mulL ?_ ?_ ?_); omega; omega)
  | ((with_reducible refine DL.v_ixL' ?_); refine ⟨_, by assumption, _, rfl, ?_⟩)
  | ((with_reducible refine DL.v_ixT' ?_); refine ⟨_, rfl, ?_⟩)
  | ((with_reducible refine DL.s_gtp ?_ ?_); rfl)
  | ((with_reducible refine DL.v_lenL' ?_); refine ⟨_, by assumption, ?_⟩)
  | ((with_reducible refine DL.v_tupL' ?_); refine ⟨_, by assumption, ?_⟩)
  | (with_reducible refine DL.x_int ?_))
local macro_rules | `(tactic| walk_at "go") => `(tactic| repeat walk_at "step1")
local macro_rules | `(tactic| walk_at "gs") => `(tactic| repeat ((fail_if_success (with_reducible refine (?_ : DL.dSeq (DL.dIf _ _ _) _ _ _ _))); walk_at "step1"))
local macro_rules | `(tactic| walk_at "wk1") => `(tactic| first
  | walk_at "step1"
  | (refine DL.StW.go ?_)
  | (with_reducible refine DL.x_sz (by simp) ?_)
  | (with_reducible refine DL.v_rcvL (by first | assumption | exact DL.gup_same) ?_))
local macro_rules | `(tactic| walk_at "wk") => `(tactic| repeat walk_at "wk1")
local macro_rules | `(tactic| walk_at "ws") => `(tactic| repeat ((fail_if_success (with_reducible refine (?_ : DL.dSeq (DL.dIf _ _ _) _ _ _ _))); walk_at "wk1"))
local macro_rules | `(tactic| walk_at "w0") => `(tactic| repeat ((fail_if_success (with_reducible refine (?_ : DL.dSeq _ _ _ _ _))); walk_at "wk1"))
/-- closing goals: the source stands, a look-up, two places, what was changed -/
local macro_rules | `(tactic| walk_at "N") => `(tactic| first
  | assumption
  | exact Ne.symm (by assumption)
  | exact DL.Src.neL (by walk_at "S") (by assumption)
  | exact DL.Src.neL0 (by walk_at "S") (by assumption)
  | exact DL.Src.neStr (by walk_at "S") (by assumption)
  | exact DL.ne_fresh (by assumption) (by walk_at "L")
  | exact Ne.symm (DL.ne_fresh (by assumption) (by walk_at "L")))
local macro_rules | `(tactic| walk_at "L") => `(tactic| first
  | assumption
  | exact DL.gup_same
  | (refine DL.Up.get0 (by assumption) ?_; walk_at "L")
  | (refine DL.Go.get (by assumption) ?_ ?_ <;> first | walk_at "L" | walk_at "N")
  | (refine (DL.gup_ne ?_).trans ?_ <;> first | walk_at "L" | walk_at "N"))
local macro_rules | `(tactic| walk_at "S") => `(tactic| first
  | assumption
  | exact (And.right (by assumption : DL.Go _ _ _ _))
  | (refine DL.Src.up ?_ (by assumption); walk_at "S")
  | (refine DL.Src.up ?_ (DL.Up.new (by assumption)); walk_at "S")
  | (refine DL.Src.mut ?_ ?_ ?_ <;> first | walk_at "S" | walk_at "N"))
local macro_rules | `(tactic| walk_at "G") => `(tactic| first
  | assumption
  | (refine DL.Go.trans ?_ (by assumption); walk_at "G")
  | (refine DL.Go.up ?_ (by assumption); walk_at "G")
  | (refine DL.Go.new ?_ (by assumption); walk_at "G")
  | (refine DL.Go.mut ?_ (by assumption) (by walk_at "S"); walk_at "G")
  | exact DL.Go.up (DL.Go.start (by walk_at "S")) (by assumption)
  | exact DL.Go.new (DL.Go.start (by walk_at "S")) (by assumption)
  | exact DL.Go.start (by walk_at "S"))
/-- frames (DL43): lengths, look-ups, side goals, one step -/
local macro_rules | `(tactic| walk_at "len") => `(tactic| first | omega | (simp only [List.length_append, List.length_cons, List.length_nil, List.length_take, List.length_drop, List.length_singleton, List.length_map, List.length_reverse, List.length_replicate, List.length_set, List.length_range, DL.mxl_mk, DL.mxl_nil, DL.tl_mk, DL.ran_len, Nat.zero_add, Nat.add_zero]; omega) | (simp only [List.length_append, List.length_cons, List.length_nil, List.length_take, List.length_drop, List.length_singleton, List.length_map, List.length_reverse, List.length_replicate, List.length_set, List.length_range, DL.mxl_mk, DL.mxl_nil, DL.tl_mk, DL.ran_len, Nat.zero_add, Nat.add_zero] at *; omega) | (simp <;> omega))
local macro_rules | `(tactic| walk_at "at") => `(tactic| first
  | assumption
  | exact DL.Fr.at (by assumption) 0 rfl
  | exact DL.Fr.at (by assumption) 1 rfl
  | exact DL.Fr.at (by assumption) 2 rfl
  | exact DL.Fr.at (by assumption) 3 rfl
  | exact DL.Fr.at (by assumption) 4 rfl
  | exact DL.Fr.at (by assumption) 5 rfl
  | exact DL.Fr.at (by assumption) 6 rfl
  | walk_at "L")
local macro_rules | `(tactic| walk_at "sd") => `(tactic| first | assumption | rfl | omega | walk_at "at" | exact DL.Fr.src (by assumption) | walk_at "len" | (intro _ hz; simp only [List.mem_cons, List.mem_nil_iff, or_false] at hz; simp_all) | decide)
local macro_rules | `(tactic| walk_at "call") => `(tactic| fail)
local macro_rules | `(tactic| walk_at "exc") => `(tactic| fail)
local macro_rules | `(tactic| walk_at "wr1") => `(tactic| first
  | ((with_reducible refine DL.x_ra1 ?_ ?_ ?_); omega; omega)
  | ((with_reducible refine DL.x_ra2 ?_ ?_ ?_ ?_ ?_); omega; omega; omega; omega)
  | ((with_reducible refine DL.x_lst' ?_); refine ⟨_, by assumption, ?_⟩)
  | ((with_reducible refine DL.v_mod ?_ ?_); omega)
  | ((with_reducible refine DL.v_div ?_ ?_ ?_); omega; omega)
  | ((with_reducible refine DL.v_mulR ?_ ?_ ?_); omega; omega)
  | ((with_reducible refine DL.v_mulL ?_ ?_ ?_); omega; omega)
  | ((with_reducible refine DL.v_ixL' ?_); refine ⟨_, by assumption, _, rfl, ?_⟩)
  | ((with_reducible refine DL.v_ixT' ?_); refine ⟨_, rfl, ?_⟩)
  | ((with_reducible refine DL.s_gtp ?_ ?_); rfl)
  | ((with_reducible refine DL.v_lenL' ?_); refine ⟨_, by assumption, ?_⟩)
  | ((with_reducible refine DL.v_tupL' ?_); refine ⟨_, by assumption, ?_⟩)
  | (with_reducible refine DL.x_int ?_)
  | (with_reducible refine DL.x_sz (by simp) ?_)
  | (with_reducible refine DL.v_rcvL (by first | assumption | exact DL.gup_same) ?_))
local macro_rules | `(tactic| walk_at "au1") => `(tactic| first
  | (refine DL.StF.go ?_)
  | ((with_reducible refine DL.s_var ?_); refine ⟨_, rfl, ?_⟩)
  | (with_reducible first | refine DL.ite_tt ?_ | refine DL.ite_ff ?_ | refine DL.ite_ntt ?_ | refine DL.ite_nff ?_)
  | ((with_reducible refine DL.k_FA (by assumption) ?_); intro _ _ _)
  | walk_at "call"
  | ((with_reducible refine (?_ : DL.rcK (DL.D.ref _) _ _)); first
    | (refine DL.k_rcK (by assumption) 0 rfl ?_)
    | (refine DL.k_rcK (by assumption) 1 rfl ?_)
    | (refine DL.k_rcK (by assumption) 2 rfl ?_)
    | (refine DL.k_rcK (by assumption) 3 rfl ?_)
    | (refine DL.k_rcK (by assumption) 4 rfl ?_))
  | ((with_reducible refine (?_ : DL.g1K _ (DL.D.str _) _ _)); first
    | (refine DL.k_g1S (by assumption) 0 rfl ?_)
    | (refine DL.k_g1S (by assumption) 1 rfl ?_)
    | (refine DL.k_g1S (by assumption) 2 rfl ?_)
    | (refine DL.k_g1S (by assumption) 3 rfl ?_)
    | (refine DL.k_g1S (by assumption) 4 rfl ?_))
  | ((with_reducible refine (?_ : DL.g2K _ (DL.D.str _) _ _ _)); first
    | (refine DL.k_g2S (by assumption) 0 rfl ?_)
    | (refine DL.k_g2S (by assumption) 1 rfl ?_)
    | (refine DL.k_g2S (by assumption) 2 rfl ?_)
    | (refine DL.k_g2S (by assumption) 3 rfl ?_)
    | (refine DL.k_g2S (by assumption) 4 rfl ?_))
  | ((with_reducible refine (?_ : DL.inK (DL.D.str _) (DL.D.ref _) _ _)); first
    | (refine DL.k_inS (by assumption) 0 rfl ?_)
    | (refine DL.k_inS (by assumption) 1 rfl ?_)
    | (refine DL.k_inS (by assumption) 2 rfl ?_)
    | (refine DL.k_inS (by assumption) 3 rfl ?_)
    | (refine DL.k_inS (by assumption) 4 rfl ?_))
  | ((with_reducible refine (?_ : DL.notInK (DL.D.str _) (DL.D.ref _) _ _)); first
    | (refine DL.k_notInS (by assumption) 0 rfl ?_)
    | (refine DL.k_notInS (by assumption) 1 rfl ?_)
    | (refine DL.k_notInS (by assumption) 2 rfl ?_)
    | (refine DL.k_notInS (by assumption) 3 rfl ?_)
    | (refine DL.k_notInS (by assumption) 4 rfl ?_))
  | ((with_reducible refine DL.x_lst' ?_); refine ⟨_, by walk_at "at", ?_⟩)
  | ((with_reducible refine DL.v_ixL' ?_); refine ⟨_, by walk_at "at", _, rfl, ?_⟩)
  | ((with_reducible refine DL.v_lenL' ?_); refine ⟨_, by walk_at "at", ?_⟩)
  | ((with_reducible refine DL.v_tupL' ?_); refine ⟨_, by walk_at "at", ?_⟩)
  | ((with_reducible refine (?_ : DL.rcv "list" (DL.D.ref _) _ ∧ _)); refine DL.v_rcvL (by walk_at "at") ?_)
  | ((with_reducible refine DL.v_addM ?_ ?_); walk_at "len")
  | ((with_reducible refine DL.k_cut (by assumption) ?_ ?_); walk_at "len"; intro _ _ _)
  | ((with_reducible refine DL.v_lenM ?_ ?_); walk_at "len")
  | ((with_reducible refine DL.v_slTo ?_ ?_ ?_); walk_at "len"; walk_at "len")
  | ((with_reducible refine DL.v_slFrom ?_ ?_ ?_); walk_at "len"; walk_at "len")
  | ((with_reducible refine DL.v_slMid ?_ ?_ ?_ ?_); walk_at "len"; walk_at "len"; walk_at "len")
  | ((with_reducible refine (?_ : DL.inD (DL.D.str _) (DL.D.ref _) _ _)); refine DL.v_inLS (by walk_at "at") ?_)
  | ((with_reducible refine (?_ : DL.notInD (DL.D.str _) (DL.D.ref _) _ _)); refine DL.v_notInLS (by walk_at "at") ?_)
  | ((with_reducible refine DL.v_addT ?_ ?_); rw [DL.szl]; walk_at "len")
  | ((with_reducible refine DL.v_rstrip ?_ ?_); walk_at "len"; intro _ _ _)
  | ((with_reducible refine DL.x_rep ?_ ?_); walk_at "len")
  | ((with_reducible refine DL.s_pair ?_); refine ⟨_, rfl, by first | decide | (rw [TL.len_tl, DL.tl_mk]; walk_at "len"), ?_⟩)
  | ((with_reducible refine (?_ : DL.appD _ [_] _ _)); first
    | (refine DL.k_app (by assumption) 0 rfl (by walk_at "len") ?_; intro _ _)
    | (refine DL.k_app (by assumption) 1 rfl (by walk_at "len") ?_; intro _ _)
    | (refine DL.k_app (by assumption) 2 rfl (by walk_at "len") ?_; intro _ _)
    | (refine DL.k_app (by assumption) 3 rfl (by walk_at "len") ?_; intro _ _)
    | (refine DL.k_app (by assumption) 4 rfl (by walk_at "len") ?_; intro _ _)
    | (refine DL.k_app (by assumption) 5 rfl (by walk_at "len") ?_; intro _ _))
  | ((with_reducible refine DL.k_lstT (by assumption) ?_); intro _ _ _)
  | ((with_reducible refine (?_ : DL.slD (DL.D.ref _) none (some _) _ _)); first
    | (refine DL.k_slToL (by assumption) 0 rfl (by walk_at "len") ?_; intro _ _ _)
    | (refine DL.k_slToL (by assumption) 1 rfl (by walk_at "len") ?_; intro _ _ _)
    | (refine DL.k_slToL (by assumption) 2 rfl (by walk_at "len") ?_; intro _ _ _)
    | (refine DL.k_slToL (by assumption) 3 rfl (by walk_at "len") ?_; intro _ _ _))
  | ((with_reducible refine (?_ : DL.mulD (DL.D.ref _) (DL.D.int _) _ _)); first
    | (refine DL.k_rep (by assumption) 0 rfl (by walk_at "len") (by walk_at "len") (by walk_at "len") ?_; intro _ _ _)
    | (refine DL.k_rep (by assumption) 1 rfl (by walk_at "len") (by walk_at "len") (by walk_at "len") ?_; intro _ _ _)
    | (refine DL.k_rep (by assumption) 2 rfl (by walk_at "len") (by walk_at "len") (by walk_at "len") ?_; intro _ _ _)
    | (refine DL.k_rep (by assumption) 3 rfl (by walk_at "len") (by walk_at "len") (by walk_at "len") ?_; intro _ _ _))
  | ((with_reducible refine (?_ : DL.addD (DL.D.ref _) (DL.D.ref _) _ _)); first
    | (refine DL.k_addL (by assumption) 1 0 rfl rfl (by walk_at "len") ?_; intro _ _ _)
    | (refine DL.k_addL (by assumption) 0 1 rfl rfl (by walk_at "len") ?_; intro _ _ _)
    | (refine DL.k_addL (by assumption) 2 0 rfl rfl (by walk_at "len") ?_; intro _ _ _)
    | (refine DL.k_addL (by assumption) 2 1 rfl rfl (by walk_at "len") ?_; intro _ _ _)
    | (refine DL.k_addL (by assumption) 3 0 rfl rfl (by walk_at "len") ?_; intro _ _ _)
    | (refine DL.k_addL (by assumption) 1 1 rfl rfl (by walk_at "len") ?_; intro _ _ _)
    | (refine DL.k_addL (by assumption) 0 0 rfl rfl (by walk_at "len") ?_; intro _ _ _))
  | ((with_reducible refine (?_ : DL.anyD [DL.D.ref _] _ _)); first
    | refine DL.k_anyM (by assumption) 0 rfl ?_
    | refine DL.k_anyM (by assumption) 1 rfl ?_
    | refine DL.k_anyM (by assumption) 2 rfl ?_
    | refine DL.k_anyM (by assumption) 3 rfl ?_
    | refine DL.k_anyM (by assumption) 4 rfl ?_)
  | ((with_reducible refine DL.v_strN ?_ ?_); omega)
  | ((with_reducible refine (?_ : DL.sumD [DL.D.ref _] _ _)); first
    | refine DL.k_sumM (by assumption) 0 rfl ?_
    | refine DL.k_sumM (by assumption) 1 rfl ?_
    | refine DL.k_sumM (by assumption) 2 rfl ?_
    | refine DL.k_sumM (by assumption) 3 rfl ?_
    | refine DL.k_sumM (by assumption) 4 rfl ?_)
  | ((with_reducible refine (?_ : DL.allD [DL.D.ref _] _ _)); first
    | refine DL.k_allM (by assumption) 0 rfl ?_
    | refine DL.k_allM (by assumption) 1 rfl ?_
    | refine DL.k_allM (by assumption) 2 rfl ?_
    | refine DL.k_allM (by assumption) 3 rfl ?_
    | refine DL.k_allM (by assumption) 4 rfl ?_)
  | ((with_reducible refine (?_ : DL.joinD (DL.D.str (DL.mk _)) [DL.D.ref _] _ _)); first
    | (refine DL.k_joinS (by assumption) 0 rfl (by assumption) (by walk_at "len") ?_; intro _ _)
    | (refine DL.k_joinS (by assumption) 1 rfl (by assumption) (by walk_at "len") ?_; intro _ _)
    | (refine DL.k_joinS (by assumption) 2 rfl (by assumption) (by walk_at "len") ?_; intro _ _)
    | (refine DL.k_joinS (by assumption) 3 rfl (by assumption) (by walk_at "len") ?_; intro _ _)
    | (refine DL.k_joinS (by assumption) 4 rfl (by assumption) (by walk_at "len") ?_; intro _ _))
  | walk_at "wr1"
  | walk_at "exc")
local macro_rules | `(tactic| walk_at "br") => `(tactic| first
  | ((with_reducible refine DL.iteD ?_ ?_) <;> intro _)
  | ((with_reducible refine DL.iteN ?_ ?_) <;> intro _)
  | ((with_reducible refine DL.iteB ?_ ?_) <;> intro _)
  | ((with_reducible refine DL.iteNB ?_ ?_) <;> intro _))
local macro_rules | `(tactic| walk_at "any1") => `(tactic| first
  | walk_at "au1"
  | ((with_reducible refine DL.k_ixM ?_ ?_ ?_ ?_); walk_at "len"; walk_at "len"; walk_at "len"; intro _ _)
  | ((with_reducible refine (?_ : DL.strF [DL.D.int _] _ _)); first
    | (refine DL.v_strB 1 10 (by decide) (by decide) (by decide) (by walk_at "len") (by walk_at "len") ?_; intro _ _)
    | (refine DL.v_strB 2 100 (by decide) (by decide) (by decide) (by walk_at "len") (by walk_at "len") ?_; intro _ _)
    | (refine DL.v_strB 3 1000 (by decide) (by decide) (by decide) (by walk_at "len") (by walk_at "len") ?_; intro _ _)
    | (refine DL.v_strB 4 10000 (by decide) (by decide) (by decide) (by walk_at "len") (by walk_at "len") ?_; intro _ _)
    | (refine DL.v_strB 5 100000 (by decide) (by decide) (by decide) (by walk_at "len") (by walk_at "len") ?_; intro _ _)
    | (refine DL.v_strB 6 1000000 (by decide) (by decide) (by decide) (by walk_at "len") (by walk_at "len") ?_; intro _ _)
    | (refine DL.v_strB 7 10000000 (by decide) (by decide) (by decide) (by walk_at "len") (by walk_at "len") ?_; intro _ _)
    | (refine DL.v_strB 10 10000000000 (by decide) (by decide) (by decide) (by walk_at "len") (by walk_at "len") ?_; intro _ _))
  | ((with_reducible refine DL.k_mul1 ?_ ?_ ?_); walk_at "len"; walk_at "len")
  | ((with_reducible refine (?_ : DL.mulD (DL.D.str (DL.mk _)) (DL.D.int _) _ _)); first
    | (refine DL.k_mulS (by walk_at "len") (by walk_at "len") 1 (by walk_at "len") (by walk_at "len") ?_; intro _ _ _)
    | (refine DL.k_mulS (by walk_at "len") (by walk_at "len") 2 (by walk_at "len") (by walk_at "len") ?_; intro _ _ _)
    | (refine DL.k_mulS (by walk_at "len") (by walk_at "len") 3 (by walk_at "len") (by walk_at "len") ?_; intro _ _ _)
    | (refine DL.k_mulS (by walk_at "len") (by walk_at "len") 6 (by walk_at "len") (by walk_at "len") ?_; intro _ _ _)
    | (refine DL.k_mulS (by walk_at "len") (by walk_at "len") 10 (by walk_at "len") (by walk_at "len") ?_; intro _ _ _))
  | ((with_reducible refine (?_ : DL.ixD (DL.D.ref _) (DL.D.int _) _ _)); first
    | ((refine DL.k_ixASL (by assumption) 0 rfl rfl (by walk_at "len") (by walk_at "len") ?_); intro _ hl; simp only [List.cons_append, List.nil_append, DL.mxl_mk, DL.mxl_nil, DL.tl_mk, List.length_append, List.length_cons, List.length_nil] at hl)
    | ((refine DL.k_ixAIL (by assumption) 0 rfl rfl (by walk_at "len") (by walk_at "len") ?_); intro _ hl hl2; simp only [DL.mxi, DL.mni] at hl hl2)
    | ((refine DL.k_ixASL (by assumption) 1 rfl rfl (by walk_at "len") (by walk_at "len") ?_); intro _ hl; simp only [List.cons_append, List.nil_append, DL.mxl_mk, DL.mxl_nil, DL.tl_mk, List.length_append, List.length_cons, List.length_nil] at hl)
    | ((refine DL.k_ixAIL (by assumption) 1 rfl rfl (by walk_at "len") (by walk_at "len") ?_); intro _ hl hl2; simp only [DL.mxi, DL.mni] at hl hl2)
    | ((refine DL.k_ixASL (by assumption) 2 rfl rfl (by walk_at "len") (by walk_at "len") ?_); intro _ hl; simp only [List.cons_append, List.nil_append, DL.mxl_mk, DL.mxl_nil, DL.tl_mk, List.length_append, List.length_cons, List.length_nil] at hl)
    | ((refine DL.k_ixAIL (by assumption) 2 rfl rfl (by walk_at "len") (by walk_at "len") ?_); intro _ hl hl2; simp only [DL.mxi, DL.mni] at hl hl2)
    | ((refine DL.k_ixASL (by assumption) 3 rfl rfl (by walk_at "len") (by walk_at "len") ?_); intro _ hl; simp only [List.cons_append, List.nil_append, DL.mxl_mk, DL.mxl_nil, DL.tl_mk, List.length_append, List.length_cons, List.length_nil] at hl)
    | ((refine DL.k_ixAIL (by assumption) 3 rfl rfl (by walk_at "len") (by walk_at "len") ?_); intro _ hl hl2; simp only [DL.mxi, DL.mni] at hl hl2)))
local macro_rules | `(tactic| walk_at "au") => `(tactic| repeat walk_at "au1")
local macro_rules | `(tactic| walk_at "all") => `(tactic| repeat' first | walk_at "any1" | walk_at "br")
local macro_rules | `(tactic| walk_at "ac") => `(tactic| repeat ((fail_if_success (with_reducible first | refine (?_ : DL.dSeq (DL.dIf _ _ _) _ _ _ _) | refine (?_ : DL.dSeq (DL.dWhile _ _) _ _ _ _))); walk_at "au1"))
local macro_rules | `(tactic| walk_at "a0") => `(tactic| repeat ((fail_if_success (with_reducible refine (?_ : DL.dSeq _ _ _ _ _))); walk_at "au1"))
local macro_rules | `(tactic| walk_at "sb") => `(tactic| repeat' first | exact List.Sublist.slnil | exact List.nil_sublist _ | (refine List.Sublist.cons₂ _ ?_) | (refine List.Sublist.cons _ ?_))
namespace CK21
open PySem DL
open L2 (atI atI_nat)
/-- with.stars(glob, reached): 0 glob, 1 reached, 2 found, 3 place -/
abbrev N_with_stars : List Str := ["glob", "reached", "found", "place"]
theorem st0_with_stars (a0 a1 : D) : dstart N_with_stars [a0, a1] = [some a0, some a1, none, none] := rfl
def w_with_stars : DTS := (dSeq (dAsg (dLst dNil) (gNm 2))
  (dSeq (dFor (iRa1 (dOp addD (dCB lenD (dCons (dVar 0) dNil)) (dC (.int 1)))) (gNm 3) (dIf (dTest (dDIn (dVar 3) (dVar 1))) (dDrop (dBM "list" appD (dVar 2) (dCons (dVar 3) dNil))) (dIf (dAnd (dTest (dOp gtD (dVar 3) (dC (.int 0)))) (dAnd (dTest (dOp eqD (dOp ixD (dVar 0) (dOp subD (dVar 3) (dC (.int 1)))) (dC (.str "*")))) (dTest (dOp inD (dOp subD (dVar 3) (dC (.int 1))) (dVar 2))))) (dDrop (dBM "list" appD (dVar 2) (dCons (dVar 3) dNil))) dNext)))
  (dRet (dCB tupF (dCons (dVar 2) dNil)))))
def sp_with_stars : DSp := fun ds g Q => match ds with
  | [.str z, .ref r] => ∃ (l : List Nat) (kvs : List (L2.Key × D)) (R : Nat → Bool), z = mk l ∧ g r = some (.dct kvs) ∧ (∀ p : Nat, p ≤ l.length → (getD kvs (.inl (p : Int))).isSome = R p) ∧ l.length ≤ 1000000 ∧ ∀ g', Up [] g g' → Q (.tup (plD (plsL l (starC l R)))) g'
  | _ => False
theorem len_with_stars : ∀ ds g Q, sp_with_stars ds g Q → ds.length = 2 := fun ds g Q h => by
  unfold sp_with_stars at h; split at h <;> first | rfl | exact h.elim
theorem rd_with_stars : ∀ ds g Q, sp_with_stars ds g Q → w_with_stars { nx := fun _ g => Q .non g, rt := Q } (dstart N_with_stars ds) g := fun ds g Q h => by
  unfold sp_with_stars at h; split at h
  case h_2 => exact h.elim
  obtain ⟨l, kvs, R, rfl, hr, hR, hl, q⟩ := h
  rename_i r
  rw [st0_with_stars]
  unfold w_with_stars
  rw [star_mk]
  walk_at "go"
  refine ⟨by rw [szl]; simp, fun F hF => ?_⟩
  have nF : r ≠ F := fun z => by rw [z, hF] at hr; cases hr
  walk_at "go"
  refine v_lenM (by omega) ?_
  walk_at "go"
  have en : ((l.length : Int) + 1).toNat = l.length + 1 := by omega
  rw [en]
  refine ⟨fun i e g' => ∃ x, e = [some (.str (mk l)), some (.ref r), some (.ref F), x] ∧ Up [] g g' ∧ g' F = some (.lst (plD ((List.range i).filter (starC l R)))), ⟨_, rfl, .new hF, gup_same⟩, fun _ _ _ _ _ => trivial, ?_, ?_⟩
  · rintro i d e g' hd ⟨x, rfl, U, hg⟩
    obtain ⟨hi, rfl⟩ := ran0 hd
    have hlen : ((List.range i).filter (starC l R)).length ≤ i := by
      have := List.length_filter_le (starC l R) (List.range i)
      rwa [List.length_range] at this
    have add : starC l R i = true → dDrop (dBM "list" appD (dVar 2) (dCons (dVar 3) dNil)) { nx := fun e g' => ∃ x, e = [some (.str (mk l)), some (.ref r), some (.ref F), x] ∧ Up [] g g' ∧ g' F = some (.lst (plD ((List.range (i + 1)).filter (starC l R)))), rt := Q, bk := dRet (dCB tupF (dCons (dVar 2) dNil)) { nx := fun _ g => Q .non g, rt := Q }, ct := fun e g' => ∃ x, e = [some (.str (mk l)), some (.ref r), some (.ref F), x] ∧ Up [] g g' ∧ g' F = some (.lst (plD ((List.range (i + 1)).filter (starC l R)))) } [some (.str (mk l)), some (.ref r), some (.ref F), some (.int (i : Int))] g' := fun h => by
      walk_at "go"
      refine v_rcvL hg ?_
      walk_at "go"
      refine v_app' hg (by rw [szl, plD_len]; omega) ?_
      walk_at "go"
      refine ⟨_, rfl, U.mut hF, ?_⟩
      rw [gup_same, filt_snoc, if_pos h, plD_snoc]
    have skip : starC l R i = false → (∃ x, [some (D.str (mk l)), some (.ref r), some (.ref F), some (.int (i : Int))] = [some (.str (mk l)), some (.ref r), some (.ref F), x] ∧ Up [] g g' ∧ g' F = some (.lst (plD ((List.range (i + 1)).filter (starC l R))))) := fun h => by
      refine ⟨_, rfl, U, ?_⟩
      rw [filt_snoc, h, hg]; simp
    walk_at "go"
    refine ⟨r, kvs, .inl (i : Int), rfl, U.get0 hr, rfl, ?_⟩
    walk_at "go"
    rw [hR i (by omega)]
    refine iteB (fun h => ?_) (fun h => ?_)
    · exact add (star_of h)
    walk_at "go"
    refine iteD (fun h0 => ?_) (fun h0 => ?_)
    · obtain ⟨j, rfl⟩ : ∃ j, i = j + 1 := ⟨i - 1, by omega⟩
      have hj : j < l.length := by omega
      have ej : ((j + 1 : Nat) : Int) - 1 = (j : Int) := by omega
      have es := starC_step l R j
      rw [h, List.getElem?_eq_getElem hj, Bool.false_or] at es
      walk_at "go"
      rw [ej]
      refine v_ixM (by omega) (L2.atI_nat (List.getElem?_eq_getElem hj)) ?_
      walk_at "go"
      refine iteD (fun h1 => ?_) (fun h1 => ?_)
      · have h1 := mk_sing.mp h1
        rw [h1] at es
        have es : starC l R (j + 1) = starC l R j := es.trans (by simp)
        walk_at "go"
        rw [ej]
        refine v_inLI hg ?_
        have em : decide ((j : Int) ∈ plI ((List.range (j + 1)).filter (starC l R))) = starC l R j := by
          cases hs : starC l R j with
          | true => exact decide_eq_true (plI_mem.mpr (List.mem_filter.mpr ⟨List.mem_range.mpr (by omega), hs⟩))
          | false => exact decide_eq_false fun z => absurd (List.mem_filter.mp (plI_mem.mp z)).2 (by rw [hs]; decide)
        rw [em]
        walk_at "go"
        refine iteB (fun h2 => ?_) (fun h2 => ?_)
        · exact add (es.trans h2)
        · exact skip (es.trans h2)
      · refine iteB (fun z => by cases z) (fun _ => ?_)
        refine skip (es.trans ?_)
        rw [show (some l[j] == some 42) = false from beq_eq_false_iff_ne.mpr fun z => h1 (by rw [Option.some.inj z]), Bool.false_and]
    · refine iteB (fun z => by cases z) (fun _ => ?_)
      refine skip ?_
      have : i = 0 := by omega
      subst this
      exact h
  · rintro e g' ⟨x, rfl, U, hg⟩
    rw [ran_len] at hg
    walk_at "go"
    exact q g' U
/-- follows(glob, places, character): 0 glob, 1 places, 2 character, 3 reached, 4 place -/
abbrev N_follows : List Str := ["glob", "places", "character", "reached", "place"]
theorem st0_follows (a0 a1 a2 : D) : dstart N_follows [a0, a1, a2] = [some a0, some a1, some a2, none, none] := rfl
def w_follows : DTS := (dSeq (dAsg dDNew (gNm 3))
  (dSeq (dFor (iAny (dVar 1)) (gNm 4) (dSeq (dIf (dAnd (dTest (dOp gtD (dVar 4) (dC (.int 0)))) (dTest (dOp eqD (dOp ixD (dVar 0) (dOp subD (dVar 4) (dC (.int 1)))) (dC (.str "*"))))) (dDPut (dVar 3) (dVar 4) (dC (.bl true))) dNext)
  (dIf (dAnd (dTest (dOp ltD (dVar 4) (dCB lenD (dCons (dVar 0) dNil)))) (dTest (dOp inD (dOp ixD (dVar 0) (dVar 4)) (dTup (dCons (dC (.str "?")) (dCons (dVar 2) dNil)))))) (dDPut (dVar 3) (dOp addD (dVar 4) (dC (.int 1))) (dC (.bl true))) dNext)))
  (dRet (dCall sp_with_stars [] (dCons (dVar 0) (dCons (dVar 3) dNil))))))
def sp_follows : DSp := fun ds g Q => match ds with
  | [.str z, .tup ps, .str c'] => ∃ (l : List Nat) (S : Nat → Bool) (c : Nat), z = mk l ∧ ps = plD (plsL l S) ∧ c' = mk [c] ∧ l.length ≤ 1000000 ∧ ∀ g', Up [] g g' → Q (.tup (plD (plsL l (stepA l S c)))) g'
  | _ => False
theorem len_follows : ∀ ds g Q, sp_follows ds g Q → ds.length = 3 := fun ds g Q h => by
  unfold sp_follows at h; split at h <;> first | rfl | exact h.elim
theorem rd_follows : ∀ ds g Q, sp_follows ds g Q → w_follows { nx := fun _ g => Q .non g, rt := Q } (dstart N_follows ds) g := fun ds g Q h => by
  unfold sp_follows at h; split at h
  case h_2 => exact h.elim
  obtain ⟨l, S, c, rfl, rfl, rfl, hl, q⟩ := h
  rw [st0_follows]
  unfold w_follows
  rw [star_mk, ques_mk]
  have hlen := plsL_len l S
  walk_at "go"
  intro r hr
  walk_at "go"
  refine s_anyT ?_
  walk_at "go"
  refine ⟨fun i e g' => ∃ kvs x, e = [some (.str (mk l)), some (.tup (plD (plsL l S))), some (.str (mk [c])), some (.ref r), x] ∧ Up [] g g' ∧ g' r = some (.dct kvs) ∧ kvs.length ≤ 2 * i ∧ ∀ p : Nat, (getD kvs (.inl (p : Int))).isSome = baseA l c (fun p => decide (p ∈ (plsL l S).take i)) p, ⟨[], _, rfl, .new hr, gup_same, Nat.zero_le _, fun p => by cases p with
    | zero => rfl
    | succ p => rw [baseA_succ]; simp [getD]⟩, fun _ _ _ _ _ => trivial, ?_, ?_⟩
  · rintro i d e g' hd ⟨kvs, x, rfl, U, hg, hk, hG⟩
    obtain ⟨k, hki, rfl⟩ : ∃ k : Nat, (plsL l S)[i]? = some k ∧ d = .int (k : Int) := by
      unfold plD plI at hd
      rw [List.map_map, List.getElem?_map] at hd
      cases hi : (plsL l S)[i]? with
      | none => rw [hi] at hd; cases hd
      | some k => rw [hi] at hd; exact ⟨k, rfl, (Option.some.inj hd).symm⟩
    have hi := (List.getElem?_eq_some_iff.mp hki).1
    have hkn := (plsL_mem.mp (List.mem_of_getElem? hki)).1
    have et : (plsL l S).take (i + 1) = (plsL l S).take i ++ [k] := by rw [List.take_add_one, hki]; rfl
    have fini : ∀ kvs' : List (L2.Key × D), (∀ p : Nat, (getD kvs' (.inl (p : Int))).isSome = ((getD kvs (.inl (p : Int))).isSome || (decide (0 < k ∧ l[k - 1]? = some 42) && decide (p = k)) || (decide (l[k]? = some 63 ∨ l[k]? = some c) && decide (p = k + 1)))) →
        ∀ p : Nat, (getD kvs' (.inl (p : Int))).isSome = baseA l c (fun p => decide (p ∈ (plsL l S).take (i + 1))) p := fun kvs' h p => by
      rw [h p, hG p, et]
      cases p with
      | zero =>
        have h1 : (decide (0 < k ∧ l[k - 1]? = some 42) && decide (0 = k)) = false := by
          by_cases hk0 : 0 = k
          · subst hk0; simp
          · simp [hk0]
        rw [h1, show decide (0 = k + 1) = false from decide_eq_false (by omega)]
        simp [baseA]
      | succ p =>
        rw [baseA_succ, baseA_succ]
        simp only [List.mem_append, List.mem_singleton, Bool.decide_or]
        by_cases e1 : p + 1 = k
        · subst e1
          have e2 : ¬ p = p + 1 := by omega
          have e3 : ¬ p + 1 = p + 1 + 1 := by omega
          simp [e2, e3]
          cases decide (p + 1 ∈ List.take i (plsL l S)) <;> cases decide (p ∈ List.take i (plsL l S)) <;> cases h42 : (l[p]? == some 42) <;> simp_all
        · by_cases e2 : p = k
          · subst e2
            have e3 : ¬ p + 1 = p := by omega
            simp [e3]
            cases decide (p + 1 ∈ List.take i (plsL l S)) <;> cases decide (p ∈ List.take i (plsL l S)) <;> cases h42 : (l[p]? == some 42) <;> cases h63 : (l[p]? == some 63) <;> cases hcc : (l[p]? == some c) <;> simp_all
          · have e3 : ¬ p + 1 = k + 1 := by omega
            simp [e1, e2, e3]
    walk_at "gs"
    refine s_cut (fun e g2 => ∃ kvs', e = [some (.str (mk l)), some (.tup (plD (plsL l S))), some (.str (mk [c])), some (.ref r), some (.int (k : Int))] ∧ Up [] g g2 ∧ g2 r = some (.dct kvs') ∧ kvs'.length ≤ 2 * i + 1 ∧ ∀ p : Nat, (getD kvs' (.inl (p : Int))).isSome = ((getD kvs (.inl (p : Int))).isSome || (decide (0 < k ∧ l[k - 1]? = some 42) && decide (p = k)))) ?_ ?_
    · have skip : ¬ (0 < k ∧ l[k - 1]? = some 42) → ∃ kvs', [some (D.str (mk l)), some (.tup (plD (plsL l S))), some (.str (mk [c])), some (.ref r), some (.int (k : Int))] = [some (.str (mk l)), some (.tup (plD (plsL l S))), some (.str (mk [c])), some (.ref r), some (.int (k : Int))] ∧ Up [] g g' ∧ g' r = some (.dct kvs') ∧ kvs'.length ≤ 2 * i + 1 ∧ ∀ p : Nat, (getD kvs' (.inl (p : Int))).isSome = ((getD kvs (.inl (p : Int))).isSome || (decide (0 < k ∧ l[k - 1]? = some 42) && decide (p = k))) := fun h =>
        ⟨kvs, rfl, U, hg, by omega, fun p => by rw [decide_eq_false h]; simp⟩
      walk_at "go"
      refine iteD (fun h0 => ?_) (fun h0 => ?_)
      · obtain ⟨j, rfl⟩ : ∃ j, k = j + 1 := ⟨k - 1, by omega⟩
        have hj : j < l.length := by omega
        have ej : ((j + 1 : Nat) : Int) - 1 = (j : Int) := by omega
        have ex : l[j + 1 - 1]? = some l[j] := List.getElem?_eq_getElem hj
        walk_at "go"
        rw [ej]
        refine v_ixM (by omega) (L2.atI_nat (List.getElem?_eq_getElem hj)) ?_
        walk_at "go"
        refine iteD (fun h1 => ?_) (fun h1 => ?_)
        · walk_at "go"
          refine ⟨r, kvs, .inl ((j + 1 : Nat) : Int), rfl, hg, rfl, by rw [szl]; omega, putD kvs (.inl ((j + 1 : Nat) : Int)) (.bl true), rfl, U.mut hr, gup_same, by have := putD_len kvs (.inl ((j + 1 : Nat) : Int)) (.bl true); omega, fun p => ?_⟩
          rw [getD_put, decide_eq_true ⟨by omega, by rw [ex, mk_sing.mp h1]⟩]
          by_cases hp : p = j + 1
          · subst hp; simp
          · have : ¬ (Sum.inl (p : Int) : L2.Key) = Sum.inl ((j + 1 : Nat) : Int) := fun z => by injection z with z; omega
            rw [if_neg this]; simp [hp]
        · walk_at "go"
          exact skip fun z => h1 (by rw [ex] at z; rw [Option.some.inj z.2])
      · refine iteB (fun z => by cases z) (fun _ => ?_)
        walk_at "go"
        exact skip fun z => h0 (by omega)
    rintro e g2 ⟨kvs', rfl, U2, hg2, hk2, hG2⟩
    have done : (¬ (l[k]? = some 63 ∨ l[k]? = some c)) → ∃ kvs x, [some (D.str (mk l)), some (.tup (plD (plsL l S))), some (.str (mk [c])), some (.ref r), some (.int (k : Int))] = [some (.str (mk l)), some (.tup (plD (plsL l S))), some (.str (mk [c])), some (.ref r), x] ∧ Up [] g g2 ∧ g2 r = some (.dct kvs) ∧ kvs.length ≤ 2 * (i + 1) ∧ ∀ p : Nat, (getD kvs (.inl (p : Int))).isSome = baseA l c (fun p => decide (p ∈ (plsL l S).take (i + 1))) p := fun h =>
      ⟨kvs', _, rfl, U2, hg2, by omega, fini kvs' fun p => by rw [hG2 p, decide_eq_false h]; simp⟩
    walk_at "go"
    refine v_lenM (by omega) ?_
    walk_at "go"
    refine iteD (fun h0 => ?_) (fun h0 => ?_)
    · have hkl : k < l.length := by omega
      have ex : l[k]? = some l[k] := List.getElem?_eq_getElem hkl
      walk_at "go"
      refine v_ixM (by omega) (L2.atI_nat ex) ?_
      walk_at "go"
      refine ⟨by rw [szl]; simp, ?_⟩
      refine v_inTS (us := [mk [63], mk [c]]) ?_
      walk_at "go"
      refine iteD (fun h1 => ?_) (fun h1 => ?_)
      · walk_at "go"
        have e1 : ((k : Int) + 1) = ((k + 1 : Nat) : Int) := by omega
        rw [e1]
        refine ⟨r, kvs', .inl ((k + 1 : Nat) : Int), rfl, hg2, rfl, by rw [szl]; omega, putD kvs' (.inl ((k + 1 : Nat) : Int)) (.bl true), _, rfl, U2.mut hr, gup_same, by have := putD_len kvs' (.inl ((k + 1 : Nat) : Int)) (.bl true); omega, fini _ fun p => ?_⟩
        have hx : l[k]? = some 63 ∨ l[k]? = some c := by
          rw [ex]
          simp only [List.mem_cons, List.mem_nil_iff, or_false, mk_sing] at h1
          exact h1.elim (fun z => .inl (by rw [z])) fun z => .inr (by rw [z])
        rw [getD_put, decide_eq_true hx]
        by_cases hp : p = k + 1
        · subst hp; simp
        · have : ¬ (Sum.inl (p : Int) : L2.Key) = Sum.inl ((k + 1 : Nat) : Int) := fun z => by injection z with z; omega
          rw [if_neg this, hG2 p]; simp [hp]
      · walk_at "go"
        refine done fun z => h1 ?_
        rw [ex] at z
        simp only [List.mem_cons, List.mem_nil_iff, or_false, mk_sing]
        exact z.elim (fun z => .inl (Option.some.inj z)) fun z => .inr (Option.some.inj z)
    · refine iteB (fun z => by cases z) (fun _ => ?_)
      walk_at "go"
      refine done fun z => ?_
      rw [List.getElem?_eq_none (by omega)] at z
      rcases z with z | z <;> cases z
  · rintro e g' ⟨kvs, x, rfl, U, hg, hk, hG⟩
    rw [plD_len, List.take_length] at hG
    walk_at "go"
    have hb : ∀ p : Nat, p ≤ l.length → (getD kvs (.inl (p : Int))).isSome = baseA l c S p := fun p hp => by
      rw [hG p]
      cases p with
      | zero => rfl
      | succ p =>
        have e1 : ∀ p, p ≤ l.length → decide (p ∈ plsL l S) = S p := fun p hp => by
          cases hs : S p with
          | true => exact decide_eq_true (plsL_mem.mpr ⟨hp, hs⟩)
          | false => exact decide_eq_false fun z => by rw [(plsL_mem.mp z).2] at hs; cases hs
        rw [baseA_succ, baseA_succ, e1 _ hp, e1 _ (by omega)]
    exact ⟨l, kvs, baseA l c S, rfl, hg, hb, hl, fun g2 U2 => q g2 (U.trans U2)⟩
/-- standing(glob, beginning): 0 glob, 1 beginning, 2 places, 3 character -/
abbrev N_standing : List Str := ["glob", "beginning", "places", "character"]
theorem st0_standing (a0 a1 : D) : dstart N_standing [a0, a1] = [some a0, some a1, none, none] := rfl
def w_standing : DTS := (dSeq (dAsg (dCall sp_with_stars [] (dCons (dVar 0) (dCons (dDisp (((dC (.int 0)), (dC (.bl true))) :: [])) dNil))) (gNm 2))
  (dSeq (dFor (iAny (dVar 1)) (gNm 3) (dSeq (dIf (dNot (dTru (dVar 2))) dBreak dNext)
  (dAsg (dCall sp_follows [] (dCons (dVar 0) (dCons (dVar 2) (dCons (dVar 3) dNil)))) (gNm 2))))
  (dRet (dVar 2))))
def sp_standing : DSp := fun ds g Q => match ds with
  | [.str z, .str b] => (TL.tl z).length ≤ 1000000 ∧ ∀ g', Up [] g g' → Q (.tup (plD (plsL (TL.tl z) (standA (TL.tl z) (TL.tl b))))) g'
  | _ => False
theorem len_standing : ∀ ds g Q, sp_standing ds g Q → ds.length = 2 := fun ds g Q h => by
  unfold sp_standing at h; split at h <;> first | rfl | exact h.elim
theorem rd_standing : ∀ ds g Q, sp_standing ds g Q → w_standing { nx := fun _ g => Q .non g, rt := Q } (dstart N_standing ds) g := fun ds g Q h => by
  unfold sp_standing at h; split at h
  case h_2 => exact h.elim
  obtain ⟨hl, q⟩ := h
  rename_i z b
  obtain ⟨l, rfl⟩ : ∃ l, z = mk l := ⟨_, (mk_tl z).symm⟩
  rw [tl_mk] at hl q
  rw [st0_standing]
  unfold w_standing
  walk_at "go"
  intro r hr
  refine ⟨gup_same, [(.inl 0, .bl true)], rfl, by decide, ?_⟩
  walk_at "go"
  have hU : Up [] g (gup (gup g r (.dct [])) r (.dct (mergeD [] [(.inl 0, .bl true)]))) := (Up.new hr).mut hr
  refine ⟨l, mergeD [] [(.inl 0, .bl true)], fun p => p == 0, rfl, gup_same, fun p _ => ?_, hl, fun g1 U1 => ?_⟩
  · by_cases hp : p = 0
    · subst hp; rfl
    · show _ = (p == 0)
      rw [beq_eq_false_iff_ne.mpr hp]
      show (getD (putD [] (Sum.inl 0 : L2.Key) (.bl true)) (.inl (p : Int))).isSome = false
      rw [getD_put, if_neg (fun z => by injection z with z; omega)]
      rfl
  have U := hU.trans U1
  walk_at "go"
  refine s_anyS ?_
  walk_at "go"
  have fini : ∀ g' S x, Up [] g g' → (∀ p, p ≤ l.length → S p = standA l (TL.tl b) p) → dRet (dVar 2) { nx := fun _ g => Q .non g, rt := Q } [some (.str (mk l)), some (.str b), some (.tup (plD (plsL l S))), x] g' := fun g' S x U h => by
    walk_at "go"
    rw [plsL_congr h]
    exact q g' U
  refine ⟨fun i e g' => ∃ x, e = [some (.str (mk l)), some (.str b), some (.tup (plD (plsL l (standA l ((TL.tl b).take i))))), x] ∧ Up [] g g', ⟨_, rfl, U⟩, fun _ _ _ _ _ => trivial, ?_, ?_⟩
  · rintro i d e g' hd ⟨x, rfl, U⟩
    obtain ⟨c, hc, rfl⟩ := walk_get (z := b) hd
    walk_at "go"
    refine ⟨_, rfl, ?_⟩
    cases hem : (plD (plsL l (standA l ((TL.tl b).take i)))).isEmpty with
    | true =>
      refine iteB (fun _ => ?_) (fun z => by cases z)
      refine s_brk ?_
      refine fini g' _ _ U fun p hp => ?_
      have hz : ∀ p, p ≤ l.length → standA l ((TL.tl b).take i) p = false := fun p hp => by
        cases hs : standA l ((TL.tl b).take i) p with
        | false => rfl
        | true =>
          exfalso
          have hm := plsL_mem.mpr ⟨hp, hs⟩
          have h0 := List.isEmpty_iff.mp hem
          have h1 := plD_len (plsL l (standA l ((TL.tl b).take i)))
          rw [h0] at h1
          rw [List.length_eq_zero_iff.mp h1.symm] at hm
          cases hm
      rw [hz p hp]
      have e1 : standA l (TL.tl b) = ((TL.tl b).drop i).foldl (stepA l) (standA l ((TL.tl b).take i)) := by
        unfold standA
        rw [← List.foldl_append, List.take_append_drop]
      rw [e1]
      exact (fold_none _ hz p hp).symm
    | false =>
      refine iteB (fun z => by cases z) (fun _ => ?_)
      walk_at "go"
      refine ⟨l, _, c, rfl, rfl, rfl, hl, fun g2 U2 => ?_⟩
      walk_at "go"
      have e1 : standA l ((TL.tl b).take (i + 1)) = stepA l (standA l ((TL.tl b).take i)) c := by
        unfold standA
        rw [List.take_add_one, hc, List.foldl_append]
        rfl
      exact ⟨_, by rw [e1]; rfl, U.trans U2⟩
  · rintro e g' ⟨x, rfl, U⟩
    refine fini g' _ _ U fun p _ => ?_
    have e1 : (TL.tl b).take (((b.cps.toList).map fun c => D.str ⟨#[c]⟩).length) = TL.tl b := by
      rw [List.length_map]
      exact List.take_length
    rw [e1]
/-- fits(glob, board): 0 glob, 1 board -/
abbrev N_fits : List Str := ["glob", "board"]
theorem st0_fits (a0 a1 : D) : dstart N_fits [a0, a1] = [some a0, some a1] := rfl
def w_fits : DTS := (dSeq (dIf (dTest (dOp eqD (dVar 0) (dC (.str "*")))) (dRet (dC (.bl true))) dNext)
  (dSeq (dIf (dAnd (dTest (dOp notInD (dC (.str "*")) (dVar 0))) (dTest (dOp notInD (dC (.str "?")) (dVar 0)))) (dRet (dOp eqD (dVar 0) (dVar 1))) dNext)
  (dRet (dOp inD (dCB lenD (dCons (dVar 0) dNil)) (dCall sp_standing [] (dCons (dVar 0) (dCons (dVar 1) dNil)))))))
def sp_fits : DSp := fun ds g Q => match ds with
  | [.str z, .str b] => (TL.tl z).length ≤ 1000000 ∧ ∀ g', Up [] g g' → Q (.bl (fitsB (TL.tl z) (TL.tl b))) g'
  | _ => False
theorem len_fits : ∀ ds g Q, sp_fits ds g Q → ds.length = 2 := fun ds g Q h => by
  unfold sp_fits at h; split at h <;> first | rfl | exact h.elim
theorem rd_fits : ∀ ds g Q, sp_fits ds g Q → w_fits { nx := fun _ g => Q .non g, rt := Q } (dstart N_fits ds) g := fun ds g Q h => by
  unfold sp_fits at h; split at h
  case h_2 => exact h.elim
  obtain ⟨hl, q⟩ := h
  rename_i z b
  obtain ⟨l, rfl⟩ : ∃ l, z = mk l := ⟨_, (mk_tl z).symm⟩
  obtain ⟨r, rfl⟩ : ∃ l, b = mk l := ⟨_, (mk_tl b).symm⟩
  rw [tl_mk] at hl q
  rw [tl_mk] at q
  rw [st0_fits]
  unfold w_fits
  rw [star_mk, ques_mk]
  walk_at "go"
  refine iteD (fun h0 => ?_) (fun h0 => ?_)
  · walk_at "go"
    have := q g .refl
    rw [mk_inj h0, fits_star] at this
    exact this
  walk_at "gs"
  have slow : dRet (dOp inD (dCB lenD (dCons (dVar 0) dNil)) (dCall sp_standing [] (dCons (dVar 0) (dCons (dVar 1) dNil)))) { nx := fun _ g => Q .non g, rt := Q } [some (.str (mk l)), some (.str (mk r))] g := by
    walk_at "go"
    refine v_lenM (by omega) ?_
    walk_at "go"
    refine ⟨by rw [tl_mk]; exact hl, fun g1 U1 => ?_⟩
    rw [tl_mk, tl_mk]
    refine v_inTI (us := plI (plsL l (standA l r))) ?_
    have e1 : decide ((l.length : Int) ∈ plI (plsL l (standA l r))) = fitsB l r := by
      cases hf : fitsB l r with
      | true => exact decide_eq_true (plI_mem.mpr (plsL_mem.mpr ⟨Nat.le_refl _, hf⟩))
      | false => exact decide_eq_false fun z => absurd ((plsL_mem.mp (plI_mem.mp z)).2.symm.trans hf) (by decide)
    rw [e1]
    exact q g1 U1
  refine DL.s_seq ?_
  refine DL.s_if ?_
  walk_at "gs"
  refine v_nin1 ?_
  walk_at "gs"
  rw [tl_mk]
  refine iteN (fun h1 => ?_) (fun h1 => ?_)
  · walk_at "gs"
    refine v_nin1 ?_
    walk_at "gs"
    rw [tl_mk]
    refine iteN (fun h2 => ?_) (fun h2 => ?_)
    · walk_at "go"
      refine v_eqM ?_
      have := q g .refl
      rw [fits_plain h1 h2] at this
      exact this
    · refine s_next ?_
      exact slow
  · refine iteB (fun z => by cases z) (fun _ => ?_)
    refine s_next ?_
    exact slow
/-- lets(pattern, board): 0 pattern, 1 board, 2 item -/
abbrev N_lets : List Str := ["pattern", "board", "item"]
theorem st0_lets (a0 a1 : D) : dstart N_lets [a0, a1] = [some a0, some a1, none] := rfl
def w_lets : DTS := (dSeq (dFor (DL.iRev (dBM "str" splitD (dVar 0) (dCons (dC (.str ",")) dNil))) (gNm 2) (dIf (dTest (dOp eqD (dOp ixD (dVar 2) (dC (.int 0))) (dC (.str "!")))) (dIf (dTru (dCall sp_fits [] (dCons (dSl (dVar 2) (dPart (dC (.int 1))) dNo) (dCons (dVar 1) dNil)))) (dRet (dC (.bl false))) dNext) (dIf (dTru (dCall sp_fits [] (dCons (dVar 2) (dCons (dVar 1) dNil)))) (dRet (dC (.bl true))) dNext)))
  (dRet (dC (.bl false))))
def sp_lets : DSp := fun ds g Q => match ds with
  | [.str p, .str b] => PatOk p ∧ (TL.tl b).length ≤ 1000000 ∧ ∀ g', Up [] g g' → Q (.bl (letsB p b)) g'
  | _ => False
theorem len_lets : ∀ ds g Q, sp_lets ds g Q → ds.length = 2 := fun ds g Q h => by
  unfold sp_lets at h; split at h <;> first | rfl | exact h.elim
theorem rd_lets : ∀ ds g Q, sp_lets ds g Q → w_lets { nx := fun _ g => Q .non g, rt := Q } (dstart N_lets ds) g := fun ds g Q h => by
  unfold sp_lets at h; split at h
  case h_2 => exact h.elim
  obtain ⟨⟨hp, hit⟩, hb, q⟩ := h
  rename_i p b
  have hp2 := TL.len_tl p
  rw [st0_lets]
  unfold w_lets
  rw [excl_mk]
  walk_at "go"
  refine v_split comma_len (by omega) fun r hr => ?_
  have hle : ∀ x ∈ Txt.split p ("," : Str), (TL.tl x).length ≤ 1000 := fun x hx => by
    have := split_le hx; rw [TL.len_tl] at this; omega
  have U0 : Up [] g (gup g r (.lst ((Txt.split p ("," : Str)).map D.str))) := .new hr
  have hg : gup g r (.lst ((Txt.split p ("," : Str)).map D.str)) r = some (.lst ((Txt.split p ("," : Str)).map D.str)) := gup_same
  generalize gup g r (.lst ((Txt.split p ("," : Str)).map D.str)) = g0 at U0 hg ⊢
  unfold letsB at q
  generalize Txt.split p ("," : Str) = L at hg hle q hit
  refine x_lst hg ?_
  refine ⟨fun i e g' => (∀ acc, ((L.reverse.take i).reverse.map TL.tl).foldl (lstep (TL.tl b)) acc = acc) ∧ Up [] g0 g' ∧ ∃ x, e = [some (.str p), some (.str b), x], ⟨fun _ => rfl, .refl, _, rfl⟩, fun i e g' _ h => .inl (h.2.1.get0 hg), ?_, ?_⟩
  · rintro i d e g' hd ⟨hA, U, x, rfl⟩
    obtain ⟨it, hi, rfl⟩ : ∃ it, L.reverse[i]? = some it ∧ d = .str it := by
      rw [← List.map_reverse, List.getElem?_map] at hd
      cases hi : L.reverse[i]? with
      | none => rw [hi] at hd; cases hd
      | some z => rw [hi] at hd; exact ⟨z, rfl, (Option.some.inj hd).symm⟩
    have hm : it ∈ L := List.mem_reverse.mp (List.mem_of_getElem? hi)
    have hsplit : L = (L.reverse.drop (i + 1)).reverse ++ it :: (L.reverse.take i).reverse := by
      have e1 := List.take_append_drop i L.reverse
      have hil := (List.getElem?_eq_some_iff.mp hi).1
      rw [List.drop_eq_getElem_cons hil, (List.getElem?_eq_some_iff.mp hi).2] at e1
      have e2 := congrArg List.reverse e1
      rw [List.reverse_reverse, List.reverse_append, List.reverse_cons, List.append_assoc] at e2
      exact e2.symm
    have hfin : ∀ v, (∀ acc, lstep (TL.tl b) acc (TL.tl it) = v) → (L.map TL.tl).foldl (lstep (TL.tl b)) false = v := fun v hv => by
      rw [hsplit, List.map_append, List.foldl_append, List.map_cons, List.foldl_cons, hv]
      exact hA v
    have hnext : (∀ acc, lstep (TL.tl b) acc (TL.tl it) = acc) → ∀ acc, ((L.reverse.take (i + 1)).reverse.map TL.tl).foldl (lstep (TL.tl b)) acc = acc := fun hv acc => by
      rw [List.take_add_one, hi]
      show (((L.reverse.take i ++ [it]).reverse).map TL.tl).foldl _ acc = acc
      rw [List.reverse_append, List.reverse_singleton, List.singleton_append, List.map_cons, List.foldl_cons, hv]
      exact hA acc
    have hit0 := hit it hm
    have hitl := hle it hm
    obtain ⟨l, rfl⟩ : ∃ l, it = mk l := ⟨_, (mk_tl it).symm⟩
    rw [tl_mk] at hfin hnext hit0 hitl
    cases l with
    | nil => exact absurd rfl hit0
    | cons c w =>
      walk_at "go"
      refine v_ixM (by omega) (atI_ofNat (show (c :: w)[Int.toNat 0]? = some c from rfl) (by omega)) ?_
      walk_at "go"
      refine iteD (fun h1 => ?_) (fun h1 => ?_)
      · have h1 : c = 33 := mk_sing.mp h1
        walk_at "go"
        refine v_slFrom (by omega) (by omega) ?_
        walk_at "go"
        have ew : (c :: w).drop (Int.toNat 1) = w := rfl
        rw [ew]
        refine ⟨by rw [tl_mk]; rw [List.length_cons] at hitl; omega, fun g2 U2 => ?_⟩
        rw [tl_mk]
        walk_at "go"
        refine iteB (fun h2 => ?_) (fun h2 => ?_)
        · walk_at "go"
          have := q g2 ((U0.trans U).trans U2)
          rw [hfin false fun acc => by rw [lstep_cons, if_pos h1, if_pos h2]] at this
          exact this
        · walk_at "go"
          exact ⟨hnext fun acc => by rw [lstep_cons, if_pos h1, if_neg (by rw [h2]; decide)], U.trans U2, _, rfl⟩
      · have h1 : ¬ c = 33 := fun z => h1 (mk_sing.mpr z)
        walk_at "go"
        refine ⟨by rw [tl_mk]; omega, fun g2 U2 => ?_⟩
        rw [tl_mk]
        walk_at "go"
        refine iteB (fun h2 => ?_) (fun h2 => ?_)
        · walk_at "go"
          have := q g2 ((U0.trans U).trans U2)
          rw [hfin true fun acc => by rw [lstep_cons, if_neg h1, if_pos h2]] at this
          exact this
        · walk_at "go"
          exact ⟨hnext fun acc => by rw [lstep_cons, if_neg h1, if_neg (by rw [h2]; decide)], U.trans U2, _, rfl⟩
  · rintro e g' ⟨hA, U, x, rfl⟩
    walk_at "go"
    have := q g' (U0.trans U)
    have e1 : L.reverse.take ((L.map D.str).reverse.length) = L.reverse := by
      rw [List.length_reverse, List.length_map, ← List.length_reverse, List.take_length]
    rw [e1, List.reverse_reverse] at hA
    rw [hA false] at this
    exact this
theorem t_lets {k : FK} {g0 g : GS} {lo : FL} {Q : DK} {p : Str} {b : Str} (F : Fr k g0 g lo) (p0 : (PatOk p)) (p1 : ((TL.tl b).length ≤ 1000000)) (h : ∀ g', Fr k g0 g' lo → Q (.bl (letsB p b)) g') : sp_lets ([.str p, .str b] ++ []) g Q := ⟨p0, p1, fun g' u => h g' (F.up u)⟩
local macro_rules | `(tactic| walk_at "call") => `(tactic| ((with_reducible refine t_lets (by assumption) ?_ ?_ ?_); walk_at "sd"; walk_at "sd"; intro _ _))
/-- site.of(book, name): 0 book, 1 name, 2 site -/
abbrev N_site_of : List Str := ["book", "name", "site"]
theorem st0_site_of (a0 a1 : D) : dstart N_site_of [a0, a1] = [some a0, some a1, none] := rfl
def w_site_of : DTS := (dSeq (dFor (iAny (dOp ixD (dVar 0) (dC (.int 3)))) (gNm 2) (dIf (dTest (dOp eqD (dOp ixD (dVar 2) (dC (.int 1))) (dVar 1))) (dRet (dVar 2)) dNext))
  (dRet (dC .non)))
def sp_site_of : DSp := fun ds g Q => match ds with
  | [.tup bk, .str n] => ∃ b : BookR, bk = b.ds ∧ Q (dOf SiteR.d (siteOf b.sites n)) g
  | _ => False
theorem len_site_of : ∀ ds g Q, sp_site_of ds g Q → ds.length = 2 := fun ds g Q h => by
  unfold sp_site_of at h; split at h <;> first | rfl | exact h.elim
theorem rd_site_of : ∀ ds g Q, sp_site_of ds g Q → w_site_of { nx := fun _ g => Q .non g, rt := Q } (dstart N_site_of ds) g := fun ds g Q h => by
  unfold sp_site_of at h; split at h
  case h_2 => exact h.elim
  obtain ⟨b, rfl, q⟩ := h
  rename_i n
  rw [st0_site_of]
  unfold w_site_of
  unfold siteOf at q
  walk_at "go"
  refine s_anyT ?_
  walk_at "go"
  refine find_iv (fun g' => g' = g) b.sites SiteR.d (fun s => decide (s.name = n)) rfl rfl (fun _ _ => trivial) ?_ ?_
  · rintro i s x W g' hi rfl hf hW
    walk_at "go"
    refine iteD (fun h1 => ?_) (fun h1 => ?_)
    · walk_at "go"
      rw [hf (decide_eq_true h1)] at q
      exact q
    · walk_at "go"
      exact hW (decide_eq_false h1) _ rfl
  · rintro x g' rfl h
    walk_at "go"
    rw [h] at q
    exact q
/-- feed.of(book, giver, taker): 0 book, 1 giver, 2 taker, 3 feed -/
abbrev N_feed_of : List Str := ["book", "giver", "taker", "feed"]
theorem st0_feed_of (a0 a1 a2 : D) : dstart N_feed_of [a0, a1, a2] = [some a0, some a1, some a2, none] := rfl
def w_feed_of : DTS := (dSeq (dFor (iAny (dOp ixD (dVar 0) (dC (.int 5)))) (gNm 3) (dIf (dAnd (dTest (dOp eqD (dOp ixD (dVar 3) (dC (.int 1))) (dVar 1))) (dTest (dOp eqD (dOp ixD (dVar 3) (dC (.int 2))) (dVar 2)))) (dRet (dVar 3)) dNext))
  (dRet (dC .non)))
def sp_feed_of : DSp := fun ds g Q => match ds with
  | [.tup bk, .str n, .str k] => ∃ b : BookR, bk = b.ds ∧ Q (dOf FeedR.d (feedOf b.feeds n k)) g
  | _ => False
theorem len_feed_of : ∀ ds g Q, sp_feed_of ds g Q → ds.length = 3 := fun ds g Q h => by
  unfold sp_feed_of at h; split at h <;> first | rfl | exact h.elim
theorem rd_feed_of : ∀ ds g Q, sp_feed_of ds g Q → w_feed_of { nx := fun _ g => Q .non g, rt := Q } (dstart N_feed_of ds) g := fun ds g Q h => by
  unfold sp_feed_of at h; split at h
  case h_2 => exact h.elim
  obtain ⟨b, rfl, q⟩ := h
  rename_i n k
  rw [st0_feed_of]
  unfold w_feed_of
  unfold feedOf at q
  walk_at "go"
  refine s_anyT ?_
  walk_at "go"
  refine find_iv (fun g' => g' = g) b.feeds FeedR.d (fun f => decide (f.giver = n) && decide (f.taker = k)) rfl rfl (fun _ _ => trivial) ?_ ?_
  · rintro i s x W g' hi rfl hf hW
    walk_at "go"
    refine iteD (fun h1 => ?_) (fun h1 => ?_)
    · walk_at "go"
      refine iteD (fun h2 => ?_) (fun h2 => ?_)
      · walk_at "go"
        rw [hf (by rw [decide_eq_true h1, decide_eq_true h2]; rfl)] at q
        exact q
      · walk_at "go"
        exact hW (by rw [decide_eq_false h2, Bool.and_false]) _ rfl
    · refine iteB (fun z => by cases z) (fun _ => ?_)
      walk_at "go"
      exact hW (by rw [decide_eq_false h1, Bool.false_and]) _ rfl
  · rintro x g' rfl h
    walk_at "go"
    rw [h] at q
    exact q
/-- carries(book, name, boards): 0 book, 1 name, 2 boards, 3 pattern, 4 board -/
abbrev N_carries : List Str := ["book", "name", "boards", "pattern", "board"]
theorem st0_carries (a0 a1 a2 : D) : dstart N_carries [a0, a1, a2] = [some a0, some a1, some a2, none, none] := rfl
def w_carries : DTS := (dSeq (dAsg (dOp ixD (dCall sp_site_of [] (dCons (dVar 0) (dCons (dVar 1) dNil))) (dC (.int 5))) (gNm 3))
  (dRet (dCB anyD (dCons (dLc (iAny (dVar 2)) 4 dYes (dCall sp_lets [] (dCons (dVar 3) (dCons (dVar 4) dNil)))) dNil))))
def sp_carries : DSp := fun ds g Q => match ds with
  | [.tup bk, .str n, .tup bs] => ∃ (b : BookR) (s : SiteR) (L : List Str), bk = b.ds ∧ siteOf b.sites n = some s ∧ bs = L.map D.str ∧ PatOk s.lot ∧ (∀ z ∈ L, (TL.tl z).length ≤ 1000000) ∧ L.length ≤ 1000000 ∧ ∀ g', Up [] g g' → Q (.bl (L.any fun z => letsB s.lot z)) g'
  | _ => False
theorem len_carries : ∀ ds g Q, sp_carries ds g Q → ds.length = 3 := fun ds g Q h => by
  unfold sp_carries at h; split at h <;> first | rfl | exact h.elim
theorem rd_carries : ∀ ds g Q, sp_carries ds g Q → w_carries { nx := fun _ g => Q .non g, rt := Q } (dstart N_carries ds) g := fun ds g Q h => by
  unfold sp_carries at h; split at h
  case h_2 => exact h.elim
  obtain ⟨b, s, L, rfl, hs, rfl, hp, hb, hn, q⟩ := h
  rename_i n
  rw [st0_carries]
  unfold w_carries
  walk_at "go"
  refine ⟨b, rfl, ?_⟩
  rw [hs]
  unfold dOf
  walk_at "go"
  refine s_anyT ?_
  walk_at "go"
  refine lc_map L D.str (fun z => .bl (letsB s.lot z)) rfl (fun _ _ => trivial) (by omega) ?_ ?_
  · intro i a g' Q' hi U k
    walk_at "go"
    exact ⟨hp, hb a (List.mem_of_getElem? hi), fun g2 U2 => k g2 U2⟩
  intro r g' hr U hg
  walk_at "go"
  refine v_any (bs := L.map fun z => letsB s.lot z) (by rw [hg, List.map_map]; rfl) ?_
  rw [List.any_map]
  exact q g' U
/-- lets.some(pattern, boards): 0 pattern, 1 boards, 2 board -/
abbrev N_lets_some : List Str := ["pattern", "boards", "board"]
theorem st0_lets_some (a0 a1 : D) : dstart N_lets_some [a0, a1] = [some a0, some a1, none] := rfl
def w_lets_some : DTS := (dRet (dCB anyD (dCons (dLc (iAny (dVar 1)) 2 dYes (dCall sp_lets [] (dCons (dVar 0) (dCons (dVar 2) dNil)))) dNil)))
def sp_lets_some : DSp := fun ds g Q => match ds with
  | [.str p, .tup bs] => ∃ L : List Str, bs = L.map D.str ∧ PatOk p ∧ (∀ b ∈ L, (TL.tl b).length ≤ 1000000) ∧ L.length ≤ 1000000 ∧ ∀ g', Up [] g g' → Q (.bl (L.any fun b => letsB p b)) g'
  | _ => False
theorem len_lets_some : ∀ ds g Q, sp_lets_some ds g Q → ds.length = 2 := fun ds g Q h => by
  unfold sp_lets_some at h; split at h <;> first | rfl | exact h.elim
theorem rd_lets_some : ∀ ds g Q, sp_lets_some ds g Q → w_lets_some { nx := fun _ g => Q .non g, rt := Q } (dstart N_lets_some ds) g := fun ds g Q h => by
  unfold sp_lets_some at h; split at h
  case h_2 => exact h.elim
  obtain ⟨L, rfl, hp, hb, hn, q⟩ := h
  rename_i p
  rw [st0_lets_some]
  unfold w_lets_some
  walk_at "go"
  refine s_anyT ?_
  walk_at "go"
  refine lc_map L D.str (fun b => .bl (letsB p b)) rfl (fun _ _ => trivial) (by omega) ?_ ?_
  · intro i a g' Q' hi U k
    walk_at "go"
    exact ⟨hp, hb a (List.mem_of_getElem? hi), fun g2 U2 => k g2 U2⟩
  intro r g' hr U hg
  walk_at "go"
  refine v_any (bs := L.map fun b => letsB p b) (by rw [hg, List.map_map]; rfl) ?_
  rw [List.any_map]
  exact q g' U
theorem t_lets_some {k : FK} {g0 g : GS} {lo : FL} {Q : DK} {L : List Str} {p : Str} (F : Fr k g0 g lo) (p0 : (PatOk p)) (p1 : ((∀ b ∈ L, (TL.tl b).length ≤ 1000000))) (p2 : (L.length ≤ 1000000)) (h : ∀ g', Fr k g0 g' lo → Q (.bl (L.any fun b => letsB p b)) g') : sp_lets_some ([.str p, .tup (L.map D.str)] ++ []) g Q := ⟨L, rfl, p0, p1, p2, fun g' u => h g' (F.up u)⟩
local macro_rules | `(tactic| walk_at "call") => `(tactic| ((with_reducible refine t_lets_some (by assumption) ?_ ?_ ?_ ?_); walk_at "sd"; walk_at "sd"; walk_at "sd"; intro _ _))
/-- is.open(feed, boards, size): 0 feed, 1 boards, 2 size -/
abbrev N_is_open : List Str := ["feed", "boards", "size"]
theorem st0_is_open (a0 a1 a2 : D) : dstart N_is_open [a0, a1, a2] = [some a0, some a1, some a2] := rfl
def w_is_open : DTS := (dRet (dAndV (dOp leD (dVar 2) (dOp ixD (dVar 0) (dC (.int 5)))) (dCall sp_lets_some [] (dCons (dOp ixD (dVar 0) (dC (.int 3))) (dCons (dVar 1) dNil)))))
def sp_is_open : DSp := fun ds g Q => match ds with
  | [.tup fd, .tup bs, .int n] => ∃ (p : Str) (m : Int) (L : List Str), fd[3]? = some (.str p) ∧ fd[5]? = some (.int m) ∧ bs = L.map D.str ∧ PatOk p ∧ (∀ b ∈ L, (TL.tl b).length ≤ 1000000) ∧ L.length ≤ 1000000 ∧ ∀ g', Up [] g g' → Q (.bl (decide (n ≤ m) && L.any fun b => letsB p b)) g'
  | _ => False
theorem len_is_open : ∀ ds g Q, sp_is_open ds g Q → ds.length = 3 := fun ds g Q h => by
  unfold sp_is_open at h; split at h <;> first | rfl | exact h.elim
theorem rd_is_open : ∀ ds g Q, sp_is_open ds g Q → w_is_open { nx := fun _ g => Q .non g, rt := Q } (dstart N_is_open ds) g := fun ds g Q h => by
  unfold sp_is_open at h; split at h
  case h_2 => exact h.elim
  obtain ⟨p, m, L, h3, h5, rfl, hp, hb, hn, q⟩ := h
  rw [st0_is_open]
  unfold w_is_open
  walk_at "go"
  refine v_ixT (atI_ofNat (i := 5) h5 (by omega)) ?_
  walk_at "go"
  refine iteD (fun h0 => ?_) (fun h0 => ?_)
  · walk_at "go"
    refine v_ixT (atI_ofNat (i := 3) h3 (by omega)) ?_
    walk_at "go"
    refine ⟨L, rfl, hp, hb, hn, fun g' U => ?_⟩
    have := q g' U
    rw [decide_eq_true h0, Bool.true_and] at this
    exact this
  · have := q g .refl
    rw [decide_eq_false h0, Bool.false_and] at this
    exact this
/-- passes(feed, boards, size, hops): 0 feed, 1 boards, 2 size, 3 hops -/
abbrev N_passes : List Str := ["feed", "boards", "size", "hops"]
theorem st0_passes (a0 a1 a2 a3 : D) : dstart N_passes [a0, a1, a2, a3] = [some a0, some a1, some a2, some a3] := rfl
def w_passes : DTS := (dRet (dAndV (dOp leD (dOp addD (dVar 3) (dC (.int 1))) (dOp ixD (dVar 0) (dC (.int 4)))) (dCall sp_is_open [] (dCons (dVar 0) (dCons (dVar 1) (dCons (dVar 2) dNil))))))
def sp_passes : DSp := fun ds g Q => match ds with
  | [.tup fd, .tup bs, .int n, .int hp] => ∃ (p : Str) (m k : Int) (L : List Str), fd[3]? = some (.str p) ∧ fd[5]? = some (.int m) ∧ fd[4]? = some (.int k) ∧ bs = L.map D.str ∧ PatOk p ∧ (∀ b ∈ L, (TL.tl b).length ≤ 1000000) ∧ L.length ≤ 1000000 ∧ ∀ g', Up [] g g' → Q (.bl (decide (hp + 1 ≤ k) && (decide (n ≤ m) && L.any fun b => letsB p b))) g'
  | _ => False
theorem len_passes : ∀ ds g Q, sp_passes ds g Q → ds.length = 4 := fun ds g Q h => by
  unfold sp_passes at h; split at h <;> first | rfl | exact h.elim
theorem rd_passes : ∀ ds g Q, sp_passes ds g Q → w_passes { nx := fun _ g => Q .non g, rt := Q } (dstart N_passes ds) g := fun ds g Q h => by
  unfold sp_passes at h; split at h
  case h_2 => exact h.elim
  obtain ⟨p, m, k, L, h3, h5, h4, rfl, hp, hb, hn, q⟩ := h
  rw [st0_passes]
  unfold w_passes
  walk_at "go"
  refine v_ixT (atI_ofNat (i := 4) h4 (by omega)) ?_
  walk_at "go"
  refine iteD (fun h0 => ?_) (fun h0 => ?_)
  · walk_at "go"
    refine ⟨p, m, L, h3, h5, rfl, hp, hb, hn, fun g' U => ?_⟩
    have := q g' U
    rw [decide_eq_true h0, Bool.true_and] at this
    exact this
  · have := q g .refl
    rw [decide_eq_false h0, Bool.false_and] at this
    exact this
/-- carriers(book, boards): 0 book, 1 boards, 2 site -/
abbrev N_carriers : List Str := ["book", "boards", "site"]
theorem st0_carriers (a0 a1 : D) : dstart N_carriers [a0, a1] = [some a0, some a1, none] := rfl
def w_carriers : DTS := (dRet (dLc (iAny (dOp ixD (dVar 0) (dC (.int 3)))) 2 (dTru (dCall sp_carries [] (dCons (dVar 0) (dCons (dOp ixD (dVar 2) (dC (.int 1))) (dCons (dVar 1) dNil))))) (dOp ixD (dVar 2) (dC (.int 1)))))
def carL (ss : List SiteR) (L : List Str) : List Str := (ss.filter fun s => L.any fun z => letsB s.lot z).map (·.name)
theorem siteOf_nd {ss : List SiteR} (h : (ss.map (·.name)).Nodup) {s : SiteR} (hs : s ∈ ss) : siteOf ss s.name = some s := by
  induction ss with
  | nil => cases hs
  | cons t r ih =>
    unfold siteOf
    rw [List.map_cons, List.nodup_cons] at h
    rw [List.find?_cons]
    rcases List.mem_cons.mp hs with rfl | hs
    · rw [decide_eq_true rfl]
    · rw [decide_eq_false fun e => h.1 (by rw [e]; exact List.mem_map_of_mem hs)]
      exact ih h.2 hs
structure BdsOk (L : List Str) : Prop where
  len : ∀ z ∈ L, (TL.tl z).length ≤ 1000000
  num : L.length ≤ 1000000
def sp_carriers : DSp := fun ds g Q => match ds with
  | [.tup bk, .tup bs] => ∃ b : BookR, ∃ L : List Str, bk = b.ds ∧ bs = L.map D.str ∧ (BookOk b) ∧ (BdsOk L) ∧ ∀ p g', g p = none → Up [] g g' → g' p = some (.lst ((carL b.sites L).map D.str)) → Q (.ref p) g'
  | _ => False
theorem len_carriers : ∀ ds g Q, sp_carriers ds g Q → ds.length = 2 := fun ds g Q h => by
  unfold sp_carriers at h; split at h <;> first | rfl | exact h.elim
theorem t_carriers {k : FK} {g0 g : GS} {lo : FL} {Q : DK} {b : BookR} {L : List Str} (F : Fr k g0 g lo) (p0 : (BookOk b)) (p1 : (BdsOk L)) (h : ∀ p g', Fr k g0 g' ((p, .lst ((carL b.sites L).map D.str), true) :: lo) → Q (.ref p) g') : sp_carriers ([.tup (b.ds), .tup (L.map D.str)] ++ []) g Q := ⟨b, L, rfl, rfl, p0, p1, fun p g' f u e => h p g' (F.ret f (F.up u) e)⟩
local macro_rules | `(tactic| walk_at "call") => `(tactic| ((with_reducible refine t_carriers (by assumption) ?_ ?_ ?_); walk_at "sd"; walk_at "sd"; intro _ _ _))
theorem rd_carriers : ∀ ds g Q, sp_carriers ds g Q → w_carriers { nx := fun _ g => Q .non g, rt := Q } (dstart N_carriers ds) g := fun ds g Q h => by
  unfold sp_carriers at h; split at h
  case h_2 => exact h.elim
  obtain ⟨b, L, rfl, rfl, p0, p1, q⟩ := h
  have F : Fr .pu g g [] := Fr.startP
  rw [st0_carriers]
  unfold w_carriers
  have hn := p0.ns
  walk_at "au"
  refine s_anyT ?_
  walk_at "au"
  refine lcFi b.sites SiteR.d (fun s => .str s.name) (fun s => L.any fun z => letsB s.lot z) F rfl (fun _ _ => trivial) (by omega) (fun i s g2 Q2 hi F2 k2 => ?_) (fun i s g2 Q2 hi hb F2 k2 => ?_) (fun p g2 F2 => ?_)
  · have hm := List.mem_of_getElem? hi
    walk_at "au"
    refine ⟨b, s, L, rfl, siteOf_nd p0.nd hm, rfl, (p0.sites s hm).lot, p1.len, p1.num, fun g3 U => ?_⟩
    walk_at "au"
    exact k2 _ U
  · walk_at "au"
    exact k2 _ .refl
  · have e : (b.sites.filter fun s => L.any fun z => letsB s.lot z).map (fun s => D.str s.name) = (carL b.sites L).map D.str := by
      unfold carL; rw [List.map_map]; rfl
    rw [e] at F2
    first | exact q _ _ (Fr.fresh (by assumption) 0 rfl) (Fr.upv (by assumption)) (Fr.at (by assumption) 0 rfl) | exact q _ _ (Fr.fresh (by assumption) 1 rfl) (Fr.upv (by assumption)) (Fr.at (by assumption) 1 rfl) | exact q _ _ (Fr.fresh (by assumption) 2 rfl) (Fr.upv (by assumption)) (Fr.at (by assumption) 2 rfl)
/-- open.feeds(book, carried, kind): 0 book, 1 carried, 2 kind, 3 feeds, 4 feed -/
abbrev N_open_feeds : List Str := ["book", "carried", "kind", "feeds", "feed"]
theorem st0_open_feeds (a0 a1 a2 : D) : dstart N_open_feeds [a0, a1, a2] = [some a0, some a1, some a2, none, none] := rfl
def w_open_feeds : DTS := (dSeq (dAsg (dLst dNil) (gNm 3))
  (dSeq (dFor (iAny (dOp ixD (dVar 0) (dC (.int 5)))) (gNm 4) (dIf (dAnd (dTest (dOp inD (dOp ixD (dVar 4) (dC (.int 1))) (dVar 1))) (dAnd (dTest (dOp inD (dOp ixD (dVar 4) (dC (.int 2))) (dVar 1))) (dTru (dCall sp_is_open [] (dCons (dVar 4) (dCons (dOp ixD (dVar 2) (dC (.int 2))) (dCons (dOp ixD (dVar 2) (dC (.int 3))) dNil))))))) (dDrop (dBM "list" appD (dVar 3) (dCons (dVar 4) dNil))) dNext))
  (dRet (dVar 3))))
def opn (cs : List Str) (L : List Str) (n : Int) (f : FeedR) : Bool := decide (f.giver ∈ cs) && (decide (f.taker ∈ cs) && (decide (n ≤ f.size) && L.any fun z => letsB f.pat z))
abbrev kindD (o : Str) (L : List Str) (n : Int) : List D := [.str "kind", .str o, .tup (L.map D.str), .int n]
def sp_open_feeds : DSp := fun ds g Q => match ds with
  | [.tup bk, .ref C, .tup kd] => ∃ b : BookR, ∃ cs : List Str, ∃ o : Str, ∃ L : List Str, ∃ n : Int, bk = b.ds ∧ kd = kindD o L n ∧ g C = some (.lst (cs.map D.str)) ∧ (BookOk b) ∧ (BdsOk L) ∧ ∀ p g', g p = none → Up [] g g' → g' p = some (.lst ((b.feeds.filter (opn cs L n)).map FeedR.d)) → Q (.ref p) g'
  | _ => False
theorem len_open_feeds : ∀ ds g Q, sp_open_feeds ds g Q → ds.length = 3 := fun ds g Q h => by
  unfold sp_open_feeds at h; split at h <;> first | rfl | exact h.elim
theorem t_open_feeds {k : FK} {g0 g : GS} {lo : FL} {Q : DK} {b : BookR} {cs : List Str} {o : Str} {L : List Str} {n : Int} {C : Addr} (F : Fr k g0 g lo) (n0 : Nat) (b0 : Bool) (e0 : lo[n0]? = some (C, .lst (cs.map D.str), b0)) (p0 : (BookOk b)) (p1 : (BdsOk L)) (h : ∀ p g', Fr k g0 g' ((p, .lst ((b.feeds.filter (opn cs L n)).map FeedR.d), true) :: lo) → Q (.ref p) g') : sp_open_feeds ([.tup (b.ds), .ref C, .tup (kindD o L n)] ++ []) g Q := ⟨b, cs, o, L, n, rfl, rfl, F.at n0 e0, p0, p1, fun p g' f u e => h p g' (F.ret f (F.up u) e)⟩
local macro_rules | `(tactic| walk_at "call") => `(tactic| ((with_reducible refine (?_ : sp_open_feeds _ _ _)); first
    | (refine t_open_feeds (by assumption) 0 _ rfl ?_ ?_ ?_; walk_at "sd"; walk_at "sd"; intro _ _ _)
    | (refine t_open_feeds (by assumption) 1 _ rfl ?_ ?_ ?_; walk_at "sd"; walk_at "sd"; intro _ _ _)
    | (refine t_open_feeds (by assumption) 2 _ rfl ?_ ?_ ?_; walk_at "sd"; walk_at "sd"; intro _ _ _)
    | (refine t_open_feeds (by assumption) 3 _ rfl ?_ ?_ ?_; walk_at "sd"; walk_at "sd"; intro _ _ _)
    | (refine t_open_feeds (by assumption) 4 _ rfl ?_ ?_ ?_; walk_at "sd"; walk_at "sd"; intro _ _ _)))
theorem rd_open_feeds : ∀ ds g Q, sp_open_feeds ds g Q → w_open_feeds { nx := fun _ g => Q .non g, rt := Q } (dstart N_open_feeds ds) g := fun ds g Q h => by
  unfold sp_open_feeds at h; split at h
  case h_2 => exact h.elim
  obtain ⟨b, cs, o, L, n, rfl, rfl, hp0, p0, p1, q⟩ := h
  rename_i C
  have F : Fr .pu g g [] := Fr.startP
  have F := F.argP hp0
  rw [st0_open_feeds]
  unfold w_open_feeds
  have hn := p0.nf
  walk_at "au"
  rename_i P g1 F1
  refine s_anyT ?_
  walk_at "au"
  refine for1 4 (fun i _ g' => Fr .pu g g' [(P, .lst (((b.feeds.take i).filter (opn cs L n)).map FeedR.d), true), (C, .lst (cs.map D.str), false)]) ⟨_, rfl, F1⟩ (fun _ _ _ _ _ => trivial) (fun i d x g2 hd F2 => ?_) (fun x g2 F2 => ?_)
  · obtain ⟨f, hf, rfl⟩ := get_map hd
    have hi := (List.getElem?_eq_some_iff.mp hf).1
    have hfo := (p0.feeds f (List.mem_of_getElem? hf)).1
    have fin : ∀ (b2 : Bool) {g'}, opn cs L n f = b2 → Fr .pu g g' [(P, .lst (((b.feeds.take i).filter (opn cs L n)).map FeedR.d ++ (if b2 = true then [f.d] else [])), true), (C, .lst (cs.map D.str), false)] → Fr .pu g g' [(P, .lst (((b.feeds.take (i + 1)).filter (opn cs L n)).map FeedR.d), true), (C, .lst (cs.map D.str), false)] := fun b2 g' hb F' => by
      have e : ((b.feeds.take (i + 1)).filter (opn cs L n)).map FeedR.d = ((b.feeds.take i).filter (opn cs L n)).map FeedR.d ++ (if b2 = true then [f.d] else []) := by
        rw [take_snoc hf, List.filter_append, List.map_append]
        congr 1
        rw [← hb]
        cases h : opn cs L n f <;> simp [h]
      rw [e]
      exact F'
    have hl : (((b.feeds.take i).filter (opn cs L n)).map FeedR.d).length < 16777216 := by
      rw [List.length_map]
      have := List.length_filter_le (opn cs L n) (b.feeds.take i)
      rw [List.length_take] at this
      omega
    have no : opn cs L n f = false → ∃ x1, ([some (.tup b.ds), some (.ref C), some (.tup (kindD o L n)), some (.ref P), some f.d] : EV) = List.set [some (.tup b.ds), some (.ref C), some (.tup (kindD o L n)), some (.ref P), some f.d] 4 x1 ∧ Fr .pu g g2 [(P, .lst (((b.feeds.take (i + 1)).filter (opn cs L n)).map FeedR.d), true), (C, .lst (cs.map D.str), false)] := fun h => ⟨_, rfl, fin false h (by rw [if_neg (by decide), List.append_nil]; exact F2)⟩
    walk_at "au"
    refine iteD (fun h1 => ?_) (fun h1 => ?_)
    · walk_at "au"
      refine iteD (fun h2 => ?_) (fun h2 => ?_)
      · walk_at "au"
        refine ⟨f.pat, f.size, L, rfl, rfl, rfl, hfo.pat, p1.len, p1.num, fun g3 U => ?_⟩
        have F3 := F2.up U
        walk_at "au"
        refine iteB (fun h3 => ?_) (fun h3 => ?_)
        · walk_at "au"
          rename_i g4 F4
          refine ⟨_, rfl, fin true ?_ F4⟩
          unfold opn
          rw [decide_eq_true h1, decide_eq_true h2, h3]; rfl
        · walk_at "au"
          refine ⟨_, rfl, fin false ?_ (by rw [if_neg (by decide), List.append_nil]; exact F3)⟩
          unfold opn
          rw [h3, Bool.and_false, Bool.and_false]
      · refine ite_ff ?_
        walk_at "au"
        refine no ?_
        unfold opn
        rw [decide_eq_false h2, Bool.false_and, Bool.and_false]
    · refine ite_ff ?_
      walk_at "au"
      refine no ?_
      unfold opn
      rw [decide_eq_false h1, Bool.false_and]
  · rw [List.length_map, List.take_length] at F2
    walk_at "au"
    first | exact q _ _ (Fr.fresh (by assumption) 0 rfl) (Fr.upv (by assumption)) (Fr.at (by assumption) 0 rfl) | exact q _ _ (Fr.fresh (by assumption) 1 rfl) (Fr.upv (by assumption)) (Fr.at (by assumption) 1 rfl) | exact q _ _ (Fr.fresh (by assumption) 2 rfl) (Fr.upv (by assumption)) (Fr.at (by assumption) 2 rfl)
/-- hops.over(feeds, origin, rounds): 0 feeds, 1 origin, 2 rounds, 3 found, 4 step, 5 feed -/
abbrev N_hops_over : List Str := ["feeds", "origin", "rounds", "found", "step", "feed"]
theorem st0_hops_over (a0 a1 a2 : D) : dstart N_hops_over [a0, a1, a2] = [some a0, some a1, some a2, none, none, none] := rfl
def w_hops_over : DTS := (dSeq (dAsg dDNew (gNm 3))
  (dSeq (dDPut (dVar 3) (dVar 1) (dC (.int 0)))
  (dSeq (dFor (iRa2 (dC (.int 1)) (dOp addD (dVar 2) (dC (.int 1)))) (gNm 4) (dFor (iAny (dVar 0)) (gNm 5) (dIf (dAnd (dTest (dOp eqD (dDGet1 (dVar 3) (dOp ixD (dVar 5) (dC (.int 1)))) (dOp subD (dVar 4) (dC (.int 1))))) (dAnd (dTest (dOp leD (dVar 4) (dOp ixD (dVar 5) (dC (.int 4))))) (dTest (dDNotIn (dOp ixD (dVar 5) (dC (.int 2))) (dVar 3))))) (dDPut (dVar 3) (dOp ixD (dVar 5) (dC (.int 2))) (dVar 4)) dNext)))
  (dRet (dVar 3)))))
def sp_hops_over : DSp := fun ds g Q => match ds with
  | [.ref P, .str o, .int r] => ∃ Fs : List FeedR, ∃ n : Nat, r = (n : Int) ∧ g P = some (.lst (Fs.map FeedR.d)) ∧ (Fs.length ≤ 1000) ∧ (n ≤ 1000) ∧ ∀ p g', g p = none → Up [] g g' → g' p = some (.dct (encS tdN (hopsL Fs o n))) → Q (.ref p) g'
  | _ => False
theorem len_hops_over : ∀ ds g Q, sp_hops_over ds g Q → ds.length = 3 := fun ds g Q h => by
  unfold sp_hops_over at h; split at h <;> first | rfl | exact h.elim
theorem t_hops_over {k : FK} {g0 g : GS} {lo : FL} {Q : DK} {Fs : List FeedR} {n : Nat} {P : Addr} {o : Str} (F : Fr k g0 g lo) (n0 : Nat) (b0 : Bool) (e0 : lo[n0]? = some (P, .lst (Fs.map FeedR.d), b0)) (p0 : (Fs.length ≤ 1000)) (p1 : (n ≤ 1000)) (h : ∀ p g', Fr k g0 g' ((p, .dct (encS tdN (hopsL Fs o n)), true) :: lo) → Q (.ref p) g') : sp_hops_over ([.ref P, .str o, .int ((n : Int))] ++ []) g Q := ⟨Fs, n, rfl, F.at n0 e0, p0, p1, fun p g' f u e => h p g' (F.ret f (F.up u) e)⟩
local macro_rules | `(tactic| walk_at "call") => `(tactic| ((with_reducible refine (?_ : sp_hops_over _ _ _)); first
    | (refine t_hops_over (by assumption) 0 _ rfl ?_ ?_ ?_; walk_at "sd"; walk_at "sd"; intro _ _ _)
    | (refine t_hops_over (by assumption) 1 _ rfl ?_ ?_ ?_; walk_at "sd"; walk_at "sd"; intro _ _ _)
    | (refine t_hops_over (by assumption) 2 _ rfl ?_ ?_ ?_; walk_at "sd"; walk_at "sd"; intro _ _ _)
    | (refine t_hops_over (by assumption) 3 _ rfl ?_ ?_ ?_; walk_at "sd"; walk_at "sd"; intro _ _ _)
    | (refine t_hops_over (by assumption) 4 _ rfl ?_ ?_ ?_; walk_at "sd"; walk_at "sd"; intro _ _ _)))
theorem rd_hops_over : ∀ ds g Q, sp_hops_over ds g Q → w_hops_over { nx := fun _ g => Q .non g, rt := Q } (dstart N_hops_over ds) g := fun ds g Q h => by
  unfold sp_hops_over at h; split at h
  case h_2 => exact h.elim
  obtain ⟨Fs, n, rfl, hp0, p0, p1, q⟩ := h
  rename_i P o
  have F : Fr .pu g g [] := Fr.startP
  have F := F.argP hp0
  rw [st0_hops_over]
  unfold w_hops_over
  have hln : ∀ i, i ≤ n → (hopsL Fs o i).length ≤ 1000001 := fun i hi => by
    have := hops_len Fs o i
    have h2 : i * Fs.length ≤ 1000 * 1000 := Nat.mul_le_mul (by omega) p0
    omega
  walk_at "au"
  rename_i B g1 F1
  have F1 : Fr .pu g g1 [(B, .dct (encS tdN []), true), (P, .lst (Fs.map FeedR.d), false)] := F1
  refine k_putS 0 F1 0 rfl rfl (by decide) fun g2 F2 => ?_
  have F2 : Fr .pu g g2 [(B, .dct (encS tdN (hopsL Fs o 0)), true), (P, .lst (Fs.map FeedR.d), false)] := F2
  walk_at "au"
  refine for2 4 5 (fun i _ _ g' => Fr .pu g g' [(B, .dct (encS tdN (hopsL Fs o i)), true), (P, .lst (Fs.map FeedR.d), false)]) ⟨_, _, rfl, F2⟩ (fun _ _ _ _ _ _ => trivial) (fun i d x4 x5 g3 hd F3 => ?_) (fun x4 x5 g3 F3 => ?_)
  · obtain ⟨hi, rfl⟩ := ran_get hd
    have hi : i < n := by omega
    walk_at "au"
    refine s_anyL ?_
    walk_at "au"
    refine for1 5 (fun j _ g' => Fr .pu g g' [(B, .dct (encS tdN ((Fs.take j).foldl (hopStep i) (hopsL Fs o i))), true), (P, .lst (Fs.map FeedR.d), false)]) ⟨_, rfl, F3⟩ (fun j x g' _ h => .inl (h.at 1 rfl)) (fun j d x g4 hd F4 => ?_) (fun x g4 F4 => ?_)
    · obtain ⟨f, hf, rfl⟩ := get_map hd
      have hlen : ((Fs.take j).foldl (hopStep i) (hopsL Fs o i)).length < 16777216 := by
        have h1 := hopFold_len i (Fs.take j) (hopsL Fs o i)
        have h2 := hln i (by omega)
        rw [List.length_take] at h1
        omega
      have es : (Fs.take (j + 1)).foldl (hopStep i) (hopsL Fs o i) = hopStep i ((Fs.take j).foldl (hopStep i) (hopsL Fs o i)) f := by rw [take_snoc hf, List.foldl_append]; rfl
      generalize (Fs.take j).foldl (hopStep i) (hopsL Fs o i) = acc at *
      have no : ¬ (lkS acc f.giver = some i ∧ ((i : Int) + 1 ≤ f.hops) ∧ lkS acc f.taker = none) → Fr .pu g g4 [(B, .dct (encS tdN ((Fs.take (j + 1)).foldl (hopStep i) (hopsL Fs o i))), true), (P, .lst (Fs.map FeedR.d), false)] := fun h => by
        rw [es]
        unfold hopStep
        rw [if_neg h]
        exact F4
      walk_at "au"
      refine v_eqON (i := i) (by omega) ?_
      walk_at "au"
      refine iteD (fun h1 => ?_) (fun h1 => ?_)
      · walk_at "au"
        refine iteD (fun h2 => ?_) (fun h2 => ?_)
        · walk_at "au"
          cases h3 : lkS acc f.taker with
          | none =>
            refine iteNB (fun _ => ?_) (fun z => by cases z)
            walk_at "au"
            refine k_putS (i + 1) F4 0 rfl (congrArg D.int (by omega)) hlen fun g5 F5 => ?_
            rw [pt_new h3] at F5
            refine ⟨_, rfl, ?_⟩
            rw [es]
            unfold hopStep
            rw [if_pos ⟨h1, by omega, h3⟩]
            exact F5
          | some k =>
            refine iteNB (fun z => by cases z) (fun _ => ?_)
            walk_at "au"
            exact ⟨_, rfl, no fun z => by rw [h3] at z; cases z.2.2⟩
        · refine ite_ff ?_
          walk_at "au"
          exact ⟨_, rfl, no fun z => h2 (by omega)⟩
      · refine ite_ff ?_
        walk_at "au"
        exact ⟨_, rfl, no fun z => h1 z.1⟩
    · rw [List.length_map, List.take_length] at F4
      exact ⟨_, _, rfl, F4⟩
  · rw [ran_len] at F3
    have e : ((n : Int) + 1 - 1).toNat = n := by omega
    rw [e] at F3
    walk_at "au"
    first | exact q _ _ (Fr.fresh (by assumption) 0 rfl) (Fr.upv (by assumption)) (Fr.at (by assumption) 0 rfl) | exact q _ _ (Fr.fresh (by assumption) 1 rfl) (Fr.upv (by assumption)) (Fr.at (by assumption) 1 rfl) | exact q _ _ (Fr.fresh (by assumption) 2 rfl) (Fr.upv (by assumption)) (Fr.at (by assumption) 2 rfl)
/-- least.hops(book, kind): 0 book, 1 kind, 2 carried -/
abbrev N_least_hops : List Str := ["book", "kind", "carried"]
theorem st0_least_hops (a0 a1 : D) : dstart N_least_hops [a0, a1] = [some a0, some a1, none] := rfl
def w_least_hops : DTS := (dSeq (dAsg (dCall sp_carriers [] (dCons (dVar 0) (dCons (dOp ixD (dVar 1) (dC (.int 2))) dNil))) (gNm 2))
  (dSeq (dIf (dTest (dOp notInD (dOp ixD (dVar 1) (dC (.int 1))) (dVar 2))) (dRet dDNew) dNext)
  (dRet (dCall sp_hops_over [] (dCons (dCall sp_open_feeds [] (dCons (dVar 0) (dCons (dVar 2) (dCons (dVar 1) dNil)))) (dCons (dOp ixD (dVar 1) (dC (.int 1))) (dCons (dOp subD (dCB lenD (dCons (dOp ixD (dVar 0) (dC (.int 3))) dNil)) (dC (.int 1))) dNil)))))))
def leastL (b : BookR) (o : Str) (L : List Str) (n : Int) : AL Nat := if o ∈ carL b.sites L then hopsL (b.feeds.filter (opn (carL b.sites L) L n)) o (b.sites.length - 1) else []
theorem carL_mem {ss : List SiteR} {L : List Str} {z : Str} (h : z ∈ carL ss L) : ∃ s ∈ ss, s.name = z := by
  obtain ⟨s, hs, rfl⟩ := List.mem_map.mp h
  exact ⟨s, (List.mem_filter.mp hs).1, rfl⟩
theorem opn_mem {cs L : List Str} {n : Int} {f : FeedR} (h : opn cs L n f = true) : f.giver ∈ cs ∧ f.taker ∈ cs := by
  unfold opn at h
  rw [Bool.and_eq_true, Bool.and_eq_true] at h
  exact ⟨of_decide_eq_true h.1, of_decide_eq_true h.2.1⟩
theorem leastL_sub {b : BookR} {o : Str} {L : List Str} {n : Int} : ∀ z ∈ (leastL b o L n).map (·.1), z ∈ carL b.sites L := by
  unfold leastL
  split
  · rename_i h
    exact hops_sub (S := fun z => z ∈ carL b.sites L) h (fun f hf => (opn_mem (List.mem_filter.mp hf).2).2) _
  · intro z hz; cases hz
def sp_least_hops : DSp := fun ds g Q => match ds with
  | [.tup bk, .tup kd] => ∃ b : BookR, ∃ o : Str, ∃ L : List Str, ∃ n : Int, bk = b.ds ∧ kd = kindD o L n ∧ (BookOk b) ∧ (BdsOk L) ∧ (b.sites ≠ []) ∧ ∀ p g', g p = none → Up [] g g' → g' p = some (.dct (encS tdN (leastL b o L n))) → Q (.ref p) g'
  | _ => False
theorem len_least_hops : ∀ ds g Q, sp_least_hops ds g Q → ds.length = 2 := fun ds g Q h => by
  unfold sp_least_hops at h; split at h <;> first | rfl | exact h.elim
theorem t_least_hops {k : FK} {g0 g : GS} {lo : FL} {Q : DK} {b : BookR} {o : Str} {L : List Str} {n : Int} (F : Fr k g0 g lo) (p0 : (BookOk b)) (p1 : (BdsOk L)) (p2 : (b.sites ≠ [])) (h : ∀ p g', Fr k g0 g' ((p, .dct (encS tdN (leastL b o L n)), true) :: lo) → Q (.ref p) g') : sp_least_hops ([.tup (b.ds), .tup (kindD o L n)] ++ []) g Q := ⟨b, o, L, n, rfl, rfl, p0, p1, p2, fun p g' f u e => h p g' (F.ret f (F.up u) e)⟩
local macro_rules | `(tactic| walk_at "call") => `(tactic| ((with_reducible refine t_least_hops (by assumption) ?_ ?_ ?_ ?_); walk_at "sd"; walk_at "sd"; walk_at "sd"; intro _ _ _))
theorem rd_least_hops : ∀ ds g Q, sp_least_hops ds g Q → w_least_hops { nx := fun _ g => Q .non g, rt := Q } (dstart N_least_hops ds) g := fun ds g Q h => by
  unfold sp_least_hops at h; split at h
  case h_2 => exact h.elim
  obtain ⟨b, o, L, n, rfl, rfl, p0, p1, p2, q⟩ := h
  have F : Fr .pu g g [] := Fr.startP
  rw [st0_least_hops]
  unfold w_least_hops
  have hn := p0.ns
  have hf := p0.nf
  have h0 := List.length_pos_iff.mpr p2
  walk_at "au"
  refine iteN (fun h => ?_) (fun h => ?_)
  · walk_at "au"
    rename_i B g2 F2
    unfold leastL at q
    rw [if_neg h] at q
    first | exact q _ _ (Fr.fresh (by assumption) 0 rfl) (Fr.upv (by assumption)) (Fr.at (by assumption) 0 rfl) | exact q _ _ (Fr.fresh (by assumption) 1 rfl) (Fr.upv (by assumption)) (Fr.at (by assumption) 1 rfl) | exact q _ _ (Fr.fresh (by assumption) 2 rfl) (Fr.upv (by assumption)) (Fr.at (by assumption) 2 rfl)
  · walk_at "au"
    rename_i O g2 F2
    have e : ((b.sites.map SiteR.d).length : Int) - 1 = ((b.sites.length - 1 : Nat) : Int) := by rw [List.length_map]; omega
    rw [e]
    refine t_hops_over (n := b.sites.length - 1) F2 0 _ rfl (by have := List.length_filter_le (opn (carL b.sites L) L n) b.feeds; omega) (by omega) ?_
    intro B g3 F3
    unfold leastL at q
    rw [if_pos h] at q
    first | exact q _ _ (Fr.fresh (by assumption) 0 rfl) (Fr.upv (by assumption)) (Fr.at (by assumption) 0 rfl) | exact q _ _ (Fr.fresh (by assumption) 1 rfl) (Fr.upv (by assumption)) (Fr.at (by assumption) 1 rfl) | exact q _ _ (Fr.fresh (by assumption) 2 rfl) (Fr.upv (by assumption)) (Fr.at (by assumption) 2 rfl)
/-- .law.mix(seed, turn): 0 seed, 1 turn, 2 number -/
abbrev N_Lmix : List Str := ["seed", "turn", "number"]
theorem st0_Lmix (a0 a1 : D) : dstart N_Lmix [a0, a1] = [some a0, some a1, none] := rfl
def w_Lmix : DTS := (dSeq (dAsg (dOp modD (dCB intF (dCons (dOp addD (dOp addD (dOp mulD (dVar 0) (dC (.int 48271))) (dOp mulD (dVar 1) (dC (.int 69621)))) (dC (.int 11))) dNil)) (dC (.int 2147483647))) (gNm 2))
  (dSeq (dAsg (dOp modD (dCB intF (dCons (dOp addD (dOp addD (dOp mulD (dVar 2) (dVar 2)) (dOp mulD (dVar 1) (dC (.int 16807)))) (dC (.int 7))) dNil)) (dC (.int 2147483629))) (gNm 2))
  (dSeq (dAsg (dOp modD (dCB intF (dCons (dOp addD (dOp addD (dOp mulD (dVar 2) (dC (.int 40692))) (dOp mulD (dOp mulD (dVar 1) (dVar 1)) (dC (.int 30269)))) (dC (.int 5))) dNil)) (dC (.int 2147483399))) (gNm 2))
  (dRet (dVar 2)))))
def sp_Lmix : DSp := fun ds g Q => match ds with
  | [.int seed, .int turn] => 0 ≤ seed ∧ seed < 8589934592 ∧ 0 ≤ turn ∧ turn < 2199023255552 ∧ ∀ v : Int, 0 ≤ v → v < 2147483399 → Q (.int v) g
  | _ => False
theorem len_Lmix : ∀ ds g Q, sp_Lmix ds g Q → ds.length = 2 := fun ds g Q h => by
  unfold sp_Lmix at h; split at h <;> first | rfl | exact h.elim
theorem rd_Lmix : ∀ ds g Q, sp_Lmix ds g Q → w_Lmix { nx := fun _ g => Q .non g, rt := Q } (dstart N_Lmix ds) g := fun ds g Q h => by
  unfold sp_Lmix at h; split at h
  case h_2 => exact h.elim
  obtain ⟨h1, h2, h3, h4, q⟩ := h
  rename_i seed turn
  rw [st0_Lmix]
  unfold w_Lmix
  walk_at "go"
  refine q _ ?_ ?_
  · omega
  · omega
/-- .law.source(script): 0 script, 1 seed, 2 k -/
abbrev N_Lsource : List Str := ["script", "seed", "k"]
theorem st0_Lsource (a0 : D) : dstart N_Lsource [a0] = [some a0, none, none] := rfl
def w_Lsource : DTS := (dSeq (dAsg (dC (.int 17)) (gNm 1))
  (dSeq (dFor (iRa1 (dCB lenD (dCons (dVar 0) dNil))) (gNm 2) (dAsg (dCall sp_Lmix [] (dCons (dOp addD (dVar 1) (dOp modD (dCB intF (dCons (dOp ixD (dVar 0) (dVar 2)) dNil)) (dC (.int 2147483647)))) (dCons (dVar 2) dNil))) (gNm 1)))
  (dRet (dLst (dCons (dCB lstF (dCons (dVar 0) dNil)) (dCons (dC (.int 0)) (dCons (dC (.int 0)) (dCons (dVar 1) (dCons (dC (.int 0)) dNil)))))))))
def sp_Lsource : DSp := fun ds g Q => match ds with
  | [.klst xs] => ∃ ns : List Int, xs = ns.map D.int ∧ ns.length ≤ 63 ∧ ∀ s g', s.ns = ns → Up [] g g' → Src s g' 0 → g s.L = none → g s.L0 = none → Q (.ref s.L) g'
  | _ => False
theorem len_Lsource : ∀ ds g Q, sp_Lsource ds g Q → ds.length = 1 := fun ds g Q h => by
  unfold sp_Lsource at h; split at h <;> first | rfl | exact h.elim
theorem rd_Lsource : ∀ ds g Q, sp_Lsource ds g Q → w_Lsource { nx := fun _ g => Q .non g, rt := Q } (dstart N_Lsource ds) g := fun ds g Q h => by
  unfold sp_Lsource at h; split at h
  case h_2 => exact h.elim
  obtain ⟨ns, rfl, hn, q⟩ := h
  rw [st0_Lsource]
  unfold w_Lsource
  walk_at "go"
  refine v_lenK ?_
  refine ⟨_, rfl, by omega, by rw [List.length_map]; omega, ?_⟩
  refine ⟨fun i e g' => g' = g ∧ ∃ sd x, e = [some (.klst (ns.map D.int)), some (.int sd), x] ∧ 0 ≤ sd ∧ sd < 2147483647, ⟨rfl, 17, none, rfl, by omega, by omega⟩, fun _ _ _ _ _ => trivial, ?_, ?_⟩
  · rintro i d e g' hd ⟨rfl, sd, x, rfl, b1, b2⟩
    obtain ⟨hi, rfl⟩ := ran_get hd
    have hi2 : i < ns.length := by rw [List.length_map] at hi; omega
    walk_at "go"
    refine v_ixK (atI_map (atI_at (List.getElem?_eq_getElem hi2))) ?_
    · walk_at "go"
      refine ⟨by omega, by omega, by omega, by omega, fun v v1 v2 => ?_⟩
      walk_at "go"
      exact ⟨rfl, v, _, rfl, v1, by omega⟩
  · rintro e g' ⟨rfl, sd, x, rfl, b1, b2⟩
    walk_at "go"
    refine v_lstK fun p hp => ?_
    walk_at "go"
    refine ⟨by rw [szl]; simp, fun p2 hp2 => ?_⟩
    have n12 : p ≠ p2 := fun z => by rw [← z, gup_same] at hp2; cases hp2
    have f2 : g' p2 = none := (Up.new (S := []) (o := .lst (ns.map D.int)) hp).fresh hp2
    exact q ⟨p2, p, ns⟩ _ rfl ((Up.new hp).trans (.new hp2)) ⟨by rw [gup_ne n12, gup_same], ⟨n12, hn⟩, 0, 0, sd, 0, by rw [gup_same], by omega, by omega, b1, b2, by omega, by omega⟩ f2 hp
/-- .law.draw(source, many): 0 source, 1 many, 2 cell, 3 value -/
abbrev N_Ldraw : List Str := ["source", "many", "cell", "value"]
theorem st0_Ldraw (a0 a1 : D) : dstart N_Ldraw [a0, a1] = [some a0, some a1, none, none] := rfl
def w_Ldraw : DTS := (dSeq (dIf (dAnd (dTest (dOp eqD (dOp ixD (dVar 0) (dC (.int 2))) (dC (.int 0)))) (dAnd (dTest (dOp ltD (dOp ixD (dVar 0) (dC (.int 1))) (dCB lenD (dCons (dOp ixD (dVar 0) (dC (.int 0))) dNil)))) (dTest (dOp eqD (dOp modD (dCB intF (dCons (dOp ixD (dVar 0) (dC (.int 4))) dNil)) (dC (.int 6))) (dC (.int 0)))))) (dSeq (dAsg (dOp ixD (dOp ixD (dVar 0) (dC (.int 0))) (dOp ixD (dVar 0) (dC (.int 1)))) (gNm 2))
  (dSeq (dAsg (dOp addD (dOp ixD (dVar 0) (dC (.int 1))) (dC (.int 1))) (gSb (dVar 0) (dC (.int 1))))
  (dIf (dTest (dOp geD (dCB absD (dCons (dVar 2) dNil)) (dOp powD (dC (.int 10)) (dC (.int 18))))) (dAsg (dOp andD (dCB absD (dCons (dVar 2) dNil)) (dOp subD (dOp shlD (dC (.int 1)) (dC (.int 12800))) (dC (.int 1)))) (gSb (dVar 0) (dC (.int 2)))) (dAsg (dCall sp_Lmix [] (dCons (dOp addD (dOp ixD (dVar 0) (dC (.int 3))) (dOp modD (dCB intF (dCons (dVar 2) dNil)) (dC (.int 2147483647)))) (dCons (dOp ixD (dVar 0) (dC (.int 1))) dNil))) (gSb (dVar 0) (dC (.int 3))))))) dNext)
  (dSeq (dIf (dTest (dOp gtD (dOp ixD (dVar 0) (dC (.int 2))) (dC (.int 0)))) (dSeq (dAsg (dOp modD (dCB intF (dCons (dOp ixD (dVar 0) (dC (.int 2))) dNil)) (dVar 1)) (gNm 3))
  (dSeq (dAsg (dOp fdivD (dCB intF (dCons (dOp ixD (dVar 0) (dC (.int 2))) dNil)) (dVar 1)) (gSb (dVar 0) (dC (.int 2))))
  (dRet (dVar 3)))) dNext)
  (dSeq (dAsg (dOp addD (dOp ixD (dVar 0) (dC (.int 4))) (dC (.int 1))) (gSb (dVar 0) (dC (.int 4))))
  (dRet (dOp modD (dCB intF (dCons (dOp fdivD (dCall sp_Lmix [] (dCons (dOp ixD (dVar 0) (dC (.int 3))) (dCons (dOp ixD (dVar 0) (dC (.int 4))) dNil))) (dC (.int 5))) dNil)) (dVar 1))))))
def sp_Ldraw : DSp := fun ds g Q => match ds with
  | [.ref L, .int k] => ∃ s m, s.L = L ∧ Src s g m ∧ m < 1099511627776 ∧ 0 < k ∧ k < 1073741824 ∧ ∀ (v : Int) g', 0 ≤ v → v < k → Go s g g' (m + 1) → Q (.int v) g'
  | _ => False
theorem len_Ldraw : ∀ ds g Q, sp_Ldraw ds g Q → ds.length = 2 := fun ds g Q h => by
  unfold sp_Ldraw at h; split at h <;> first | rfl | exact h.elim
theorem Ldraw_end {L : Addr} {k : Int} {s : SI} {g g' : GS} {Q : DK} {m : Nat} {c : Int} {cl : Option D} (L0 : Addr) (big seed n : Int) (hL0 : s.L0 = L0) (hL : s.L = L) (hu : Up [L] g g') (n0 : L0 ≠ L) (n63 : s.ns.length ≤ 63) (h0 : g' L0 = some (.lst (s.ns.map D.int)))
    (h : g' L = some (.lst [.ref L0, .int c, .int big, .int seed, .int n])) (b1 : 0 ≤ c) (b2 : 0 ≤ big) (b3 : 0 ≤ seed) (b4 : seed < 2147483647) (b5 : 0 ≤ n) (b6 : n ≤ m) (hm : m < 1099511627776) (hk : 0 < k) (hk2 : k < 1073741824)
    (q : ∀ (v : Int) g', 0 ≤ v → v < k → Go s g g' (m + 1) → Q (.int v) g') :
    dSeq (dIf (dTest (dOp gtD (dOp ixD (dVar 0) (dC (.int 2))) (dC (.int 0)))) (dSeq (dAsg (dOp modD (dCB intF (dCons (dOp ixD (dVar 0) (dC (.int 2))) dNil)) (dVar 1)) (gNm 3))
      (dSeq (dAsg (dOp fdivD (dCB intF (dCons (dOp ixD (dVar 0) (dC (.int 2))) dNil)) (dVar 1)) (gSb (dVar 0) (dC (.int 2)))) (dRet (dVar 3)))) dNext)
      (dSeq (dAsg (dOp addD (dOp ixD (dVar 0) (dC (.int 4))) (dC (.int 1))) (gSb (dVar 0) (dC (.int 4))))
        (dRet (dOp modD (dCB intF (dCons (dOp fdivD (dCall sp_Lmix [] (dCons (dOp ixD (dVar 0) (dC (.int 3))) (dCons (dOp ixD (dVar 0) (dC (.int 4))) dNil))) (dC (.int 5))) dNil)) (dVar 1)))) { nx := fun _ g => Q .non g, rt := Q } [some (.ref L), some (.int k), cl, none] g' := by
  subst hL0 hL
  walk_at "go"
  refine iteD (fun hb => ?_) (fun hb => ?_)
  · walk_at "go"
    refine v_set h rfl ?_
    walk_at "go"
    refine q _ _ (Int.emod_nonneg _ (by omega)) (Int.emod_lt_of_pos _ hk) ⟨hu.ins (List.mem_singleton.mpr rfl), by rw [gup_ne n0]; exact h0, ⟨n0, n63⟩, c, big / k, seed, n, by rw [gup_same]; rfl, b1, Int.ediv_nonneg b2 (by omega), b3, b4, b5, by omega⟩
  · walk_at "go"
    refine v_set h rfl ?_
    walk_at "go"
    have h2 : gup g' s.L (.lst ([.ref s.L0, .int c, .int big, .int seed, .int n].set 4 (.int (n + 1)))) s.L = some (.lst [.ref s.L0, .int c, .int big, .int seed, .int (n + 1)]) := by rw [gup_same]; rfl
    walk_at "go"
    refine ⟨b3, by omega, by omega, by omega, fun v v1 v2 => ?_⟩
    walk_at "go"
    refine q _ _ (Int.emod_nonneg _ (by omega)) (Int.emod_lt_of_pos _ hk) ⟨hu.ins (List.mem_singleton.mpr rfl), by rw [gup_ne n0]; exact h0, ⟨n0, n63⟩, c, big, seed, n + 1, h2, b1, b2, b3, b4, by omega, by omega⟩
theorem rd_Ldraw : ∀ ds g Q, sp_Ldraw ds g Q → w_Ldraw { nx := fun _ g => Q .non g, rt := Q } (dstart N_Ldraw ds) g := fun ds g Q h => by
  unfold sp_Ldraw at h; split at h
  case h_2 => exact h.elim
  obtain ⟨s, m, hL, hS, hm, hk, hk2, q⟩ := h
  rename_i L k
  subst hL
  obtain ⟨h0, ⟨n0, n63⟩, c, big, seed, n, h, b1, b2, b3, b4, b5, b6⟩ := hS
  rw [st0_Ldraw]
  unfold w_Ldraw
  have fin : ∀ g' c big seed cl, Up [s.L] g g' → g' s.L0 = some (.lst (s.ns.map D.int)) → g' s.L = some (.lst [.ref s.L0, .int c, .int big, .int seed, .int n]) → 0 ≤ c → 0 ≤ big → 0 ≤ seed → seed < 2147483647 → _ :=
    fun g' c big seed cl hu h0 h b1 b2 b3 b4 => Ldraw_end (cl := cl) (k := k) s.L0 big seed n rfl rfl hu n0 n63 h0 h b1 b2 b3 b4 b5 b6 hm hk hk2 q
  walk_at "go"
  refine iteD (fun e1 => ?_) (fun _ => ?_)
  · walk_at "go"
    refine iteD (fun e2 => ?_) (fun _ => ?_)
    · walk_at "go"
      refine iteD (fun e3 => ?_) (fun _ => ?_)
      · walk_at "go"
        rw [List.length_map] at e2
        obtain ⟨cell, _, hcell⟩ := atI_ex (xs := s.ns) b1 e2
        refine v_ixL h0 (atI_map hcell) ?_
        walk_at "go"
        refine v_set h rfl ?_
        walk_at "go"
        have h1 : gup g s.L (.lst ([.ref s.L0, .int c, .int big, .int seed, .int n].set 1 (.int (c + 1)))) s.L = some (.lst [.ref s.L0, .int (c + 1), .int big, .int seed, .int n]) := by rw [gup_same]; rfl
        have h10 : gup g s.L (.lst ([.ref s.L0, .int c, .int big, .int seed, .int n].set 1 (.int (c + 1)))) s.L0 = some (.lst (s.ns.map D.int)) := by rw [gup_ne n0]; exact h0
        refine v_pow ⟨by omega, by omega, by decide⟩ ?_
        walk_at "go"
        refine iteD (fun e4 => ?_) (fun _ => ?_)
        · walk_at "go"
          refine v_shl ⟨by omega, by omega, by decide⟩ ?_
          walk_at "go"
          refine v_set h1 rfl ?_
          refine fin _ (c + 1) (Builtin.bitAnd (if cell < 0 then -cell else cell) (1 * 2 ^ (12800 : Int).toNat - 1)) seed _ ((Up.refl.ins (List.mem_singleton.mpr rfl)).ins (List.mem_singleton.mpr rfl)) ?_ (by rw [gup_same]; rfl) (by omega) ?_ b3 b4
          · rw [gup_ne n0]; exact h10
          · exact bAnd_nn (by split <;> omega) (mask_nn _)
        · walk_at "go"
          refine ⟨by omega, by omega, by omega, by omega, fun v v1 v2 => ?_⟩
          walk_at "go"
          refine v_set h1 rfl ?_
          refine fin _ (c + 1) big v _ ((Up.refl.ins (List.mem_singleton.mpr rfl)).ins (List.mem_singleton.mpr rfl)) ?_ (by rw [gup_same]; rfl) (by omega) b2 v1 (by omega)
          rw [gup_ne n0]; exact h10
      · refine DL.s_next ?_
        exact fin g c big seed none .refl h0 h b1 b2 b3 b4
    · refine iteB (fun z => by cases z) (fun _ => ?_)
      refine DL.s_next ?_
      exact fin g c big seed none .refl h0 h b1 b2 b3 b4
  · refine iteB (fun z => by cases z) (fun _ => ?_)
    refine DL.s_next ?_
    exact fin g c big seed none .refl h0 h b1 b2 b3 b4
theorem t_Ldraw {s : SI} {m : Nat} {g0 g : GS} {lo : FL} {Q : DK} {k : Int} (F : Fr (.go s m) g0 g lo) (hm : m < 1099511627776) (h1 : 0 < k) (h2 : k < 1073741824) (h : ∀ (v : Int) g', 0 ≤ v → v < k → Fr (.go s (m + 1)) g0 g' lo → Q (.int v) g') : sp_Ldraw ([.ref s.L, .int k] ++ []) g Q := ⟨s, m, rfl, F.src, hm, h1, h2, fun v g' a b G => h v g' a b (F.call G)⟩
local macro_rules | `(tactic| walk_at "call") => `(tactic| ((with_reducible refine t_Ldraw (by assumption) ?_ ?_ ?_ ?_); omega; walk_at "len"; walk_at "len"; intro _ _ _ _ _))
/-- .law.pick(source, row): 0 source, 1 row -/
abbrev N_Lpick : List Str := ["source", "row"]
theorem st0_Lpick (a0 a1 : D) : dstart N_Lpick [a0, a1] = [some a0, some a1] := rfl
def w_Lpick : DTS := (dRet (dOp ixD (dVar 1) (dCall sp_Ldraw [] (dCons (dVar 0) (dCons (dCB lenD (dCons (dVar 1) dNil)) dNil)))))
def sp_Lpick : DSp := fun ds g Q => match ds with
  | [.ref L, .ref p] => ∃ s m, ∃ xs : List D, s.L = L ∧ Src s g m ∧ m < 1000000000000 ∧ g p = some (.lst xs) ∧ p ≠ s.L ∧ xs ≠ [] ∧ xs.length < 1073741824 ∧ ∀ d g', d ∈ xs → Go s g g' (m + 1) → Q d g'
  | [.ref L, .tup xs] => ∃ s m, s.L = L ∧ Src s g m ∧ m < 1000000000000 ∧ xs ≠ [] ∧ xs.length < 1073741824 ∧ ∀ d g', d ∈ xs → Go s g g' (m + 1) → Q d g'
  | [.ref L, .str z] => ∃ s m, s.L = L ∧ Src s g m ∧ m < 1000000000000 ∧ TL.tl z ≠ [] ∧ (TL.tl z).length < 10000000 ∧ ∀ (c : Nat) g', c ∈ TL.tl z → Go s g g' (m + 1) → Q (.str (mk [c])) g'
  | _ => False
theorem len_Lpick : ∀ ds g Q, sp_Lpick ds g Q → ds.length = 2 := fun ds g Q h => by
  unfold sp_Lpick at h; split at h <;> first | rfl | exact h.elim
theorem rd_Lpick : ∀ ds g Q, sp_Lpick ds g Q → w_Lpick { nx := fun _ g => Q .non g, rt := Q } (dstart N_Lpick ds) g := fun ds g Q h => by
  unfold sp_Lpick at h; split at h
  · obtain ⟨s, m, xs, rfl, hS, hm, hp, np, hx, hl, q⟩ := h
    rename_i p
    have hpos := List.length_pos_iff.mpr hx
    rw [st0_Lpick]
    unfold w_Lpick
    walk_at "go"
    refine ⟨s, m, rfl, hS, by omega, by omega, by omega, fun v g1 a1 a2 G1 => ?_⟩
    obtain ⟨d, hd, hat⟩ := atI_ex a1 a2
    exact v_ixL (G1.get np hp) hat (q d g1 hd G1)
  · obtain ⟨s, m, rfl, hS, hm, hx, hl, q⟩ := h
    rename_i xs
    have hpos := List.length_pos_iff.mpr hx
    rw [st0_Lpick]
    unfold w_Lpick
    walk_at "go"
    refine ⟨s, m, rfl, hS, by omega, by omega, by omega, fun v g1 a1 a2 G1 => ?_⟩
    obtain ⟨d, hd, hat⟩ := atI_ex a1 a2
    exact v_ixT hat (q d g1 hd G1)
  · obtain ⟨s, m, rfl, hS, hm, hx, hl, q⟩ := h
    rename_i z
    have hpos := List.length_pos_iff.mpr hx
    rw [st0_Lpick]
    unfold w_Lpick
    walk_at "go"
    have e0 : z.length = (TL.tl z).length := TL.len_tl z
    refine v_lenS (by rw [szl]; omega) ?_
    walk_at "go"
    refine ⟨s, m, rfl, hS, by omega, by omega, by omega, fun v g1 a1 a2 G1 => ?_⟩
    obtain ⟨c, hc, hat⟩ := atI_ex (xs := z.cps.toList) a1 (by rw [e0] at a2; exact a2)
    exact v_ixS (by rw [szl]; omega) hat (q c g1 hc G1)
  · exact h.elim
theorem t_LpickD {s : SI} {m : Nat} {g0 g : GS} {lo : FL} {Q : DK} {p : Addr} {xs : List D} (F : Fr (.go s m) g0 g lo) (hm : m < 1000000000000) (n : Nat) (b : Bool) (e : lo[n]? = some (p, .lst xs, b)) (h1 : xs ≠ []) (h2 : xs.length < 1073741824) (h : ∀ d g', d ∈ xs → Fr (.go s (m + 1)) g0 g' lo → Q d g') : sp_Lpick ([.ref s.L, .ref p] ++ []) g Q := ⟨s, m, xs, rfl, F.src, hm, F.at n e, F.neL n e, h1, h2, fun d g' a G => h d g' a (F.call G)⟩
theorem t_LpickS {s : SI} {m : Nat} {g0 g : GS} {lo : FL} {Q : DK} {p : Addr} {xs : List D} (F : Fr (.go s m) g0 g lo) (hm : m < 1000000000000) (n : Nat) (b : Bool) (e : lo[n]? = some (p, .lst xs, b)) (h0 : sOnly xs = true) (h1 : xs ≠ []) (h2 : xs.length < 1073741824) (h : ∀ (l : List Nat) g', l.length ≤ mxl xs → Fr (.go s (m + 1)) g0 g' lo → Q (.str (mk l)) g') : sp_Lpick ([.ref s.L, .ref p] ++ []) g Q := t_LpickD F hm n b e h1 h2 fun d g' hd F' => by
  obtain ⟨l, rfl, hl⟩ := mxl_mem h0 hd
  exact h l g' hl F'
theorem t_LpickI {s : SI} {m : Nat} {g0 g : GS} {lo : FL} {Q : DK} {p : Addr} {xs : List D} (F : Fr (.go s m) g0 g lo) (hm : m < 1000000000000) (n : Nat) (b : Bool) (e : lo[n]? = some (p, .lst xs, b)) (h0 : iOnly xs = true) (h1 : xs ≠ []) (h2 : xs.length < 1073741824) (h : ∀ (v : Int) g', v ≤ mxi xs → mni xs ≤ v → Fr (.go s (m + 1)) g0 g' lo → Q (.int v) g') : sp_Lpick ([.ref s.L, .ref p] ++ []) g Q := t_LpickD F hm n b e h1 h2 fun d g' hd F' => by
  obtain ⟨l, rfl, hl, hl2⟩ := mxi_mem h0 hd
  exact h l g' hl hl2 F'
theorem t_LpickT {s : SI} {m : Nat} {g0 g : GS} {lo : FL} {Q : DK} {xs : List D} (F : Fr (.go s m) g0 g lo) (hm : m < 1000000000000) (h1 : xs ≠ []) (h2 : xs.length < 1073741824) (h : ∀ d g', d ∈ xs → Fr (.go s (m + 1)) g0 g' lo → Q d g') : sp_Lpick ([.ref s.L, .tup xs] ++ []) g Q := ⟨s, m, rfl, F.src, hm, h1, h2, fun d g' a G => h d g' a (F.call G)⟩
theorem t_LpickZ {s : SI} {m : Nat} {g0 g : GS} {lo : FL} {Q : DK} {z : Str} (F : Fr (.go s m) g0 g lo) (hm : m < 1000000000000) (h1 : TL.tl z ≠ []) (h2 : (TL.tl z).length < 10000000) (h : ∀ (c : Nat) g', c ∈ TL.tl z → Fr (.go s (m + 1)) g0 g' lo → Q (.str (mk [c])) g') : sp_Lpick ([.ref s.L, .str z] ++ []) g Q := ⟨s, m, rfl, F.src, hm, h1, h2, fun d g' a G => h d g' a (F.call G)⟩
local macro_rules | `(tactic| walk_at "call") => `(tactic| ((with_reducible refine (?_ : sp_Lpick ([_, DL.D.ref _] ++ []) _ _)); first
    | ((refine t_LpickS (by assumption) ?_ 0 _ rfl rfl ?_ ?_ ?_); omega; simp; simp; intro _ _ hl _; simp only [List.cons_append, List.nil_append, DL.mxl_mk, DL.mxl_nil, DL.tl_mk, List.length_append, List.length_cons, List.length_nil] at hl)
    | ((refine t_LpickI (by assumption) ?_ 0 _ rfl rfl ?_ ?_ ?_); omega; simp; simp; intro _ _ hl hl2 _; simp only [DL.mxi, DL.mni] at hl hl2)
    | ((refine t_LpickS (by assumption) ?_ 1 _ rfl rfl ?_ ?_ ?_); omega; simp; simp; intro _ _ hl _; simp only [List.cons_append, List.nil_append, DL.mxl_mk, DL.mxl_nil, DL.tl_mk, List.length_append, List.length_cons, List.length_nil] at hl)
    | ((refine t_LpickI (by assumption) ?_ 1 _ rfl rfl ?_ ?_ ?_); omega; simp; simp; intro _ _ hl hl2 _; simp only [DL.mxi, DL.mni] at hl hl2)
    | ((refine t_LpickS (by assumption) ?_ 2 _ rfl rfl ?_ ?_ ?_); omega; simp; simp; intro _ _ hl _; simp only [List.cons_append, List.nil_append, DL.mxl_mk, DL.mxl_nil, DL.tl_mk, List.length_append, List.length_cons, List.length_nil] at hl)
    | ((refine t_LpickI (by assumption) ?_ 2 _ rfl rfl ?_ ?_ ?_); omega; simp; simp; intro _ _ hl hl2 _; simp only [DL.mxi, DL.mni] at hl hl2)
    | ((refine t_LpickS (by assumption) ?_ 3 _ rfl rfl ?_ ?_ ?_); omega; simp; simp; intro _ _ hl _; simp only [List.cons_append, List.nil_append, DL.mxl_mk, DL.mxl_nil, DL.tl_mk, List.length_append, List.length_cons, List.length_nil] at hl)
    | ((refine t_LpickI (by assumption) ?_ 3 _ rfl rfl ?_ ?_ ?_); omega; simp; simp; intro _ _ hl hl2 _; simp only [DL.mxi, DL.mni] at hl hl2)))
theorem t_LpickM {s : SI} {m : Nat} {g0 g : GS} {lo : FL} {Q : DK} {l : List Nat} (F : Fr (.go s m) g0 g lo) (hm : m < 1000000000000) (h1 : l ≠ []) (h2 : l.length < 10000000) (h : ∀ (c : Nat) g', c ∈ l → Fr (.go s (m + 1)) g0 g' lo → Q (.str (mk [c])) g') : sp_Lpick ([.ref s.L, .str (mk l)] ++ []) g Q := t_LpickZ F hm h1 h2 h
local macro_rules | `(tactic| walk_at "call") => `(tactic| ((with_reducible refine t_LpickM (by assumption) ?_ ?_ ?_ ?_); omega; simp; walk_at "len"; intro _ _ _ _))
/-- .law.once.in(source, many): 0 source, 1 many -/
abbrev N_Lonce_in : List Str := ["source", "many"]
theorem st0_Lonce_in (a0 a1 : D) : dstart N_Lonce_in [a0, a1] = [some a0, some a1] := rfl
def w_Lonce_in : DTS := (dRet (dOp eqD (dCall sp_Ldraw [] (dCons (dVar 0) (dCons (dVar 1) dNil))) (dOp fdivD (dVar 1) (dC (.int 2)))))
def sp_Lonce_in : DSp := fun ds g Q => match ds with
  | [.ref L, .int k] => ∃ s m, s.L = L ∧ Src s g m ∧ m < 1000000000000 ∧ 0 < k ∧ k < 1073741824 ∧ ∀ (b : Bool) g', Go s g g' (m + 1) → Q (.bl b) g'
  | _ => False
theorem len_Lonce_in : ∀ ds g Q, sp_Lonce_in ds g Q → ds.length = 2 := fun ds g Q h => by
  unfold sp_Lonce_in at h; split at h <;> first | rfl | exact h.elim
theorem rd_Lonce_in : ∀ ds g Q, sp_Lonce_in ds g Q → w_Lonce_in { nx := fun _ g => Q .non g, rt := Q } (dstart N_Lonce_in ds) g := fun ds g Q h => by
  unfold sp_Lonce_in at h; split at h
  case h_2 => exact h.elim
  obtain ⟨s, m, rfl, hS, hm, hk, hk2, q⟩ := h
  rw [st0_Lonce_in]
  unfold w_Lonce_in
  walk_at "go"
  refine ⟨s, m, rfl, hS, by omega, by omega, by omega, fun v g1 a1 a2 G1 => ?_⟩
  walk_at "go"
  exact q _ _ G1
theorem t_Lonce_in {s : SI} {m : Nat} {g0 g : GS} {lo : FL} {Q : DK} {k : Int} (F : Fr (.go s m) g0 g lo) (hm : m < 1000000000000) (h1 : 0 < k) (h2 : k < 1073741824) (h : ∀ (b : Bool) g', Fr (.go s (m + 1)) g0 g' lo → Q (.bl b) g') : sp_Lonce_in ([.ref s.L, .int k] ++ []) g Q := ⟨s, m, rfl, F.src, hm, h1, h2, fun b g' G => h b g' (F.call G)⟩
local macro_rules | `(tactic| walk_at "call") => `(tactic| ((with_reducible refine t_Lonce_in (by assumption) ?_ ?_ ?_ ?_); omega; walk_at "len"; walk_at "len"; intro _ _ _))
/-- .law.shuffled(source, row): 0 source, 1 row, 2 left, 3 done, 4 k -/
abbrev N_Lshuffled : List Str := ["source", "row", "left", "done", "k"]
theorem st0_Lshuffled (a0 a1 : D) : dstart N_Lshuffled [a0, a1] = [some a0, some a1, none, none, none] := rfl
def w_Lshuffled : DTS := (dSeq (dAsg (dCB lstF (dCons (dVar 1) dNil)) (gNm 2))
  (dSeq (dAsg (dLst dNil) (gNm 3))
  (dSeq (dFor (iRa1 (dCB lenD (dCons (dVar 1) dNil))) (gNm 4) (dDrop (dBM "list" appD (dVar 3) (dCons (dBM "list" popD (dVar 2) (dCons (dCall sp_Ldraw [] (dCons (dVar 0) (dCons (dCB lenD (dCons (dVar 2) dNil)) dNil))) dNil)) dNil))))
  (dRet (dVar 3)))))
def sp_Lshuffled : DSp := fun ds g Q => match ds with
  | [.ref L, .ref P] => ∃ s m, ∃ xs : List D, s.L = L ∧ Src s g m ∧ m < 700000000000 ∧ g P = some (.lst xs) ∧ P ≠ s.L ∧ xs.length ≤ 100000 ∧ ∀ (ys : List D) p g', ys.Perm xs → g p = none → Go s g g' (m + 200000) → g' p = some (.lst ys) → Q (.ref p) g'
  | [.ref L, .tup xs] => ∃ s m, s.L = L ∧ Src s g m ∧ m < 700000000000 ∧ xs.length ≤ 100000 ∧ ∀ (ys : List D) p g', ys.Perm xs → g p = none → Go s g g' (m + 200000) → g' p = some (.lst ys) → Q (.ref p) g'
  | _ => False
theorem len_Lshuffled : ∀ ds g Q, sp_Lshuffled ds g Q → ds.length = 2 := fun ds g Q h => by
  unfold sp_Lshuffled at h; split at h <;> first | rfl | exact h.elim
theorem rd_Lshuffled : ∀ ds g Q, sp_Lshuffled ds g Q → w_Lshuffled { nx := fun _ g => Q .non g, rt := Q } (dstart N_Lshuffled ds) g := fun ds g Q h => by
  unfold sp_Lshuffled at h; split at h
  · obtain ⟨s, m, xs, rfl, hS, hm, hP, nP, hn, q⟩ := h
    rename_i P
    rw [st0_Lshuffled]
    unfold w_Lshuffled
    walk_at "go"
    refine v_lstL hP fun A hA => ?_
    have nPA : P ≠ A := fun z => by rw [z, hA] at hP; cases hP
    have nA := hS.neL hA
    walk_at "go"
    refine ⟨by rw [szl]; simp, fun B hB => ?_⟩
    have hB0 : g B = none := (Up.new (S := []) (o := .lst xs) hA).fresh hB
    have nAB : A ≠ B := fun z => by rw [← z, gup_same] at hB; cases hB
    have nPB : P ≠ B := fun z => by rw [z, hB0] at hP; cases hP
    have nB := hS.neL hB0
    walk_at "go"
    refine v_lenL (by rw [gup_ne nPB, gup_ne nPA]; exact hP) ?_
    walk_at "go"
    have G0 := ((Go.start hS).new (o := .lst xs) hA).new (o := .lst []) hB
    refine ⟨fun i e g' => ∃ (us vs : List D), ∃ x, e = [some (.ref s.L), some (.ref P), some (.ref A), some (.ref B), x] ∧ us.length + i = xs.length ∧ vs.length = i ∧ (us ++ vs).Perm xs ∧ Go s g g' (m + i) ∧ g' A = some (.lst us) ∧ g' B = some (.lst vs),
      ⟨xs, [], _, rfl, by simp, rfl, by simp, G0, by rw [gup_ne nAB, gup_same], gup_same⟩, fun _ _ _ _ _ => trivial, ?_, ?_⟩
    · rintro i d e g' hd ⟨us, vs, x, rfl, h1, h2, hp, G, hgA, hgB⟩
      obtain ⟨hi, rfl⟩ := ran_get hd
      walk_at "go"
      refine v_rcvL hgB ?_
      walk_at "go"
      refine v_rcvL hgA ?_
      walk_at "go"
      refine ⟨s, _, rfl, G.2, by omega, by omega, by omega, fun v g2 a1 a2 G2 => ?_⟩
      have hgA2 := G2.get nA hgA
      have hgB2 := G2.get nB hgB
      have hv : v.toNat < us.length := by omega
      walk_at "go"
      refine v_popAt hgA2 a1 (by omega) (List.getElem?_eq_getElem hv) ?_
      walk_at "go"
      refine v_app' (ds := vs) (by rw [gup_ne nAB.symm]; exact hgB2) (by rw [szl]; omega) ?_
      walk_at "go"
      refine ⟨us.eraseIdx v.toNat, vs ++ [us[v.toNat]], _, rfl, by rw [List.length_eraseIdx_of_lt hv]; omega, by rw [List.length_append, List.length_singleton, h2], ?_, ((((G.trans G2).mut hA hS).mut hB0 hS)).le (by omega), by rw [gup_ne nAB, gup_same], gup_same⟩
      refine List.Perm.trans ?_ hp
      have e1 : us.Perm (us[v.toNat] :: us.eraseIdx v.toNat) := (perm_erase us v.toNat hv).symm
      refine List.Perm.trans ?_ (List.Perm.append_right vs e1.symm)
      rw [← List.append_assoc]
      exact (List.perm_append_singleton _ _).trans (by rw [List.cons_append])
    · rintro e g' ⟨us, vs, x, rfl, h1, h2, hp, G, hgA, hgB⟩
      rw [ran_len] at h1 h2 G
      have hu : us = [] := List.length_eq_zero_iff.mp (by omega)
      subst hu
      walk_at "go"
      exact q vs B g' hp hB0 (G.le (by omega)) hgB
  · obtain ⟨s, m, rfl, hS, hm, hn, q⟩ := h
    rename_i xs
    rw [st0_Lshuffled]
    unfold w_Lshuffled
    walk_at "go"
    intro A hA
    have nA := hS.neL hA
    walk_at "go"
    refine ⟨by rw [szl]; simp, fun B hB => ?_⟩
    have hB0 : g B = none := (Up.new (S := []) (o := .lst xs) hA).fresh hB
    have nAB : A ≠ B := fun z => by rw [← z, gup_same] at hB; cases hB
    have nB := hS.neL hB0
    walk_at "go"
    have G0 := ((Go.start hS).new (o := .lst xs) hA).new (o := .lst []) hB
    refine ⟨fun i e g' => ∃ (us vs : List D), ∃ x, e = [some (.ref s.L), some (.tup xs), some (.ref A), some (.ref B), x] ∧ us.length + i = xs.length ∧ vs.length = i ∧ (us ++ vs).Perm xs ∧ Go s g g' (m + i) ∧ g' A = some (.lst us) ∧ g' B = some (.lst vs),
      ⟨xs, [], _, rfl, by simp, rfl, by simp, G0, by rw [gup_ne nAB, gup_same], gup_same⟩, fun _ _ _ _ _ => trivial, ?_, ?_⟩
    · rintro i d e g' hd ⟨us, vs, x, rfl, h1, h2, hp, G, hgA, hgB⟩
      obtain ⟨hi, rfl⟩ := ran_get hd
      walk_at "go"
      refine v_rcvL hgB ?_
      walk_at "go"
      refine v_rcvL hgA ?_
      walk_at "go"
      refine ⟨s, _, rfl, G.2, by omega, by omega, by omega, fun v g2 a1 a2 G2 => ?_⟩
      have hgA2 := G2.get nA hgA
      have hgB2 := G2.get nB hgB
      have hv : v.toNat < us.length := by omega
      walk_at "go"
      refine v_popAt hgA2 a1 (by omega) (List.getElem?_eq_getElem hv) ?_
      walk_at "go"
      refine v_app' (ds := vs) (by rw [gup_ne nAB.symm]; exact hgB2) (by rw [szl]; omega) ?_
      walk_at "go"
      refine ⟨us.eraseIdx v.toNat, vs ++ [us[v.toNat]], _, rfl, by rw [List.length_eraseIdx_of_lt hv]; omega, by rw [List.length_append, List.length_singleton, h2], ?_, ((((G.trans G2).mut hA hS).mut hB0 hS)).le (by omega), by rw [gup_ne nAB, gup_same], gup_same⟩
      refine List.Perm.trans ?_ hp
      have e1 : us.Perm (us[v.toNat] :: us.eraseIdx v.toNat) := (perm_erase us v.toNat hv).symm
      refine List.Perm.trans ?_ (List.Perm.append_right vs e1.symm)
      rw [← List.append_assoc]
      exact (List.perm_append_singleton _ _).trans (by rw [List.cons_append])
    · rintro e g' ⟨us, vs, x, rfl, h1, h2, hp, G, hgA, hgB⟩
      rw [ran_len] at h1 h2 G
      have hu : us = [] := List.length_eq_zero_iff.mp (by omega)
      subst hu
      walk_at "go"
      exact q vs B g' hp hB0 (G.le (by omega)) hgB
  · exact h.elim
theorem t_LshuffledL {s : SI} {m : Nat} {g0 g : GS} {lo : FL} {Q : DK} {P : Addr} {xs : List D} (F : Fr (.go s m) g0 g lo) (hm : m < 700000000000) (n : Nat) (b : Bool) (e : lo[n]? = some (P, .lst xs, b)) (hz : xs.length ≤ 100000) (h : ∀ (ys : List D) p g', ys.Perm xs → Fr (.go s (m + 200000)) g0 g' ((p, .lst ys, true) :: lo) → Q (.ref p) g') : sp_Lshuffled ([.ref s.L, .ref P] ++ []) g Q :=
  ⟨s, m, xs, rfl, F.src, hm, F.at n e, F.neL n e, hz, fun ys p g' a f G e => h ys p g' a (F.retG f G e)⟩
/-- .law.new.name(source, used): 0 source, 1 used, 2 letters, 3 size, 4 name, 5 k, 6 tried -/
abbrev N_Lnew_name : List Str := ["source", "used", "letters", "size", "name", "k", "tried"]
theorem st0_Lnew_name (a0 a1 : D) : dstart N_Lnew_name [a0, a1] = [some a0, some a1, none, none, none, none, none] := rfl
def w_Lnew_name : DTS := (dSeq (dAsg (dC (.str "abcdefghijklmnopqrstuvwxyz")) (gNm 2))
  (dSeq (dAsg (dOp addD (dC (.int 1)) (dCall sp_Ldraw [] (dCons (dVar 0) (dCons (dC (.int 5)) dNil)))) (gNm 3))
  (dSeq (dAsg (dOp ixD (dVar 2) (dCall sp_Ldraw [] (dCons (dVar 0) (dCons (dC (.int 26)) dNil)))) (gNm 4))
  (dSeq (dFor (iRa1 (dOp subD (dVar 3) (dC (.int 1)))) (gNm 5) (dAsg (dOp addD (dVar 4) (dOp ixD (dOp addD (dVar 2) (dC (.str "0123456789"))) (dCall sp_Ldraw [] (dCons (dVar 0) (dCons (dC (.int 36)) dNil))))) (gNm 4)))
  (dSeq (dFor (iRa1 (dOp addD (dCB lenD (dCons (dVar 1) dNil)) (dC (.int 1)))) (gNm 5) (dSeq (dAsg (dOp addD (dVar 4) (dOp ixD (dLst (dCons (dC (.str "")) (dCons (dCB strF (dCons (dVar 5) dNil)) dNil))) (dCB intF (dCons (dOp gtD (dVar 5) (dC (.int 0))) dNil)))) (gNm 6))
  (dIf (dTest (dOp notInD (dVar 6) (dVar 1))) (dRet (dVar 6)) dNext)))
  (dRet (dVar 4)))))))
def sp_Lnew_name : DSp := fun ds g Q => match ds with
  | [.ref L, .ref U] => ∃ s m, ∃ us : List Str, s.L = L ∧ Src s g m ∧ m < 1000000000000 ∧ g U = some (.lst (us.map D.str)) ∧ us.length < 100 ∧ ∀ (nm : Str) g', NameOk nm → nm ∉ us → Go s g g' (m + 10) → Q (.str nm) g'
  | _ => False
theorem len_Lnew_name : ∀ ds g Q, sp_Lnew_name ds g Q → ds.length = 2 := fun ds g Q h => by
  unfold sp_Lnew_name at h; split at h <;> first | rfl | exact h.elim
def suf (k : Nat) : Str := if k = 0 then "" else Str.ofString (toString (k : Int))
theorem suf_inj {j k : Nat} {a : Str} (h : a ++ suf j = a ++ suf k) : j = k := by
  have h' := congrArg TL.tl h
  rw [TL.tl_append, TL.tl_append] at h'
  have h2 := List.append_cancel_left h'
  unfold suf at h2
  by_cases hj : j = 0
  · by_cases hk : k = 0
    · rw [hj, hk]
    · rw [if_pos hj, if_neg hk, TL.tl_num] at h2
      exact absurd h2.symm (TL.numL_ne k)
  · by_cases hk : k = 0
    · rw [if_neg hj, if_pos hk, TL.tl_num] at h2
      exact absurd h2 (TL.numL_ne j)
    · rw [if_neg hj, if_neg hk, TL.tl_num, TL.tl_num] at h2
      exact TL.numL_inj h2
theorem suf_some {nm : Str} {us : List Str} (h : ∀ j, j < us.length + 1 → nm ++ suf j ∈ us) : False := by
  have h1 : ((List.range (us.length + 1)).map fun j => nm ++ suf j).Nodup := nodup_map_on _ _ List.nodup_range fun x _ y _ e => suf_inj e
  have h2 := nodup_len _ us h1 fun x hx => by
    obtain ⟨j, hj, rfl⟩ := List.mem_map.mp hx
    exact h j (List.mem_range.mp hj)
  rw [List.length_map, List.length_range] at h2
  omega
theorem suf_name {nm : Str} {k : Nat} (h : NameL 4 (TL.tl nm)) (hk : k < 100) : NameOk (nm ++ suf k) := by
  unfold NameOk
  rw [TL.tl_append]
  refine h.app (m := 2) (fun x hx => ?_) ?_
  · unfold suf at hx
    split at hx
    · cases hx
    · rw [TL.tl_num] at hx; exact numL_dig x hx
  · unfold suf
    split
    · exact Nat.zero_le _
    · rw [TL.tl_num]; exact TL.numL_len (by decide) (by omega)
theorem letters_low : ∀ c ∈ (("abcdefghijklmnopqrstuvwxyz" : Str)).cps.toList, low c := by decide +kernel
theorem letters_len : (("abcdefghijklmnopqrstuvwxyz" : Str)).cps.toList.length = 26 := by decide +kernel
theorem alnum_ok : ∀ c ∈ (("abcdefghijklmnopqrstuvwxyz" : Str) ++ ("0123456789" : Str)).cps.toList, low c ∨ dig c := by decide +kernel
theorem alnum_len : (("abcdefghijklmnopqrstuvwxyz" : Str) ++ ("0123456789" : Str)).cps.toList.length = 36 := by decide +kernel
theorem rd_Lnew_name : ∀ ds g Q, sp_Lnew_name ds g Q → w_Lnew_name { nx := fun _ g => Q .non g, rt := Q } (dstart N_Lnew_name ds) g := fun ds g Q h => by
  unfold sp_Lnew_name at h; split at h
  case h_2 => exact h.elim
  obtain ⟨s, m, us, rfl, hS, hm, hU, hus, q⟩ := h
  rename_i U
  have nU : U ≠ s.L := hS.neStr hU
  rw [st0_Lnew_name]
  unfold w_Lnew_name
  walk_at "go"
  refine ⟨s, m, rfl, hS, by omega, by omega, by omega, fun v g1 a1 a2 G1 => ?_⟩
  walk_at "go"
  refine ⟨s, _, rfl, G1.2, by omega, by omega, by omega, fun v2 g2 b1 b2 G2 => ?_⟩
  have G2' := G1.trans G2
  walk_at "go"
  obtain ⟨c, hc, hat⟩ := atI_ex (xs := (("abcdefghijklmnopqrstuvwxyz" : Str)).cps.toList) b1 (by rw [letters_len]; omega)
  refine v_ixS (by rw [szl]; decide +kernel) hat ?_
  walk_at "go"
  refine ⟨fun i e g' => ∃ nm x, e = [some (.ref s.L), some (.ref U), some (.str "abcdefghijklmnopqrstuvwxyz"), some (.int (1 + v)), some (.str nm), x, none] ∧ NameL i (TL.tl nm) ∧ Go s g g' (m + 2 + i),
    ⟨_, _, rfl, ⟨c, [], rfl, letters_low c hc, (fun x hx => nomatch hx), Nat.zero_le _⟩, G2'⟩, fun _ _ _ _ _ => trivial, ?_, ?_⟩
  · rintro i d e g' hd ⟨nm, x, rfl, hn, G⟩
    obtain ⟨hi, rfl⟩ := ran_get hd
    walk_at "go"
    refine v_addS (by rw [szl]; decide +kernel) ?_
    walk_at "go"
    refine ⟨s, _, rfl, G.2, by omega, by omega, by omega, fun v3 g3 c1 c2 G3 => ?_⟩
    walk_at "go"
    obtain ⟨c3, hc3, hat3⟩ := atI_ex (xs := (("abcdefghijklmnopqrstuvwxyz" : Str) ++ ("0123456789" : Str)).cps.toList) c1 (by rw [alnum_len]; omega)
    refine v_ixS (by rw [szl]; decide +kernel) hat3 ?_
    refine v_addS (len2_le (n := 100) (by have := hn.len; rw [tl_one, List.length_singleton]; omega) (by omega)) ?_
    walk_at "go"
    refine ⟨_, _, rfl, ?_, (G.trans G3).le (by omega)⟩
    rw [TL.tl_append]
    exact hn.app (m := 1) (fun x hx => by rw [List.mem_singleton.mp hx]; exact alnum_ok c3 hc3) (Nat.le_refl _)
  · rintro e g3 ⟨nm, x, rfl, hn, G3⟩
    rw [ran_len] at hn G3
    have hn4 : NameL 4 (TL.tl nm) := hn.mono (by omega)
    walk_at "go"
    refine v_lenL (G3.get nU hU) ?_
    walk_at "go"
    rw [List.length_map]
    refine ⟨by omega, by omega, ?_⟩
    refine ⟨fun i e g' => ∃ x y, e = [some (.ref s.L), some (.ref U), some (.str "abcdefghijklmnopqrstuvwxyz"), some (.int (1 + v)), some (.str nm), x, y] ∧ (∀ j, j < i → nm ++ suf j ∈ us) ∧ Go s g g' (m + 8),
      ⟨_, _, rfl, fun j hj => absurd hj (Nat.not_lt_zero j), G3.le (by omega)⟩, fun _ _ _ _ _ => trivial, ?_, ?_⟩
    · rintro i d e g' hd ⟨x, y, rfl, hin, G⟩
      obtain ⟨hi, rfl⟩ := ran_get hd
      walk_at "go"
      refine v_str (logOk (by omega)) ?_
      walk_at "go"
      refine ⟨by rw [szl]; simp, fun p hp => ?_⟩
      walk_at "go"
      have e0 : (0 : Int) + (i : Int) = (i : Int) := Int.zero_add _
      rw [e0]
      refine v_ixL gup_same (d := .str (suf i)) ?_ ?_
      · by_cases h0 : i = 0
        · subst h0; rfl
        · have hp : (0 : Int) < (i : Int) := by omega
          rw [decide_eq_true hp]
          unfold suf
          rw [if_neg h0]
          rfl
      have hok := suf_name (nm := nm) (k := i) hn4 (by omega)
      have hz := hok.len
      rw [TL.tl_append, List.length_append] at hz
      refine v_addS (len2_le (n := 100) (by omega) (by omega)) ?_
      walk_at "go"
      have G' : Go s g (gup g' p _) (m + 8) := G.new (o := .lst [.str "", .str (Str.ofString (toString (i : Int)))]) hp
      refine v_notInLS (G'.get nU hU) ?_
      walk_at "go"
      refine iteN (fun hni => ?_) (fun hni => ?_)
      · walk_at "go"
        exact q _ _ hok hni (G'.le (by omega))
      · walk_at "go"
        refine ⟨_, _, rfl, fun j hj => ?_, G'⟩
        by_cases hji : j = i
        · subst hji; exact hni
        · exact hin j (by omega)
    · rintro e g' ⟨x, y, rfl, hin, G⟩
      rw [ran_len] at hin
      exact (suf_some (nm := nm) (us := us) fun j hj => hin j (by omega)).elim
/-- .law.names(source, many): 0 source, 1 many, 2 used, 3 k -/
abbrev N_Lnames : List Str := ["source", "many", "used", "k"]
theorem st0_Lnames (a0 a1 : D) : dstart N_Lnames [a0, a1] = [some a0, some a1, none, none] := rfl
def w_Lnames : DTS := (dSeq (dAsg (dLst dNil) (gNm 2))
  (dSeq (dFor (iRa1 (dVar 1)) (gNm 3) (dDrop (dBM "list" appD (dVar 2) (dCons (dCall sp_Lnew_name [] (dCons (dVar 0) (dCons (dVar 2) dNil))) dNil))))
  (dRet (dVar 2))))
def sp_Lnames : DSp := fun ds g Q => match ds with
  | [.ref L, .int k] => ∃ s m, s.L = L ∧ Src s g m ∧ m < 900000000000 ∧ 0 ≤ k ∧ k < 100 ∧ ∀ (us : List Str) p g', (us.length : Int) = k → us.Nodup → (∀ x ∈ us, NameOk x) → g p = none → Go s g g' (m + 1000) → g' p = some (.lst (us.map D.str)) → Q (.ref p) g'
  | _ => False
theorem len_Lnames : ∀ ds g Q, sp_Lnames ds g Q → ds.length = 2 := fun ds g Q h => by
  unfold sp_Lnames at h; split at h <;> first | rfl | exact h.elim
theorem rd_Lnames : ∀ ds g Q, sp_Lnames ds g Q → w_Lnames { nx := fun _ g => Q .non g, rt := Q } (dstart N_Lnames ds) g := fun ds g Q h => by
  unfold sp_Lnames at h; split at h
  case h_2 => exact h.elim
  obtain ⟨s, m, rfl, hS, hm, hk, hk2, q⟩ := h
  rename_i k
  rw [st0_Lnames]
  unfold w_Lnames
  walk_at "go"
  refine ⟨by rw [szl]; simp, fun p hp => ?_⟩
  walk_at "go"
  refine ⟨fun i e g' => ∃ (us : List Str) (x : Option D), e = [some (.ref s.L), some (.int k), some (.ref p), x] ∧ us.length = i ∧ us.Nodup ∧ (∀ x ∈ us, NameOk x) ∧ Go s g g' (m + 10 * i) ∧ g' p = some (.lst (us.map D.str)),
    ⟨[], _, rfl, rfl, List.nodup_nil, (fun x hx => nomatch hx), (Go.start hS).new hp, gup_same⟩, fun _ _ _ _ _ => trivial, ?_, ?_⟩
  · rintro i d e g' hd ⟨us, x, rfl, hl, hn, ho, G, hg⟩
    obtain ⟨hi, rfl⟩ := ran_get hd
    walk_at "go"
    refine v_rcvL hg ?_
    walk_at "go"
    refine ⟨s, _, us, rfl, G.2, by omega, hg, by omega, fun nm g2 h1 h2 G2 => ?_⟩
    have np : p ≠ s.L := hS.neL hp
    walk_at "go"
    refine v_app' (G2.get np hg) (by rw [szl, List.length_map]; omega) ?_
    refine ⟨us ++ [nm], _, rfl, by rw [List.length_append, hl]; rfl, ?_, fun x hx => ?_, ((G.trans G2).mut hp hS).le (by omega), ?_⟩
    · rw [List.nodup_append]
      exact ⟨hn, by simp, fun a ha b hb e => h2 (by rw [List.mem_singleton] at hb; rw [← hb, ← e]; exact ha)⟩
    · rcases List.mem_append.mp hx with hx | hx
      · exact ho x hx
      · rw [List.mem_singleton.mp hx]; exact h1
    · rw [gup_same, List.map_append]; rfl
  · rintro e g' ⟨us, x, rfl, hl, hn, ho, G, hg⟩
    rw [ran_len] at hl G
    walk_at "go"
    exact q us p g' (by omega) hn ho hp (G.le (by omega)) hg
theorem t_Lnames {s : SI} {m : Nat} {g0 g : GS} {lo : FL} {Q : DK} {k : Int} (F : Fr (.go s m) g0 g lo) (hm : m < 900000000000) (p0 : (0 ≤ k)) (p1 : (k < 100)) (h : ∀ us : List Str, ∀ p g', ((us.length : Int) = k) → (us.Nodup) → (∀ x ∈ us, NameOk x) → Fr (.go s (m + 1000)) g0 g' ((p, .lst (us.map D.str), true) :: lo) → Q (.ref p) g') : sp_Lnames ([.ref s.L, .int k] ++ []) g Q := ⟨s, m, rfl, F.src, hm, p0, p1, fun us p g' a0 a1 a2 f G e => h us p g' a0 a1 a2 (F.retG f G e)⟩
local macro_rules | `(tactic| walk_at "call") => `(tactic| ((with_reducible refine t_Lnames (by assumption) ?_ ?_ ?_ ?_); omega; walk_at "sd"; walk_at "sd"; intro _ _ _ _ _ _ _))
/-- .law.words(source): 0 source -/
abbrev N_Lwords : List Str := ["source"]
theorem st0_Lwords (a0 : D) : dstart N_Lwords [a0] = [some a0] := rfl
def w_Lwords : DTS := (dRet (dCall sp_Lnames [] (dCons (dVar 0) (dCons (dOp addD (dC (.int 2)) (dCall sp_Ldraw [] (dCons (dVar 0) (dCons (dC (.int 3)) dNil)))) dNil))))
def sp_Lwords : DSp := fun ds g Q => match ds with
  | [.ref L] => ∃ s m, s.L = L ∧ Src s g m ∧ m < 800000000000 ∧ ∀ (us : List Str) p g', 2 ≤ us.length → us.length ≤ 4 → us.Nodup → (∀ x ∈ us, NameOk x) → g p = none → Go s g g' (m + 1001) → g' p = some (.lst (us.map D.str)) → Q (.ref p) g'
  | _ => False
theorem len_Lwords : ∀ ds g Q, sp_Lwords ds g Q → ds.length = 1 := fun ds g Q h => by
  unfold sp_Lwords at h; split at h <;> first | rfl | exact h.elim
theorem rd_Lwords : ∀ ds g Q, sp_Lwords ds g Q → w_Lwords { nx := fun _ g => Q .non g, rt := Q } (dstart N_Lwords ds) g := fun ds g Q h => by
  unfold sp_Lwords at h; split at h
  case h_2 => exact h.elim
  obtain ⟨s, m, rfl, hS, hm, q⟩ := h
  rw [st0_Lwords]
  unfold w_Lwords
  walk_at "go"
  refine ⟨s, m, rfl, hS, by omega, by omega, by omega, fun v g1 a1 a2 G1 => ?_⟩
  walk_at "go"
  refine ⟨s, _, rfl, G1.2, by omega, by omega, by omega, fun us p g2 h1 h2 h3 hp G2 hg => ?_⟩
  exact q us p g2 (by omega) (by omega) h2 h3 (G1.1.fresh hp) ((G1.trans G2).le (by omega)) hg
theorem t_Lwords {s : SI} {m : Nat} {g0 g : GS} {lo : FL} {Q : DK} (F : Fr (.go s m) g0 g lo) (hm : m < 800000000000) (h : ∀ us : List Str, ∀ p g', (2 ≤ us.length) → (us.length ≤ 4) → (us.Nodup) → (∀ x ∈ us, NameOk x) → Fr (.go s (m + 1001)) g0 g' ((p, .lst (us.map D.str), true) :: lo) → Q (.ref p) g') : sp_Lwords ([.ref s.L] ++ []) g Q := ⟨s, m, rfl, F.src, hm, fun us p g' a0 a1 a2 a3 f G e => h us p g' a0 a1 a2 a3 (F.retG f G e)⟩
local macro_rules | `(tactic| walk_at "call") => `(tactic| ((with_reducible refine t_Lwords (by assumption) ?_ ?_); omega; intro _ _ _ _ _ _ _ _))
/-- .law.board(source, words): 0 source, 1 words, 2 size, 3 k -/
abbrev N_Lboard : List Str := ["source", "words", "size", "k"]
theorem st0_Lboard (a0 a1 : D) : dstart N_Lboard [a0, a1] = [some a0, some a1, none, none] := rfl
def w_Lboard : DTS := (dSeq (dAsg (dOp addD (dC (.int 1)) (dCall sp_Ldraw [] (dCons (dVar 0) (dCons (dC (.int 3)) dNil)))) (gNm 2))
  (dRet (dBM "str" joinD (dC (.str ".")) (dCons (dLc (iRa1 (dVar 2)) 3 dYes (dCall sp_Lpick [] (dCons (dVar 0) (dCons (dVar 1) dNil)))) dNil))))
def sp_Lboard : DSp := fun ds g Q => match ds with
  | [.ref L, .ref W] => ∃ s m, ∃ us : List Str, s.L = L ∧ Src s g m ∧ m < 700000000000 ∧ g W = some (.lst (us.map D.str)) ∧ us ≠ [] ∧ us.length < 1000 ∧ (∀ x ∈ us, NameOk x) ∧ ∀ (z : Str) g', BoardOk z → Go s g g' (m + 4) → Q (.str z) g'
  | _ => False
theorem len_Lboard : ∀ ds g Q, sp_Lboard ds g Q → ds.length = 2 := fun ds g Q h => by
  unfold sp_Lboard at h; split at h <;> first | rfl | exact h.elim
theorem rd_Lboard : ∀ ds g Q, sp_Lboard ds g Q → w_Lboard { nx := fun _ g => Q .non g, rt := Q } (dstart N_Lboard ds) g := fun ds g Q h => by
  unfold sp_Lboard at h; split at h
  case h_2 => exact h.elim
  obtain ⟨s, m, us, rfl, hS, hm, hW, h0, hn, ho, q⟩ := h
  have nW := hS.neStr hW
  rename_i W
  rw [st0_Lboard]
  unfold w_Lboard
  walk_at "go"
  refine ⟨s, m, rfl, hS, by omega, by omega, by omega, fun v g1 a1 a2 G1 => ?_⟩
  walk_at "go"
  refine lc_go (fun _ d => ∃ z : Str, d = .str z ∧ NameOk z) 1 hS G1 ?_ (fun i g' Q' hi G' k => ?_) (fun acc p g3 hl hP G3 hp hg => ?_)
  · omega
  · walk_at "go"
    refine ⟨s, _, us.map D.str, rfl, G'.2, by omega, G'.get nW hW, nW, fun z => h0 (List.map_eq_nil_iff.mp z), by rw [List.length_map]; omega, fun d g4 hd G4 => ?_⟩
    obtain ⟨z, hz, rfl⟩ := List.mem_map.mp hd
    exact k _ _ ⟨z, rfl, ho z hz⟩ (G4.le (by omega))
  obtain ⟨ws, rfl, hws⟩ := strs_of (all_of_get hP)
  rw [List.length_map] at hl
  have hd : (TL.tl ("." : Str)).length = 1 := by decide +kernel
  walk_at "go"
  refine v_joinL (B := 8) hg (fun w hw => by have := (hws w hw).len; omega) (by rw [hd]; omega) fun _ => ?_
  exact q _ g3 (board_ok hws (fun z => by rw [z] at hl; simp at hl; omega) (by omega)) (G3.le (by omega))
/-- .law.boards(source, words, most): 0 source, 1 words, 2 most, 3 found, 4 k, 5 board -/
abbrev N_Lboards : List Str := ["source", "words", "most", "found", "k", "board"]
theorem st0_Lboards (a0 a1 a2 : D) : dstart N_Lboards [a0, a1, a2] = [some a0, some a1, some a2, none, none, none] := rfl
def w_Lboards : DTS := (dSeq (dAsg (dLst dNil) (gNm 3))
  (dSeq (dFor (iRa1 (dOp addD (dC (.int 1)) (dCall sp_Ldraw [] (dCons (dVar 0) (dCons (dVar 2) dNil))))) (gNm 4) (dSeq (dAsg (dCall sp_Lboard [] (dCons (dVar 0) (dCons (dVar 1) dNil))) (gNm 5))
  (dIf (dTest (dOp notInD (dVar 5) (dVar 3))) (dDrop (dBM "list" appD (dVar 3) (dCons (dVar 5) dNil))) dNext)))
  (dRet (dCB tupF (dCons (dVar 3) dNil)))))
def sp_Lboards : DSp := fun ds g Q => match ds with
  | [.ref L, .ref W, .int k] => ∃ s m, ∃ us : List Str, s.L = L ∧ Src s g m ∧ m < 600000000000 ∧ g W = some (.lst (us.map D.str)) ∧ us ≠ [] ∧ us.length < 1000 ∧ (∀ x ∈ us, NameOk x) ∧ 0 < k ∧ k < 100 ∧ ∀ (bs : List Str) g', bs ≠ [] → (bs.length : Int) ≤ k → bs.Nodup → (∀ z ∈ bs, BoardOk z) → Go s g g' (m + 1000) → Q (.tup (bs.map D.str)) g'
  | _ => False
theorem len_Lboards : ∀ ds g Q, sp_Lboards ds g Q → ds.length = 3 := fun ds g Q h => by
  unfold sp_Lboards at h; split at h <;> first | rfl | exact h.elim
theorem rd_Lboards : ∀ ds g Q, sp_Lboards ds g Q → w_Lboards { nx := fun _ g => Q .non g, rt := Q } (dstart N_Lboards ds) g := fun ds g Q h => by
  unfold sp_Lboards at h; split at h
  case h_2 => exact h.elim
  obtain ⟨s, m, us, rfl, hS, hm, hW, h0, hn, ho, hk, hk2, q⟩ := h
  have nW := hS.neStr hW
  rename_i W k
  rw [st0_Lboards]
  unfold w_Lboards
  walk_at "go"
  refine ⟨by rw [szl]; simp, fun p hp => ?_⟩
  have np := hS.neL hp
  walk_at "go"
  have G0 := (Go.start hS).new (o := .lst []) hp
  refine ⟨s, _, rfl, G0.2, by omega, by omega, by omega, fun v g1 a1 a2 G1 => ?_⟩
  walk_at "go"
  have hW1 : gup g p (.lst []) W = some (.lst (us.map D.str)) := by rw [gup_ne (fun z => by rw [z, hp] at hW; cases hW)]; exact hW
  refine ⟨fun i e g' => ∃ (bs : List Str), ∃ x y, e = [some (.ref s.L), some (.ref W), some (.int k), some (.ref p), x, y] ∧ bs.length ≤ i ∧ (0 < i → bs ≠ []) ∧ bs.Nodup ∧ (∀ x ∈ bs, BoardOk x) ∧ Go s g g' (m + 1 + 4 * i) ∧ g' p = some (.lst (bs.map D.str)) ∧ g' W = some (.lst (us.map D.str)),
    ⟨[], _, _, rfl, by simp, (fun z => absurd z (by omega)), List.nodup_nil, (fun x hx => nomatch hx), G0.trans G1, G1.get np gup_same, G1.get nW hW1⟩, fun _ _ _ _ _ => trivial, ?_, ?_⟩
  · rintro i d e g' hd ⟨bs, x, y, rfl, hl, h1, hN, hb, G, hg, hWg⟩
    obtain ⟨hi, rfl⟩ := ran_get hd
    walk_at "go"
    refine ⟨s, _, us, rfl, G.2, by omega, hWg, h0, hn, ho, fun z g2 hz G2 => ?_⟩
    have hg2 := G2.get np hg
    walk_at "go"
    refine v_notInLS hg2 ?_
    walk_at "go"
    refine iteN (fun h2 => ?_) (fun h2 => ?_)
    · walk_at "go"
      refine v_rcvL hg2 ?_
      walk_at "go"
      refine v_app' hg2 (by rw [szl, List.length_map]; omega) ?_
      walk_at "go"
      refine ⟨bs ++ [z], _, _, rfl, by rw [List.length_append, List.length_singleton]; omega, fun _ => by simp, ?_, fun x hx => ?_, ((G.trans G2).mut hp hS).le (by omega), by rw [gup_same, List.map_append]; rfl, by rw [gup_ne (fun z => by rw [z, hp] at hW; cases hW)]; exact G2.get nW hWg⟩
      · rw [List.nodup_append]
        exact ⟨hN, by simp, fun a ha b hb e => h2 (by rw [List.mem_singleton] at hb; rw [← hb, ← e]; exact ha)⟩
      · rcases List.mem_append.mp hx with hx | hx
        · exact hb x hx
        · rw [List.mem_singleton.mp hx]; exact hz
    · walk_at "go"
      exact ⟨bs, _, _, rfl, by omega, (fun _ z => by rw [z] at h2; cases h2), hN, hb, (G.trans G2).le (by omega), hg2, G2.get nW hWg⟩
  · rintro e g' ⟨bs, x, y, rfl, hl, h1, hN, hb, G, hg, hWg⟩
    rw [ran_len] at hl h1 G
    walk_at "go"
    exact q bs g' (h1 (by omega)) (by omega) hN hb (G.le (by omega))
theorem t_Lboards {s : SI} {m : Nat} {g0 g : GS} {lo : FL} {Q : DK} {us : List Str} {W : Addr} {k : Int} (F : Fr (.go s m) g0 g lo) (hm : m < 600000000000) (n0 : Nat) (b0 : Bool) (e0 : lo[n0]? = some (W, .lst (us.map D.str), b0)) (p0 : (us ≠ [])) (p1 : (us.length < 1000)) (p2 : ((∀ x ∈ us, NameOk x))) (p3 : (0 < k)) (p4 : (k < 100)) (h : ∀ bs : List Str, ∀ g', (bs ≠ []) → ((bs.length : Int) ≤ k) → (bs.Nodup) → (∀ z ∈ bs, BoardOk z) → Fr (.go s (m + 1000)) g0 g' lo → Q (.tup (bs.map D.str)) g') : sp_Lboards ([.ref s.L, .ref W, .int k] ++ []) g Q := ⟨s, m, us, rfl, F.src, hm, F.at n0 e0, p0, p1, p2, p3, p4, fun bs g' a0 a1 a2 a3 G => h bs g' a0 a1 a2 a3 (F.call G)⟩
local macro_rules | `(tactic| walk_at "call") => `(tactic| ((with_reducible refine (?_ : sp_Lboards _ _ _)); first
    | (refine t_Lboards (by assumption) ?_ 0 _ rfl ?_ ?_ ?_ ?_ ?_ ?_; omega; walk_at "sd"; walk_at "sd"; walk_at "sd"; walk_at "sd"; walk_at "sd"; intro _ _ _ _ _ _ _)
    | (refine t_Lboards (by assumption) ?_ 1 _ rfl ?_ ?_ ?_ ?_ ?_ ?_; omega; walk_at "sd"; walk_at "sd"; walk_at "sd"; walk_at "sd"; walk_at "sd"; intro _ _ _ _ _ _ _)
    | (refine t_Lboards (by assumption) ?_ 2 _ rfl ?_ ?_ ?_ ?_ ?_ ?_; omega; walk_at "sd"; walk_at "sd"; walk_at "sd"; walk_at "sd"; walk_at "sd"; intro _ _ _ _ _ _ _)
    | (refine t_Lboards (by assumption) ?_ 3 _ rfl ?_ ?_ ?_ ?_ ?_ ?_; omega; walk_at "sd"; walk_at "sd"; walk_at "sd"; walk_at "sd"; walk_at "sd"; intro _ _ _ _ _ _ _)
    | (refine t_Lboards (by assumption) ?_ 4 _ rfl ?_ ?_ ?_ ?_ ?_ ?_; omega; walk_at "sd"; walk_at "sd"; walk_at "sd"; walk_at "sd"; walk_at "sd"; intro _ _ _ _ _ _ _)))
/-- .law.glob(source, words): 0 source, 1 words, 2 word, 3 menu -/
abbrev N_Lglob : List Str := ["source", "words", "word", "menu"]
theorem st0_Lglob (a0 a1 : D) : dstart N_Lglob [a0, a1] = [some a0, some a1, none, none] := rfl
def w_Lglob : DTS := (dSeq (dAsg (dCall sp_Lpick [] (dCons (dVar 0) (dCons (dVar 1) dNil))) (gNm 2))
  (dSeq (dAsg (dLst (dCons (dCall sp_Lboard [] (dCons (dVar 0) (dCons (dVar 1) dNil))) (dCons (dOp addD (dVar 2) (dC (.str ".*"))) (dCons (dOp addD (dC (.str "*.")) (dVar 2)) (dCons (dOp addD (dVar 2) (dC (.str "*"))) (dCons (dOp addD (dOp addD (dC (.str "?")) (dSl (dVar 2) (dPart (dC (.int 1))) dNo)) (dC (.str "*"))) dNil)))))) (gNm 3))
  (dRet (dCall sp_Lpick [] (dCons (dVar 0) (dCons (dOp addD (dVar 3) (dLst (dCons (dOp addD (dOp addD (dC (.str "*")) (dSl (dVar 2) (dPart (dUn negD (dC (.int 1)))) dNo)) (dC (.str "?*"))) (dCons (dOp addD (dVar 2) (dC (.str ".?*"))) (dCons (dC (.str "*")) dNil))))) dNil))))))
def sp_Lglob : DSp := fun ds g Q => match ds with
  | [.ref L, .ref W] => ∃ s m, ∃ us : List Str, s.L = L ∧ Src s g m ∧ m < 600000000000 ∧ g W = some (.lst (us.map D.str)) ∧ us ≠ [] ∧ us.length < 1000 ∧ (∀ x ∈ us, NameOk x) ∧ ∀ (z : Str) g', GlobOk z → Go s g g' (m + 10) → Q (.str z) g'
  | _ => False
theorem len_Lglob : ∀ ds g Q, sp_Lglob ds g Q → ds.length = 2 := fun ds g Q h => by
  unfold sp_Lglob at h; split at h <;> first | rfl | exact h.elim
theorem rd_Lglob : ∀ ds g Q, sp_Lglob ds g Q → w_Lglob { nx := fun _ g => Q .non g, rt := Q } (dstart N_Lglob ds) g := fun ds g Q h => by
  unfold sp_Lglob at h; split at h
  case h_2 => exact h.elim
  obtain ⟨s, m, us, rfl, hS, hm, hW, h0, hn, ho, q⟩ := h
  have nW := hS.neStr hW
  rename_i W
  have e1 : (".*" : Str) = mk [46, 42] := by decide +kernel
  have e2 : ("*." : Str) = mk [42, 46] := by decide +kernel
  have e3 : ("?*" : Str) = mk [63, 42] := by decide +kernel
  have e4 : (".?*" : Str) = mk [46, 63, 42] := by decide +kernel
  rw [st0_Lglob]
  unfold w_Lglob
  rw [e1, e2, e3, e4, star_mk, ques_mk]
  walk_at "go"
  refine ⟨s, m, us.map D.str, rfl, hS, by omega, hW, nW, fun z => h0 (List.map_eq_nil_iff.mp z), by rw [List.length_map]; omega, fun d g1 hd G1 => ?_⟩
  obtain ⟨w, hw, rfl⟩ := List.mem_map.mp hd
  have hN := ho w hw
  have hc := hN.chars
  have hl := hN.len
  have hne := hN.ne
  clear hN hd
  obtain ⟨l, rfl⟩ : ∃ l, w = mk l := ⟨_, (mk_tl w).symm⟩
  rw [tl_mk] at hc hl hne
  have gl : ∀ r : List Nat, (∀ c ∈ r, c ∉ l → c = 46 ∨ c = 42 ∨ c = 63) → r ≠ [] → r.length ≤ 70 → GlobOk (mk r) := fun r h1 h2 h3 => ⟨by rw [tl_mk]; exact h2, by rw [tl_mk]; exact h3, fun c h => by
    rw [tl_mk] at h
    by_cases hm : c ∈ l
    · exact (hc c hm).elim .inl fun z => .inr (.inl z)
    · exact .inr (.inr (h1 c h hm))⟩
  walk_at "go"
  refine ⟨s, _, us, rfl, G1.2, by omega, G1.get nW hW, h0, hn, ho, fun bd g2 hb G2 => ?_⟩
  walk_at "go"
  refine v_addM (by simp; omega) ?_
  walk_at "go"
  refine v_addM (by simp; omega) ?_
  walk_at "go"
  refine v_addM (by simp; omega) ?_
  walk_at "go"
  refine v_slAny (by omega) fun r1 r11 r12 => ?_
  refine v_addM (by simp; omega) ?_
  walk_at "go"
  refine v_addM (by simp; omega) ?_
  walk_at "go"
  refine ⟨by rw [szl]; simp, fun M hM => ?_⟩
  walk_at "go"
  refine v_slAny (by omega) fun r2 r21 r22 => ?_
  refine v_addM (by simp; omega) ?_
  walk_at "go"
  refine v_addM (by simp; omega) ?_
  walk_at "go"
  refine v_addM (by simp; omega) ?_
  walk_at "go"
  refine ⟨by rw [szl]; simp, fun M2 hM2 => ?_⟩
  have n12 : M ≠ M2 := fun z => by rw [z, gup_same] at hM2; cases hM2
  refine v_addL (by rw [gup_ne n12]; exact gup_same) gup_same (by rw [szl]; simp) fun M3 hM3 => ?_
  walk_at "go"
  have G := (((G1.trans G2).new (o := .lst [.str bd, .str (mk (l ++ [46, 42])), .str (mk ([42, 46] ++ l)), .str (mk (l ++ [42])), .str (mk ([63] ++ r1 ++ [42]))]) hM).new (o := .lst [.str (mk ([42] ++ r2 ++ [63, 42])), .str (mk (l ++ [46, 63, 42])), .str (mk [42])]) hM2)
  have nM3 := G.2.neL hM3
  have G' := G.new (o := .lst ([D.str bd, .str (mk (l ++ [46, 42])), .str (mk ([42, 46] ++ l)), .str (mk (l ++ [42])), .str (mk ([63] ++ r1 ++ [42]))] ++ [.str (mk ([42] ++ r2 ++ [63, 42])), .str (mk (l ++ [46, 63, 42])), .str (mk [42])])) hM3
  refine ⟨s, _, _, rfl, G'.2, by omega, gup_same, nM3, by simp, by simp, fun d g5 hd G5 => ?_⟩
  have go : ∀ z, GlobOk z → d = .str z → Q d g5 := fun z hz e => by
    rw [e]
    exact q z g5 hz ((G'.trans G5).le (by omega))
  simp only [List.cons_append, List.nil_append, List.mem_cons, List.mem_nil_iff, or_false] at hd
  have lne : ∀ x : List Nat, l ++ x ≠ [] := fun x z => hne (List.append_eq_nil_iff.mp z).1
  have kr1 : ∀ c ∈ [63] ++ r1 ++ [42], c ∉ l → c = 46 ∨ c = 42 ∨ c = 63 := fun c h hn => by
    have h1 : c ∉ r1 := fun z => hn (r11 c z)
    simp [h1] at h; omega
  have kr2 : ∀ c ∈ [42] ++ r2 ++ [63, 42], c ∉ l → c = 46 ∨ c = 42 ∨ c = 63 := fun c h hn => by
    have h1 : c ∉ r2 := fun z => hn (r21 c z)
    simp [h1] at h; omega
  rcases hd with e | e | e | e | e | e | e | e
  · exact go bd ⟨hb.ne, by have := hb.len; omega, fun c h => (hb.chr c h).elim .inl fun z => .inr (z.elim .inl fun z => .inr (.inl z))⟩ e
  · exact go _ (gl _ (fun c h hn => by simp [hn] at h; omega) (lne _) (by simp; omega)) e
  · exact go _ (gl _ (fun c h hn => by simp [hn] at h; omega) (by simp) (by simp; omega)) e
  · exact go _ (gl _ (fun c h hn => by simp [hn] at h; omega) (lne _) (by simp; omega)) e
  · exact go _ (gl _ kr1 (by simp) (by simp; omega)) e
  · exact go _ (gl _ kr2 (by simp) (by simp; omega)) e
  · exact go _ (gl _ (fun c h hn => by simp [hn] at h; omega) (lne _) (by simp; omega)) e
  · exact go _ (gl _ (fun c h hn => by simp [hn] at h; omega) (by simp) (by simp)) e
/-- .law.pattern(source, words): 0 source, 1 words, 2 many, 3 items, 4 k -/
abbrev N_Lpattern : List Str := ["source", "words", "many", "items", "k"]
theorem st0_Lpattern (a0 a1 : D) : dstart N_Lpattern [a0, a1] = [some a0, some a1, none, none, none] := rfl
def w_Lpattern : DTS := (dSeq (dAsg (dOp addD (dC (.int 1)) (dCall sp_Ldraw [] (dCons (dVar 0) (dCons (dC (.int 3)) dNil)))) (gNm 2))
  (dSeq (dAsg (dLc (iRa1 (dVar 2)) 4 dYes (dOp addD (dOp ixD (dLst (dCons (dC (.str "")) (dCons (dC (.str "!")) dNil))) (dCB intF (dCons (dAndV (dOp gtD (dVar 4) (dC (.int 0))) (dOp eqD (dCall sp_Ldraw [] (dCons (dVar 0) (dCons (dC (.int 2)) dNil))) (dC (.int 1)))) dNil))) (dCall sp_Lglob [] (dCons (dVar 0) (dCons (dVar 1) dNil))))) (gNm 3))
  (dSeq (dWhile (dAnd (dTest (dOp gtD (dCB lenD (dCons (dVar 3) dNil)) (dC (.int 1)))) (dTest (dOp gtD (dCB lenD (dCons (dBM "str" joinD (dC (.str ",")) (dCons (dVar 3) dNil)) dNil)) (dC (.int 60))))) (dDrop (dBM0 "list" popD (dVar 3))))
  (dRet (dBM "str" joinD (dC (.str ",")) (dCons (dVar 3) dNil))))))
def sp_Lpattern : DSp := fun ds g Q => match ds with
  | [.ref L, .ref W] => ∃ s m, ∃ us : List Str, s.L = L ∧ Src s g m ∧ m < 500000000000 ∧ g W = some (.lst (us.map D.str)) ∧ us ≠ [] ∧ us.length < 1000 ∧ (∀ x ∈ us, NameOk x) ∧ ∀ (z : Str) g', PatOk z → Go s g g' (m + 100) → Q (.str z) g'
  | _ => False
theorem len_Lpattern : ∀ ds g Q, sp_Lpattern ds g Q → ds.length = 2 := fun ds g Q h => by
  unfold sp_Lpattern at h; split at h <;> first | rfl | exact h.elim
theorem rd_Lpattern : ∀ ds g Q, sp_Lpattern ds g Q → w_Lpattern { nx := fun _ g => Q .non g, rt := Q } (dstart N_Lpattern ds) g := fun ds g Q h => by
  unfold sp_Lpattern at h; split at h
  case h_2 => exact h.elim
  obtain ⟨s, m, us, rfl, hS, hm, hW, h0, hn, ho, q⟩ := h
  have nW := hS.neStr hW
  rename_i W
  rw [st0_Lpattern]
  unfold w_Lpattern
  rw [excl_mk, empty_mk]
  walk_at "go"
  refine ⟨s, m, rfl, hS, by omega, by omega, by omega, fun v g1 a1 a2 G1 => ?_⟩
  walk_at "go"
  refine lc_go (fun _ d => ∃ z : Str, d = .str z ∧ ItemOk z) 12 hS G1 ?_ (fun i g' Q' hi G' k => ?_) (fun acc p g3 hl hP G3 hp hg => ?_)
  · omega
  · have hWg := G'.get nW hW
    walk_at "go"
    refine ⟨by rw [szl]; simp, fun u hu => ?_⟩
    have nU := G'.2.neL hu
    have Gu := (Go.start G'.2).new (o := .lst [.str (mk []), .str (mk [33])]) hu
    walk_at "go"
    refine iteD (fun _ => ?_) (fun _ => ?_)
    · walk_at "go"
      refine ⟨s, _, rfl, Gu.2, by omega, by omega, by omega, fun v5 g5 b1 b2 G5 => ?_⟩
      have hu5 := G5.get nU gup_same
      have GG := Gu.trans G5
      walk_at "go"
      cases hb : decide (v5 = 1) with
      | true =>
        refine v_ixL hu5 (show atI [D.str (mk []), .str (mk [33])] _ = some (.str (mk [33])) from rfl) ?_
        walk_at "go"
        refine ⟨s, _, us, rfl, GG.2, by omega, GG.get nW hWg, h0, hn, ho, fun z g6 hz G6 => ?_⟩
        obtain ⟨l, rfl⟩ : ∃ l, z = mk l := ⟨_, (mk_tl z).symm⟩
        have hz1 := hz.ne
        have hz2 := hz.len
        have hz3 := hz.chr
        rw [tl_mk] at hz1 hz2 hz3
        refine v_addM (by simp; omega) ?_
        refine k _ _ ⟨_, rfl, ⟨by rw [tl_mk]; simp [hz1], by rw [tl_mk]; simp; omega, fun c hc => ?_⟩⟩ ((GG.trans G6).le (by omega))
        rw [tl_mk] at hc
        by_cases hm : c ∈ l
        · have := hz3 c hm
          unfold low dig at this
          omega
        · simp [hm] at hc
          try omega
      | false =>
        refine v_ixL hu5 (show atI [D.str (mk []), .str (mk [33])] _ = some (.str (mk [])) from rfl) ?_
        walk_at "go"
        refine ⟨s, _, us, rfl, GG.2, by omega, GG.get nW hWg, h0, hn, ho, fun z g6 hz G6 => ?_⟩
        obtain ⟨l, rfl⟩ : ∃ l, z = mk l := ⟨_, (mk_tl z).symm⟩
        have hz1 := hz.ne
        have hz2 := hz.len
        have hz3 := hz.chr
        rw [tl_mk] at hz1 hz2 hz3
        refine v_addM (by simp; omega) ?_
        refine k _ _ ⟨_, rfl, ⟨by rw [tl_mk]; simp [hz1], by rw [tl_mk]; simp; omega, fun c hc => ?_⟩⟩ ((GG.trans G6).le (by omega))
        rw [tl_mk] at hc
        by_cases hm : c ∈ l
        · have := hz3 c hm
          unfold low dig at this
          omega
        · simp [hm] at hc
          try omega
    · have GG := Gu
      walk_at "go"
      refine v_ixL gup_same (show atI [D.str (mk []), .str (mk [33])] _ = some (.str (mk [])) from rfl) ?_
      walk_at "go"
      refine ⟨s, _, us, rfl, GG.2, by omega, GG.get nW hWg, h0, hn, ho, fun z g6 hz G6 => ?_⟩
      obtain ⟨l, rfl⟩ : ∃ l, z = mk l := ⟨_, (mk_tl z).symm⟩
      have hz1 := hz.ne
      have hz2 := hz.len
      have hz3 := hz.chr
      rw [tl_mk] at hz1 hz2 hz3
      refine v_addM (by simp; omega) ?_
      refine k _ _ ⟨_, rfl, ⟨by rw [tl_mk]; simp [hz1], by rw [tl_mk]; simp; omega, fun c hc => ?_⟩⟩ ((GG.trans G6).le (by omega))
      rw [tl_mk] at hc
      by_cases hm : c ∈ l
      · have := hz3 c hm
        unfold low dig at this
        omega
      · simp [hm] at hc
        try omega
  obtain ⟨is, rfl, hws⟩ := strs_of (all_of_get hP)
  rw [List.length_map] at hl
  have hd : (TL.tl ("," : Str)).length = 1 := by decide +kernel
  have nP := hS.neL hp
  walk_at "go"
  have hv3 : 12 * (1 + v).toNat ≤ 36 := by omega
  refine s_while (fun n e g' => ∃ (is : List Str), ∃ x, e = [some (.ref s.L), some (.ref W), some (.int (1 + v)), some (.ref p), x] ∧ n = is.length ∧ is ≠ [] ∧ is.length ≤ 10 ∧ (∀ z ∈ is, ItemOk z) ∧ Go s g g' (m + 100) ∧ g' p = some (.lst (is.map D.str))) is.length ⟨is, _, rfl, rfl, (fun z => by rw [z] at hl; simp at hl; omega), by omega, hws, G3.le (by omega), hg⟩ ?_
  clear hl hg hws hP G3 is
  rintro n e g' ⟨is, x, rfl, rfl, hne, hl, hws, G, hg⟩
  have hj : (TL.tl (Txt.join "," is)).length ≤ 1000 → (Txt.join "," is).length ≤ sizeLine := fun h => by rw [szl, TL.len_tl]; omega
  have hb : is.length * (80 + (TL.tl ("," : Str)).length) ≤ 810 := by rw [hd]; omega
  have pk := pat_ok hws hne hl
  have fini : dRet (dBM "str" joinD (dC (.str ",")) (dCons (dVar 3) dNil)) { nx := fun _ g => Q .non g, rt := Q } [some (.ref s.L), some (.ref W), some (.int (1 + v)), some (.ref p), x] g' := by
    walk_at "go"
    refine v_joinL (B := 80) hg (fun w hw => (hws w hw).len) (by omega) fun _ => ?_
    exact q _ g' pk.1 G
  walk_at "go"
  rw [List.length_map]
  refine iteD (fun h1 => ?_) (fun h1 => ?_)
  · walk_at "go"
    refine v_joinL (B := 80) hg (fun w hw => (hws w hw).len) (by omega) fun hj2 => ?_
    walk_at "go"
    refine v_lenS (hj (by omega)) ?_
    walk_at "go"
    refine iteD (fun h2 => ?_) (fun h2 => ?_)
    · refine ⟨fun e g' => ∃ (is' : List Str), ∃ x, e = [some (.ref s.L), some (.ref W), some (.int (1 + v)), some (.ref p), x] ∧ is'.length < is.length ∧ is' ≠ [] ∧ is'.length ≤ 10 ∧ (∀ z ∈ is', ItemOk z) ∧ Go s g g' (m + 100) ∧ g' p = some (.lst (is'.map D.str)), ?_, ?_⟩
      · rintro e' g' ⟨is', x, rfl, a, b, c, d, f, h⟩
        exact ⟨_, a, is', x, rfl, rfl, b, c, d, f, h⟩
      · have hlen : is.length - 1 < (is.map D.str).length := by rw [List.length_map]; omega
        walk_at "go"
        refine v_rcvL hg ?_
        refine v_pop hg (by rw [List.length_map]; exact List.getElem?_eq_getElem hlen) ?_
        walk_at "go"
        refine ⟨is.dropLast, _, rfl, by rw [List.length_dropLast]; omega, fun z => ?_, by rw [List.length_dropLast]; omega, fun z hz => hws z (List.dropLast_subset _ hz), G.mut hp hS, by rw [gup_same, List.map_dropLast]⟩
        have := congrArg List.length z
        rw [List.length_dropLast, List.length_nil] at this
        omega
    · exact fini
  · refine iteB (fun z => by cases z) (fun _ => ?_)
    exact fini
theorem t_Lpattern {s : SI} {m : Nat} {g0 g : GS} {lo : FL} {Q : DK} {us : List Str} {W : Addr} (F : Fr (.go s m) g0 g lo) (hm : m < 500000000000) (n0 : Nat) (b0 : Bool) (e0 : lo[n0]? = some (W, .lst (us.map D.str), b0)) (p0 : (us ≠ [])) (p1 : (us.length < 1000)) (p2 : (∀ x ∈ us, NameOk x)) (h : ∀ z : Str, ∀ g', (PatOk z) → Fr (.go s (m + 100)) g0 g' lo → Q (.str z) g') : sp_Lpattern ([.ref s.L, .ref W] ++ []) g Q := ⟨s, m, us, rfl, F.src, hm, F.at n0 e0, p0, p1, p2, fun z g' a0 G => h z g' a0 (F.call G)⟩
local macro_rules | `(tactic| walk_at "call") => `(tactic| ((with_reducible refine (?_ : sp_Lpattern _ _ _)); first
    | (refine t_Lpattern (by assumption) ?_ 0 _ rfl ?_ ?_ ?_ ?_; omega; walk_at "sd"; walk_at "sd"; walk_at "sd"; intro _ _ _ _)
    | (refine t_Lpattern (by assumption) ?_ 1 _ rfl ?_ ?_ ?_ ?_; omega; walk_at "sd"; walk_at "sd"; walk_at "sd"; intro _ _ _ _)
    | (refine t_Lpattern (by assumption) ?_ 2 _ rfl ?_ ?_ ?_ ?_; omega; walk_at "sd"; walk_at "sd"; walk_at "sd"; intro _ _ _ _)
    | (refine t_Lpattern (by assumption) ?_ 3 _ rfl ?_ ?_ ?_ ?_; omega; walk_at "sd"; walk_at "sd"; walk_at "sd"; intro _ _ _ _)
    | (refine t_Lpattern (by assumption) ?_ 4 _ rfl ?_ ?_ ?_ ?_; omega; walk_at "sd"; walk_at "sd"; walk_at "sd"; intro _ _ _ _)))
/-- .law.fits(glob, board): 0 glob, 1 board, 2 spots, 3 k, 4 sign, 5 after -/
abbrev N_Lfits : List Str := ["glob", "board", "spots", "k", "sign", "after"]
theorem st0_Lfits (a0 a1 : D) : dstart N_Lfits [a0, a1] = [some a0, some a1, none, none, none, none] := rfl
def w_Lfits : DTS := (dSeq (dAsg (dOp addD (dLst (dCons (dC (.bl true)) dNil)) (dOp mulD (dLst (dCons (dC (.bl false)) dNil)) (dCB lenD (dCons (dVar 0) dNil)))) (gNm 2))
  (dSeq (dFor (iRa1 (dCB lenD (dCons (dVar 0) dNil))) (gNm 3) (dIf (dAnd (dTru (dOp ixD (dVar 2) (dVar 3))) (dTest (dOp eqD (dOp ixD (dVar 0) (dVar 3)) (dC (.str "*"))))) (dAsg (dC (.bl true)) (gSb (dVar 2) (dOp addD (dVar 3) (dC (.int 1))))) dNext))
  (dSeq (dFor (iAny (dVar 1)) (gNm 4) (dSeq (dAsg (dOp mulD (dLst (dCons (dC (.bl false)) dNil)) (dOp addD (dCB lenD (dCons (dVar 0) dNil)) (dC (.int 1)))) (gNm 5))
  (dSeq (dFor (iRa1 (dCB lenD (dCons (dVar 0) dNil))) (gNm 3) (dSeq (dIf (dAnd (dTru (dOp ixD (dVar 2) (dVar 3))) (dTest (dOp eqD (dOp ixD (dVar 0) (dVar 3)) (dC (.str "*"))))) (dAsg (dC (.bl true)) (gSb (dVar 5) (dVar 3))) dNext)
  (dIf (dAnd (dTru (dOp ixD (dVar 2) (dVar 3))) (dTest (dOp inD (dOp ixD (dVar 0) (dVar 3)) (dTup (dCons (dC (.str "?")) (dCons (dVar 4) dNil)))))) (dAsg (dC (.bl true)) (gSb (dVar 5) (dOp addD (dVar 3) (dC (.int 1))))) dNext)))
  (dSeq (dFor (iRa1 (dCB lenD (dCons (dVar 0) dNil))) (gNm 3) (dIf (dAnd (dTru (dOp ixD (dVar 5) (dVar 3))) (dTest (dOp eqD (dOp ixD (dVar 0) (dVar 3)) (dC (.str "*"))))) (dAsg (dC (.bl true)) (gSb (dVar 5) (dOp addD (dVar 3) (dC (.int 1))))) dNext))
  (dAsg (dVar 5) (gNm 2))))))
  (dRet (dOp ixD (dVar 2) (dCB lenD (dCons (dVar 0) dNil)))))))
def sp_Lfits : DSp := fun ds g Q => match ds with
  | [.str z, .str b] => (TL.tl z).length ≤ 100000 ∧ ∀ g', Up [] g g' → Q (.bl (fitsB (TL.tl z) (TL.tl b))) g'
  | _ => False
theorem len_Lfits : ∀ ds g Q, sp_Lfits ds g Q → ds.length = 2 := fun ds g Q h => by
  unfold sp_Lfits at h; split at h <;> first | rfl | exact h.elim
theorem rd_Lfits : ∀ ds g Q, sp_Lfits ds g Q → w_Lfits { nx := fun _ g => Q .non g, rt := Q } (dstart N_Lfits ds) g := fun ds g Q h => by
  unfold sp_Lfits at h; split at h
  case h_2 => exact h.elim
  obtain ⟨hl, q⟩ := h
  rename_i z b
  obtain ⟨l, rfl⟩ : ∃ l, z = mk l := ⟨_, (mk_tl z).symm⟩
  rw [tl_mk] at hl q
  rw [st0_Lfits]
  unfold w_Lfits
  rw [star_mk, ques_mk]
  walk_at "go"
  refine ⟨by rw [szl]; simp, fun p1 hp1 => ?_⟩
  walk_at "go"
  refine ⟨by rw [szl]; simp, fun p2 hp2 => ?_⟩
  walk_at "go"
  refine v_lenM (by omega) ?_
  refine v_rep gup_same (by omega) (by simp; omega) (by omega) fun p3 hp3 => ?_
  have n12 : p1 ≠ p2 := fun z => by rw [z, gup_same] at hp2; cases hp2
  have n13 : p1 ≠ p3 := fun z => by rw [← z, gup_ne n12, gup_same] at hp3; cases hp3
  refine v_addL (by rw [gup_ne n13, gup_ne n12]; exact gup_same) gup_same (by rw [szl]; simp; omega) fun A hA => ?_
  have en : ((l.length : Nat) : Int).toNat = l.length := by omega
  rw [en, blD_start]
  have U3 := ((Up.new (S := []) (o := .lst [D.bl true]) hp1).trans (.new (o := .lst [D.bl false]) hp2)).trans (.new (o := .lst (List.replicate (l.length : Int).toNat [D.bl false]).flatten) hp3)
  have hA0 : g A = none := U3.fresh hA
  have U0 := U3.trans (.new (o := .lst ([D.bl true] ++ (List.replicate (l.length : Int).toNat [D.bl false]).flatten)) hA)
  rw [en, blD_start] at U0
  clear U3
  walk_at "go"
  refine v_lenM (by omega) ?_
  walk_at "go"
  rw [en]
  refine ⟨fun i e g2 => ∃ x3, e = [some (.str (mk l)), some (.str b), some (.ref A), x3, none, none] ∧ Up [] g g2 ∧ g2 A = some (.lst (blD l.length (starTo l (fun p => p == 0) i))), ⟨_, rfl, U0, by rw [gup_same, blD_congr fun p _ => starTo_0 l _ p]⟩, fun _ _ _ _ _ => trivial, ?_, ?_⟩
  · rintro i d e g2 hd ⟨x3, rfl, U, hg⟩
    obtain ⟨hi, rfl⟩ := ran0 hd
    have hi2 : i < l.length := by omega
    have ex : l[i]? = some l[i] := List.getElem?_eq_getElem hi2
    have skip : ¬ (starC l (fun p => p == 0) i = true ∧ l[i]? = some 42) → g2 A = some (.lst (blD l.length (starTo l (fun p => p == 0) (i + 1)))) := fun h => by
      rw [hg, blD_congr fun p _ => (starTo_no h p).symm]
    walk_at "go"
    refine v_ixL hg (L2.atI_nat (blD_get (by omega))) ?_
    rw [starTo_self]
    walk_at "go"
    refine iteB (fun h1 => ?_) (fun h1 => ?_)
    · walk_at "go"
      refine v_ixM (by omega) (L2.atI_nat ex) ?_
      walk_at "go"
      refine iteD (fun h2 => ?_) (fun h2 => ?_)
      · walk_at "go"
        have h3 : l[i]? = some 42 := by rw [ex, mk_sing.mp h2]
        refine v_set (j := i + 1) hg (ixN_at (by omega) (by rw [blD_len]; omega)) ?_
        walk_at "go"
        refine ⟨_, rfl, U.mut hA0, ?_⟩
        rw [gup_same, blD_set fun p _ => starTo_yes h1 h3 p]
      · walk_at "go"
        exact ⟨_, rfl, U, skip fun z => h2 (by rw [ex] at z; rw [Option.some.inj z.2])⟩
    · refine iteB (fun z => by cases z) (fun _ => ?_)
      walk_at "go"
      exact ⟨_, rfl, U, skip fun z => by rw [h1] at z; cases z.1⟩
  rintro e g2 ⟨x3, rfl, U, hg⟩
  rw [ran_len, blD_congr (S := starTo l (fun p => p == 0) l.length) (T := startA l) fun p hp => starTo_end hp] at hg
  clear U0 hp1 hp2 hp3 n12 n13
  walk_at "go"
  refine s_anyS ?_
  walk_at "go"
  refine ⟨fun i e g2 => ∃ A x3 x4 x5, e = [some (.str (mk l)), some (.str b), some (.ref A), x3, x4, x5] ∧ Up [] g g2 ∧ g2 A = some (.lst (blD l.length (((TL.tl b).take i).foldl (stepB l) (startA l)))), ⟨A, _, _, _, rfl, U, hg⟩, fun _ _ _ _ _ => trivial, ?_, ?_⟩
  · clear hg U hA hA0
    clear g2 x3 A
    rintro i d e g2 hd ⟨A, x3, x4, x5, rfl, U, hgA⟩
    obtain ⟨c, hc, rfl⟩ := walk_get (z := b) hd
    generalize hS : ((TL.tl b).take i).foldl (stepB l) (startA l) = S at hgA
    walk_at "go"
    refine ⟨by rw [szl]; simp, fun q2 hq2 => ?_⟩
    walk_at "go"
    refine v_lenM (by omega) ?_
    walk_at "go"
    have en1 : ((l.length : Int) + 1).toNat = l.length + 1 := by omega
    refine v_rep gup_same (by omega) (by rw [en1]; simp; omega) (by omega) fun B hB => ?_
    rw [en1, blD_false]
    have Uq : Up [] g2 (gup g2 q2 (.lst [D.bl false])) := .new hq2
    have hB2 : g2 B = none := Uq.fresh hB
    have hB0 : g B = none := U.fresh hB2
    have UB := Uq.trans (.new (o := .lst (blD l.length fun _ => false)) hB)
    walk_at "go"
    refine v_lenM (by omega) ?_
    walk_at "go"
    rw [en]
    refine ⟨fun k e g3 => ∃ x3, e = [some (.str (mk l)), some (.str b), some (.ref A), x3, some (.str (mk [c])), some (.ref B)] ∧ Up [] g2 g3 ∧ g3 B = some (.lst (blD l.length (bOn l c S k))), ⟨_, rfl, UB, by rw [gup_same, blD_congr fun p _ => bOn_0 l c S p]⟩, fun _ _ _ _ _ => trivial, ?_, ?_⟩
    · rintro k d e g3 hd ⟨x3, rfl, UK, hg⟩
      obtain ⟨hk, rfl⟩ := ran0 hd
      have hk2 : k < l.length := hk
      have ex : l[k]? = some l[k] := List.getElem?_eq_getElem hk2
      walk_at "gs"
      refine s_cut (fun e g4 => ∃ c1, c1 = (S k && l[k]? == some 42) ∧ e = [some (.str (mk l)), some (.str b), some (.ref A), some (.int (k : Int)), some (.str (mk [c])), some (.ref B)] ∧ Up [] g2 g4 ∧ g4 B = some (.lst (blD l.length fun p => bOn l c S k p || (c1 && decide (p = k))))) ?_ ?_
      · have skip : (S k && l[k]? == some 42) = false → ∃ c1, c1 = (S k && l[k]? == some 42) ∧ [some (D.str (mk l)), some (.str b), some (.ref A), some (.int (k : Int)), some (.str (mk [c])), some (.ref B)] = [some (.str (mk l)), some (.str b), some (.ref A), some (.int (k : Int)), some (.str (mk [c])), some (.ref B)] ∧ Up [] g2 g3 ∧ g3 B = some (.lst (blD l.length fun p => bOn l c S k p || (c1 && decide (p = k)))) := fun h =>
          ⟨false, h.symm, rfl, UK, by rw [hg, blD_congr (T := fun p => bOn l c S k p || (false && decide (p = k))) fun p _ => by simp]⟩
        walk_at "go"
        refine v_ixL (UK.get0 hgA) (L2.atI_nat (blD_get (by omega))) ?_
        walk_at "go"
        refine iteB (fun h1 => ?_) (fun h1 => ?_)
        · walk_at "go"
          refine v_ixM (by omega) (L2.atI_nat ex) ?_
          walk_at "go"
          refine iteD (fun h2 => ?_) (fun h2 => ?_)
          · walk_at "go"
            refine v_set (j := k) hg (ixN_at (by omega) (by rw [blD_len]; omega)) ?_
            walk_at "go"
            refine ⟨true, ?_, rfl, UK.mut hB2, ?_⟩
            · rw [h1, ex, mk_sing.mp h2]; rfl
            · rw [gup_same, blD_set (T := fun p => bOn l c S k p || (true && decide (p = k))) fun p _ => by simp]
          · walk_at "go"
            refine skip ?_
            rw [ex, show (some l[k] == some 42) = false from beq_eq_false_iff_ne.mpr fun z => h2 (by rw [Option.some.inj z]), Bool.and_false]
        · refine iteB (fun z => by cases z) (fun _ => ?_)
          walk_at "go"
          exact skip (by rw [h1]; rfl)
      rintro e g4 ⟨c1, hc1, rfl, U4, hg4⟩
      have skip2 : (S k && (l[k]? == some 63 || l[k]? == some c)) = false → ∃ x3, [some (D.str (mk l)), some (.str b), some (.ref A), some (.int (k : Int)), some (.str (mk [c])), some (.ref B)] = [some (.str (mk l)), some (.str b), some (.ref A), x3, some (.str (mk [c])), some (.ref B)] ∧ Up [] g2 g4 ∧ g4 B = some (.lst (blD l.length (bOn l c S (k + 1)))) := fun h =>
        ⟨_, rfl, U4, by rw [hg4]; exact congrArg (fun x => some (MO.lst x)) (blD_congr fun p _ => ((bOn_step hc1 h.symm p).trans (by simp)).symm)⟩
      walk_at "go"
      refine v_ixL (U4.get0 hgA) (L2.atI_nat (blD_get (by omega))) ?_
      walk_at "go"
      refine iteB (fun h1 => ?_) (fun h1 => ?_)
      · walk_at "go"
        refine v_ixM (by omega) (L2.atI_nat ex) ?_
        walk_at "go"
        refine ⟨by rw [szl]; simp, ?_⟩
        refine v_inTS (us := [mk [63], mk [c]]) ?_
        walk_at "go"
        refine iteD (fun h2 => ?_) (fun h2 => ?_)
        · walk_at "go"
          refine v_set (j := k + 1) hg4 (ixN_at (by omega) (by rw [blD_len]; omega)) ?_
          walk_at "go"
          simp only [List.mem_cons, List.mem_nil_iff, or_false, mk_sing] at h2
          have hc2 : true = (S k && (l[k]? == some 63 || l[k]? == some c)) := by
            rw [h1, ex]
            rcases h2 with h2 | h2 <;> rw [h2] <;> simp
          refine ⟨_, rfl, U4.mut hB2, ?_⟩
          rw [gup_same, blD_set (T := bOn l c S (k + 1)) fun p _ => by rw [bOn_step hc1 hc2 p, Bool.true_and]]
        · walk_at "go"
          refine skip2 ?_
          simp only [List.mem_cons, List.mem_nil_iff, or_false, mk_sing] at h2
          rw [ex, show (some l[k] == some 63) = false from beq_eq_false_iff_ne.mpr fun z => h2 (.inl (Option.some.inj z)), show (some l[k] == some c) = false from beq_eq_false_iff_ne.mpr fun z => h2 (.inr (Option.some.inj z))]
          simp
      · refine iteB (fun z => by cases z) (fun _ => ?_)
        walk_at "go"
        exact skip2 (by rw [h1]; rfl)
    rintro e g3 ⟨x3, rfl, UK, hg⟩
    rw [ran_len, blD_congr fun p _ => bOn_end l c S p] at hg
    have UG := U.trans UK
    walk_at "go"
    refine v_lenM (by omega) ?_
    walk_at "go"
    rw [en]
    refine ⟨fun i e g2 => ∃ x3, e = [some (.str (mk l)), some (.str b), some (.ref A), x3, some (.str (mk [c])), some (.ref B)] ∧ Up [] g g2 ∧ g2 B = some (.lst (blD l.length (starTo l (baseB l c S) i))), ⟨_, rfl, UG, by rw [hg, blD_congr fun p _ => starTo_0 l _ p]⟩, fun _ _ _ _ _ => trivial, ?_, ?_⟩
    · rintro i d e g2 hd ⟨x3, rfl, U, hg⟩
      obtain ⟨hi, rfl⟩ := ran0 hd
      have hi2 : i < l.length := by omega
      have ex : l[i]? = some l[i] := List.getElem?_eq_getElem hi2
      have skip : ¬ (starC l (baseB l c S) i = true ∧ l[i]? = some 42) → g2 B = some (.lst (blD l.length (starTo l (baseB l c S) (i + 1)))) := fun h => by
        rw [hg, blD_congr fun p _ => (starTo_no h p).symm]
      walk_at "go"
      refine v_ixL hg (L2.atI_nat (blD_get (by omega))) ?_
      rw [starTo_self]
      walk_at "go"
      refine iteB (fun h1 => ?_) (fun h1 => ?_)
      · walk_at "go"
        refine v_ixM (by omega) (L2.atI_nat ex) ?_
        walk_at "go"
        refine iteD (fun h2 => ?_) (fun h2 => ?_)
        · walk_at "go"
          have h3 : l[i]? = some 42 := by rw [ex, mk_sing.mp h2]
          refine v_set (j := i + 1) hg (ixN_at (by omega) (by rw [blD_len]; omega)) ?_
          walk_at "go"
          refine ⟨_, rfl, U.mut hB0, ?_⟩
          rw [gup_same, blD_set fun p _ => starTo_yes h1 h3 p]
        · walk_at "go"
          exact ⟨_, rfl, U, skip fun z => h2 (by rw [ex] at z; rw [Option.some.inj z.2])⟩
      · refine iteB (fun z => by cases z) (fun _ => ?_)
        walk_at "go"
        exact ⟨_, rfl, U, skip fun z => by rw [h1] at z; cases z.1⟩
    rintro e g5 ⟨x3, rfl, U5, hg5⟩
    rw [ran_len, blD_congr (S := starTo l (baseB l c S) l.length) (T := stepB l S c) fun p hp => starTo_end hp] at hg5
    walk_at "go"
    refine ⟨B, _, _, _, rfl, U5, ?_⟩
    rw [hg5, List.take_add_one, hc, List.foldl_append, hS]
    rfl
  · clear hg U hA hA0
    clear g2 x3 A
    rintro e g2 ⟨A, x3, x4, x5, rfl, U, hgA⟩
    have et : (TL.tl b).take (((b.cps.toList).map fun c => D.str ⟨#[c]⟩).length) = TL.tl b := by
      rw [List.length_map]
      exact List.take_length
    rw [et] at hgA
    walk_at "go"
    refine v_lenM (by omega) ?_
    refine v_ixL hgA (L2.atI_nat (blD_get (Nat.le_refl _))) ?_
    rw [fits_law]
    exact q g2 U
/-- .law.lets(pattern, board): 0 pattern, 1 board, 2 answer, 3 item -/
abbrev N_Llets : List Str := ["pattern", "board", "answer", "item"]
theorem st0_Llets (a0 a1 : D) : dstart N_Llets [a0, a1] = [some a0, some a1, none, none] := rfl
def w_Llets : DTS := (dSeq (dAsg (dC (.bl false)) (gNm 2))
  (dSeq (dFor (iAny (dBM "str" splitD (dVar 0) (dCons (dC (.str ",")) dNil))) (gNm 3) (dIf (dTest (dOp eqD (dSl (dVar 3) dNo (dPart (dC (.int 1)))) (dC (.str "!")))) (dIf (dTru (dCall sp_Lfits [] (dCons (dSl (dVar 3) (dPart (dC (.int 1))) dNo) (dCons (dVar 1) dNil)))) (dAsg (dC (.bl false)) (gNm 2)) dNext) (dIf (dTru (dCall sp_Lfits [] (dCons (dVar 3) (dCons (dVar 1) dNil)))) (dAsg (dC (.bl true)) (gNm 2)) dNext)))
  (dRet (dVar 2))))
def sp_Llets : DSp := fun ds g Q => match ds with
  | [.str p, .str b] => PatOk p ∧ (TL.tl b).length ≤ 1000000 ∧ ∀ g', Up [] g g' → Q (.bl (letsB p b)) g'
  | _ => False
theorem len_Llets : ∀ ds g Q, sp_Llets ds g Q → ds.length = 2 := fun ds g Q h => by
  unfold sp_Llets at h; split at h <;> first | rfl | exact h.elim
theorem rd_Llets : ∀ ds g Q, sp_Llets ds g Q → w_Llets { nx := fun _ g => Q .non g, rt := Q } (dstart N_Llets ds) g := fun ds g Q h => by
  unfold sp_Llets at h; split at h
  case h_2 => exact h.elim
  obtain ⟨⟨hp, hit⟩, hb, q⟩ := h
  rename_i p b
  have hp2 := TL.len_tl p
  rw [st0_Llets]
  unfold w_Llets
  rw [excl_mk]
  walk_at "go"
  refine s_anyL ?_
  walk_at "go"
  refine v_split comma_len (by omega) fun r hr => ?_
  have hle : ∀ x ∈ Txt.split p ("," : Str), (TL.tl x).length ≤ 1000 := fun x hx => by
    have := split_le hx; rw [TL.len_tl] at this; omega
  have U0 : Up [] g (gup g r (.lst ((Txt.split p ("," : Str)).map D.str))) := .new hr
  have hg : gup g r (.lst ((Txt.split p ("," : Str)).map D.str)) r = some (.lst ((Txt.split p ("," : Str)).map D.str)) := gup_same
  generalize gup g r (.lst ((Txt.split p ("," : Str)).map D.str)) = g0 at U0 hg ⊢
  unfold letsB at q
  generalize Txt.split p ("," : Str) = L at hg hle q hit
  refine x_lst hg ?_
  refine ⟨fun i e g' => Up [] g0 g' ∧ ∃ x, e = [some (.str p), some (.str b), some (.bl (((L.take i).map TL.tl).foldl (lstep (TL.tl b)) false)), x], ⟨.refl, _, rfl⟩, fun i e g' _ h => .inl (h.1.get0 hg), ?_, ?_⟩
  · rintro i d e g' hd ⟨U, x, rfl⟩
    obtain ⟨it, hi, rfl⟩ : ∃ it, L[i]? = some it ∧ d = .str it := by
      rw [List.getElem?_map] at hd
      cases hi : L[i]? with
      | none => rw [hi] at hd; cases hd
      | some z => rw [hi] at hd; exact ⟨z, rfl, (Option.some.inj hd).symm⟩
    have hm : it ∈ L := List.mem_of_getElem? hi
    have hnext : ((L.take (i + 1)).map TL.tl).foldl (lstep (TL.tl b)) false = lstep (TL.tl b) (((L.take i).map TL.tl).foldl (lstep (TL.tl b)) false) (TL.tl it) := by
      rw [List.take_add_one, hi]
      show ((L.take i ++ [it]).map TL.tl).foldl _ false = _
      rw [List.map_append, List.foldl_append]
      rfl
    generalize ((L.take i).map TL.tl).foldl (lstep (TL.tl b)) false = acc at hnext ⊢
    have hit0 := hit it hm
    have hitl := hle it hm
    obtain ⟨l, rfl⟩ : ∃ l, it = mk l := ⟨_, (mk_tl it).symm⟩
    rw [tl_mk] at hit0 hitl hnext
    cases l with
    | nil => exact absurd rfl hit0
    | cons c w =>
      have ec : (c :: w).take (Int.toNat 1) = [c] := rfl
      have ew : (c :: w).drop (Int.toNat 1) = w := rfl
      rw [lstep_cons] at hnext
      walk_at "go"
      refine v_slTo (by omega) (by omega) ?_
      rw [ec]
      walk_at "go"
      refine iteD (fun h1 => ?_) (fun h1 => ?_)
      · have h1 : c = 33 := mk_sing.mp h1
        walk_at "go"
        refine v_slFrom (by omega) (by omega) ?_
        rw [ew]
        walk_at "go"
        refine ⟨by rw [tl_mk]; rw [List.length_cons] at hitl; omega, fun g2 U2 => ?_⟩
        rw [tl_mk]
        walk_at "go"
        refine iteB (fun h2 => ?_) (fun h2 => ?_)
        · walk_at "go"
          exact ⟨U.trans U2, _, by rw [hnext, if_pos h1, if_pos h2]; rfl⟩
        · walk_at "go"
          exact ⟨U.trans U2, _, by rw [hnext, if_pos h1, if_neg (by rw [h2]; decide)]; rfl⟩
      · have h1 : ¬ c = 33 := fun z => h1 (mk_sing.mpr z)
        walk_at "go"
        refine ⟨by rw [tl_mk]; omega, fun g2 U2 => ?_⟩
        rw [tl_mk]
        walk_at "go"
        refine iteB (fun h2 => ?_) (fun h2 => ?_)
        · walk_at "go"
          exact ⟨U.trans U2, _, by rw [hnext, if_neg h1, if_pos h2]; rfl⟩
        · walk_at "go"
          exact ⟨U.trans U2, _, by rw [hnext, if_neg h1, if_neg (by rw [h2]; decide)]; rfl⟩
  · rintro e g' ⟨U, x, rfl⟩
    rw [List.length_map, List.take_length]
    walk_at "go"
    exact q g' (U0.trans U)
theorem t_Llets {k : FK} {g0 g : GS} {lo : FL} {Q : DK} {p : Str} {b : Str} (F : Fr k g0 g lo) (p0 : (PatOk p)) (p1 : ((TL.tl b).length ≤ 1000000)) (h : ∀ g', Fr k g0 g' lo → Q (.bl (letsB p b)) g') : sp_Llets ([.str p, .str b] ++ []) g Q := ⟨p0, p1, fun g' u => h g' (F.up u)⟩
local macro_rules | `(tactic| walk_at "call") => `(tactic| ((with_reducible refine t_Llets (by assumption) ?_ ?_ ?_); walk_at "sd"; walk_at "sd"; intro _ _))
/-- .law.lets.some(pattern, boards): 0 pattern, 1 boards, 2 board -/
abbrev N_Llets_some : List Str := ["pattern", "boards", "board"]
theorem st0_Llets_some (a0 a1 : D) : dstart N_Llets_some [a0, a1] = [some a0, some a1, none] := rfl
def w_Llets_some : DTS := (dSeq (dFor (iAny (dVar 1)) (gNm 2) (dIf (dTru (dCall sp_Llets [] (dCons (dVar 0) (dCons (dVar 2) dNil)))) (dRet (dC (.bl true))) dNext))
  (dRet (dC (.bl false))))
def sp_Llets_some : DSp := fun ds g Q => match ds with
  | [.str p, .tup bs] => ∃ L : List Str, bs = L.map D.str ∧ PatOk p ∧ (∀ b ∈ L, (TL.tl b).length ≤ 1000000) ∧ L.length ≤ 1000000 ∧ ∀ g', Up [] g g' → Q (.bl (L.any fun b => letsB p b)) g'
  | _ => False
theorem len_Llets_some : ∀ ds g Q, sp_Llets_some ds g Q → ds.length = 2 := fun ds g Q h => by
  unfold sp_Llets_some at h; split at h <;> first | rfl | exact h.elim
theorem rd_Llets_some : ∀ ds g Q, sp_Llets_some ds g Q → w_Llets_some { nx := fun _ g => Q .non g, rt := Q } (dstart N_Llets_some ds) g := fun ds g Q h => by
  unfold sp_Llets_some at h; split at h
  case h_2 => exact h.elim
  obtain ⟨L, rfl, hp, hb, hn, q⟩ := h
  rename_i p
  rw [st0_Llets_some]
  unfold w_Llets_some
  walk_at "go"
  refine s_anyT ?_
  walk_at "go"
  refine ⟨fun i e g' => Up [] g g' ∧ (∀ b ∈ L.take i, letsB p b = false) ∧ ∃ x, e = [some (.str p), some (.tup (L.map D.str)), x], ⟨.refl, (fun b hb => nomatch hb), _, rfl⟩, fun _ _ _ _ _ => trivial, ?_, ?_⟩
  · rintro i d e g' hd ⟨U, hA, x, rfl⟩
    obtain ⟨b, hi, rfl⟩ : ∃ it, L[i]? = some it ∧ d = .str it := by
      rw [List.getElem?_map] at hd
      cases hi : L[i]? with
      | none => rw [hi] at hd; cases hd
      | some z => rw [hi] at hd; exact ⟨z, rfl, (Option.some.inj hd).symm⟩
    have hm : b ∈ L := List.mem_of_getElem? hi
    walk_at "go"
    refine ⟨hp, hb b hm, fun g2 U2 => ?_⟩
    walk_at "go"
    refine iteB (fun h2 => ?_) (fun h2 => ?_)
    · walk_at "go"
      have := q g2 (U.trans U2)
      rw [List.any_eq_true.mpr ⟨b, hm, h2⟩] at this
      exact this
    · walk_at "go"
      refine ⟨U.trans U2, fun z hz => ?_, _, rfl⟩
      rw [List.take_add_one, hi] at hz
      rcases List.mem_append.mp hz with hz | hz
      · exact hA z hz
      · rw [List.mem_singleton.mp hz]; exact h2
  · rintro e g' ⟨U, hA, x, rfl⟩
    rw [List.length_map, List.take_length] at hA
    walk_at "go"
    have := q g' U
    rw [List.any_eq_false.mpr fun b hb => by rw [hA b hb]; decide] at this
    exact this
theorem t_Llets_some {k : FK} {g0 g : GS} {lo : FL} {Q : DK} {L : List Str} {p : Str} (F : Fr k g0 g lo) (p0 : (PatOk p)) (p1 : ((∀ b ∈ L, (TL.tl b).length ≤ 1000000))) (p2 : (L.length ≤ 1000000)) (h : ∀ g', Fr k g0 g' lo → Q (.bl (L.any fun b => letsB p b)) g') : sp_Llets_some ([.str p, .tup (L.map D.str)] ++ []) g Q := ⟨L, rfl, p0, p1, p2, fun g' u => h g' (F.up u)⟩
local macro_rules | `(tactic| walk_at "call") => `(tactic| ((with_reducible refine t_Llets_some (by assumption) ?_ ?_ ?_ ?_); walk_at "sd"; walk_at "sd"; walk_at "sd"; intro _ _))
/-- .law.is.int(value): 0 value -/
abbrev N_Lis_int : List Str := ["value"]
theorem st0_Lis_int (a0 : D) : dstart N_Lis_int [a0] = [some a0] := rfl
def w_Lis_int : DTS := (dRet (dAndV (dIsi "int" (dVar 0)) (dNotV (dIsi "bool" (dVar 0)))))
def isIntD : D → Bool
  | .int _ => true
  | _ => false
def norf : D → Prop
  | .ref _ => False
  | .klst _ => False
  | _ => True
def sp_Lis_int : DSp := fun ds g Q => match ds with
  | [a] => norf a ∧ Q (.bl (isIntD a)) g
  | _ => False
theorem len_Lis_int : ∀ ds g Q, sp_Lis_int ds g Q → ds.length = 1 := fun ds g Q h => by
  unfold sp_Lis_int at h; split at h <;> first | rfl | exact h.elim
theorem rd_Lis_int : ∀ ds g Q, sp_Lis_int ds g Q → w_Lis_int { nx := fun _ g => Q .non g, rt := Q } (dstart N_Lis_int ds) g := fun ds g Q h => by
  unfold sp_Lis_int at h; split at h
  case h_2 => exact h.elim
  obtain ⟨hn, q⟩ := h
  rename_i a
  rw [st0_Lis_int]
  unfold w_Lis_int
  walk_at "go"
  cases a with
  | ref _ => exact hn.elim
  | klst _ => exact hn.elim
  | int i =>
    refine ⟨_, true, rfl, by decide +kernel, ?_⟩
    walk_at "go"
    refine iteB (fun _ => ?_) (fun z => by cases z)
    walk_at "go"
    refine ⟨_, false, rfl, by decide +kernel, ?_⟩
    walk_at "go"
    exact q
  | bl b =>
    refine ⟨_, true, rfl, by decide +kernel, ?_⟩
    walk_at "go"
    refine iteB (fun _ => ?_) (fun z => by cases z)
    walk_at "go"
    refine ⟨_, true, rfl, by decide +kernel, ?_⟩
    walk_at "go"
    exact q
  | _ =>
    refine ⟨_, false, rfl, by decide +kernel, ?_⟩
    walk_at "go"
    refine iteB (fun z => by cases z) (fun _ => ?_)
    exact q
/-- .law.same(actual, due): 0 actual, 1 due, 2 k -/
abbrev N_Lsame : List Str := ["actual", "due", "k"]
theorem st0_Lsame (a0 a1 : D) : dstart N_Lsame [a0, a1] = [some a0, some a1, none] := rfl
def w_Lsame (sp : DSp) : DTS := (dSeq (dIf (dTru (dIsi "tuple" (dVar 1))) (dSeq (dIf (dOr (dNot (dTru (dIsi "tuple" (dVar 0)))) (dTest (dOp neD (dCB lenD (dCons (dVar 0) dNil)) (dCB lenD (dCons (dVar 1) dNil))))) (dRet (dC (.bl false))) dNext)
  (dSeq (dFor (iRa1 (dCB lenD (dCons (dVar 1) dNil))) (gNm 2) (dIf (dNot (dTru (dCall sp [] (dCons (dOp ixD (dVar 0) (dVar 2)) (dCons (dOp ixD (dVar 1) (dVar 2)) dNil))))) (dRet (dC (.bl false))) dNext))
  (dRet (dC (.bl true))))) dNext)
  (dSeq (dIf (dTest (dOp isND (dVar 1) (dC .non))) (dRet (dOp isND (dVar 0) (dC .non))) dNext)
  (dSeq (dIf (dTru (dIsi "bool" (dVar 1))) (dRet (dAndV (dIsi "bool" (dVar 0)) (dOp eqD (dVar 0) (dVar 1)))) dNext)
  (dSeq (dIf (dTru (dIsi "int" (dVar 1))) (dRet (dAndV (dCall sp_Lis_int [] (dCons (dVar 0) dNil)) (dOp eqD (dVar 0) (dVar 1)))) dNext)
  (dRet (dAndV (dIsi "str" (dVar 0)) (dOp eqD (dVar 0) (dVar 1))))))))
/-- data without references, at most n deep, of bounded breadth -/
def okT : Nat → D → Prop
  | _, .ref _ => False
  | _, .klst _ => False
  | 0, .tup _ => False
  | n + 1, .tup ds => ds.length ≤ 16777216 ∧ ∀ x ∈ ds, okT n x
  | _, _ => True
theorem okT_norf {n : Nat} {d : D} (h : okT n d) : norf d := by
  cases d with
  | ref _ => cases n <;> exact h.elim
  | klst _ => cases n <;> exact h.elim
  | _ => trivial
def spS (n : Nat) : DSp := fun ds g Q => match ds with
  | [a, d] => (∃ k, okT k a) ∧ okT n d ∧ ∀ b : Bool, (b = true ↔ a = d) → Q (.bl b) g
  | _ => False
def sp_same : Nat → DSp
  | 0 => fun _ _ _ => False
  | n + 1 => spS n
abbrev sp_Lsame : DSp := sp_same 13
theorem len_same (n : Nat) : ∀ ds g Q, sp_same n ds g Q → ds.length = 2 := fun ds g Q h => by
  cases n with
  | zero => exact h.elim
  | succ n =>
    have h : spS n ds g Q := h
    unfold spS at h; split at h <;> first | rfl | exact h.elim
theorem rd_same (n : Nat) : ∀ ds g Q, sp_same (n + 1) ds g Q → w_Lsame (sp_same n) { nx := fun _ g => Q .non g, rt := Q } (dstart N_Lsame ds) g := fun ds g Q h => by
  have h : spS n ds g Q := h
  unfold spS at h; split at h
  case h_2 => exact h.elim
  obtain ⟨⟨k, ha⟩, hd, q⟩ := h
  rename_i a d
  rw [st0_Lsame]
  unfold w_Lsame
  have hna := okT_norf ha
  walk_at "go"
  cases d with
  | ref _ => cases n <;> exact hd.elim
  | klst _ => cases n <;> exact hd.elim
  | tup ds =>
    refine ⟨_, true, rfl, by decide +kernel, ?_⟩
    walk_at "go"
    refine iteB (fun _ => ?_) (fun z => by cases z)
    walk_at "go"
    cases a with
    | ref _ => exact hna.elim
    | klst _ => exact hna.elim
    | tup as =>
      refine ⟨_, true, rfl, by decide +kernel, ?_⟩
      walk_at "go"
      refine iteNB (fun z => by cases z) (fun _ => ?_)
      walk_at "go"
      refine iteN (fun hl => ?_) (fun hl => ?_)
      · walk_at "go"
        refine q false ⟨(fun z => by cases z), fun z => ?_⟩
        cases z
        exact (hl rfl).elim
      have hl' : as.length = ds.length := by omega
      cases k with
      | zero => exact ha.elim
      | succ k => cases n with
        | zero => exact hd.elim
        | succ n =>
          have hbd := hd.1
          walk_at "go"
          refine ⟨fun i e g' => g' = g ∧ ∃ x, e = [some (.tup as), some (.tup ds), x] ∧ as.take i = ds.take i, ⟨rfl, _, rfl, rfl⟩, fun _ _ _ _ _ => trivial, ?_, ?_⟩
          · rintro i x e g' hx ⟨rfl, y, rfl, ht⟩
            obtain ⟨hi, rfl⟩ := ran_get hx
            have hi2 : i < ds.length := by omega
            have hi1 : i < as.length := by omega
            walk_at "go"
            refine v_ixT (atI_at (List.getElem?_eq_getElem hi1)) ?_
            walk_at "go"
            refine v_ixT (atI_at (List.getElem?_eq_getElem hi2)) ?_
            walk_at "go"
            refine ⟨⟨k, ha.2 _ (List.getElem_mem hi1)⟩, hd.2 _ (List.getElem_mem hi2), fun b hb => ?_⟩
            walk_at "go"
            refine iteNB (fun e => ?_) (fun e => ?_)
            · walk_at "go"
              refine q false ⟨(fun z => by cases z), fun z => ?_⟩
              cases z
              rw [e] at hb
              exact hb.mpr rfl
            · walk_at "go"
              refine ⟨rfl, _, rfl, ?_⟩
              rw [List.take_add_one, List.take_add_one, ht, List.getElem?_eq_getElem hi1, List.getElem?_eq_getElem hi2, hb.mp e]
          · rintro e g' ⟨rfl, y, rfl, ht⟩
            rw [ran_len] at ht
            walk_at "go"
            refine q true ⟨fun _ => ?_, fun _ => rfl⟩
            have e1 : as.take (Int.toNat (ds.length : Int)) = as := List.take_of_length_le (by omega)
            have e2 : ds.take (Int.toNat (ds.length : Int)) = ds := List.take_of_length_le (by omega)
            rw [e1, e2] at ht
            rw [ht]
    | _ =>
      refine ⟨_, false, rfl, by decide +kernel, ?_⟩
      walk_at "go"
      refine iteNB (fun _ => ?_) (fun z => by cases z)
      walk_at "go"
      exact q false ⟨fun z => (by cases z), fun z => (by cases z)⟩
  | non =>
    refine ⟨_, false, rfl, by decide +kernel, ?_⟩
    walk_at "go"
    refine iteB (fun z => by cases z) (fun _ => ?_)
    walk_at "go"
    refine iteB (fun _ => ?_) (fun z => by cases z)
    walk_at "go"
    cases a with
    | ref _ => exact hna.elim
    | klst _ => exact hna.elim
    | non => exact ⟨rfl, q _ ⟨fun _ => rfl, fun _ => rfl⟩⟩
    | _ => exact ⟨rfl, q _ ⟨fun z => (by cases z), fun z => (by cases z)⟩⟩
  | bl b =>
    refine ⟨_, false, rfl, by decide +kernel, ?_⟩
    walk_at "go"
    refine iteB (fun z => by cases z) (fun _ => ?_)
    walk_at "go"
    refine ⟨rfl, ?_⟩
    walk_at "go"
    refine iteB (fun z => by cases z) (fun _ => ?_)
    walk_at "go"
    refine ⟨_, true, rfl, by decide +kernel, ?_⟩
    walk_at "go"
    refine iteB (fun _ => ?_) (fun z => by cases z)
    walk_at "go"
    cases a with
    | ref _ => exact hna.elim
    | klst _ => exact hna.elim
    | bl a =>
      refine ⟨_, true, rfl, by decide +kernel, ?_⟩
      walk_at "go"
      refine iteB (fun _ => ?_) (fun z => by cases z)
      walk_at "go"
      refine q _ ⟨fun z => ?_, fun z => ?_⟩
      · rw [of_decide_eq_true z]
      · cases z; exact decide_eq_true rfl
    | _ =>
      refine ⟨_, false, rfl, by decide +kernel, ?_⟩
      walk_at "go"
      refine iteB (fun z => by cases z) (fun _ => ?_)
      exact q false ⟨fun z => (by cases z), fun z => (by cases z)⟩
  | int b =>
    refine ⟨_, false, rfl, by decide +kernel, ?_⟩
    walk_at "go"
    refine iteB (fun z => by cases z) (fun _ => ?_)
    walk_at "go"
    refine ⟨rfl, ?_⟩
    walk_at "go"
    refine iteB (fun z => by cases z) (fun _ => ?_)
    walk_at "go"
    refine ⟨_, false, rfl, by decide +kernel, ?_⟩
    walk_at "go"
    refine iteB (fun z => by cases z) (fun _ => ?_)
    walk_at "go"
    refine ⟨_, true, rfl, by decide +kernel, ?_⟩
    walk_at "go"
    refine iteB (fun _ => ?_) (fun z => by cases z)
    walk_at "go"
    refine ⟨hna, ?_⟩
    walk_at "go"
    cases a with
    | ref _ => exact hna.elim
    | klst _ => exact hna.elim
    | int a =>
      refine iteB (fun _ => ?_) (fun z => by cases z)
      walk_at "go"
      refine q _ ⟨fun z => ?_, fun z => ?_⟩
      · rw [of_decide_eq_true z]
      · cases z; exact decide_eq_true rfl
    | _ =>
      refine iteB (fun z => by cases z) (fun _ => ?_)
      exact q false ⟨fun z => (by cases z), fun z => (by cases z)⟩
  | str b =>
    refine ⟨_, false, rfl, by decide +kernel, ?_⟩
    walk_at "go"
    refine iteB (fun z => by cases z) (fun _ => ?_)
    walk_at "go"
    refine ⟨rfl, ?_⟩
    walk_at "go"
    refine iteB (fun z => by cases z) (fun _ => ?_)
    walk_at "go"
    refine ⟨_, false, rfl, by decide +kernel, ?_⟩
    walk_at "go"
    refine iteB (fun z => by cases z) (fun _ => ?_)
    walk_at "go"
    refine ⟨_, false, rfl, by decide +kernel, ?_⟩
    walk_at "go"
    refine iteB (fun z => by cases z) (fun _ => ?_)
    walk_at "go"
    cases a with
    | ref _ => exact hna.elim
    | klst _ => exact hna.elim
    | str a =>
      refine ⟨_, true, rfl, by decide +kernel, ?_⟩
      walk_at "go"
      refine iteB (fun _ => ?_) (fun z => by cases z)
      walk_at "go"
      refine q _ ⟨fun z => ?_, fun z => ?_⟩
      · rw [of_decide_eq_true z]
      · cases z; exact decide_eq_true rfl
    | _ =>
      refine ⟨_, false, rfl, by decide +kernel, ?_⟩
      walk_at "go"
      refine iteB (fun z => by cases z) (fun _ => ?_)
      exact q false ⟨fun z => (by cases z), fun z => (by cases z)⟩
theorem okT_mono : ∀ {n : Nat} {d : D}, okT n d → okT (n + 1) d := fun {n d} => by
  induction n generalizing d with
  | zero => intro h; cases d <;> first | exact h.elim | trivial
  | succ n ih =>
    intro h
    cases d with
    | tup ds => exact ⟨h.1, fun x hx => ih (h.2 x hx)⟩
    | ref _ => exact h.elim
    | klst _ => exact h.elim
    | _ => trivial
theorem okT_add {n k : Nat} {d : D} (h : okT n d) : okT (n + k) d := by
  induction k with
  | zero => exact h
  | succ k ih => exact okT_mono ih
theorem okT_le {n k : Nat} {d : D} (h : okT n d) (hk : n ≤ k) : okT k d := by
  have := okT_add (k := k - n) h
  rwa [Nat.add_sub_cancel' hk] at this
theorem ok_flat {ds : List D} (h : ds.length ≤ 16777216) (h2 : ∀ x ∈ ds, okT 0 x) : okT 1 (.tup ds) := ⟨h, h2⟩
theorem use_same {g : GS} {Q : DK} {a : D} (h1 : okT 12 a) (h : Q (.bl true) g) : sp_Lsame [a, a] g Q :=
  ⟨⟨12, h1⟩, h1, fun b hb => by rw [hb.mpr rfl]; exact h⟩
theorem t_same {g : GS} {Q : DK} {a : D} (h1 : okT 12 a) (h : Q (.bl true) g) : sp_Lsame ([a, a] ++ []) g Q := use_same h1 h
theorem ok_str {n : Nat} {i : Str} : okT n (.str i) := by cases n <;> trivial
theorem ok_bl {n : Nat} {i : Bool} : okT n (.bl i) := by cases n <;> trivial
/-- .law.lines(source, names): 0 source, 1 names, 2 pairs, 3 k, 4 one, 5 two -/
abbrev N_Llines : List Str := ["source", "names", "pairs", "k", "one", "two"]
theorem st0_Llines (a0 a1 : D) : dstart N_Llines [a0, a1] = [some a0, some a1, none, none, none, none] := rfl
def w_Llines : DTS := (dSeq (dAsg (dLst dNil) (gNm 2))
  (dSeq (dFor (iRa2 (dC (.int 1)) (dCB lenD (dCons (dVar 1) dNil))) (gNm 3) (dSeq (dAsg (dOp ixD (dVar 1) (dCall sp_Ldraw [] (dCons (dVar 0) (dCons (dVar 3) dNil)))) (gNm 4))
  (dDrop (dBM "list" appD (dVar 2) (dCons (dTup (dCons (dCB min2D (dCons (dVar 4) (dCons (dOp ixD (dVar 1) (dVar 3)) dNil))) (dCons (dCB max2D (dCons (dVar 4) (dCons (dOp ixD (dVar 1) (dVar 3)) dNil))) dNil))) dNil)))))
  (dSeq (dFor (iRa1 (dCall sp_Ldraw [] (dCons (dVar 0) (dCons (dCB lenD (dCons (dVar 1) dNil)) dNil)))) (gNm 3) (dSeq (dAsg (dCall sp_Lpick [] (dCons (dVar 0) (dCons (dVar 1) dNil))) (gNm 4))
  (dSeq (dAsg (dCall sp_Lpick [] (dCons (dVar 0) (dCons (dVar 1) dNil))) (gNm 5))
  (dIf (dAnd (dTest (dOp neD (dVar 4) (dVar 5))) (dTest (dOp notInD (dTup (dCons (dCB min2D (dCons (dVar 4) (dCons (dVar 5) dNil))) (dCons (dCB max2D (dCons (dVar 4) (dCons (dVar 5) dNil))) dNil))) (dVar 2)))) (dDrop (dBM "list" appD (dVar 2) (dCons (dTup (dCons (dCB min2D (dCons (dVar 4) (dCons (dVar 5) dNil))) (dCons (dCB max2D (dCons (dVar 4) (dCons (dVar 5) dNil))) dNil))) dNil))) dNext))))
  (dRet (dCB sortedD (dCons (dVar 2) dNil))))))
def sp_Llines : DSp := fun ds g Q => match ds with
  | [.ref L, .ref W] => ∃ s m, ∃ ns : List Str, s.L = L ∧ Src s g m ∧ m < 400000000000 ∧ g W = some (.lst (ns.map D.str)) ∧ W ≠ s.L ∧ (ns ≠ []) ∧ (ns.length ≤ 100) ∧ (ns.Nodup) ∧ ((∀ z ∈ ns, sOk z)) ∧ ∀ ps : List (Str × Str), ∀ p g', (LinesOk ps) → ((∀ q ∈ ps, q.1 ∈ ns ∧ q.2 ∈ ns)) → (ps.length ≤ 400) → g p = none → Go s g g' (m + 1000) → g' p = some (.lst (ps.map lineD)) → Q (.ref p) g'
  | _ => False
theorem len_Llines : ∀ ds g Q, sp_Llines ds g Q → ds.length = 2 := fun ds g Q h => by
  unfold sp_Llines at h; split at h <;> first | rfl | exact h.elim
theorem t_Llines {s : SI} {m : Nat} {g0 g : GS} {lo : FL} {Q : DK} {ns : List Str} {W : Addr} (F : Fr (.go s m) g0 g lo) (hm : m < 400000000000) (n0 : Nat) (b0 : Bool) (e0 : lo[n0]? = some (W, .lst (ns.map D.str), b0)) (p0 : (ns ≠ [])) (p1 : (ns.length ≤ 100)) (p2 : (ns.Nodup)) (p3 : ((∀ z ∈ ns, sOk z))) (h : ∀ ps : List (Str × Str), ∀ p g', (LinesOk ps) → ((∀ q ∈ ps, q.1 ∈ ns ∧ q.2 ∈ ns)) → (ps.length ≤ 400) → Fr (.go s (m + 1000)) g0 g' ((p, .lst (ps.map lineD), true) :: lo) → Q (.ref p) g') : sp_Llines ([.ref s.L, .ref W] ++ []) g Q := ⟨s, m, ns, rfl, F.src, hm, F.at n0 e0, F.neL n0 e0, p0, p1, p2, p3, fun ps p g' a0 a1 a2 f G e => h ps p g' a0 a1 a2 (F.retG f G e)⟩
local macro_rules | `(tactic| walk_at "call") => `(tactic| ((with_reducible refine (?_ : sp_Llines _ _ _)); first
    | (refine t_Llines (by assumption) ?_ 0 _ rfl ?_ ?_ ?_ ?_ ?_; omega; walk_at "sd"; walk_at "sd"; walk_at "sd"; walk_at "sd"; intro _ _ _ _ _ _ _)
    | (refine t_Llines (by assumption) ?_ 1 _ rfl ?_ ?_ ?_ ?_ ?_; omega; walk_at "sd"; walk_at "sd"; walk_at "sd"; walk_at "sd"; intro _ _ _ _ _ _ _)
    | (refine t_Llines (by assumption) ?_ 2 _ rfl ?_ ?_ ?_ ?_ ?_; omega; walk_at "sd"; walk_at "sd"; walk_at "sd"; walk_at "sd"; intro _ _ _ _ _ _ _)
    | (refine t_Llines (by assumption) ?_ 3 _ rfl ?_ ?_ ?_ ?_ ?_; omega; walk_at "sd"; walk_at "sd"; walk_at "sd"; walk_at "sd"; intro _ _ _ _ _ _ _)
    | (refine t_Llines (by assumption) ?_ 4 _ rfl ?_ ?_ ?_ ?_ ?_; omega; walk_at "sd"; walk_at "sd"; walk_at "sd"; walk_at "sd"; intro _ _ _ _ _ _ _)))
theorem rd_Llines : ∀ ds g Q, sp_Llines ds g Q → w_Llines { nx := fun _ g => Q .non g, rt := Q } (dstart N_Llines ds) g := fun ds g Q h => by
  unfold sp_Llines at h; split at h
  case h_2 => exact h.elim
  obtain ⟨s, m, ns, rfl, hS, hm, hp0, np0, p0, p1, p2, p3, q⟩ := h
  rename_i W
  have F := Fr.startG hS
  have F := F.argG hp0 np0
  rw [st0_Llines]
  unfold w_Llines
  have hpos := List.length_pos_iff.mpr p0
  have hln := List.length_map (f := D.str) (as := ns)
  walk_at "au"
  rename_i P g1 F1
  refine for3 3 4 5 (fun i _ _ _ g' => ∃ ps : List (Str × Str), LinesOk ps ∧ (∀ q ∈ ps, q.1 ∈ ns.take (i + 1) ∧ q.2 ∈ ns.take (i + 1)) ∧ ps.length ≤ i ∧ Fr (.go s (m + i)) g g' [(P, .lst (ps.map lineD), true), (W, .lst (ns.map D.str), false)]) ⟨_, _, _, rfl, [], .nil, (fun q h => nomatch h), Nat.le_refl _, F1⟩ (fun _ _ _ _ _ _ _ => trivial) (fun i d x3 x4 x5 g2 hd hR => ?_) (fun x3 x4 x5 g2 hR => ?_)
  · obtain ⟨ps, hps, hm2, hl, F2⟩ := hR
    obtain ⟨hi, rfl⟩ := ran_get hd
    have hi : i + 1 < ns.length := by omega
    walk_at "au"
    rename_i v g3 v0 v1 F3
    obtain ⟨j, rfl⟩ := Int.eq_ofNat_of_zero_le v0
    have hj : j < i + 1 := by omega
    obtain ⟨one, e1⟩ : ∃ z, ns[j]? = some z := ⟨_, List.getElem?_eq_getElem (by omega)⟩
    obtain ⟨two, e2⟩ : ∃ z, ns[i + 1]? = some z := ⟨_, List.getElem?_eq_getElem hi⟩
    have m1 : one ∈ ns.take (i + 1) := List.mem_of_getElem? (i := j) (by rw [List.getElem?_take_of_lt hj]; exact e1)
    have m2 : two ∉ ns.take (i + 1) := fun h => by
      obtain ⟨k, hk, e⟩ := List.getElem_of_mem h
      rw [List.length_take] at hk
      rw [List.getElem_take] at e
      have := (List.getElem_inj (h₀ := by omega) (h₁ := hi) p2).mp (e.trans (List.getElem?_eq_some_iff.mp e2).2.symm)
      omega
    have ne : one ≠ two := fun e => m2 (e ▸ m1)
    have ix2 : ∀ {v : Int} {Q : DK} {g' : GS}, v = ((i + 1 : Nat) : Int) → Fr (.go s (m + i + 1)) g g' [(P, .lst (ps.map lineD), true), (W, .lst (ns.map D.str), false)] → Q (.str two) g' → ixD (.ref W) (.int v) g' Q := fun hv F' h => by
      subst hv
      exact k_ixLN (i + 1) rfl F' 1 rfl (by rw [List.getElem?_map, e2]; rfl) h
    have ix1 : ∀ {Q : DK} {g' : GS}, Fr (.go s (m + i + 1)) g g' [(P, .lst (ps.map lineD), true), (W, .lst (ns.map D.str), false)] → Q (.str one) g' → ixD (.ref W) (.int ((j : Nat) : Int)) g' Q := fun F' h => k_ixLN j rfl F' 1 rfl (by rw [List.getElem?_map, e1]; rfl) h
    first | refine ix1 F3 ?_ | skip
    walk_at "au"
    first | refine ix2 (by omega) F3 ?_ | skip
    walk_at "au"
    refine v_min2S ?_
    walk_at "au"
    first | refine ix2 (by omega) F3 ?_ | skip
    walk_at "au"
    refine v_max2S ?_
    walk_at "au"
    rename_i g4 F4
    have tk : ∀ {z}, z ∈ ns.take (i + 1) → z ∈ ns.take (i + 2) := fun h => by
      rw [take_snoc e2]; exact List.mem_append_left _ h
    have m2' : two ∈ ns.take (i + 2) := by rw [take_snoc e2]; exact List.mem_append_right _ (List.mem_singleton.mpr rfl)
    refine ⟨_, _, _, rfl, ps ++ [(mnS one two, mxS one two)], hps.snoc (fun h => ?_) (mn_lt_mx ne), fun q hq => ?_, by rw [List.length_append, List.length_singleton]; omega, ?_⟩
    · obtain ⟨h1, h2⟩ := hm2 _ h
      rcases mn_mx (.inr rfl) ne with e | e
      · exact m2 (by rw [e]; exact h1)
      · exact m2 (by rw [e]; exact h2)
    · rcases List.mem_append.mp hq with hq | hq
      · exact ⟨tk (hm2 q hq).1, tk (hm2 q hq).2⟩
      · rw [List.mem_singleton.mp hq]
        exact ⟨ite_mem m2' (tk m1), ite_mem m2' (tk m1)⟩
    · rw [List.map_append]; exact F4
  · obtain ⟨ps, hps, hm2, hl, F2⟩ := hR
    rw [ran_len] at hl F2
    have hl : ps.length ≤ 100 := by omega
    have hm2 : ∀ q ∈ ps, q.1 ∈ ns ∧ q.2 ∈ ns := fun q h => ⟨List.mem_of_mem_take (hm2 q h).1, List.mem_of_mem_take (hm2 q h).2⟩
    have F2 := F2.le (m' := m + 100) (by omega)
    walk_at "au"
    rename_i v g3 v0 v1 F3
    refine for3 3 4 5 (fun i _ _ _ g' => ∃ ps : List (Str × Str), LinesOk ps ∧ (∀ q ∈ ps, q.1 ∈ ns ∧ q.2 ∈ ns) ∧ ps.length ≤ 100 + i ∧ Fr (.go s (m + 101 + 2 * i)) g g' [(P, .lst (ps.map lineD), true), (W, .lst (ns.map D.str), false)]) ⟨_, _, _, rfl, ps, hps, hm2, by omega, F3⟩ (fun _ _ _ _ _ _ _ => trivial) (fun i d x3 x4 x5 g2 hd hR => ?_) (fun x3 x4 x5 g2 hR => ?_)
    · clear hps hm2 hl F2 F3
      obtain ⟨ps, hps, hm2, hl, F2⟩ := hR
      obtain ⟨hi, rfl⟩ := ran_get hd
      walk_at "au"
      refine t_LpickD F2 (by omega) 1 _ rfl (fun z => p0 (List.map_eq_nil_iff.mp z)) (by rw [List.length_map]; omega) fun d g4 hd4 F4 => ?_
      obtain ⟨one, m1, rfl⟩ := List.mem_map.mp hd4
      walk_at "au"
      refine t_LpickD F4 (by omega) 1 _ rfl (fun z => p0 (List.map_eq_nil_iff.mp z)) (by rw [List.length_map]; omega) fun d g5 hd5 F5 => ?_
      obtain ⟨two, m2, rfl⟩ := List.mem_map.mp hd5
      have F5 := F5.le (m' := m + 101 + 2 * (i + 1)) (by omega)
      walk_at "au"
      refine iteN (fun hne => ?_) (fun hne => ?_)
      · walk_at "au"
        refine v_min2S ?_
        walk_at "au"
        refine v_max2S ?_
        walk_at "au"
        refine v_notInLd (F5.at 0 rfl) (fine_line (ite_of (p3 _ m1) (p3 _ m2)) (ite_of (p3 _ m1) (p3 _ m2))) (pures_lines fun p hp => ⟨p3 _ (hm2 p hp).1, p3 _ (hm2 p hp).2⟩) (deps_lines ps) ?_
        rw [any_line (mnS one two, mxS one two)]
        walk_at "au"
        refine iteN (fun hni => ?_) (fun hni => ?_)
        · walk_at "au"
          refine v_min2S ?_
          walk_at "au"
          refine v_max2S ?_
          walk_at "au"
          rename_i g6 F6
          refine ⟨_, _, _, rfl, ps ++ [(mnS one two, mxS one two)], hps.snoc hni (mn_lt_mx hne), fun q hq => ?_, by rw [List.length_append, List.length_singleton]; omega, by rw [List.map_append]; exact F6⟩
          rcases List.mem_append.mp hq with hq | hq
          · exact hm2 q hq
          · rw [List.mem_singleton.mp hq]
            exact ⟨ite_mem m2 m1, ite_mem m2 m1⟩
        · walk_at "au"
          exact ⟨_, _, _, rfl, ps, hps, hm2, by omega, F5⟩
      · refine ite_ff ?_
        walk_at "au"
        exact ⟨_, _, _, rfl, ps, hps, hm2, by omega, F5⟩
    · clear hps hm2 hl F2 F3
      obtain ⟨ps, hps, hm2, hl, F2⟩ := hR
      rw [ran_len] at hl F2
      walk_at "au"
      refine v_sortLines (F2.at 0 rfl) (fun p hp => ⟨p3 _ (hm2 p hp).1, p3 _ (hm2 p hp).2⟩) fun r qs hq hr => ?_
      have F3 := F2.new (.lst (qs.map lineD)) hr
      exact q qs _ _ (hps.perm hq) (fun x hx => hm2 x (hq.mem_iff.mp hx)) (by rw [hq.length_eq]; omega) (F3.fresh 0 rfl) (F3.gov (by omega)) (F3.at 0 rfl)
/-- least.ways(book, kind): 0 book, 1 kind, 2 hops, 3 ways, 4 step, 5 feed, 6 giver, 7 taker, 8 way -/
abbrev N_least_ways : List Str := ["book", "kind", "hops", "ways", "step", "feed", "giver", "taker", "way"]
theorem st0_least_ways (a0 a1 : D) : dstart N_least_ways [a0, a1] = [some a0, some a1, none, none, none, none, none, none, none] := rfl
def w_least_ways : DTS := (dSeq (dAsg (dCall sp_least_hops [] (dCons (dVar 0) (dCons (dVar 1) dNil))) (gNm 2))
  (dSeq (dAsg dDNew (gNm 3))
  (dSeq (dIf (dTest (dDIn (dOp ixD (dVar 1) (dC (.int 1))) (dVar 2))) (dDPut (dVar 3) (dOp ixD (dVar 1) (dC (.int 1))) (dTup (dCons (dOp ixD (dVar 1) (dC (.int 1))) dNil))) dNext)
  (dSeq (dFor (iRa2 (dC (.int 1)) (dCB lenD (dCons (dOp ixD (dVar 0) (dC (.int 3))) dNil))) (gNm 4) (dFor (iAny (dOp ixD (dVar 0) (dC (.int 5)))) (gNm 5) (dSeq (dPar 6 7 (dCons (dOp ixD (dVar 5) (dC (.int 1))) (dCons (dOp ixD (dVar 5) (dC (.int 2))) dNil)))
  (dIf (dAnd (dTest (dOp eqD (dDGet1 (dVar 2) (dVar 6)) (dOp subD (dVar 4) (dC (.int 1))))) (dAnd (dTest (dOp eqD (dDGet1 (dVar 2) (dVar 7)) (dVar 4))) (dTru (dCall sp_passes [] (dCons (dVar 5) (dCons (dOp ixD (dVar 1) (dC (.int 2))) (dCons (dOp ixD (dVar 1) (dC (.int 3))) (dCons (dOp subD (dVar 4) (dC (.int 1))) dNil)))))))) (dSeq (dAsg (dOp addD (dDGet (dVar 3) (dVar 6)) (dTup (dCons (dVar 7) dNil))) (gNm 8))
  (dIf (dOr (dTest (dDNotIn (dVar 7) (dVar 3))) (dTest (dOp ltD (dVar 8) (dDGet (dVar 3) (dVar 7))))) (dDPut (dVar 3) (dVar 7) (dVar 8)) dNext)) dNext))))
  (dRet (dVar 3))))))
def psF (L : List Str) (n : Int) (t : Nat) (f : FeedR) : Bool := decide ((t : Int) + 1 ≤ f.hops) && (decide (n ≤ f.size) && L.any fun z => letsB f.pat z)
def bsW (h : AL Nat) (o : Str) : AL (List Str) := if (lkS h o).isSome = true then [(o, [o])] else []
def wayL (b : BookR) (o : Str) (L : List Str) (n : Int) (t : Nat) : AL (List Str) := wAll (fun z => lkS (leastL b o L n) z) (psF L n) b.feeds (bsW (leastL b o L n) o) t
theorem lvl_one {F : List FeedR} {o : Str} : ∀ t, ∀ w ∈ lvl F [[o]] t, w.length = t + 1
  | 0 => fun w hw => by rw [List.mem_singleton.mp (show w ∈ [[o]] from hw)]; rfl
  | t + 1 => fun w hw => by
    obtain ⟨v, hv, hw⟩ := List.mem_flatMap.mp hw
    obtain ⟨f, _, rfl⟩ := List.mem_map.mp hw
    rw [List.length_append, lvl_one t v hv]; rfl
theorem leastL_lk {b : BookR} {o : Str} {L : List Str} {n : Int} (ho : o ∈ carL b.sites L) : (fun z => lkS (leastL b o L n) z) = hv (b.feeds.filter (opn (carL b.sites L) L n)) o (b.sites.length - 1) := by
  funext z
  unfold leastL
  rw [if_pos ho, hops_hv]
theorem leastL_no {b : BookR} {o : Str} {L : List Str} {n : Int} (ho : o ∉ carL b.sites L) : leastL b o L n = [] := if_neg ho
theorem leastL_car {b : BookR} {o : Str} {L : List Str} {n : Int} {z : Str} {k : Nat} (h : lkS (leastL b o L n) z = some k) : z ∈ carL b.sites L :=
  leastL_sub z (lk_mem.mp (by rw [h]; rfl))
theorem leastL_o {b : BookR} {o : Str} {L : List Str} {n : Int} (ho : o ∈ carL b.sites L) : lkS (leastL b o L n) o = some 0 := by
  have := congrFun (leastL_lk (n := n) ho) o
  rw [this]
  have h0 : hv (b.feeds.filter (opn (carL b.sites L) L n)) o 0 o = some 0 := if_pos rfl
  have := hv_mono h0 (b.sites.length - 1)
  rwa [Nat.zero_add] at this
theorem wayL_car {b : BookR} {o : Str} {L : List Str} {n : Int} {t : Nat} (ho : o ∈ carL b.sites L) : wayL b o L n t = wAll (hv (b.feeds.filter (opn (carL b.sites L) L n)) o (b.sites.length - 1)) (psF L n) b.feeds [(o, [o])] t := by
  unfold wayL bsW
  rw [leastL_lk ho, leastL_o ho]; rfl
theorem opn_ps {cs L : List Str} {n : Int} {t : Nat} {f : FeedR} {G : List FeedR} (hf : f ∈ G) (hg : f.giver ∈ cs) (ht : f.taker ∈ cs) : psF L n t f = true ↔ f ∈ G.filter (opn cs L n) ∧ (t : Int) + 1 ≤ f.hops := by
  rw [List.mem_filter]
  unfold psF opn
  rw [decide_eq_true hg, decide_eq_true ht, Bool.and_eq_true, Bool.true_and, Bool.true_and, decide_eq_true_iff]
  exact ⟨fun h => ⟨⟨hf, h.2⟩, h.1⟩, fun h => ⟨h.2, h.1.2⟩⟩
theorem wayL_least {b : BookR} {o : Str} {L : List Str} {n : Int} {F' : List FeedR} (hb : BookOk b) (ho : o ∈ carL b.sites L) (hF : ∀ f ∈ b.feeds.filter (opn (carL b.sites L) L n), f ∈ F') (hFF : ∀ f ∈ F', f.giver ∈ carL b.sites L → f ∈ b.feeds.filter (opn (carL b.sites L) L n)) (htk : ∀ f ∈ F', f.taker ∈ carL b.sites L) :
    (∀ z, LeastW (waysL F' [[o]] (b.sites.length - 1 + 1)) z (lkS (wayL b o L n (b.sites.length - 1)) z)) ∧ ∀ t, t ≤ b.sites.length - 1 → ∀ z k, lkS (leastL b o L n) z = some k → k ≤ t → ∃ w, lkS (wayL b o L n t) z = some w := by
  have hFG : ∀ f ∈ b.feeds.filter (opn (carL b.sites L) L n), f ∈ b.feeds := fun f hf => (List.mem_filter.mp hf).1
  have hgv : ∀ f ∈ b.feeds.filter (opn (carL b.sites L) L n), f.giver ∈ carL b.sites L := fun f hf => (opn_mem (List.mem_filter.mp hf).2).1
  have hh : ∀ f ∈ b.feeds.filter (opn (carL b.sites L) L n), 0 ≤ f.hops := fun f hf => by have := (hb.feeds f (hFG f hf)).1.hops; omega
  have hcs : ∀ z k, hv (b.feeds.filter (opn (carL b.sites L) L n)) o (b.sites.length - 1) z = some k → z ∈ carL b.sites L := fun z k h => by
    rw [← congrFun (leastL_lk (n := n) ho) z] at h
    exact leastL_car h
  have hps : ∀ t f, f ∈ b.feeds → f.giver ∈ carL b.sites L → f.taker ∈ carL b.sites L → (psF L n t f = true ↔ f ∈ b.feeds.filter (opn (carL b.sites L) L n) ∧ (t : Int) + 1 ≤ f.hops) := fun t f hf hg ht => opn_ps hf hg ht
  refine ⟨fun z => ?_, fun t ht z k hk hkt => ?_⟩
  · rw [wayL_car ho]
    exact least_all hF hFF hFG htk hgv ho hh lvl_one hps hcs z
  · rw [wayL_car ho]
    have hk' := hk
    rw [congrFun (leastL_lk (n := n) ho) z] at hk'
    have hm := (wAll_min hF hFF hFG htk hgv ho hh lvl_one hps hcs t ht).1 z k hk' hkt
    obtain ⟨w0, hw0, _, hz0, _⟩ := hv_way hF k z (hv_at hk')
    cases e : lkS (wAll (hv (b.feeds.filter (opn (carL b.sites L) L n)) o (b.sites.length - 1)) (psF L n) b.feeds [(o, [o])] t) z with
    | some w => exact ⟨w, rfl⟩
    | none =>
      rw [e] at hm
      have hm : endW F' o k z = [] := hm
      have := (endW_mem (F' := F') (o := o)).mpr ⟨hw0, hz0⟩
      rw [hm] at this; cases this
theorem wayL_some {b : BookR} {o : Str} {L : List Str} {n : Int} (hb : BookOk b) {t : Nat} (ht : t ≤ b.sites.length - 1) {z : Str} {k : Nat} (hk : lkS (leastL b o L n) z = some k) (hkt : k ≤ t) : ∃ w, lkS (wayL b o L n t) z = some w := by
  have ho : o ∈ carL b.sites L := by
    by_cases ho : o ∈ carL b.sites L
    · exact ho
    · rw [leastL_no ho] at hk; cases hk
  exact (wayL_least (F' := b.feeds.filter (opn (carL b.sites L) L n)) hb ho (fun f h => h) (fun f h _ => h) fun f hf => (opn_mem (List.mem_filter.mp hf).2).2).2 t ht z k hk hkt
def WInv (H : Str → Option Nat) (T : Nat) (acc : AL (List Str)) : Prop := ∀ z w, lkS acc z = some w → ∃ k, k ≤ T ∧ H z = some k ∧ w.length = k + 1 ∧ ∀ y ∈ w, sOk y
theorem wInv_step {H : Str → Option Nat} {ps : Nat → FeedR → Bool} {t : Nat} {acc : AL (List Str)} {f : FeedR} (hi : WInv H (t + 1) acc) (hf : sOk f.taker) : WInv H (t + 1) (wStep H ps t acc f) := fun z w h => by
  rw [wStep_lk] at h
  split at h
  · rename_i hc
    obtain ⟨h1, rfl⟩ := hc
    unfold wCond at h1
    rw [Bool.and_eq_true, Bool.and_eq_true] at h1
    have hg := of_decide_eq_true h1.1
    have ht := of_decide_eq_true h1.2.1
    cases hw : lkS acc f.giver with
    | none => rw [hw] at h; exact hi _ _ h
    | some v =>
      rw [hw] at h
      obtain ⟨k, hk, hk2, hl, hs⟩ := hi _ _ hw
      rw [hg] at hk2
      have := Option.some.inj hk2
      subst this
      have new : ∃ k, k ≤ t + 1 ∧ H f.taker = some k ∧ (v ++ [f.taker]).length = k + 1 ∧ ∀ y ∈ v ++ [f.taker], sOk y := ⟨t + 1, Nat.le_refl _, ht, by rw [List.length_append, hl]; rfl, fun y hy => by
        rcases List.mem_append.mp hy with hy | hy
        · exact hs y hy
        · rw [List.mem_singleton.mp hy]; exact hf⟩
      cases ha : lkS acc f.taker with
      | none =>
        rw [ha] at h
        cases h
        exact new
      | some u =>
        rw [ha] at h
        have h : (if slt (v ++ [f.taker]) u = true then some (v ++ [f.taker]) else some u) = some w := h
        split at h
        · cases h; exact new
        · cases h; exact hi _ _ ha
  · exact hi _ _ h
theorem wInv_fold {H : Str → Option Nat} {ps : Nat → FeedR → Bool} {t : Nat} : ∀ {P : List FeedR} {acc : AL (List Str)}, WInv H (t + 1) acc → (∀ f ∈ P, sOk f.taker) → WInv H (t + 1) (P.foldl (wStep H ps t) acc)
  | [], _, h, _ => h
  | f :: P, acc, h, hP => wInv_fold (P := P) (wInv_step h (hP f List.mem_cons_self)) fun g hg => hP g (List.mem_cons_of_mem _ hg)
theorem wInv_all {H : Str → Option Nat} {ps : Nat → FeedR → Bool} {G : List FeedR} {base : AL (List Str)} (h0 : WInv H 0 base) (hG : ∀ f ∈ G, sOk f.taker) : ∀ t, WInv H t (wAll H ps G base t)
  | 0 => h0
  | t + 1 => wInv_fold (fun z w h => by
    obtain ⟨k, a, b⟩ := wInv_all h0 hG t z w h
    exact ⟨k, by omega, b⟩) hG
theorem wStep_len {H : Str → Option Nat} {ps : Nat → FeedR → Bool} {t : Nat} {acc : AL (List Str)} {f : FeedR} : (wStep H ps t acc f).length ≤ acc.length + 1 := by
  unfold wStep
  split
  · split
    · split
      · exact pt_len
      · split
        · exact pt_len
        · omega
    · omega
  · omega
theorem wFold_len {H : Str → Option Nat} {ps : Nat → FeedR → Bool} {t : Nat} : ∀ (P : List FeedR) (acc : AL (List Str)), (P.foldl (wStep H ps t) acc).length ≤ acc.length + P.length
  | [], _ => Nat.le_refl _
  | f :: P, acc => by
    have h1 := wFold_len (H := H) (ps := ps) (t := t) P (wStep H ps t acc f)
    have h2 := wStep_len (H := H) (ps := ps) (t := t) (acc := acc) (f := f)
    rw [List.foldl_cons, List.length_cons]
    omega
theorem wAll_len {H : Str → Option Nat} {ps : Nat → FeedR → Bool} {G : List FeedR} {base : AL (List Str)} : ∀ t, (wAll H ps G base t).length ≤ base.length + t * G.length
  | 0 => by show base.length ≤ _; omega
  | t + 1 => by
    have h1 := wAll_len (H := H) (ps := ps) (G := G) (base := base) t
    have h2 := wFold_len (H := H) (ps := ps) (t := t) G (wAll H ps G base t)
    show (G.foldl (wStep H ps t) (wAll H ps G base t)).length ≤ _
    rw [Nat.add_mul]
    omega
theorem bsW_inv {b : BookR} {o : Str} {L : List Str} {n : Int} (hb : BookOk b) : WInv (fun z => lkS (leastL b o L n) z) 0 (bsW (leastL b o L n) o) ∧ (bsW (leastL b o L n) o).length ≤ 1 := by
  unfold bsW
  split
  · rename_i h
    refine ⟨fun z w hz => ?_, Nat.le_refl _⟩
    rw [lkS_one] at hz
    split at hz
    · rename_i e
      cases hz
      subst e
      cases hk : lkS (leastL b o L n) o with
      | none => rw [hk] at h; cases h
      | some k =>
        have hc := leastL_car hk
        have h0 := leastL_o (n := n) hc
        obtain ⟨s, hs, e⟩ := carL_mem hc
        refine ⟨0, Nat.le_refl _, h0, rfl, fun y hy => ?_⟩
        rw [List.mem_singleton.mp hy, ← e]
        exact (hb.sites s hs).name.sOk
    · cases hz
  · exact ⟨fun z w hz => (nomatch (show (none : Option (List Str)) = some w from hz)), Nat.zero_le _⟩
def sp_least_ways : DSp := fun ds g Q => match ds with
  | [.tup bk, .tup kd] => ∃ b : BookR, ∃ o : Str, ∃ L : List Str, ∃ n : Int, bk = b.ds ∧ kd = kindD o L n ∧ (BookOk b) ∧ (BdsOk L) ∧ (b.sites ≠ []) ∧ ∀ p g', g p = none → Up [] g g' → g' p = some (.dct (encS wyT (wayL b o L n (b.sites.length - 1)))) → Q (.ref p) g'
  | _ => False
theorem len_least_ways : ∀ ds g Q, sp_least_ways ds g Q → ds.length = 2 := fun ds g Q h => by
  unfold sp_least_ways at h; split at h <;> first | rfl | exact h.elim
theorem t_least_ways {k : FK} {g0 g : GS} {lo : FL} {Q : DK} {b : BookR} {o : Str} {L : List Str} {n : Int} (F : Fr k g0 g lo) (p0 : (BookOk b)) (p1 : (BdsOk L)) (p2 : (b.sites ≠ [])) (h : ∀ p g', Fr k g0 g' ((p, .dct (encS wyT (wayL b o L n (b.sites.length - 1))), true) :: lo) → Q (.ref p) g') : sp_least_ways ([.tup (b.ds), .tup (kindD o L n)] ++ []) g Q := ⟨b, o, L, n, rfl, rfl, p0, p1, p2, fun p g' f u e => h p g' (F.ret f (F.up u) e)⟩
local macro_rules | `(tactic| walk_at "call") => `(tactic| ((with_reducible refine t_least_ways (by assumption) ?_ ?_ ?_ ?_); walk_at "sd"; walk_at "sd"; walk_at "sd"; intro _ _ _))
theorem rd_least_ways : ∀ ds g Q, sp_least_ways ds g Q → w_least_ways { nx := fun _ g => Q .non g, rt := Q } (dstart N_least_ways ds) g := fun ds g Q h => by
  unfold sp_least_ways at h; split at h
  case h_2 => exact h.elim
  obtain ⟨b, o, L, n, rfl, rfl, p0, p1, p2, q⟩ := h
  have F : Fr .pu g g [] := Fr.startP
  rw [st0_least_ways]
  unfold w_least_ways
  have h1 := p1.len
  have h2 := p1.num
  have hsl : (b.sites.map SiteR.d).length = b.sites.length := List.length_map ..
  have h0 := List.length_pos_iff.mpr p2
  have hn := p0.ns
  have hf := p0.nf
  walk_at "ac"
  rename_i Hp g1 F1 Wp g2 F2
  have F2 : Fr .pu g g2 [(Wp, .dct (encS wyT []), true), (Hp, .dct (encS tdN (leastL b o L n)), true)] := F2
  obtain ⟨bi, bl⟩ := bsW_inv (o := o) (L := L) (n := n) p0
  have hG : ∀ f ∈ b.feeds, sOk f.taker := fun f hf => (p0.feeds f hf).1.taker.sOk
  refine cut0 (fun g' => Fr .pu g g' [(Wp, .dct (encS wyT (wayL b o L n 0)), true), (Hp, .dct (encS tdN (leastL b o L n)), true)]) ?_ ?_
  · have e0 : wayL b o L n 0 = bsW (leastL b o L n) o := rfl
    rw [e0]
    unfold bsW
    walk_at "au"
    refine iteB (fun h => ?_) (fun h => ?_)
    · walk_at "au"
      refine k_putS [o] F2 0 rfl rfl (by decide) fun g3 F3 => ?_
      rw [if_pos h]
      exact ⟨rfl, F3⟩
    · walk_at "au"
      rw [if_neg (by rw [h]; decide)]
      exact ⟨rfl, F2⟩
  rintro g3 F3
  clear F1 F2
  walk_at "au"
  refine for5 4 5 6 7 8 (fun i _ _ _ _ _ g' => Fr .pu g g' [(Wp, .dct (encS wyT (wayL b o L n i)), true), (Hp, .dct (encS tdN (leastL b o L n)), true)]) ⟨_, _, _, _, _, rfl, F3⟩ (fun _ _ _ _ _ _ _ _ _ => trivial) (fun i d x4 x5 x6 x7 x8 g4 hd F4 => ?_) (fun x4 x5 x6 x7 x8 g4 F4 => ?_)
  · obtain ⟨hi, rfl⟩ := ran_get hd
    have hi : i < b.sites.length - 1 := by omega
    have hbase := wInv_all (ps := psF L n) (G := b.feeds) bi hG i
    have hblen := wAll_len (H := fun z => lkS (leastL b o L n) z) (ps := psF L n) (G := b.feeds) (base := bsW (leastL b o L n) o) i
    have hmul : i * b.feeds.length ≤ 100 * 1000 := Nat.mul_le_mul (by omega) hf
    have hb0 : ∀ z, lkS (leastL b o L n) z = some (i + 1) → lkS (wayL b o L n i) z = none := fun z hz => by
      cases e : lkS (wayL b o L n i) z with
      | none => rfl
      | some w =>
        obtain ⟨k, hk, hk2, _⟩ := hbase z w e
        have hk2 : lkS (leastL b o L n) z = some k := hk2
        rw [hz] at hk2
        have := Option.some.inj hk2
        omega
    dsimp only [List.set_cons_succ, List.set_cons_zero]
    walk_at "au"
    refine s_anyT ?_
    walk_at "au"
    refine for4 5 6 7 8 (fun j _ _ _ _ g' => Fr .pu g g' [(Wp, .dct (encS wyT ((b.feeds.take j).foldl (wStep (fun z => lkS (leastL b o L n) z) (psF L n) i) (wayL b o L n i))), true), (Hp, .dct (encS tdN (leastL b o L n)), true)]) ⟨_, _, _, _, rfl, F4⟩ (fun _ _ _ _ _ _ _ _ => trivial) (fun j d x5 x6 x7 x8 g5 hd F5 => ?_) (fun x5 x6 x7 x8 g5 F5 => ?_)
    · obtain ⟨f, hfj, rfl⟩ := get_map hd
      have hfm := List.mem_of_getElem? hfj
      have hfo := (p0.feeds f hfm).1
      have hft := hfo.taker.sOk
      have hpat := hfo.pat
      have hlen : ((b.feeds.take j).foldl (wStep (fun z => lkS (leastL b o L n) z) (psF L n) i) (wayL b o L n i)).length < 16777216 := by
        have h1 := wFold_len (H := fun z => lkS (leastL b o L n) z) (ps := psF L n) (t := i) (b.feeds.take j) (wayL b o L n i)
        rw [List.length_take] at h1
        have : (wayL b o L n i).length ≤ 1 + 100 * 1000 := by
          have := hblen
          show (wAll _ _ _ _ i).length ≤ _
          omega
        omega
      have hinv : WInv (fun z => lkS (leastL b o L n) z) (i + 1) ((b.feeds.take j).foldl (wStep (fun z => lkS (leastL b o L n) z) (psF L n) i) (wayL b o L n i)) := wInv_fold (fun z w h => by
        obtain ⟨k, a, c⟩ := hbase z w h
        exact ⟨k, by omega, c⟩) fun f hf => hG f (List.mem_of_mem_take hf)
      have hgiv : lkS (leastL b o L n) f.giver = some i → ∃ w, lkS ((b.feeds.take j).foldl (wStep (fun z => lkS (leastL b o L n) z) (psF L n) i) (wayL b o L n i)) f.giver = some w := fun hg => by
        have := (wRound (H := fun z => lkS (leastL b o L n) z) (ps := psF L n) (t := i) _ hb0 (b.feeds.take j).length (b.feeds.take j) rfl).1 f.giver (by
          intro e
          have e : lkS (leastL b o L n) f.giver = some (i + 1) := e
          rw [hg] at e
          have := Option.some.inj e
          omega)
        rw [this]
        exact wayL_some p0 (by omega) hg (Nat.le_refl _)
      have es : (b.feeds.take (j + 1)).foldl (wStep (fun z => lkS (leastL b o L n) z) (psF L n) i) (wayL b o L n i) = wStep (fun z => lkS (leastL b o L n) z) (psF L n) i ((b.feeds.take j).foldl (wStep (fun z => lkS (leastL b o L n) z) (psF L n) i) (wayL b o L n i)) f := by rw [take_snoc hfj, List.foldl_append]; rfl
      rw [es]
      generalize (b.feeds.take j).foldl (wStep (fun z => lkS (leastL b o L n) z) (psF L n) i) (wayL b o L n i) = acc at *
      have no : ∀ {g'}, wCond (fun z => lkS (leastL b o L n) z) (psF L n) i f = false → Fr .pu g g' [(Wp, .dct (encS wyT acc), true), (Hp, .dct (encS tdN (leastL b o L n)), true)] → Fr .pu g g' [(Wp, .dct (encS wyT (wStep (fun z => lkS (leastL b o L n) z) (psF L n) i acc f)), true), (Hp, .dct (encS tdN (leastL b o L n)), true)] := fun h F => by
        unfold wStep
        rw [if_neg (by rw [h]; decide)]
        exact F
      dsimp only [List.set_cons_succ, List.set_cons_zero]
      walk_at "au"
      refine v_eqON (i := i) (by omega) ?_
      walk_at "au"
      refine iteD (fun c1 => ?_) (fun c1 => ?_)
      · walk_at "au"
        refine v_eqON (i := i + 1) (by omega) ?_
        walk_at "au"
        refine iteD (fun c2 => ?_) (fun c2 => ?_)
        · walk_at "au"
          refine ⟨f.pat, f.size, f.hops, L, rfl, rfl, rfl, rfl, hpat, h1, h2, fun g6 U6 => ?_⟩
          have F6 := F5.up U6
          have ep : (decide ((1 + (i : Int) - 1) + 1 ≤ f.hops) && (decide (n ≤ f.size) && L.any fun z => letsB f.pat z)) = psF L n i f := by
            unfold psF
            rw [show (1 + (i : Int) - 1) + 1 = (i : Int) + 1 by omega]
          rw [ep]
          walk_at "au"
          refine iteB (fun c3 => ?_) (fun c3 => ?_)
          · obtain ⟨w, hw⟩ := hgiv c1
            obtain ⟨k, hk, hk2, hwl, hws⟩ := hinv _ _ hw
            have hcnd : wCond (fun z => lkS (leastL b o L n) z) (psF L n) i f = true := by
              unfold wCond
              rw [decide_eq_true c1, decide_eq_true c2, c3]; rfl
            have hns : ∀ y ∈ w ++ [f.taker], sOk y := fun y hy => by
              rcases List.mem_append.mp hy with hy | hy
              · exact hws y hy
              · rw [List.mem_singleton.mp hy]; exact hft
            have ew : (w.map D.str ++ [.str f.taker]) = (w ++ [f.taker]).map D.str := by rw [List.map_append]; rfl
            have hwl2 : (w.map D.str).length ≤ 1000 := by rw [List.length_map]; omega
            walk_at "au"
            refine k_getS F6 0 rfl hw ?_
            walk_at "au"
            rw [ew]
            have est : wStep (fun z => lkS (leastL b o L n) z) (psF L n) i acc f = (match lkS acc f.taker with
                | none => ptS acc f.taker (w ++ [f.taker])
                | some v => if slt (w ++ [f.taker]) v = true then ptS acc f.taker (w ++ [f.taker]) else acc) := by
              unfold wStep
              rw [if_pos hcnd, hw]
              try rfl
            rw [est]
            cases ha : lkS acc f.taker with
            | none =>
              walk_at "au"
              refine iteNB (fun _ => ?_) (fun z => by cases z)
              refine iteB (fun _ => ?_) (fun z => by cases z)
              walk_at "au"
              refine k_putS (w ++ [f.taker]) F6 0 rfl rfl hlen fun g7 F7 => ?_
              exact ⟨_, _, _, _, rfl, F7⟩
            | some v =>
              obtain ⟨_, _, _, _, hvs⟩ := hinv _ _ ha
              walk_at "au"
              refine iteNB (fun z => by cases z) (fun _ => ?_)
              walk_at "au"
              refine k_getS F6 0 rfl ha ?_
              walk_at "au"
              refine v_ltW hns hvs ?_
              walk_at "au"
              refine iteB (fun c4 => ?_) (fun c4 => ?_)
              · walk_at "au"
                refine k_putS (w ++ [f.taker]) F6 0 rfl rfl hlen fun g7 F7 => ?_
                refine ⟨_, _, _, _, rfl, ?_⟩
                dsimp only
                rw [if_pos c4]
                exact F7
              · walk_at "au"
                refine ⟨_, _, _, _, rfl, ?_⟩
                dsimp only
                rw [if_neg (by rw [c4]; decide)]
                exact F6
          · walk_at "au"
            exact ⟨_, _, _, _, rfl, no (by unfold wCond; rw [c3]; simp) F6⟩
        · refine iteB (fun z => by cases z) (fun _ => ?_)
          walk_at "au"
          exact ⟨_, _, _, _, rfl, no (by unfold wCond; rw [decide_eq_false c2]; simp) F5⟩
      · refine iteB (fun z => by cases z) (fun _ => ?_)
        walk_at "au"
        exact ⟨_, _, _, _, rfl, no (by unfold wCond; rw [decide_eq_false c1]; rfl) F5⟩
    · rw [List.length_map, List.take_length] at F5
      exact ⟨_, _, _, _, _, rfl, F5⟩
  · rw [ran_len] at F4
    have e : ((((b.sites.map SiteR.d).length : Int)) - 1).toNat = b.sites.length - 1 := by omega
    rw [e] at F4
    walk_at "au"
    exact q Wp _ (F4.fresh 0 rfl) (Fr.upv F4) (F4.at 0 rfl)
/-- least.way(book, kind, site): 0 book, 1 kind, 2 site -/
abbrev N_least_way : List Str := ["book", "kind", "site"]
theorem st0_least_way (a0 a1 a2 : D) : dstart N_least_way [a0, a1, a2] = [some a0, some a1, some a2] := rfl
def w_least_way : DTS := (dRet (dDGet1 (dCall sp_least_ways [] (dCons (dVar 0) (dCons (dVar 1) dNil))) (dVar 2)))
def sp_least_way : DSp := fun ds g Q => match ds with
  | [.tup bk, .tup kd, .str z] => ∃ b : BookR, ∃ o : Str, ∃ L : List Str, ∃ n : Int, bk = b.ds ∧ kd = kindD o L n ∧ (BookOk b) ∧ (BdsOk L) ∧ (b.sites ≠ []) ∧ ∀ g', Up [] g g' → Q (optW (lkS (wayL b o L n (b.sites.length - 1)) z)) g'
  | _ => False
theorem len_least_way : ∀ ds g Q, sp_least_way ds g Q → ds.length = 3 := fun ds g Q h => by
  unfold sp_least_way at h; split at h <;> first | rfl | exact h.elim
theorem t_least_way {k : FK} {g0 g : GS} {lo : FL} {Q : DK} {b : BookR} {o : Str} {L : List Str} {n : Int} {z : Str} (F : Fr k g0 g lo) (p0 : (BookOk b)) (p1 : (BdsOk L)) (p2 : (b.sites ≠ [])) (h : ∀ g', Fr k g0 g' lo → Q (optW (lkS (wayL b o L n (b.sites.length - 1)) z)) g') : sp_least_way ([.tup (b.ds), .tup (kindD o L n), .str z] ++ []) g Q := ⟨b, o, L, n, rfl, rfl, p0, p1, p2, fun g' u => h g' (F.up u)⟩
local macro_rules | `(tactic| walk_at "call") => `(tactic| ((with_reducible refine t_least_way (by assumption) ?_ ?_ ?_ ?_); walk_at "sd"; walk_at "sd"; walk_at "sd"; intro _ _))
theorem rd_least_way : ∀ ds g Q, sp_least_way ds g Q → w_least_way { nx := fun _ g => Q .non g, rt := Q } (dstart N_least_way ds) g := fun ds g Q h => by
  unfold sp_least_way at h; split at h
  case h_2 => exact h.elim
  obtain ⟨b, o, L, n, rfl, rfl, p0, p1, p2, q⟩ := h
  rename_i z
  have F : Fr .pu g g [] := Fr.startP
  rw [st0_least_way]
  unfold w_least_way
  walk_at "au"
  have e : ((lkS (wayL b o L n (b.sites.length - 1)) z).map wyT).getD .non = optW (lkS (wayL b o L n (b.sites.length - 1)) z) := by
    cases lkS (wayL b o L n (b.sites.length - 1)) z <;> rfl
  show Q (((lkS (wayL b o L n (b.sites.length - 1)) z).map wyT).getD .non) _
  rw [e]
  exact q _ (Fr.upv (by assumption))
/-- judge.way(book, kind, site, way): 0 book, 1 kind, 2 site, 3 way, 4 k, 5 feed -/
abbrev N_judge_way : List Str := ["book", "kind", "site", "way", "k", "feed"]
theorem st0_judge_way (a0 a1 a2 a3 : D) : dstart N_judge_way [a0, a1, a2, a3] = [some a0, some a1, some a2, some a3, none, none] := rfl
def w_judge_way : DTS := (dSeq (dIf (dOr (dTest (dOp eqD (dCB lenD (dCons (dVar 3) dNil)) (dC (.int 0)))) (dOr (dTest (dOp neD (dOp ixD (dVar 3) (dC (.int 0))) (dOp ixD (dVar 1) (dC (.int 1))))) (dTest (dOp neD (dOp ixD (dVar 3) (dUn negD (dC (.int 1)))) (dVar 2))))) (dRet (dC (.bl false))) dNext)
  (dSeq (dFor (iRa1 (dCB lenD (dCons (dVar 3) dNil))) (gNm 4) (dIf (dOr (dTest (dOp inD (dOp ixD (dVar 3) (dVar 4)) (dSl (dVar 3) dNo (dPart (dVar 4))))) (dOr (dTest (dOp isND (dCall sp_site_of [] (dCons (dVar 0) (dCons (dOp ixD (dVar 3) (dVar 4)) dNil))) (dC .non))) (dNot (dTru (dCall sp_carries [] (dCons (dVar 0) (dCons (dOp ixD (dVar 3) (dVar 4)) (dCons (dOp ixD (dVar 1) (dC (.int 2))) dNil)))))))) (dRet (dC (.bl false))) dNext))
  (dSeq (dFor (iRa1 (dOp subD (dCB lenD (dCons (dVar 3) dNil)) (dC (.int 1)))) (gNm 4) (dSeq (dAsg (dCall sp_feed_of [] (dCons (dVar 0) (dCons (dOp ixD (dVar 3) (dVar 4)) (dCons (dOp ixD (dVar 3) (dOp addD (dVar 4) (dC (.int 1)))) dNil)))) (gNm 5))
  (dIf (dOr (dTest (dOp isND (dVar 5) (dC .non))) (dNot (dTru (dCall sp_passes [] (dCons (dVar 5) (dCons (dOp ixD (dVar 1) (dC (.int 2))) (dCons (dOp ixD (dVar 1) (dC (.int 3))) (dCons (dVar 4) dNil)))))))) (dRet (dC (.bl false))) dNext)))
  (dRet (dC (.bl true))))))
theorem ends_at {w : List Str} (h : w ≠ []) : (w.map D.str)[w.length - 1]? = some (.str (lastS w)) := by
  have hp := List.length_pos_iff.mpr h
  rw [List.getElem?_map, lastS_at (by omega)]; rfl
def jgB (b : BookR) (o : Str) (L : List Str) (n : Int) (w : List Str) : Prop := w ≠ [] ∧ w[0]? = some o ∧ (∀ k z, w[k]? = some z → z ∉ w.take k ∧ z ∈ carL b.sites L) ∧ ∀ k y z, w[k]? = some y → w[k + 1]? = some z → ∃ f, feedOf b.feeds y z = some f ∧ psF L n k f = true
theorem at_last (a : Str) (r : List Str) : L2.atI ((a :: r).map D.str) (-1) = some (.str (lastS (a :: r))) := by
  have h := ends_at (w := a :: r) (by simp)
  have e : L2.ixN ((a :: r).map D.str).length (-1) = some ((a :: r).length - 1) := by
    unfold L2.ixN
    rw [List.length_map, if_neg (by omega), if_pos (by rw [List.length_cons]; omega)]
    congr 1
    rw [List.length_cons]; omega
  unfold L2.atI
  rw [e]
  exact h
theorem car_none {b : BookR} {L : List Str} {y : Str} (h : siteOf b.sites y = none) : y ∉ carL b.sites L := fun hm => by
  obtain ⟨s, hs, e⟩ := carL_mem hm
  exact absurd (decide_eq_true e) (List.find?_eq_none.mp h s hs)
theorem car_some {b : BookR} {L : List Str} {y : Str} {s : SiteR} (hb : BookOk b) (h : siteOf b.sites y = some s) : y ∈ carL b.sites L ↔ (L.any fun z => letsB s.lot z) = true := by
  have h' : b.sites.find? (fun s => decide (s.name = y)) = some s := h
  have hn : s.name = y := of_decide_eq_true (List.find?_some (p := fun s : SiteR => decide (s.name = y)) h')
  have hs := List.mem_of_find?_eq_some h'
  unfold carL
  rw [List.mem_map]
  refine ⟨fun ⟨s2, h2, e⟩ => ?_, fun ha => ⟨s, List.mem_filter.mpr ⟨hs, ha⟩, hn⟩⟩
  obtain ⟨h3, h4⟩ := List.mem_filter.mp h2
  have : s2 = s := by
    have := siteOf_nd hb.nd (List.mem_filter.mp h2).1
    rw [e, h] at this
    exact (Option.some.inj this).symm
  rw [← this]; exact h4
def sp_judge_way : DSp := fun ds g Q => match ds with
  | [.tup bk, .tup kd, .str z, .tup ws] => ∃ (b : BookR) (o : Str) (L : List Str) (n : Int) (w : List Str), bk = b.ds ∧ kd = kindD o L n ∧ ws = w.map D.str ∧ BookOk b ∧ BdsOk L ∧ w.length ≤ 1000 ∧ ∀ r g', (r = true ↔ jgB b o L n w ∧ lastS w = z) → Up [] g g' → Q (.bl r) g'
  | _ => False
theorem len_judge_way : ∀ ds g Q, sp_judge_way ds g Q → ds.length = 4 := fun ds g Q h => by
  unfold sp_judge_way at h; split at h <;> first | rfl | exact h.elim
theorem rd_judge_way : ∀ ds g Q, sp_judge_way ds g Q → w_judge_way { nx := fun _ g => Q .non g, rt := Q } (dstart N_judge_way ds) g := fun ds g Q h => by
  unfold sp_judge_way at h; split at h
  case h_2 => exact h.elim
  obtain ⟨b, o, L, n, w, rfl, rfl, rfl, p0, p1, p2, q⟩ := h
  rename_i z
  have F : Fr .pu g g [] := Fr.startP
  have h1 := p1.len
  have h2 := p1.num
  have hwl : (w.map D.str).length = w.length := List.length_map ..
  have no : ¬ (jgB b o L n w ∧ lastS w = z) → ∀ g', Up [] g g' → Q (.bl false) g' := fun h g' u => q false g' ⟨fun x => Bool.noConfusion x, fun x => absurd x h⟩ u
  rw [st0_judge_way]
  unfold w_judge_way
  walk_at "au"
  refine iteD (fun h0 => ?_) (fun h0 => ?_)
  · refine iteB (fun _ => ?_) (fun z => by cases z)
    walk_at "au"
    exact no (fun x => x.1.1 (by rw [hwl] at h0; exact List.length_eq_zero_iff.mp (by omega))) _ (Fr.upv F)
  have hne : w ≠ [] := fun x => h0 (by rw [x]; rfl)
  obtain ⟨w0, wr, rfl⟩ : ∃ w0 wr, w = w0 :: wr := by
    cases w with
    | nil => exact absurd rfl hne
    | cons a r => exact ⟨a, r, rfl⟩
  walk_at "au"
  refine v_ixTN 0 rfl (show _ = some (D.str w0) from rfl) ?_
  walk_at "au"
  refine iteN (fun h3 => ?_) (fun h3 => ?_)
  · refine iteB (fun _ => ?_) (fun z => by cases z)
    walk_at "au"
    exact no (fun x => h3 (Option.some.inj x.1.2.1)) _ (Fr.upv F)
  subst h3
  walk_at "au"
  refine v_ixT (at_last w0 wr) ?_
  walk_at "au"
  refine iteN (fun h4 => ?_) (fun h4 => ?_)
  · walk_at "au"
    exact no (fun x => h4 x.2) _ (Fr.upv F)
  refine DL.s_next ?_
  subst h4
  walk_at "au"
  rw [hwl]
  refine for1 4 (fun i _ g' => (∀ k y, k < i → (w0 :: wr)[k]? = some y → y ∉ (w0 :: wr).take k ∧ y ∈ carL b.sites L) ∧ Fr .pu g g' []) ⟨_, rfl, (fun k y h => absurd h (Nat.not_lt_zero k)), F⟩ (fun _ _ _ _ _ => trivial) (fun i d x4 g1 hd hI => ?_) (fun x4 g1 hI => ?_)
  · obtain ⟨hJ, F1⟩ := hI
    obtain ⟨hi, rfl⟩ := ran_get hd
    have hi : i < (w0 :: wr).length := by omega
    obtain ⟨y, hy⟩ : ∃ y, (w0 :: wr)[i]? = some y := ⟨_, List.getElem?_eq_getElem hi⟩
    have hyd : ((w0 :: wr).map D.str)[i]? = some (.str y) := by rw [List.getElem?_map, hy]; rfl
    have ix : ∀ {Q : DK} {g'}, Q (.str y) g' → ixD (.tup ((w0 :: wr).map D.str)) (.int (0 + (i : Int))) g' Q := fun h => v_ixTN i (by omega) hyd h
    generalize hW : w0 :: wr = w at *
    dsimp only [List.set_cons_succ, List.set_cons_zero]
    walk_at "au"
    refine ix ?_
    walk_at "au"
    refine v_slToT (by omega) ?_
    rw [show (0 + (i : Int)).toNat = i by omega, ← List.map_take]
    walk_at "au"
    refine iteD (fun h5 => ?_) (fun h5 => ?_)
    · refine iteB (fun _ => ?_) (fun z => by cases z)
      walk_at "au"
      exact no (fun x => (x.1.2.2.1 i y hy).1 h5) _ (Fr.upv F1)
    walk_at "au"
    refine ix ?_
    walk_at "au"
    refine ⟨b, rfl, ?_⟩
    cases hs : siteOf b.sites y with
    | none =>
      refine ⟨rfl, ?_⟩
      walk_at "au"
      refine iteB (fun _ => ?_) (fun z => by cases z)
      walk_at "au"
      exact no (fun x => car_none hs (x.1.2.2.1 i y hy).2) _ (Fr.upv F1)
    | some sr =>
      have hsl := (p0.sites sr (List.mem_of_find?_eq_some (show b.sites.find? _ = _ from hs))).lot
      refine ⟨rfl, ?_⟩
      walk_at "au"
      refine iteB (fun z => Bool.noConfusion (show false = true from z)) (fun _ => ?_)
      walk_at "au"
      refine ix ?_
      walk_at "au"
      refine ⟨b, sr, L, rfl, hs, rfl, hsl, h1, h2, fun g2 U2 => ?_⟩
      walk_at "au"
      refine iteNB (fun h6 => ?_) (fun h6 => ?_)
      · walk_at "au"
        exact no (fun x => by
          have := (car_some p0 hs).mp (x.1.2.2.1 i y hy).2
          rw [h6] at this; cases this) _ ((Fr.upv F1).trans U2)
      · walk_at "au"
        refine ⟨_, rfl, fun k v hk hv => ?_, F1.up U2⟩
        by_cases hki : k = i
        · subst hki
          rw [hy] at hv
          cases hv
          exact ⟨h5, (car_some p0 hs).mpr h6⟩
        · exact hJ k v (by omega) hv
  obtain ⟨hJ, F1⟩ := hI
  rw [ran_len] at hJ
  have hJ : ∀ k y, (w0 :: wr)[k]? = some y → y ∉ (w0 :: wr).take k ∧ y ∈ carL b.sites L := fun k y hk => hJ k y (by
    have := (List.getElem?_eq_some_iff.mp hk).1
    omega) hk
  have jg : (∀ k y z, (w0 :: wr)[k]? = some y → (w0 :: wr)[k + 1]? = some z → ∃ f, feedOf b.feeds y z = some f ∧ psF L n k f = true) → jgB b w0 L n (w0 :: wr) := fun h => ⟨hne, rfl, hJ, h⟩
  dsimp only [List.set_cons_succ, List.set_cons_zero]
  walk_at "au"
  rw [hwl]
  refine for2 4 5 (fun i _ _ g' => (∀ k y z, k < i → (w0 :: wr)[k]? = some y → (w0 :: wr)[k + 1]? = some z → ∃ f, feedOf b.feeds y z = some f ∧ psF L n k f = true) ∧ Fr .pu g g' []) ⟨_, _, rfl, (fun k y z h => absurd h (Nat.not_lt_zero k)), F1⟩ (fun _ _ _ _ _ _ => trivial) (fun i d x4 x5 g2 hd hI => ?_) (fun x4 x5 g2 hI => ?_)
  · obtain ⟨hK, F2⟩ := hI
    obtain ⟨hi, rfl⟩ := ran_get hd
    have hi : i + 1 < (w0 :: wr).length := by omega
    obtain ⟨y, hy⟩ : ∃ y, (w0 :: wr)[i]? = some y := ⟨_, List.getElem?_eq_getElem (by omega)⟩
    obtain ⟨z, hz⟩ : ∃ z, (w0 :: wr)[i + 1]? = some z := ⟨_, List.getElem?_eq_getElem hi⟩
    have hyd : ((w0 :: wr).map D.str)[i]? = some (.str y) := by rw [List.getElem?_map, hy]; rfl
    have hzd : ((w0 :: wr).map D.str)[i + 1]? = some (.str z) := by rw [List.getElem?_map, hz]; rfl
    have ix : ∀ {Q : DK} {g'}, Q (.str y) g' → ixD (.tup ((w0 :: wr).map D.str)) (.int (0 + (i : Int))) g' Q := fun h => v_ixTN i (by omega) hyd h
    have iz : ∀ {Q : DK} {g'}, Q (.str z) g' → ixD (.tup ((w0 :: wr).map D.str)) (.int (0 + (i : Int) + 1)) g' Q := fun h => v_ixTN (i + 1) (by omega) hzd h
    generalize hW : w0 :: wr = w at *
    dsimp only [List.set_cons_succ, List.set_cons_zero]
    walk_at "au"
    refine ix ?_
    walk_at "au"
    refine iz ?_
    walk_at "au"
    refine ⟨b, rfl, ?_⟩
    cases hf : feedOf b.feeds y z with
    | none =>
      walk_at "au"
      refine ⟨rfl, ?_⟩
      walk_at "au"
      refine iteB (fun _ => ?_) (fun z => by cases z)
      walk_at "au"
      exact no (fun x => by
        obtain ⟨f, e, _⟩ := x.1.2.2.2 i y z hy hz
        rw [hf] at e; cases e) _ (Fr.upv F2)
    | some f =>
      have hpat := (p0.feeds f (List.mem_of_find?_eq_some (show b.feeds.find? _ = _ from hf))).1.pat
      walk_at "au"
      refine ⟨rfl, ?_⟩
      walk_at "au"
      refine iteB (fun z => Bool.noConfusion (show false = true from z)) (fun _ => ?_)
      walk_at "au"
      refine ⟨f.pat, f.size, f.hops, L, rfl, rfl, rfl, rfl, hpat, h1, h2, fun g3 U3 => ?_⟩
      have ep : (decide ((0 + (i : Int)) + 1 ≤ f.hops) && (decide (n ≤ f.size) && L.any fun z => letsB f.pat z)) = psF L n i f := by
        unfold psF
        rw [show (0 + (i : Int)) + 1 = (i : Int) + 1 by omega]
      rw [ep]
      walk_at "au"
      refine iteNB (fun h6 => ?_) (fun h6 => ?_)
      · walk_at "au"
        exact no (fun x => by
          obtain ⟨f2, e, h7⟩ := x.1.2.2.2 i y z hy hz
          rw [hf] at e
          cases e
          rw [h6] at h7; cases h7) _ ((Fr.upv F2).trans U3)
      · walk_at "au"
        refine ⟨_, _, rfl, fun k u v hk hu hv => ?_, F2.up U3⟩
        by_cases hki : k = i
        · subst hki
          rw [hy] at hu
          rw [hz] at hv
          cases hu
          cases hv
          exact ⟨f, hf, h6⟩
        · exact hK k u v (by omega) hu hv
  obtain ⟨hK, F2⟩ := hI
  rw [ran_len] at hK
  walk_at "au"
  exact q true _ ⟨fun _ => ⟨jg fun k y z hk hz => hK k y z (by
    have := (List.getElem?_eq_some_iff.mp hz).1
    omega) hk hz, rfl⟩, fun _ => rfl⟩ (Fr.upv F2)
/-- .law.all.lines(names): 0 names, 1 lines, 2 one, 3 two -/
abbrev N_Lall_lines : List Str := ["names", "lines", "one", "two"]
theorem st0_Lall_lines (a0 : D) : dstart N_Lall_lines [a0] = [some a0, none, none, none] := rfl
def w_Lall_lines : DTS := (dSeq (dAsg (dLst dNil) (gNm 1))
  (dSeq (dFor (iAny (dVar 0)) (gNm 2) (dFor (iAny (dVar 0)) (gNm 3) (dIf (dTest (dOp ltD (dVar 2) (dVar 3))) (dDrop (dBM "list" appD (dVar 1) (dCons (dTup (dCons (dVar 2) (dCons (dVar 3) dNil))) dNil))) dNext)))
  (dRet (dCB sortedD (dCons (dVar 1) dNil)))))
theorem allL_ok {ns : List Str} (hn : ns.Nodup) : LinesOk (ns.flatMap fun a => (ns.filter fun b => decide (a.cps.toList < b.cps.toList)).map fun b => (a, b)) := by
  refine ⟨?_, fun p hp => ?_⟩
  · unfold List.Nodup
    rw [List.pairwise_flatMap]
    refine ⟨fun a _ => ?_, hn.imp fun {a b} hab => ?_⟩
    · exact map_nd_of (f := id) (by rw [List.map_id]; exact hn.sublist List.filter_sublist) fun x _ y _ e => congrArg Prod.snd e
    · intro x hx y hy e
      obtain ⟨_, _, rfl⟩ := List.mem_map.mp hx
      obtain ⟨_, _, rfl⟩ := List.mem_map.mp hy
      exact hab (congrArg Prod.fst e)
  · obtain ⟨a, _, h⟩ := List.mem_flatMap.mp hp
    obtain ⟨b, hb, rfl⟩ := List.mem_map.mp h
    exact of_decide_eq_true (List.mem_filter.mp hb).2
theorem allL_mem {ns : List Str} {q : Str × Str} (h : q ∈ ns.flatMap fun a => (ns.filter fun b => decide (a.cps.toList < b.cps.toList)).map fun b => (a, b)) : q.1 ∈ ns ∧ q.2 ∈ ns := by
  obtain ⟨a, ha, h⟩ := List.mem_flatMap.mp h
  obtain ⟨b, hb, rfl⟩ := List.mem_map.mp h
  exact ⟨ha, (List.mem_filter.mp hb).1⟩
theorem allL_len {ns : List Str} (h8 : ns.length ≤ 20) : (ns.flatMap fun a => (ns.filter fun b => decide (a.cps.toList < b.cps.toList)).map fun b => (a, b)).length ≤ 400 := by
  have := flat_len (l := ns) (f := fun a => (ns.filter fun b => decide (a.cps.toList < b.cps.toList)).map fun b => (a, b)) (k := 20) fun a _ => by
    rw [List.length_map]
    exact Nat.le_trans (List.length_filter_le _ _) h8
  omega
def sp_Lall_lines : DSp := fun ds g Q => match ds with
  | [.ref W] => ∃ ns : List Str, g W = some (.lst (ns.map D.str)) ∧ ns.length ≤ 20 ∧ ns.Nodup ∧ (∀ z ∈ ns, sOk z) ∧ ∀ (ps : List (Str × Str)) p g', LinesOk ps → (∀ q ∈ ps, q.1 ∈ ns ∧ q.2 ∈ ns) → ps.length ≤ 400 → g p = none → Up [] g g' → g' p = some (.lst (ps.map lineD)) → Q (.ref p) g'
  | _ => False
theorem len_Lall_lines : ∀ ds g Q, sp_Lall_lines ds g Q → ds.length = 1 := fun ds g Q h => by
  unfold sp_Lall_lines at h; split at h <;> first | rfl | exact h.elim
theorem t_Lall_lines {k : FK} {g0 g : GS} {lo : FL} {Q : DK} {ns : List Str} {W : Addr} (F : Fr k g0 g lo) (n : Nat) (b : Bool) (e : lo[n]? = some (W, .lst (ns.map D.str), b)) (h0 : ns.length ≤ 20) (h1 : ns.Nodup) (h2 : ∀ z ∈ ns, sOk z)
    (h : ∀ (ps : List (Str × Str)) p g', LinesOk ps → (∀ q ∈ ps, q.1 ∈ ns ∧ q.2 ∈ ns) → ps.length ≤ 400 → Fr k g0 g' ((p, .lst (ps.map lineD), true) :: lo) → Q (.ref p) g') : sp_Lall_lines ([.ref W] ++ []) g Q :=
  ⟨ns, F.at n e, h0, h1, h2, fun ps p g' a c d f u e => h ps p g' a c d (F.ret f (F.up u) e)⟩
theorem rd_Lall_lines : ∀ ds g Q, sp_Lall_lines ds g Q → w_Lall_lines { nx := fun _ g => Q .non g, rt := Q } (dstart N_Lall_lines ds) g := fun ds g Q h => by
  unfold sp_Lall_lines at h; split at h
  case h_2 => exact h.elim
  obtain ⟨ns, hW, p0, p1, p2, q⟩ := h
  rename_i W
  have F : Fr .pu g g [] := Fr.startP
  have F := F.argP hW
  rw [st0_Lall_lines]
  unfold w_Lall_lines
  walk_at "au"
  rename_i P g1 F1
  refine s_anyL ?_
  walk_at "au"
  have hmid : ∀ i, ((ns.take i).flatMap fun a => (ns.filter fun b => decide (a.cps.toList < b.cps.toList)).map fun b => (a, b)).length ≤ 400 := fun i => by
    have := flat_len (l := ns.take i) (f := fun a => (ns.filter fun b => decide (a.cps.toList < b.cps.toList)).map fun b => (a, b)) (k := 20) fun a _ => by
      rw [List.length_map]
      exact Nat.le_trans (List.length_filter_le _ _) p0
    rw [List.length_take] at this
    omega
  refine for2 2 3 (fun i _ _ g' => Fr .pu g g' [(P, .lst (((ns.take i).flatMap fun a => (ns.filter fun b => decide (a.cps.toList < b.cps.toList)).map fun b => (a, b)).map lineD), true), (W, .lst (ns.map D.str), false)]) ⟨_, _, rfl, F1⟩ (fun _ _ _ g' _ h => .inl (h.at 1 rfl)) (fun i d x2 x3 g2 hd F2 => ?_) (fun x2 x3 g2 F2 => ?_)
  · obtain ⟨a, ha, rfl⟩ := get_map hd
    have hm := hmid i
    walk_at "au"
    refine s_anyL ?_
    walk_at "au"
    generalize hacc : ((ns.take i).flatMap fun a => (ns.filter fun b => decide (a.cps.toList < b.cps.toList)).map fun b => (a, b)) = acc at *
    refine for1 3 (fun j _ g' => Fr .pu g g' [(P, .lst ((acc ++ ((ns.take j).filter fun b => decide (a.cps.toList < b.cps.toList)).map fun b => (a, b)).map lineD), true), (W, .lst (ns.map D.str), false)]) ⟨_, rfl, by simpa using F2⟩ (fun _ _ g' _ h => .inl (h.at 1 rfl)) (fun j d x g3 hd F3 => ?_) (fun x g3 F3 => ?_)
    · obtain ⟨c, hc, rfl⟩ := get_map hd
      have hl : (((ns.take j).filter fun b => decide (a.cps.toList < b.cps.toList)).map fun b => (a, b)).length ≤ 20 := by
        rw [List.length_map]
        have := List.length_filter_le (fun b => decide (a.cps.toList < b.cps.toList)) (ns.take j)
        rw [List.length_take] at this
        omega
      have es : ((ns.take (j + 1)).filter fun b => decide (a.cps.toList < b.cps.toList)).map (fun b => (a, b)) = ((ns.take j).filter fun b => decide (a.cps.toList < b.cps.toList)).map (fun b => (a, b)) ++ (if a.cps.toList < c.cps.toList then [(a, c)] else []) := by
        rw [take_snoc hc, List.filter_append, List.map_append]
        congr 1
        by_cases h : a.cps.toList < c.cps.toList
        · rw [if_pos h, List.filter_cons_of_pos (p := fun b : Str => decide (a.cps.toList < b.cps.toList)) (decide_eq_true h)]; rfl
        · rw [if_neg h, List.filter_cons_of_neg (p := fun b : Str => decide (a.cps.toList < b.cps.toList)) (by rw [decide_eq_false h]; decide)]; rfl
      rw [es]
      generalize ((ns.take j).filter fun b => decide (a.cps.toList < b.cps.toList)).map (fun b => (a, b)) = mid at *
      walk_at "au"
      refine iteD (fun h => ?_) (fun h => ?_)
      · walk_at "au"
        rename_i g4 F4
        refine ⟨_, rfl, ?_⟩
        rw [if_pos h, ← List.append_assoc, List.map_append]
        exact F4
      · walk_at "au"
        refine ⟨_, rfl, ?_⟩
        rw [if_neg h, List.append_nil]
        exact F3
    · rw [List.length_map, List.take_length] at F3
      refine ⟨_, _, rfl, ?_⟩
      have e : ((ns.take (i + 1)).flatMap fun a => (ns.filter fun b => decide (a.cps.toList < b.cps.toList)).map fun b => (a, b)) = acc ++ (ns.filter fun b => decide (a.cps.toList < b.cps.toList)).map fun b => (a, b) := by
        rw [take_snoc ha, List.flatMap_append, hacc]; simp
      rw [e]
      exact F3
  · rw [List.length_map, List.take_length] at F2
    have hm := fun q => allL_mem (ns := ns) (q := q)
    have ho := allL_ok p1
    have hl := allL_len p0
    generalize (ns.flatMap fun a => (ns.filter fun b => decide (a.cps.toList < b.cps.toList)).map fun b => (a, b)) = ps at *
    walk_at "au"
    refine v_sortLines (F2.at 0 rfl) (fun p hp => ⟨p2 _ (hm p hp).1, p2 _ (hm p hp).2⟩) fun r qs hq hr => ?_
    have F3 := F2.new (.lst (qs.map lineD)) hr
    exact q qs _ _ (ho.perm hq) (fun x hx => hm x (hq.mem_iff.mp hx)) (by rw [hq.length_eq]; omega) (F3.fresh 0 rfl) F3.upv (F3.at 0 rfl)
/-- .law.net(source, many, words): 0 source, 1 many, 2 words, 3 names, 4 lines, 5 patterns, 6 sizes, 7 feeds, 8 pair, 9 sites, 10 name, 11 way, 12 hops, 13 size -/
abbrev N_Lnet : List Str := ["source", "many", "words", "names", "lines", "patterns", "sizes", "feeds", "pair", "sites", "name", "way", "hops", "size"]
theorem st0_Lnet (a0 a1 a2 : D) : dstart N_Lnet [a0, a1, a2] = [some a0, some a1, some a2, none, none, none, none, none, none, none, none, none, none, none] := rfl
def w_Lnet : DTS := (dSeq (dAsg (dCall sp_Lnames [] (dCons (dVar 0) (dCons (dVar 1) dNil))) (gNm 3))
  (dSeq (dAsg (dSl (dCall sp_Llines [] (dCons (dVar 0) (dCons (dVar 3) dNil))) dNo (dPart (dC (.int 12)))) (gNm 4))
  (dSeq (dIf (dAnd (dTest (dOp ltD (dVar 1) (dC (.int 6)))) (dTest (dOp eqD (dCall sp_Ldraw [] (dCons (dVar 0) (dCons (dC (.int 2)) dNil))) (dC (.int 1))))) (dAsg (dCall sp_Lall_lines [] (dCons (dVar 3) dNil)) (gNm 4)) dNext)
  (dSeq (dAsg (dLst (dCons (dC (.str "*")) (dCons (dC (.str "*")) (dCons (dC (.str "*")) (dCons (dCall sp_Lpattern [] (dCons (dVar 0) (dCons (dVar 2) dNil))) (dCons (dCall sp_Lpattern [] (dCons (dVar 0) (dCons (dVar 2) dNil))) dNil)))))) (gNm 5))
  (dSeq (dAsg (dLst (dCons (dOp addD (dC (.int 1)) (dCall sp_Ldraw [] (dCons (dVar 0) (dCons (dC (.int 99)) dNil)))) (dCons (dOp addD (dC (.int 1)) (dCall sp_Ldraw [] (dCons (dVar 0) (dCons (dC (.int 9)) dNil)))) (dCons (dC (.int 99)) dNil)))) (gNm 6))
  (dSeq (dAsg (dLst dNil) (gNm 7))
  (dSeq (dFor (iAny (dVar 4)) (gNm 8) (dFor (iRa1 (dC (.int 2))) (gNm 11) (dIf (dTest (dOp neD (dCall sp_Ldraw [] (dCons (dVar 0) (dCons (dC (.int 6)) dNil))) (dC (.int 5)))) (dSeq (dAsg (dOp addD (dC (.int 1)) (dCall sp_Ldraw [] (dCons (dVar 0) (dCons (dOp addD (dVar 1) (dC (.int 1))) dNil)))) (gNm 12))
  (dSeq (dAsg (dCall sp_Lpick [] (dCons (dVar 0) (dCons (dVar 6) dNil))) (gNm 13))
  (dDrop (dBM "list" appD (dVar 7) (dCons (dTup (dCons (dC (.str "feed")) (dCons (dOp ixD (dVar 8) (dVar 11)) (dCons (dOp ixD (dVar 8) (dOp subD (dC (.int 1)) (dVar 11))) (dCons (dCall sp_Lpick [] (dCons (dVar 0) (dCons (dVar 5) dNil))) (dCons (dVar 12) (dCons (dVar 13) dNil))))))) dNil))))) dNext)))
  (dSeq (dAsg (dLst dNil) (gNm 9))
  (dSeq (dFor (iAny (dVar 3)) (gNm 10) (dDrop (dBM "list" appD (dVar 9) (dCons (dTup (dCons (dC (.str "site")) (dCons (dVar 10) (dCons (dCall sp_Ldraw [] (dCons (dVar 0) (dCons (dC (.int 5)) dNil))) (dCons (dC (.int 30)) (dCons (dC (.int 30)) (dCons (dCall sp_Lpick [] (dCons (dVar 0) (dCons (dOp addD (dLst (dCons (dC (.str "*")) dNil)) (dVar 5)) dNil))) dNil))))))) dNil))))
  (dRet (dTup (dCons (dC (.str "book")) (dCons (dC (.int 9)) (dCons (dTup (dCons (dC (.int 1)) (dCons (dC (.int 3)) dNil))) (dCons (dCB tupF (dCons (dVar 9) dNil)) (dCons (dCB tupF (dCons (dVar 4) dNil)) (dCons (dCB tupF (dCons (dCall sp_Lshuffled [] (dCons (dVar 0) (dCons (dVar 7) dNil))) dNil)) (dCons (dTup dNil) (dCons (dTup dNil) dNil)))))))))))))))))))
structure FO (ns : List Str) (f : FeedR) : Prop where
  gv : f.giver ∈ ns
  tk : f.taker ∈ ns
  pat : PatOk f.pat
  hops : 1 ≤ f.hops ∧ f.hops ≤ 9
  size : 1 ≤ f.size ∧ f.size ≤ 99
def sp_Lnet : DSp := fun ds g Q => match ds with
  | [.ref L, .int n, .ref W] => ∃ s m, ∃ w : Nat, ∃ us : List Str, s.L = L ∧ Src s g m ∧ m < 200000000000 ∧ n = (w : Int) ∧ g W = some (.lst (us.map D.str)) ∧ W ≠ s.L ∧ (1 ≤ w) ∧ (w ≤ 8) ∧ (us ≠ []) ∧ (us.length < 1000) ∧ ((∀ x ∈ us, NameOk x)) ∧ ∀ b : BookR, ∀ g', (BookOk b) → (b.sites.length = w) → ((b.feeds.map gtF).Nodup) → Go s g g' (m + 300000) → Q (.tup b.ds) g'
  | _ => False
theorem len_Lnet : ∀ ds g Q, sp_Lnet ds g Q → ds.length = 3 := fun ds g Q h => by
  unfold sp_Lnet at h; split at h <;> first | rfl | exact h.elim
theorem t_Lnet {s : SI} {m : Nat} {g0 g : GS} {lo : FL} {Q : DK} {w : Nat} {us : List Str} {W : Addr} (F : Fr (.go s m) g0 g lo) (hm : m < 200000000000) (n0 : Nat) (b0 : Bool) (e0 : lo[n0]? = some (W, .lst (us.map D.str), b0)) (p0 : (1 ≤ w)) (p1 : (w ≤ 8)) (p2 : (us ≠ [])) (p3 : (us.length < 1000)) (p4 : ((∀ x ∈ us, NameOk x))) (h : ∀ b : BookR, ∀ g', (BookOk b) → (b.sites.length = w) → ((b.feeds.map gtF).Nodup) → Fr (.go s (m + 300000)) g0 g' lo → Q (.tup b.ds) g') : sp_Lnet ([.ref s.L, .int ((w : Int)), .ref W] ++ []) g Q := ⟨s, m, w, us, rfl, F.src, hm, rfl, F.at n0 e0, F.neL n0 e0, p0, p1, p2, p3, p4, fun b g' a0 a1 a2 G => h b g' a0 a1 a2 (F.call G)⟩
local macro_rules | `(tactic| walk_at "call") => `(tactic| ((with_reducible refine (?_ : sp_Lnet _ _ _)); first
    | (refine t_Lnet (by assumption) ?_ 0 _ rfl ?_ ?_ ?_ ?_ ?_ ?_; omega; walk_at "sd"; walk_at "sd"; walk_at "sd"; walk_at "sd"; walk_at "sd"; intro _ _ _ _ _ _)
    | (refine t_Lnet (by assumption) ?_ 1 _ rfl ?_ ?_ ?_ ?_ ?_ ?_; omega; walk_at "sd"; walk_at "sd"; walk_at "sd"; walk_at "sd"; walk_at "sd"; intro _ _ _ _ _ _)
    | (refine t_Lnet (by assumption) ?_ 2 _ rfl ?_ ?_ ?_ ?_ ?_ ?_; omega; walk_at "sd"; walk_at "sd"; walk_at "sd"; walk_at "sd"; walk_at "sd"; intro _ _ _ _ _ _)
    | (refine t_Lnet (by assumption) ?_ 3 _ rfl ?_ ?_ ?_ ?_ ?_ ?_; omega; walk_at "sd"; walk_at "sd"; walk_at "sd"; walk_at "sd"; walk_at "sd"; intro _ _ _ _ _ _)
    | (refine t_Lnet (by assumption) ?_ 4 _ rfl ?_ ?_ ?_ ?_ ?_ ?_; omega; walk_at "sd"; walk_at "sd"; walk_at "sd"; walk_at "sd"; walk_at "sd"; intro _ _ _ _ _ _)))
theorem rd_Lnet : ∀ ds g Q, sp_Lnet ds g Q → w_Lnet { nx := fun _ g => Q .non g, rt := Q } (dstart N_Lnet ds) g := fun ds g Q h => by
  unfold sp_Lnet at h; split at h
  case h_2 => exact h.elim
  obtain ⟨s, m, w, us, rfl, hS, hm, rfl, hp0, np0, p0, p1, p2, p3, p4, q⟩ := h
  rename_i W
  have F := Fr.startG hS
  have F := F.argG hp0 np0
  rw [st0_Lnet]
  unfold w_Lnet
  walk_at "au"
  rename_i ns N g1 n1 n2 n3 F1
  have n1 : ns.length = w := by omega
  have n0 : ns ≠ [] := fun e => by rw [e] at n1; simp at n1; omega
  have n4 : ns.length ≤ 100 := by omega
  have n5 : ns.length ≤ 20 := by omega
  have n6 : ∀ z ∈ ns, sOk z := fun z h => (n3 z h).sOk
  walk_at "ac"
  rename_i ps0 P0 g2 l1 l2 l3 F2 C g3 F3
  rw [← List.map_take] at F3
  refine cut1 4 (fun x4 g' => ∃ (ps : List (Str × Str)) (P : Addr), x4 = some (.ref P) ∧ LinesOk ps ∧ (∀ q ∈ ps, q.1 ∈ ns ∧ q.2 ∈ ns) ∧ ps.length ≤ 400 ∧ Fr (.go s (m + 2001)) g g' [(P, .lst (ps.map lineD), true), (N, .lst (ns.map D.str), true), (W, .lst (us.map D.str), false)]) ?_ ?_
  · walk_at "au"
    refine iteD (fun h => ?_) (fun h => ?_)
    · walk_at "au"
      rename_i v g4 v0 v1 F4
      refine iteD (fun h => ?_) (fun h => ?_)
      · walk_at "au"
        refine t_Lall_lines F4 2 _ rfl n5 n2 n6 fun ps P g5 h1 h2 h3 F5 => ?_
        walk_at "au"
        exact ⟨_, rfl, ps, P, rfl, h1, h2, h3, (F5.sub (by walk_at "sb")).le (by omega)⟩
      · walk_at "au"
        exact ⟨_, rfl, ps0.take 12, C, rfl, l1.take 12, fun q hq => l2 q (List.mem_of_mem_take hq), by rw [List.length_take]; omega, (F4.sub (by walk_at "sb")).le (by omega)⟩
    · refine ite_ff ?_
      walk_at "au"
      exact ⟨_, rfl, ps0.take 12, C, rfl, l1.take 12, fun q hq => l2 q (List.mem_of_mem_take hq), by rw [List.length_take]; omega, (F3.sub (by walk_at "sb")).le (by omega)⟩
  · clear F3 F2 l1 l2 l3
    rintro x4 g4 ⟨ps, P, rfl, l1, l2, l3, F4⟩
    dsimp only [List.set_cons_succ, List.set_cons_zero]
    walk_at "au"
    rename_i z1 g5 hz1 F5 z2 g6 hz2 F6 T g7 F7 v1 g8 v10 v11 F8 v2 g9 v20 v21 F9 S g10 F10 FP g11 F11
    obtain ⟨zs, ez, hz, hzl⟩ : ∃ zs : List Str, [D.str "*", .str "*", .str "*", .str z1, .str z2] = zs.map D.str ∧ (∀ z ∈ zs, PatOk z) ∧ zs.length = 5 := ⟨["*", "*", "*", z1, z2], rfl, fun z h => by
      simp only [List.mem_cons, List.mem_nil_iff, or_false] at h
      rcases h with rfl | rfl | rfl | rfl | rfl
      · exact pat_star
      · exact pat_star
      · exact pat_star
      · exact hz1
      · exact hz2, rfl⟩
    rw [ez] at F11
    refine s_anyL ?_
    walk_at "au"
    refine for4 8 11 12 13 (fun i _ _ _ _ g' => ∃ fs : List FeedR, (∀ f ∈ fs, FO ns f) ∧ (fs.map gtF).Sublist (bothW (ps.take i)) ∧ Fr (.go s (m + 3000 + 20 * i)) g g' [(FP, .lst (fs.map FeedR.d), true), (S, .lst [.int (1 + v1), .int (1 + v2), .int 99], true), (T, .lst (zs.map D.str), true), (P, .lst (ps.map lineD), true), (N, .lst (ns.map D.str), true), (W, .lst (us.map D.str), false)]) ⟨_, _, _, _, rfl, [], (fun f h => nomatch h), List.nil_sublist _, F11.le (by omega)⟩ (fun _ _ _ _ _ g' _ ⟨_, _, _, h⟩ => .inl (h.at 3 rfl)) (fun i d x8 x11 x12 x13 g12 hd hR => ?_) (fun x8 x11 x12 x13 g12 hR => ?_)
    · obtain ⟨fs, hfs, hsub, F12⟩ := hR
      obtain ⟨pr, hpr, rfl⟩ := get_map hd
      dsimp only [List.set_cons_succ, List.set_cons_zero]
      have hpm := l2 pr (List.mem_of_getElem? hpr)
      have hi := (List.getElem?_eq_some_iff.mp hpr).1
      walk_at "au"
      refine for3 11 12 13 (fun j _ _ _ g' => ∃ fs : List FeedR, (∀ f ∈ fs, FO ns f) ∧ (fs.map gtF).Sublist (bothW (ps.take i) ++ [(pr.1, pr.2), (pr.2, pr.1)].take j) ∧ Fr (.go s (m + 3000 + 20 * i + 4 * j)) g g' [(FP, .lst (fs.map FeedR.d), true), (S, .lst [.int (1 + v1), .int (1 + v2), .int 99], true), (T, .lst (zs.map D.str), true), (P, .lst (ps.map lineD), true), (N, .lst (ns.map D.str), true), (W, .lst (us.map D.str), false)]) ⟨_, _, _, rfl, fs, hfs, by simpa using hsub, F12⟩ (fun _ _ _ _ _ _ _ => trivial) (fun j d x11 x12 x13 g13 hd hR => ?_) (fun x11 x12 x13 g13 hR => ?_)
      · clear hsub hfs F12
        obtain ⟨fs, hfs, hsub, F13⟩ := hR
        obtain ⟨hj, rfl⟩ := ran_get hd
        dsimp only [List.set_cons_succ, List.set_cons_zero]
        have hj : j = 0 ∨ j = 1 := by omega
        have hfl : fs.length ≤ 1000 := by
          have h1 := hsub.length_le
          have h2 : (bothW (ps.take i)).length ≤ 2 * (ps.take i).length := flat_len (f := fun p : Str × Str => [(p.1, p.2), (p.2, p.1)]) fun _ _ => Nat.le_refl _
          rw [List.length_map, List.length_append, List.length_take] at h1
          rw [List.length_take] at h2
          simp only [List.length_cons, List.length_nil] at h1
          omega
        obtain ⟨a, c, ea, ec, ha, hc, htk⟩ : ∃ a c : Str, atI [D.str pr.1, .str pr.2] (0 + (j : Int)) = some (.str a) ∧ atI [D.str pr.1, .str pr.2] (1 - (0 + (j : Int))) = some (.str c) ∧ a ∈ ns ∧ c ∈ ns ∧ [(pr.1, pr.2), (pr.2, pr.1)].take (j + 1) = [(pr.1, pr.2), (pr.2, pr.1)].take j ++ [(a, c)] := by
          rcases hj with rfl | rfl
          · exact ⟨pr.1, pr.2, rfl, rfl, hpm.1, hpm.2, rfl⟩
          · exact ⟨pr.2, pr.1, rfl, rfl, hpm.2, hpm.1, rfl⟩
        walk_at "au"
        rename_i v g14 v0 v1 F14
        refine iteN (fun _ => ?_) (fun _ => ?_)
        · walk_at "au"
          rename_i vh g15 vh0 vh1 F15 vs g16 vs0 vs1 F16
          refine v_ixT ea ?_
          walk_at "au"
          refine v_ixT ec ?_
          walk_at "au"
          refine t_LpickD F16 (by omega) 2 _ rfl (fun z => by have := congrArg List.length z; rw [List.length_map, hzl] at this; cases this) (by rw [List.length_map]; omega) fun d g17 hd17 F17 => ?_
          obtain ⟨z, hzm, rfl⟩ := List.mem_map.mp hd17
          walk_at "au"
          rename_i g18 F18
          refine ⟨_, _, _, rfl, fs ++ [⟨a, c, z, 1 + vh, vs⟩], fun f hf => ?_, ?_, ?_⟩
          · rcases List.mem_append.mp hf with hf | hf
            · exact hfs f hf
            · rw [List.mem_singleton.mp hf]
              exact ⟨ha, hc, hz z hzm, ⟨by show 1 ≤ 1 + vh; omega, by show 1 + vh ≤ 9; omega⟩, ⟨by show 1 ≤ vs; omega, by show vs ≤ 99; omega⟩⟩
          · rw [htk, List.map_append, ← List.append_assoc]
            exact hsub.append (List.Sublist.refl _)
          · rw [List.map_append]
            exact F18.le (by omega)
        · walk_at "au"
          refine ⟨_, _, _, rfl, fs, hfs, ?_, F14.le (by omega)⟩
          rw [htk, ← List.append_assoc]
          exact hsub.trans (List.sublist_append_left _ _)
      · clear hsub hfs F12
        obtain ⟨fs, hfs, hsub, F13⟩ := hR
        rw [ran_len] at hsub F13
        refine ⟨_, _, _, _, rfl, fs, hfs, ?_, F13.le (by omega)⟩
        rw [take_snoc hpr, bothW_app]
        exact hsub
    · obtain ⟨fs, hfs, hsub, F12⟩ := hR
      rw [List.length_map] at hsub F12
      rw [List.take_length] at hsub
      have hfl : fs.length ≤ 800 := by
        have h1 := hsub.length_le
        have h2 : (bothW ps).length ≤ 2 * ps.length := flat_len (f := fun p : Str × Str => [(p.1, p.2), (p.2, p.1)]) fun _ _ => Nat.le_refl _
        rw [List.length_map] at h1
        omega
      have F12 := F12.le (m' := m + 20000) (by omega)
      clear F4 F5 F6 F7 F8 F9 F10 F11 F1
      walk_at "au"
      rename_i SP g13 F13
      refine s_anyL ?_
      walk_at "au"
      refine for1 10 (fun i _ g' => ∃ ss : List SiteR, ss.map (·.name) = ns.take i ∧ (∀ t ∈ ss, PatOk t.lot) ∧ Fr (.go s (m + 20000 + 2 * i)) g g' [(SP, .lst (ss.map SiteR.d), true), (FP, .lst (fs.map FeedR.d), true), (T, .lst (zs.map D.str), true), (P, .lst (ps.map lineD), true), (N, .lst (ns.map D.str), true)]) ⟨_, rfl, [], rfl, (fun t h => nomatch h), F13.sub (by walk_at "sb")⟩ (fun _ _ g' _ ⟨_, _, _, h⟩ => .inl (h.at 4 rfl)) (fun i d x10 g14 hd hR => ?_) (fun x10 g14 hR => ?_)
      · obtain ⟨ss, hsn, hsp, F14⟩ := hR
        obtain ⟨nm, hnm, rfl⟩ := get_map hd
        have hi := (List.getElem?_eq_some_iff.mp hnm).1
        dsimp only [List.set_cons_succ, List.set_cons_zero]
        have hsl : ss.length ≤ 20 := by
          have := congrArg List.length hsn
          rw [List.length_map, List.length_take] at this
          omega
        walk_at "au"
        rename_i v g15 v0 v1 F15 K g16 F16
        refine k_addL F16 0 3 rfl rfl (by rw [List.length_map]; simp; omega) fun R g17 F17 => ?_
        walk_at "au"
        refine t_LpickD F17 (by omega) 0 _ rfl (by simp) (by rw [List.length_append, List.length_map]; simp; omega) fun d g18 hd18 F18 => ?_
        obtain ⟨z, hzm, rfl⟩ : ∃ z, PatOk z ∧ d = .str z := by
          rcases List.mem_append.mp hd18 with h | h
          · exact ⟨_, pat_star, List.mem_singleton.mp h⟩
          · obtain ⟨z, h2, e2⟩ := List.mem_map.mp h
            exact ⟨z, hz z h2, e2.symm⟩
        walk_at "au"
        rename_i g19 F19
        refine ⟨_, rfl, ss ++ [⟨nm, v, 30, 30, z⟩], ?_, fun t ht => ?_, ?_⟩
        · rw [List.map_append, hsn, take_snoc hnm]; rfl
        · rcases List.mem_append.mp ht with ht | ht
          · exact hsp t ht
          · rw [List.mem_singleton.mp ht]; exact hzm
        · rw [List.map_append]
          exact (F19.sub (by walk_at "sb")).le (by omega)
      · obtain ⟨ss, hsn, hsp, F14⟩ := hR
        rw [List.length_map] at hsn F14
        rw [List.take_length] at hsn
        have hsl : ss.length = w := by
          have := congrArg List.length hsn
          rw [List.length_map] at this
          omega
        have inS : ∀ z ∈ ns, ∃ t ∈ ss, t.name = z := fun z h => by
          rw [← hsn] at h
          exact List.mem_map.mp h
        walk_at "au"
        refine t_LshuffledL (by assumption) (by omega) 1 _ rfl (by rw [List.length_map]; omega) fun ys p g15 hy F15 => ?_
        obtain ⟨fs2, rfl, hf2⟩ := perm_map_inv hy fs rfl
        walk_at "au"
        refine q ⟨9, 1, 3, ss, ps, fs2, [], []⟩ _ ⟨fun t ht => ⟨n3 _ (by rw [← hsn]; exact List.mem_map_of_mem ht), hsp t ht⟩, by show ss.length ≤ 100; omega, by show fs2.length ≤ 1000; rw [hf2.length_eq]; omega, by show ps.length ≤ 1000; omega, by show (ss.map (·.name)).Nodup; rw [hsn]; exact n2, fun p hp => ⟨inS _ (l2 p hp).1, inS _ (l2 p hp).2⟩, fun f hf => ?_, ⟨by show (0 : Int) ≤ 9; decide, by show (9 : Int) ≤ 100; decide⟩, ⟨by show (1 : Int) ≤ 1; decide, by show (1 : Int) ≤ 3; decide, by show (3 : Int) ≤ 100; decide⟩⟩ hsl ?_ (F15.gov (by omega))
        · have o := hfs f (hf2.mem_iff.mp hf)
          exact ⟨⟨n3 _ o.gv, n3 _ o.tk, o.pat, o.hops, o.size⟩, inS _ o.gv, inS _ o.tk⟩
        · exact (hf2.map gtF).nodup_iff.mpr ((bothW_nd l1).sublist hsub)
/-- .law.kind(source, book, words): 0 source, 1 book, 2 words, 3 sizes, 4 feed, 5 origin -/
abbrev N_Lkind : List Str := ["source", "book", "words", "sizes", "feed", "origin"]
theorem st0_Lkind (a0 a1 a2 : D) : dstart N_Lkind [a0, a1, a2] = [some a0, some a1, some a2, none, none, none] := rfl
def w_Lkind : DTS := (dSeq (dAsg (dLst (dCons (dC (.int 1)) (dCons (dC (.int 1)) (dCons (dC (.int 1)) (dCons (dC (.int 2)) (dCons (dC (.int 2)) (dCons (dC (.int 2000)) dNil))))))) (gNm 3))
  (dSeq (dFor (iAny (dOp ixD (dVar 1) (dC (.int 5)))) (gNm 4) (dIf (dTest (dOp notInD (dOp ixD (dVar 4) (dC (.int 5))) (dVar 3))) (dSeq (dDrop (dBM "list" appD (dVar 3) (dCons (dOp ixD (dVar 4) (dC (.int 5))) dNil)))
  (dDrop (dBM "list" appD (dVar 3) (dCons (dOp addD (dOp ixD (dVar 4) (dC (.int 5))) (dC (.int 1))) dNil)))) dNext))
  (dSeq (dAsg (dOp ixD (dCall sp_Lpick [] (dCons (dVar 0) (dCons (dOp ixD (dVar 1) (dC (.int 3))) dNil))) (dC (.int 1))) (gNm 5))
  (dRet (dTup (dCons (dC (.str "kind")) (dCons (dVar 5) (dCons (dCall sp_Lboards [] (dCons (dVar 0) (dCons (dVar 2) (dCons (dC (.int 3)) dNil)))) (dCons (dCall sp_Lpick [] (dCons (dVar 0) (dCons (dVar 3) dNil))) dNil)))))))))
def opT (cs : List Str) (L : List Str) (n : Int) (f : FeedR) : Bool := decide (f.taker ∈ cs) && (decide (n ≤ f.size) && L.any fun z => letsB f.pat z)
abbrev wayF (b : BookR) (L : List Str) (n : Int) : List FeedR := b.feeds.filter (opT (carL b.sites L) L n)
def sp_Lkind : DSp := fun ds g Q => match ds with
  | [.ref L, .tup bk, .ref W] => ∃ s m, ∃ b : BookR, ∃ us : List Str, s.L = L ∧ Src s g m ∧ m < 300000000000 ∧ bk = b.ds ∧ g W = some (.lst (us.map D.str)) ∧ W ≠ s.L ∧ (BookOk b) ∧ (b.sites ≠ []) ∧ (us ≠ []) ∧ (us.length < 1000) ∧ ((∀ x ∈ us, NameOk x)) ∧ ∀ o : Str, ∀ L : List Str, ∀ n : Int, ∀ g', ((∃ s ∈ b.sites, s.name = o)) → (L ≠ []) → (L.length ≤ 3) → ((∀ z ∈ L, BoardOk z)) → (1 ≤ n) → (n ≤ 2000) → Go s g g' (m + 1010) → Q (.tup (kindD o L n)) g'
  | _ => False
theorem len_Lkind : ∀ ds g Q, sp_Lkind ds g Q → ds.length = 3 := fun ds g Q h => by
  unfold sp_Lkind at h; split at h <;> first | rfl | exact h.elim
theorem t_Lkind {s : SI} {m : Nat} {g0 g : GS} {lo : FL} {Q : DK} {b : BookR} {us : List Str} {W : Addr} (F : Fr (.go s m) g0 g lo) (hm : m < 300000000000) (n0 : Nat) (b0 : Bool) (e0 : lo[n0]? = some (W, .lst (us.map D.str), b0)) (p0 : (BookOk b)) (p1 : (b.sites ≠ [])) (p2 : (us ≠ [])) (p3 : (us.length < 1000)) (p4 : ((∀ x ∈ us, NameOk x))) (h : ∀ o : Str, ∀ L : List Str, ∀ n : Int, ∀ g', ((∃ s ∈ b.sites, s.name = o)) → (L ≠ []) → (L.length ≤ 3) → ((∀ z ∈ L, BoardOk z)) → (1 ≤ n) → (n ≤ 2000) → Fr (.go s (m + 1010)) g0 g' lo → Q (.tup (kindD o L n)) g') : sp_Lkind ([.ref s.L, .tup (b.ds), .ref W] ++ []) g Q := ⟨s, m, b, us, rfl, F.src, hm, rfl, F.at n0 e0, F.neL n0 e0, p0, p1, p2, p3, p4, fun o L n g' a0 a1 a2 a3 a4 a5 G => h o L n g' a0 a1 a2 a3 a4 a5 (F.call G)⟩
local macro_rules | `(tactic| walk_at "call") => `(tactic| ((with_reducible refine (?_ : sp_Lkind _ _ _)); first
    | (refine t_Lkind (by assumption) ?_ 0 _ rfl ?_ ?_ ?_ ?_ ?_ ?_; omega; walk_at "sd"; walk_at "sd"; walk_at "sd"; walk_at "sd"; walk_at "sd"; intro _ _ _ _ _ _ _ _ _ _ _)
    | (refine t_Lkind (by assumption) ?_ 1 _ rfl ?_ ?_ ?_ ?_ ?_ ?_; omega; walk_at "sd"; walk_at "sd"; walk_at "sd"; walk_at "sd"; walk_at "sd"; intro _ _ _ _ _ _ _ _ _ _ _)
    | (refine t_Lkind (by assumption) ?_ 2 _ rfl ?_ ?_ ?_ ?_ ?_ ?_; omega; walk_at "sd"; walk_at "sd"; walk_at "sd"; walk_at "sd"; walk_at "sd"; intro _ _ _ _ _ _ _ _ _ _ _)
    | (refine t_Lkind (by assumption) ?_ 3 _ rfl ?_ ?_ ?_ ?_ ?_ ?_; omega; walk_at "sd"; walk_at "sd"; walk_at "sd"; walk_at "sd"; walk_at "sd"; intro _ _ _ _ _ _ _ _ _ _ _)
    | (refine t_Lkind (by assumption) ?_ 4 _ rfl ?_ ?_ ?_ ?_ ?_ ?_; omega; walk_at "sd"; walk_at "sd"; walk_at "sd"; walk_at "sd"; walk_at "sd"; intro _ _ _ _ _ _ _ _ _ _ _)))
theorem rd_Lkind : ∀ ds g Q, sp_Lkind ds g Q → w_Lkind { nx := fun _ g => Q .non g, rt := Q } (dstart N_Lkind ds) g := fun ds g Q h => by
  unfold sp_Lkind at h; split at h
  case h_2 => exact h.elim
  obtain ⟨s, m, b, us, rfl, hS, hm, rfl, hp0, np0, p0, p1, p2, p3, p4, q⟩ := h
  rename_i W
  have F := Fr.startG hS
  have F := F.argG hp0 np0
  rw [st0_Lkind]
  unfold w_Lkind
  have hnf := p0.nf
  have hns := p0.ns
  walk_at "au"
  rename_i S g1 F1
  refine s_anyT ?_
  walk_at "au"
  refine for1 4 (fun i _ g' => ∃ ns : List Int, (∀ x ∈ ns, 1 ≤ x ∧ x ≤ 2000) ∧ ns ≠ [] ∧ ns.length ≤ 6 + 2 * i ∧ Fr (.go s m) g g' [(S, .lst (ns.map D.int), true), (W, .lst (us.map D.str), false)]) ⟨_, rfl, [1, 1, 1, 2, 2, 2000], (fun x h => by simp at h; omega), by simp, by simp, F1⟩ (fun _ _ _ _ _ => trivial) (fun i d x g2 hd hR => ?_) (fun x g2 hR => ?_)
  · obtain ⟨ns, h1, h2, h3, F2⟩ := hR
    obtain ⟨f, hf, rfl⟩ := get_map hd
    have hi := (List.getElem?_eq_some_iff.mp hf).1
    have hfo := (p0.feeds f (List.mem_of_getElem? hf)).1.size
    walk_at "au"
    refine v_notInLI (F2.at 0 rfl) ?_
    walk_at "au"
    refine iteN (fun _ => ?_) (fun _ => ?_)
    · walk_at "au"
      rename_i g3 F3 g4 F4
      refine ⟨_, rfl, ns ++ [f.size] ++ [f.size + 1], fun x hx => ?_, by simp, by simp only [List.length_append, List.length_cons, List.length_nil]; omega, by rw [List.map_append, List.map_append]; exact F4⟩
      simp only [List.mem_append, List.mem_singleton] at hx
      rcases hx with (hx | rfl) | rfl
      · exact h1 x hx
      · omega
      · omega
    · walk_at "au"
      exact ⟨_, rfl, ns, h1, h2, by omega, F2⟩
  · obtain ⟨ns, h1, h2, h3, F2⟩ := hR
    rw [List.length_map] at h3
    walk_at "au"
    refine t_LpickT F2 (by omega) (fun z => p1 (List.map_eq_nil_iff.mp z)) (by rw [List.length_map]; omega) fun d g3 hd F3 => ?_
    obtain ⟨t, ht, rfl⟩ := List.mem_map.mp hd
    walk_at "au"
    rename_i L g4 b0 b1 b2 b3 F4
    refine t_LpickD F4 (by omega) 0 _ rfl (fun z => h2 (List.map_eq_nil_iff.mp z)) (by rw [List.length_map]; omega) fun d g5 hd5 F5 => ?_
    obtain ⟨n, hn, rfl⟩ := List.mem_map.mp hd5
    walk_at "au"
    exact q t.name L n _ ⟨t, ht, rfl⟩ b0 (by omega) b3 (h1 n hn).1 (h1 n hn).2 (F5.gov (by omega))
/-- .law.ways(book, kind): 0 book, 1 kind, 2 carried, 3 feeds, 4 ways, 5 newest, 6 step, 7 longer, 8 way, 9 site, 10 feed -/
abbrev N_Lways : List Str := ["book", "kind", "carried", "feeds", "ways", "newest", "step", "longer", "way", "site", "feed"]
theorem st0_Lways (a0 a1 : D) : dstart N_Lways [a0, a1] = [some a0, some a1, none, none, none, none, none, none, none, none, none] := rfl
def w_Lways : DTS := (dSeq (dAsg (dLc (iAny (dOp ixD (dVar 0) (dC (.int 3)))) 9 (dTru (dCall sp_Llets_some [] (dCons (dOp ixD (dVar 9) (dC (.int 5))) (dCons (dOp ixD (dVar 1) (dC (.int 2))) dNil)))) (dOp ixD (dVar 9) (dC (.int 1)))) (gNm 2))
  (dSeq (dAsg (dLc (iAny (dOp ixD (dVar 0) (dC (.int 5)))) 10 (dAnd (dTest (dOp inD (dOp ixD (dVar 10) (dC (.int 2))) (dVar 2))) (dAnd (dTest (dOp leD (dOp ixD (dVar 1) (dC (.int 3))) (dOp ixD (dVar 10) (dC (.int 5))))) (dTru (dCall sp_Llets_some [] (dCons (dOp ixD (dVar 10) (dC (.int 3))) (dCons (dOp ixD (dVar 1) (dC (.int 2))) dNil)))))) (dVar 10)) (gNm 3))
  (dSeq (dAsg (dLst dNil) (gNm 4))
  (dSeq (dAsg (dLst dNil) (gNm 5))
  (dSeq (dIf (dTest (dOp inD (dOp ixD (dVar 1) (dC (.int 1))) (dVar 2))) (dAsg (dLst (dCons (dTup (dCons (dOp ixD (dVar 1) (dC (.int 1))) dNil)) dNil)) (gNm 5)) dNext)
  (dSeq (dFor (iRa1 (dCB lenD (dCons (dOp ixD (dVar 0) (dC (.int 3))) dNil))) (gNm 6) (dSeq (dDrop (dBM "list" extD (dVar 4) (dCons (dVar 5) dNil)))
  (dSeq (dAsg (dLst dNil) (gNm 7))
  (dSeq (dFor (iAny (dVar 5)) (gNm 8) (dFor (iAny (dVar 3)) (gNm 10) (dIf (dAnd (dTest (dOp eqD (dOp ixD (dVar 10) (dC (.int 1))) (dOp ixD (dVar 8) (dVar 6)))) (dAnd (dTest (dOp notInD (dOp ixD (dVar 10) (dC (.int 2))) (dVar 8))) (dTest (dOp leD (dOp addD (dVar 6) (dC (.int 1))) (dOp ixD (dVar 10) (dC (.int 4))))))) (dDrop (dBM "list" appD (dVar 7) (dCons (dOp addD (dVar 8) (dTup (dCons (dOp ixD (dVar 10) (dC (.int 2))) dNil))) dNil))) dNext)))
  (dAsg (dVar 7) (gNm 5))))))
  (dRet (dVar 4))))))))
abbrev wyD (w : List Str) : D := .tup (w.map D.str)
abbrev wayS (b : BookR) (o : Str) (L : List Str) : List (List Str) := if o ∈ carL b.sites L then [[o]] else []
theorem netF_of {b : BookR} {L : List Str} {n : Int} (hb : BookOk b) (h8 : b.sites.length ≤ 8) (hn : (b.feeds.map gtF).Nodup) : NetF (wayF b L n) (b.sites.map (·.name)) :=
  ⟨hn.sublist (List.Sublist.map _ List.filter_sublist), fun f hf => by
    obtain ⟨t, ht, e⟩ := (hb.feeds f (List.mem_filter.mp hf).1).2.2
    rw [← e]; exact List.mem_map_of_mem ht, by rw [List.length_map]; exact h8, hb.nd⟩
theorem wayS_ok {b : BookR} {o : Str} {L : List Str} (ho : o ∈ b.sites.map (·.name)) : (∀ w ∈ wayS b o L, WayOk (b.sites.map (·.name)) 0 w) ∧ (wayS b o L).length ≤ 1 := by
  unfold wayS
  split
  · refine ⟨fun w hw => ?_, Nat.le_refl _⟩
    rw [List.mem_singleton.mp hw]
    exact ⟨rfl, by simp, fun z hz => by rw [List.mem_singleton.mp hz]; exact ho⟩
  · exact ⟨fun w hw => (nomatch hw), Nat.zero_le _⟩
def sp_Lways : DSp := fun ds g Q => match ds with
  | [.tup bk, .tup kd] => ∃ b : BookR, ∃ o : Str, ∃ L : List Str, ∃ n : Int, bk = b.ds ∧ kd = kindD o L n ∧ (BookOk b) ∧ (BdsOk L) ∧ (b.sites.length ≤ 8) ∧ ((b.feeds.map gtF).Nodup) ∧ (o ∈ b.sites.map (·.name)) ∧ ∀ p g', g p = none → Up [] g g' → g' p = some (.lst ((waysL (wayF b L n) (wayS b o L) b.sites.length).map wyD)) → Q (.ref p) g'
  | _ => False
theorem len_Lways : ∀ ds g Q, sp_Lways ds g Q → ds.length = 2 := fun ds g Q h => by
  unfold sp_Lways at h; split at h <;> first | rfl | exact h.elim
theorem t_Lways {k : FK} {g0 g : GS} {lo : FL} {Q : DK} {b : BookR} {o : Str} {L : List Str} {n : Int} (F : Fr k g0 g lo) (p0 : (BookOk b)) (p1 : (BdsOk L)) (p2 : (b.sites.length ≤ 8)) (p3 : ((b.feeds.map gtF).Nodup)) (p4 : (o ∈ b.sites.map (·.name))) (h : ∀ p g', Fr k g0 g' ((p, .lst ((waysL (wayF b L n) (wayS b o L) b.sites.length).map wyD), true) :: lo) → Q (.ref p) g') : sp_Lways ([.tup (b.ds), .tup (kindD o L n)] ++ []) g Q := ⟨b, o, L, n, rfl, rfl, p0, p1, p2, p3, p4, fun p g' f u e => h p g' (F.ret f (F.up u) e)⟩
local macro_rules | `(tactic| walk_at "call") => `(tactic| ((with_reducible refine t_Lways (by assumption) ?_ ?_ ?_ ?_ ?_ ?_); walk_at "sd"; walk_at "sd"; walk_at "sd"; walk_at "sd"; walk_at "sd"; intro _ _ _))
theorem rd_Lways : ∀ ds g Q, sp_Lways ds g Q → w_Lways { nx := fun _ g => Q .non g, rt := Q } (dstart N_Lways ds) g := fun ds g Q h => by
  unfold sp_Lways at h; split at h
  case h_2 => exact h.elim
  obtain ⟨b, o, L, n, rfl, rfl, p0, p1, p2, p3, p4, q⟩ := h
  have F : Fr .pu g g [] := Fr.startP
  rw [st0_Lways]
  unfold w_Lways
  have hnf := p0.nf
  have hsl : (b.sites.map SiteR.d).length = b.sites.length := List.length_map ..
  have h1 := p1.len
  have h2 := p1.num
  have hN := netF_of (L := L) (n := n) p0 p2 p3
  obtain ⟨hS, hS1⟩ := wayS_ok (b := b) (L := L) p4
  walk_at "au"
  refine s_anyT ?_
  walk_at "au"
  refine lcFi b.sites SiteR.d (fun s => .str s.name) (fun s => L.any fun z => letsB s.lot z) F rfl (fun _ _ => trivial) (by omega) (fun i s g2 Q2 hi F2 k2 => ?_) (fun i s g2 Q2 hi hb F2 k2 => ?_) (fun C g1 F1 => ?_)
  · have hp := (p0.sites s (List.mem_of_getElem? hi)).lot
    walk_at "au"
    exact k2 _ (Fr.upv (by assumption))
  · walk_at "au"
    exact k2 _ .refl
  have e : (b.sites.filter fun s => L.any fun z => letsB s.lot z).map (fun s => D.str s.name) = (carL b.sites L).map D.str := by
    unfold carL; rw [List.map_map]; rfl
  rw [e] at F1
  walk_at "au"
  refine s_anyT ?_
  walk_at "au"
  refine lcFi b.feeds FeedR.d FeedR.d (opT (carL b.sites L) L n) F1 rfl (fun _ _ => trivial) (by omega) (fun i f g2 Q2 hi F2 k2 => ?_) (fun i s g2 Q2 hi hb F2 k2 => ?_) (fun P g2 F2 => ?_)
  · have hp := (p0.feeds f (List.mem_of_getElem? hi)).1.pat
    unfold opT at k2
    walk_at "au"
    refine iteD (fun hc => ?_) (fun hc => ?_)
    · rw [decide_eq_true hc, Bool.true_and] at k2
      walk_at "au"
      refine iteD (fun hc => ?_) (fun hc => ?_)
      · rw [decide_eq_true hc, Bool.true_and] at k2
        walk_at "au"
        exact k2 _ (Fr.upv (by assumption))
      · rw [decide_eq_false hc, Bool.false_and] at k2
        exact k2 _ .refl
    · rw [decide_eq_false hc, Bool.false_and] at k2
      exact k2 _ .refl
  · walk_at "au"
    exact k2 _ .refl
  walk_at "ac"
  rename_i WP g3 F3 NP g4 F4
  refine cut1 5 (fun x5 g' => ∃ NP : Addr, x5 = some (.ref NP) ∧ Fr .pu g g' [(NP, .lst ((wayS b o L).map wyD), true), (WP, .lst [], true), (P, .lst ((wayF b L n).map FeedR.d), true), (C, .lst ((carL b.sites L).map D.str), true)]) ?_ ?_
  · walk_at "au"
    unfold wayS
    refine iteD (fun hc => ?_) (fun hc => ?_)
    · walk_at "au"
      rename_i NQ g5 F5
      refine ⟨_, rfl, NQ, rfl, ?_⟩
      rw [if_pos hc]
      exact F5.sub (by walk_at "sb")
    · walk_at "au"
      refine ⟨_, rfl, NP, rfl, ?_⟩
      rw [if_neg hc]
      exact F4
  clear F4
  rintro x5 g4 ⟨NP, rfl, F4⟩
  dsimp only [List.set_cons_succ, List.set_cons_zero]
  walk_at "au"
  rw [hsl]
  refine for5 5 6 7 8 10 (fun i x5 _ _ _ _ g' => ∃ NP : Addr, x5 = some (.ref NP) ∧ Fr .pu g g' [(NP, .lst ((lvl (wayF b L n) (wayS b o L) i).map wyD), true), (WP, .lst ((waysL (wayF b L n) (wayS b o L) i).map wyD), true), (P, .lst ((wayF b L n).map FeedR.d), true)]) ⟨_, _, _, _, _, rfl, NP, rfl, F4.sub (by walk_at "sb")⟩ (fun _ _ _ _ _ _ _ _ _ => trivial) (fun i d x5 x6 x7 x8 x10 g5 hd hR => ?_) (fun x5 x6 x7 x8 x10 g5 hR => ?_)
  · clear F4
    obtain ⟨NQ, rfl, F5⟩ := hR
    obtain ⟨hi, rfl⟩ := ran_get hd
    dsimp only [List.set_cons_succ, List.set_cons_zero]
    have hi : i < b.sites.length := by omega
    have hlv := lvl_len hN hS hS1 i
    have hwy := waysL_len hN hS hS1 i
    have hlo := lvl_ok hN hS i
    have h7 : 7 ^ i ≤ 7 ^ 7 := Nat.pow_le_pow_right (by omega) (by omega)
    have e7 : 7 ^ 7 = 823543 := by decide +kernel
    walk_at "au"
    refine k_ext F5 1 0 rfl rfl (by rw [List.length_map, List.length_map]; omega) fun g6 F6 => ?_
    rw [← List.map_append, ← waysL_succ] at F6
    walk_at "au"
    rename_i LP g7 F7
    refine s_anyL ?_
    walk_at "au"
    generalize hl : lvl (wayF b L n) (wayS b o L) i = ws at *
    refine for2 8 10 (fun j _ _ g' => Fr .pu g g' [(LP, .lst (((ws.take j).flatMap (extW (wayF b L n) i)).map wyD), true), (NQ, .lst (ws.map wyD), true), (WP, .lst ((waysL (wayF b L n) (wayS b o L) (i + 1)).map wyD), true), (P, .lst ((wayF b L n).map FeedR.d), true)]) ⟨_, _, rfl, F7⟩ (fun _ _ _ g' _ h => .inl (h.at 1 rfl)) (fun j d x8 x10 g8 hd F8 => ?_) (fun x8 x10 g8 F8 => ?_)
    · obtain ⟨w, hw, rfl⟩ := get_map hd
      have hwo := hlo w (List.mem_of_getElem? hw)
      have hwl : w.length ≤ 10 := by have := hwo.len; omega
      have hpart := flat_len (l := ws.take j) (f := extW (wayF b L n) i) (k := 7) fun w h => extW_len hN (hlo w (List.mem_of_mem_take h))
      rw [List.length_take] at hpart
      have hfull := extW_len hN hwo
      refine s_anyL ?_
      walk_at "au"
      have es : (ws.take (j + 1)).flatMap (extW (wayF b L n) i) = (ws.take j).flatMap (extW (wayF b L n) i) ++ extW (wayF b L n) i w := by
        rw [take_snoc hw, List.flatMap_append]; simp
      rw [es]
      generalize (ws.take j).flatMap (extW (wayF b L n) i) = acc at *
      generalize hF : wayF b L n = Fs at *
      refine for1 10 (fun k _ g' => Fr .pu g g' [(LP, .lst ((acc ++ extW (Fs.take k) i w).map wyD), true), (NQ, .lst (ws.map wyD), true), (WP, .lst ((waysL Fs (wayS b o L) (i + 1)).map wyD), true), (P, .lst (Fs.map FeedR.d), true)]) ⟨_, rfl, by simpa [extW] using F8⟩ (fun _ _ g' _ h => .inl (h.at 3 rfl)) (fun k d x g9 hd F9 => ?_) (fun x g9 F9 => ?_)
      · obtain ⟨f, hf, rfl⟩ := get_map hd
        have hkl : (extW (Fs.take k) i w).length ≤ 7 := by
          refine Nat.le_trans ?_ hfull
          unfold extW
          rw [List.length_map, List.length_map]
          exact ((List.take_sublist k Fs).filter _).length_le
        have ek : extW (Fs.take (k + 1)) i w = extW (Fs.take k) i w ++ (if okx i w f = true then [w ++ [f.taker]] else []) := by
          unfold extW
          rw [take_snoc hf, List.filter_append, List.map_append]
          congr 1
          cases h : okx i w f
          · rw [List.filter_cons_of_neg (by rw [h]; decide)]; rfl
          · rw [List.filter_cons_of_pos h]; rfl
        have fin : ∀ (b2 : Bool) {g'}, okx i w f = b2 → Fr .pu g g' [(LP, .lst ((acc ++ extW (Fs.take k) i w).map wyD ++ (if b2 = true then [wyD (w ++ [f.taker])] else [])), true), (NQ, .lst (ws.map wyD), true), (WP, .lst ((waysL Fs (wayS b o L) (i + 1)).map wyD), true), (P, .lst (Fs.map FeedR.d), true)] → Fr .pu g g' [(LP, .lst ((acc ++ extW (Fs.take (k + 1)) i w).map wyD), true), (NQ, .lst (ws.map wyD), true), (WP, .lst ((waysL Fs (wayS b o L) (i + 1)).map wyD), true), (P, .lst (Fs.map FeedR.d), true)] := fun b2 g' hb F' => by
          rw [ek, ← List.append_assoc, List.map_append, hb]
          cases b2
          · exact F'
          · exact F'
        generalize extW (Fs.take k) i w = mid at *
        walk_at "au"
        refine v_ixTN i (by omega) (d := .str (lastS w)) (by rw [List.getElem?_map, lastS_at hwo.len]; rfl) ?_
        walk_at "au"
        refine iteD (fun h1 => ?_) (fun h1 => ?_)
        · walk_at "au"
          refine iteN (fun h2 => ?_) (fun h2 => ?_)
          · walk_at "au"
            refine iteD (fun h3 => ?_) (fun h3 => ?_)
            · walk_at "au"
              rename_i g10 F10
              refine ⟨_, rfl, fin true ?_ (by rw [if_pos rfl, show wyD (w ++ [f.taker]) = .tup (w.map D.str ++ [.str f.taker]) by show D.tup _ = _; rw [List.map_append]; rfl]; exact F10)⟩
              unfold okx
              rw [lastS_at hwo.len, decide_eq_true (by rw [h1]), decide_eq_false h2, decide_eq_true (by omega)]; rfl
            · walk_at "au"
              refine ⟨_, rfl, fin false ?_ (by rw [if_neg (by decide), List.append_nil]; exact F9)⟩
              unfold okx
              rw [decide_eq_false (show ¬ ((i : Int) + 1 ≤ f.hops) by omega), Bool.and_false, Bool.and_false]
          · refine ite_ff ?_
            walk_at "au"
            refine ⟨_, rfl, fin false ?_ (by rw [if_neg (by decide), List.append_nil]; exact F9)⟩
            unfold okx
            rw [decide_eq_true h2, Bool.not_true, Bool.false_and, Bool.and_false]
        · refine ite_ff ?_
          walk_at "au"
          refine ⟨_, rfl, fin false ?_ (by rw [if_neg (by decide), List.append_nil]; exact F9)⟩
          unfold okx
          rw [lastS_at hwo.len, decide_eq_false fun z => h1 (Option.some.inj z).symm, Bool.false_and]
      · rw [List.length_map, List.take_length] at F9
        exact ⟨_, _, rfl, F9⟩
    · rw [List.length_map, List.take_length] at F8
      walk_at "au"
      refine ⟨_, _, _, _, _, rfl, LP, rfl, ?_⟩
      have e : lvl (wayF b L n) (wayS b o L) (i + 1) = ws.flatMap (extW (wayF b L n) i) := by rw [← hl]; rfl
      rw [e]
      exact F8.sub (by walk_at "sb")
  · obtain ⟨NQ, rfl, F5⟩ := hR
    rw [ran_len, Int.toNat_natCast] at F5
    walk_at "au"
    first | exact q _ _ (Fr.fresh (by assumption) 0 rfl) (Fr.upv (by assumption)) (Fr.at (by assumption) 0 rfl) | exact q _ _ (Fr.fresh (by assumption) 1 rfl) (Fr.upv (by assumption)) (Fr.at (by assumption) 1 rfl) | exact q _ _ (Fr.fresh (by assumption) 2 rfl) (Fr.upv (by assumption)) (Fr.at (by assumption) 2 rfl)
/-- .law.least(ways, name): 0 ways, 1 name, 2 ending, 3 fewest, 4 way -/
abbrev N_Lleast : List Str := ["ways", "name", "ending", "fewest", "way"]
theorem st0_Lleast (a0 a1 : D) : dstart N_Lleast [a0, a1] = [some a0, some a1, none, none, none] := rfl
def w_Lleast : DTS := (dSeq (dAsg (dLc (iAny (dVar 0)) 4 (dTest (dOp eqD (dOp ixD (dVar 4) (dOp subD (dCB lenD (dCons (dVar 4) dNil)) (dC (.int 1)))) (dVar 1))) (dVar 4)) (gNm 2))
  (dSeq (dIf (dTest (dOp eqD (dCB lenD (dCons (dVar 2) dNil)) (dC (.int 0)))) (dRet (dC .non)) dNext)
  (dSeq (dAsg (dCB minLD (dCons (dLc (iAny (dVar 2)) 4 dYes (dCB lenD (dCons (dVar 4) dNil))) dNil)) (gNm 3))
  (dRet (dCB minPD (dCons (dLc (iAny (dVar 2)) 4 (dTest (dOp eqD (dCB lenD (dCons (dVar 4) dNil)) (dVar 3))) (dVar 4)) dNil))))))
def sp_Lleast : DSp := fun ds g Q => match ds with
  | [.ref W, .str z] => ∃ ws : List (List Str), g W = some (.lst (ws.map wyT)) ∧ ws.length ≤ 16000000 ∧ (∀ w ∈ ws, w ≠ [] ∧ w.length ≤ 1000 ∧ ∀ y ∈ w, sOk y) ∧ ∀ r g', LeastW ws z r → Up [] g g' → Q (optW r) g'
  | _ => False
theorem len_Lleast : ∀ ds g Q, sp_Lleast ds g Q → ds.length = 2 := fun ds g Q h => by
  unfold sp_Lleast at h; split at h <;> first | rfl | exact h.elim
theorem rd_Lleast : ∀ ds g Q, sp_Lleast ds g Q → w_Lleast { nx := fun _ g => Q .non g, rt := Q } (dstart N_Lleast ds) g := fun ds g Q h => by
  unfold sp_Lleast at h; split at h
  case h_2 => exact h.elim
  obtain ⟨ws, hp0, p0, p1, q⟩ := h
  rename_i W z
  have F : Fr .pu g g [] := Fr.startP
  have F := F.argP hp0
  rw [st0_Lleast]
  unfold w_Lleast
  walk_at "au"
  refine s_anyL ?_
  walk_at "au"
  refine lcFi ws wyT wyT (fun w => decide (lastS w = z)) F rfl (fun g' F' => .inl (F'.at 0 rfl)) (by omega) (fun i w g2 Q2 hi F2 k2 => ?_) (fun i w g2 Q2 hi hb F2 k2 => ?_) (fun E g1 F1 => ?_)
  · have hw := p1 w (List.mem_of_getElem? hi)
    have hwp := List.length_pos_iff.mpr hw.1
    have hwl : (w.map D.str).length = w.length := List.length_map ..
    walk_at "au"
    refine v_ixTN (w.length - 1) (by omega) (ends_at hw.1) ?_
    walk_at "au"
    exact k2 _ .refl
  · walk_at "au"
    exact k2 _ .refl
  have he : ∀ w ∈ ws.filter (fun w => decide (lastS w = z)), w ∈ ws ∧ lastS w = z := fun w hw => ⟨(List.mem_filter.mp hw).1, of_decide_eq_true (List.mem_filter.mp hw).2⟩
  have he2 : ∀ w ∈ ws, lastS w = z → w ∈ ws.filter (fun w => decide (lastS w = z)) := fun w hw h => List.mem_filter.mpr ⟨hw, decide_eq_true h⟩
  have hel : (ws.filter fun w => decide (lastS w = z)).length ≤ ws.length := List.length_filter_le ..
  generalize ws.filter (fun w => decide (lastS w = z)) = es at *
  walk_at "au"
  refine iteD (fun h0 => ?_) (fun h0 => ?_)
  · walk_at "au"
    have h0 : es = [] := by
      rw [List.length_map] at h0
      exact List.length_eq_zero_iff.mp (by omega)
    refine q none _ (fun w hw hz => ?_) (Fr.upv F1)
    have := he2 w hw hz
    rw [h0] at this; cases this
  refine DL.s_next ?_
  have hne : es ≠ [] := fun z => h0 (by rw [z]; rfl)
  walk_at "au"
  refine s_anyL ?_
  walk_at "au"
  refine lcM es wyT (fun w => .int (w.length : Nat)) F1 rfl (fun g' F' => .inl (F'.at 0 rfl)) (by omega) (fun i w g2 Q2 hi F2 k2 => ?_) (fun N g2 F2 => ?_)
  · have hw := p1 w (he w (List.mem_of_getElem? hi)).1
    have hwl : (w.map D.str).length = w.length := List.length_map ..
    walk_at "au"
    rw [hwl]
    exact k2 _ .refl
  walk_at "au"
  have hmm : (es.map fun w => DL.D.int (w.length : Nat)) = (es.map fun w => (w.length : Int)).map D.int := by rw [List.map_map]; rfl
  rw [hmm] at F2
  refine .inl ⟨es.map fun w => (w.length : Int), .inl (F2.at 0 rfl), by rw [List.length_map]; exact List.length_pos_iff.mpr hne, fun m hm hmin => ?_⟩
  obtain ⟨w0, hw0, rfl⟩ := List.mem_map.mp hm
  have hmin : ∀ y ∈ es, w0.length ≤ y.length := fun y hy => by
    have := hmin (y.length : Int) (List.mem_map.mpr ⟨y, hy, rfl⟩)
    omega
  walk_at "au"
  refine s_anyL ?_
  walk_at "au"
  refine lcFi es wyT wyT (fun w => decide (w.length = w0.length)) F2 rfl (fun g' F' => .inl (F'.at 1 rfl)) (by omega) (fun i w g3 Q3 hi F3 k3 => ?_) (fun i w g3 Q3 hi hb F3 k3 => ?_) (fun P g3 F3 => ?_)
  · have hw := p1 w (he w (List.mem_of_getElem? hi)).1
    have hwl : (w.map D.str).length = w.length := List.length_map ..
    walk_at "au"
    rw [hwl]
    have e : decide (((w.length : Nat) : Int) = ((w0.length : Nat) : Int)) = decide (w.length = w0.length) := decide_eq_decide.mpr (by omega)
    rw [e]
    exact k3 _ .refl
  · walk_at "au"
    exact k3 _ .refl
  have hf0 : es.filter (fun w => decide (w.length = w0.length)) ≠ [] := fun z => by
    have : w0 ∈ es.filter (fun w => decide (w.length = w0.length)) := List.mem_filter.mpr ⟨hw0, decide_eq_true rfl⟩
    rw [z] at this; cases this
  walk_at "au"
  refine k_minW F3 0 rfl hf0 (fun w hw => (p1 w (he w (List.mem_filter.mp hw).1).1).2.2) fun m hm => ?_
  have hm1 := List.mem_filter.mp hm.1
  have hml := of_decide_eq_true hm1.2
  refine q (some m) _ ⟨(he m hm1.1).1, (he m hm1.1).2, fun y hy hz => ?_⟩ (Fr.upv F3)
  have hy2 := hmin y (he2 y hy hz)
  refine ⟨by omega, fun hl => hm.2 y (List.mem_filter.mpr ⟨he2 y hy hz, decide_eq_true (by omega)⟩)⟩
/-- .law.bent(source, way, words): 0 source, 1 way, 2 words, 3 row, 4 spot, 5 word, 6 turn -/
abbrev N_Lbent : List Str := ["source", "way", "words", "row", "spot", "word", "turn"]
theorem st0_Lbent (a0 a1 a2 : D) : dstart N_Lbent [a0, a1, a2] = [some a0, some a1, some a2, none, none, none, none] := rfl
def w_Lbent : DTS := (dSeq (dAsg (dCB lstF (dCons (dVar 1) dNil)) (gNm 3))
  (dSeq (dAsg (dCall sp_Ldraw [] (dCons (dVar 0) (dCons (dOp addD (dCB lenD (dCons (dVar 3) dNil)) (dC (.int 1))) dNil))) (gNm 4))
  (dSeq (dAsg (dCall sp_Lpick [] (dCons (dVar 0) (dCons (dVar 2) dNil))) (gNm 5))
  (dSeq (dAsg (dCall sp_Ldraw [] (dCons (dVar 0) (dCons (dC (.int 5)) dNil))) (gNm 6))
  (dSeq (dIf (dOr (dTest (dOp eqD (dVar 6) (dC (.int 0)))) (dTest (dOp ltD (dCB lenD (dCons (dVar 3) dNil)) (dC (.int 2))))) (dDrop (dBM "list" insD (dVar 3) (dCons (dVar 4) (dCons (dVar 5) dNil)))) (dIf (dTest (dOp eqD (dVar 6) (dC (.int 1)))) (dDrop (dBM "list" popD (dVar 3) (dCons (dCB min2D (dCons (dVar 4) (dCons (dOp subD (dCB lenD (dCons (dVar 3) dNil)) (dC (.int 1))) dNil))) dNil))) (dIf (dTest (dOp eqD (dVar 6) (dC (.int 2)))) (dAsg (dVar 5) (gSb (dVar 3) (dCB min2D (dCons (dVar 4) (dCons (dOp subD (dCB lenD (dCons (dVar 3) dNil)) (dC (.int 1))) dNil))))) (dIf (dTest (dOp eqD (dVar 6) (dC (.int 3)))) (dDrop (dBM0 "list" revD (dVar 3))) (dSeq (dAsg (dBM "list" popD (dVar 3) (dCons (dCB min2D (dCons (dVar 4) (dCons (dOp subD (dCB lenD (dCons (dVar 3) dNil)) (dC (.int 2))) dNil))) dNil)) (gNm 5))
  (dDrop (dBM "list" insD (dVar 3) (dCons (dOp addD (dCB min2D (dCons (dVar 4) (dCons (dOp subD (dCB lenD (dCons (dVar 3) dNil)) (dC (.int 1))) dNil))) (dC (.int 1))) (dCons (dVar 5) dNil)))))))))
  (dRet (dCB tupF (dCons (dVar 3) dNil))))))))
theorem strs_erase (w : List Str) (i : Nat) : (w.map D.str).eraseIdx i = (w.eraseIdx i).map D.str := by
  rw [List.eraseIdx_eq_take_drop_succ, List.eraseIdx_eq_take_drop_succ, List.map_append, List.map_take, List.map_drop]
theorem strs_set (w : List Str) (i : Nat) (x : Str) : (w.map D.str).set i (.str x) = (w.set i x).map D.str := by
  rw [List.map_set]
def sp_Lbent : DSp := fun ds g Q => match ds with
  | [.ref L, .tup ws, .ref W] => ∃ s m, ∃ w : List Str, ∃ us : List Str, s.L = L ∧ Src s g m ∧ m < 920000000000 ∧ ws = w.map D.str ∧ g W = some (.lst (us.map D.str)) ∧ W ≠ s.L ∧ (us ≠ []) ∧ (us.length ≤ 1000) ∧ (w.length ≤ 100) ∧ ((∀ z ∈ w, sOk z)) ∧ ((∀ z ∈ us, sOk z)) ∧ ∀ v : List Str, ∀ g', (v.length ≤ w.length + 1) → ((∀ z ∈ v, sOk z)) → Go s g g' (m + 10) → Q (.tup (v.map D.str)) g'
  | _ => False
theorem len_Lbent : ∀ ds g Q, sp_Lbent ds g Q → ds.length = 3 := fun ds g Q h => by
  unfold sp_Lbent at h; split at h <;> first | rfl | exact h.elim
theorem t_Lbent {s : SI} {m : Nat} {g0 g : GS} {lo : FL} {Q : DK} {w : List Str} {us : List Str} {W : Addr} (F : Fr (.go s m) g0 g lo) (hm : m < 920000000000) (n0 : Nat) (b0 : Bool) (e0 : lo[n0]? = some (W, .lst (us.map D.str), b0)) (p0 : (us ≠ [])) (p1 : (us.length ≤ 1000)) (p2 : (w.length ≤ 100)) (p3 : ((∀ z ∈ w, sOk z))) (p4 : ((∀ z ∈ us, sOk z))) (h : ∀ v : List Str, ∀ g', (v.length ≤ w.length + 1) → ((∀ z ∈ v, sOk z)) → Fr (.go s (m + 10)) g0 g' lo → Q (.tup (v.map D.str)) g') : sp_Lbent ([.ref s.L, .tup (w.map D.str), .ref W] ++ []) g Q := ⟨s, m, w, us, rfl, F.src, hm, rfl, F.at n0 e0, F.neL n0 e0, p0, p1, p2, p3, p4, fun v g' a0 a1 G => h v g' a0 a1 (F.call G)⟩
local macro_rules | `(tactic| walk_at "call") => `(tactic| ((with_reducible refine (?_ : sp_Lbent _ _ _)); first
    | (refine t_Lbent (by assumption) ?_ 0 _ rfl ?_ ?_ ?_ ?_ ?_ ?_; omega; walk_at "sd"; walk_at "sd"; walk_at "sd"; walk_at "sd"; walk_at "sd"; intro _ _ _ _ _)
    | (refine t_Lbent (by assumption) ?_ 1 _ rfl ?_ ?_ ?_ ?_ ?_ ?_; omega; walk_at "sd"; walk_at "sd"; walk_at "sd"; walk_at "sd"; walk_at "sd"; intro _ _ _ _ _)
    | (refine t_Lbent (by assumption) ?_ 2 _ rfl ?_ ?_ ?_ ?_ ?_ ?_; omega; walk_at "sd"; walk_at "sd"; walk_at "sd"; walk_at "sd"; walk_at "sd"; intro _ _ _ _ _)
    | (refine t_Lbent (by assumption) ?_ 3 _ rfl ?_ ?_ ?_ ?_ ?_ ?_; omega; walk_at "sd"; walk_at "sd"; walk_at "sd"; walk_at "sd"; walk_at "sd"; intro _ _ _ _ _)
    | (refine t_Lbent (by assumption) ?_ 4 _ rfl ?_ ?_ ?_ ?_ ?_ ?_; omega; walk_at "sd"; walk_at "sd"; walk_at "sd"; walk_at "sd"; walk_at "sd"; intro _ _ _ _ _)))
theorem rd_Lbent : ∀ ds g Q, sp_Lbent ds g Q → w_Lbent { nx := fun _ g => Q .non g, rt := Q } (dstart N_Lbent ds) g := fun ds g Q h => by
  unfold sp_Lbent at h; split at h
  case h_2 => exact h.elim
  obtain ⟨s, m, w, us, rfl, hS, hm, rfl, hp0, np0, p0, p1, p2, p3, p4, q⟩ := h
  rename_i W
  have F := Fr.startG hS
  have F := F.argG hp0 np0
  rw [st0_Lbent]
  unfold w_Lbent
  have hwl : (w.map D.str).length = w.length := List.length_map ..
  walk_at "au"
  rename_i R g1 F1 sp g2 s0 s1 F2
  refine t_LpickD F2 (by omega) 1 _ rfl (by simpa using p0) (by rw [List.length_map]; omega) fun d g3 hd F3 => ?_
  obtain ⟨x, hx, rfl⟩ := List.mem_map.mp hd
  have hxs := p4 x hx
  have hfin : ∀ {i : Nat} {u : List Str}, (∀ z ∈ u, z ∈ w ∨ z = x) → ∀ z ∈ u, sOk z := fun h z hz => by
    rcases h z hz with h | rfl
    · exact p3 z h
    · exact hxs
  rw [hwl] at s1
  walk_at "ac"
  rename_i tn g4 t0 t1 F4
  refine cut1 5 (fun x5 g' => ∃ v : List Str, v.length ≤ w.length + 1 ∧ (∀ z ∈ v, sOk z) ∧ Fr (.go s (m + 5)) g g' [(R, .lst (v.map D.str), true), (W, .lst (us.map D.str), false)]) ?_ ?_
  · have insx : ∀ {Q : DK} (i : Int), 0 ≤ i → i ≤ 1000 → (∀ g', Fr (.go s (m + 3)) g g' [(R, .lst ((w.take i.toNat ++ [x] ++ w.drop i.toNat).map D.str), true), (W, .lst (us.map D.str), false)] → Q .non g') → insD (.ref R) [.int i, .str x] g4 Q := fun i h0 h1 h => k_ins (F4.le (m' := m + 3) (by omega)) 0 rfl h0 (by omega) (by omega) fun g5 F5 => by
      rw [strs_ins] at F5
      exact h g5 F5
    walk_at "au"
    refine iteD (fun _ => ?_) (fun _ => ?_)
    · refine iteB (fun _ => ?_) (fun z => by cases z)
      walk_at "au"
      refine insx sp (by omega) (by omega) fun g5 F5 => ?_
      exact ⟨_, rfl, _, by rw [ins_len]; exact Nat.le_refl _, hfin (i := 0) fun z hz => ins_mem hz, F5.le (by omega)⟩
    walk_at "au"
    refine iteD (fun h2 => ?_) (fun h2 => ?_)
    · walk_at "au"
      refine insx sp (by omega) (by omega) fun g5 F5 => ?_
      exact ⟨_, rfl, _, by rw [ins_len]; exact Nat.le_refl _, hfin (i := 0) fun z hz => ins_mem hz, F5.le (by omega)⟩
    rw [hwl] at h2
    walk_at "au"
    refine iteD (fun _ => ?_) (fun _ => ?_)
    · walk_at "au"
      obtain ⟨i, hi, hiw⟩ : ∃ i : Nat, min sp (((w.map D.str).length : Int) - 1) = (i : Int) ∧ i < w.length := ⟨(min sp (((w.map D.str).length : Int) - 1)).toNat, by omega, by omega⟩
      rw [hi]
      refine k_popAt (y := .str w[i]) F4 0 rfl (by omega) (by omega) (by rw [Int.toNat_natCast, List.getElem?_map, List.getElem?_eq_getElem hiw]; rfl) fun g5 F5 => ?_
      rw [Int.toNat_natCast, strs_erase] at F5
      exact ⟨_, rfl, _, by rw [List.length_eraseIdx]; split <;> omega, hfin (i := 0) fun z hz => .inl (List.mem_of_mem_eraseIdx hz), F5.le (by omega)⟩
    walk_at "au"
    refine iteD (fun _ => ?_) (fun _ => ?_)
    · walk_at "au"
      obtain ⟨i, hi, hiw⟩ : ∃ i : Nat, min sp (((w.map D.str).length : Int) - 1) = (i : Int) ∧ i < w.length := ⟨(min sp (((w.map D.str).length : Int) - 1)).toNat, by omega, by omega⟩
      rw [hi]
      refine k_set F4 0 rfl (j := i) (by unfold L2.ixN; rw [if_pos (by omega), if_pos (by omega), Int.toNat_natCast]) fun g5 F5 => ?_
      rw [strs_set] at F5
      exact ⟨_, rfl, _, by rw [List.length_set]; omega, hfin (i := 0) fun z hz => (List.mem_or_eq_of_mem_set hz), F5.le (by omega)⟩
    walk_at "au"
    refine iteD (fun _ => ?_) (fun _ => ?_)
    · walk_at "au"
      refine ⟨w.map D.str, F4.at 0 rfl, ?_⟩
      have F5 := F4.mut 0 (.lst (w.map D.str).reverse) rfl
      rw [← List.map_reverse] at F5 ⊢
      exact ⟨_, rfl, _, by rw [List.length_reverse]; omega, hfin (i := 0) fun z hz => .inl (List.mem_reverse.mp hz), F5.le (by omega)⟩
    walk_at "au"
    obtain ⟨i, hi, hiw⟩ : ∃ i : Nat, min sp (((w.map D.str).length : Int) - 2) = (i : Int) ∧ i < w.length := ⟨(min sp (((w.map D.str).length : Int) - 2)).toNat, by omega, by omega⟩
    rw [hi]
    refine k_popAt (y := .str w[i]) F4 0 rfl (by omega) (by omega) (by rw [Int.toNat_natCast, List.getElem?_map, List.getElem?_eq_getElem hiw]; rfl) fun g5 F5 => ?_
    rw [Int.toNat_natCast, strs_erase] at F5
    have hel : ((w.eraseIdx i).map D.str).length = w.length - 1 := by rw [List.length_map, List.length_eraseIdx, if_pos hiw]
    have hwi : w[i] ∈ w := List.getElem_mem hiw
    walk_at "au"
    refine k_ins F5 0 rfl (by omega) (by omega) (by omega) fun g6 F6 => ?_
    rw [strs_ins] at F6
    refine ⟨_, rfl, _, ?_, fun z hz => ?_, F6.le (by omega)⟩
    · rw [ins_len, List.length_eraseIdx, if_pos hiw]; omega
    · rcases ins_mem hz with h | rfl
      · exact p3 z (List.mem_of_mem_eraseIdx h)
      · exact p3 _ hwi
  rintro x5 g5 ⟨v, v1, v2, F5⟩
  walk_at "au"
  exact q _ _ (by walk_at "sd") (by walk_at "sd") (Fr.gov (by assumption) (by omega))
/-- .law.led(source, book, name): 0 source, 1 book, 2 name, 3 way, 4 step, 5 takers, 6 feed -/
abbrev N_Lled : List Str := ["source", "book", "name", "way", "step", "takers", "feed"]
theorem st0_Lled (a0 a1 a2 : D) : dstart N_Lled [a0, a1, a2] = [some a0, some a1, some a2, none, none, none, none] := rfl
def w_Lled : DTS := (dSeq (dAsg (dTup (dCons (dVar 2) dNil)) (gNm 3))
  (dSeq (dFor (iRa1 (dOp addD (dC (.int 1)) (dCall sp_Ldraw [] (dCons (dVar 0) (dCons (dCB lenD (dCons (dOp ixD (dVar 1) (dC (.int 3))) dNil)) dNil))))) (gNm 4) (dSeq (dAsg (dLc (iAny (dOp ixD (dVar 1) (dC (.int 5)))) 6 (dAnd (dTest (dOp eqD (dOp ixD (dVar 6) (dC (.int 1))) (dOp ixD (dVar 3) (dOp subD (dCB lenD (dCons (dVar 3) dNil)) (dC (.int 1)))))) (dTest (dOp notInD (dOp ixD (dVar 6) (dC (.int 2))) (dVar 3)))) (dOp ixD (dVar 6) (dC (.int 2)))) (gNm 5))
  (dIf (dTest (dOp gtD (dCB lenD (dCons (dVar 5) dNil)) (dC (.int 0)))) (dAsg (dOp addD (dVar 3) (dTup (dCons (dCall sp_Lpick [] (dCons (dVar 0) (dCons (dVar 5) dNil))) dNil))) (gNm 3)) dNext)))
  (dRet (dVar 3))))
def sp_Lled : DSp := fun ds g Q => match ds with
  | [.ref L, .tup bk, .str o] => ∃ s m, ∃ b : BookR, s.L = L ∧ Src s g m ∧ m < 920000000000 ∧ bk = b.ds ∧ (BookOk b) ∧ (b.sites ≠ []) ∧ (sOk o) ∧ ∀ v : List Str, ∀ g', (v.length ≤ 200) → ((∀ z ∈ v, sOk z)) → Go s g g' (m + 200) → Q (.tup (v.map D.str)) g'
  | _ => False
theorem len_Lled : ∀ ds g Q, sp_Lled ds g Q → ds.length = 3 := fun ds g Q h => by
  unfold sp_Lled at h; split at h <;> first | rfl | exact h.elim
theorem t_Lled {s : SI} {m : Nat} {g0 g : GS} {lo : FL} {Q : DK} {b : BookR} {o : Str} (F : Fr (.go s m) g0 g lo) (hm : m < 920000000000) (p0 : (BookOk b)) (p1 : (b.sites ≠ [])) (p2 : (sOk o)) (h : ∀ v : List Str, ∀ g', (v.length ≤ 200) → ((∀ z ∈ v, sOk z)) → Fr (.go s (m + 200)) g0 g' lo → Q (.tup (v.map D.str)) g') : sp_Lled ([.ref s.L, .tup (b.ds), .str o] ++ []) g Q := ⟨s, m, b, rfl, F.src, hm, rfl, p0, p1, p2, fun v g' a0 a1 G => h v g' a0 a1 (F.call G)⟩
local macro_rules | `(tactic| walk_at "call") => `(tactic| ((with_reducible refine t_Lled (by assumption) ?_ ?_ ?_ ?_ ?_); omega; walk_at "sd"; walk_at "sd"; walk_at "sd"; intro _ _ _ _ _))
theorem rd_Lled : ∀ ds g Q, sp_Lled ds g Q → w_Lled { nx := fun _ g => Q .non g, rt := Q } (dstart N_Lled ds) g := fun ds g Q h => by
  unfold sp_Lled at h; split at h
  case h_2 => exact h.elim
  obtain ⟨s, m, b, rfl, hS, hm, rfl, p0, p1, p2, q⟩ := h
  rename_i o
  have F := Fr.startG hS
  rw [st0_Lled]
  unfold w_Lled
  have hsl : (b.sites.map SiteR.d).length = b.sites.length := List.length_map ..
  have h0 := List.length_pos_iff.mpr p1
  have hn := p0.ns
  have hf := p0.nf
  walk_at "au"
  rename_i dv g1 d0 d1 F1
  refine for3 3 4 5 (fun i x3 _ _ g' => ∃ v : List Str, x3 = some (.tup (v.map D.str)) ∧ v ≠ [] ∧ v.length ≤ 1 + i ∧ (∀ z ∈ v, sOk z) ∧ Fr (.go s (m + 1 + i)) g g' []) ⟨_, _, _, rfl, [o], rfl, by simp, Nat.le_refl _, (fun z hz => by rw [List.mem_singleton.mp hz]; exact p2), F1⟩ (fun _ _ _ _ _ _ _ => trivial) (fun i d x3 x4 x5 g2 hd hI => ?_) (fun x3 x4 x5 g2 hI => ?_)
  · obtain ⟨v, rfl, v0, v1, v2, F2⟩ := hI
    obtain ⟨hi, rfl⟩ := ran_get hd
    have hi : i ≤ 100 := by omega
    have hvl : (v.map D.str).length = v.length := List.length_map ..
    have hvp := List.length_pos_iff.mpr v0
    dsimp only [List.set_cons_succ, List.set_cons_zero]
    walk_at "au"
    refine s_anyT ?_
    walk_at "au"
    refine lcFi b.feeds FeedR.d (fun f => .str f.taker) (fun f => decide (f.giver = lastS v) && !decide (f.taker ∈ v)) F2 rfl (fun _ _ => trivial) (by omega) (fun j f g3 Q3 hj F3 k3 => ?_) (fun j f g3 Q3 hj hb F3 k3 => ?_) (fun P g3 F3 => ?_)
    · walk_at "au"
      refine v_ixTN (v.length - 1) (by omega) (ends_at v0) ?_
      walk_at "au"
      refine iteD (fun hc => ?_) (fun hc => ?_)
      · rw [decide_eq_true hc, Bool.true_and] at k3
        walk_at "au"
        exact k3 _ .refl
      · rw [decide_eq_false hc, Bool.false_and] at k3
        exact k3 _ .refl
    · walk_at "au"
      exact k3 _ .refl
    have hps : ∀ z ∈ (b.feeds.filter fun f => decide (f.giver = lastS v) && !decide (f.taker ∈ v)).map (fun f => DL.D.str f.taker), ∃ y, z = .str y ∧ sOk y := fun z hz => by
      obtain ⟨f, hf, rfl⟩ := List.mem_map.mp hz
      exact ⟨_, rfl, (p0.feeds f (List.mem_filter.mp hf).1).1.taker.sOk⟩
    have hpl : ((b.feeds.filter fun f => decide (f.giver = lastS v) && !decide (f.taker ∈ v)).map (fun f => DL.D.str f.taker)).length ≤ 1000 := by
      rw [List.length_map]
      exact Nat.le_trans (List.length_filter_le ..) hf
    generalize (b.feeds.filter fun f => decide (f.giver = lastS v) && !decide (f.taker ∈ v)).map (fun f => DL.D.str f.taker) = ts at *
    walk_at "au"
    refine iteD (fun hc => ?_) (fun hc => ?_)
    · have ht0 : ts ≠ [] := fun z => by rw [z] at hc; simp at hc
      walk_at "au"
      refine t_LpickD F3 (by omega) 0 _ rfl ht0 (by omega) fun d g4 hd4 F4 => ?_
      obtain ⟨y, rfl, hy⟩ := hps d hd4
      walk_at "au"
      refine ⟨_, _, _, rfl, v ++ [y], by rw [List.map_append]; rfl, by simp, by rw [List.length_append, List.length_singleton]; omega, fun z hz => ?_, (F4.nil).le (by omega)⟩
      rcases List.mem_append.mp hz with hz | hz
      · exact v2 z hz
      · rw [List.mem_singleton.mp hz]; exact hy
    · walk_at "au"
      exact ⟨_, _, _, rfl, v, rfl, v0, by omega, v2, (F3.nil).le (by omega)⟩
  obtain ⟨v, rfl, v0, v1, v2, F2⟩ := hI
  rw [ran_len] at v1 F2
  have F2 := F2.le (m' := m + 200) (by omega)
  walk_at "au"
  exact q v _ (by omega) v2 (Fr.gov F2 (by omega))
/-- .law.tuples(source, book, origin, ways, strange): 0 source, 1 book, 2 origin, 3 ways, 4 strange, 5 names, 6 found, 7 k, 8 way, 9 spot, 10 once, 11 site -/
abbrev N_Ltuples : List Str := ["source", "book", "origin", "ways", "strange", "names", "found", "k", "way", "spot", "once", "site"]
theorem st0_Ltuples (a0 a1 a2 a3 a4 : D) : dstart N_Ltuples [a0, a1, a2, a3, a4] = [some a0, some a1, some a2, some a3, some a4, none, none, none, none, none, none, none] := rfl
def w_Ltuples : DTS := (dSeq (dAsg (dLc (iAny (dOp ixD (dVar 1) (dC (.int 3)))) 11 dYes (dOp ixD (dVar 11) (dC (.int 1)))) (gNm 5))
  (dSeq (dAsg (dLst (dCons (dTup dNil) (dCons (dTup (dCons (dOp ixD (dVar 5) (dC (.int 0))) dNil)) (dCons (dTup (dCons (dVar 4) dNil)) dNil)))) (gNm 6))
  (dSeq (dFor (iRa1 (dC (.int 3))) (gNm 7) (dSeq (dAsg (dCall sp_Lpick [] (dCons (dVar 0) (dCons (dOp addD (dVar 3) (dLst (dCons (dTup (dCons (dVar 2) dNil)) dNil))) dNil))) (gNm 8))
  (dSeq (dAsg (dOp addD (dC (.int 1)) (dCall sp_Ldraw [] (dCons (dVar 0) (dCons (dCB lenD (dCons (dVar 8) dNil)) dNil)))) (gNm 9))
  (dSeq (dAsg (dCall sp_Lbent [] (dCons (dVar 0) (dCons (dVar 8) (dCons (dOp addD (dVar 5) (dLst (dCons (dVar 4) (dCons (dC (.str "")) dNil)))) dNil)))) (gNm 10))
  (dSeq (dDrop (dBM "list" appD (dVar 6) (dCons (dVar 8) dNil)))
  (dSeq (dDrop (dBM "list" appD (dVar 6) (dCons (dOp addD (dOp addD (dSl (dVar 8) dNo (dPart (dVar 9))) (dTup (dCons (dCall sp_Lpick [] (dCons (dVar 0) (dCons (dVar 5) dNil))) (dCons (dOp ixD (dVar 8) (dOp subD (dVar 9) (dC (.int 1)))) dNil)))) (dSl (dVar 8) (dPart (dVar 9)) dNo)) dNil)))
  (dSeq (dDrop (dBM "list" appD (dVar 6) (dCons (dCall sp_Lled [] (dCons (dVar 0) (dCons (dVar 1) (dCons (dVar 2) dNil)))) dNil)))
  (dSeq (dDrop (dBM "list" appD (dVar 6) (dCons (dVar 10) dNil)))
  (dDrop (dBM "list" appD (dVar 6) (dCons (dCall sp_Lbent [] (dCons (dVar 0) (dCons (dVar 10) (dCons (dOp addD (dVar 5) (dLst (dCons (dVar 4) (dCons (dC (.str "")) dNil)))) dNil)))) dNil)))))))))))
  (dRet (dVar 6)))))
def TwOk (v : List Str) : Prop := v.length ≤ 300 ∧ ∀ z ∈ v, sOk z
theorem tw_nil : TwOk [] := ⟨by simp, fun z h => by cases h⟩
theorem tw_one {z : Str} (h : sOk z) : TwOk [z] := ⟨by simp, fun y hy => by rw [List.mem_singleton.mp hy]; exact h⟩
theorem tws_app {vs : List (List Str)} {v : List Str} (h : ∀ v ∈ vs, TwOk v) (hv : TwOk v) : ∀ x ∈ vs ++ [v], TwOk x := fun x hx => by
  rcases List.mem_append.mp hx with hx | hx
  · exact h x hx
  · rw [List.mem_singleton.mp hx]; exact hv
def sp_Ltuples : DSp := fun ds g Q => match ds with
  | [.ref L, .tup bk, .str o, .ref W, .str x] => ∃ s m, ∃ b : BookR, ∃ ws : List (List Str), s.L = L ∧ Src s g m ∧ m < 900000000000 ∧ bk = b.ds ∧ g W = some (.lst (ws.map wyT)) ∧ W ≠ s.L ∧ (BookOk b) ∧ (b.sites ≠ []) ∧ (b.sites.length ≤ 8) ∧ (sOk o) ∧ (sOk x) ∧ (ws.length ≤ 16000000) ∧ ((∀ w ∈ ws, w ≠ [] ∧ w.length ≤ 8 ∧ ∀ y ∈ w, sOk y)) ∧ ∀ vs : List (List Str), ∀ p g', (vs.length ≤ 100) → ((∀ v ∈ vs, TwOk v)) → g p = none → Go s g g' (m + 3000) → g' p = some (.lst (vs.map wyT)) → Q (.ref p) g'
  | _ => False
theorem len_Ltuples : ∀ ds g Q, sp_Ltuples ds g Q → ds.length = 5 := fun ds g Q h => by
  unfold sp_Ltuples at h; split at h <;> first | rfl | exact h.elim
theorem t_Ltuples {s : SI} {m : Nat} {g0 g : GS} {lo : FL} {Q : DK} {b : BookR} {ws : List (List Str)} {W : Addr} {o : Str} {x : Str} (F : Fr (.go s m) g0 g lo) (hm : m < 900000000000) (n0 : Nat) (b0 : Bool) (e0 : lo[n0]? = some (W, .lst (ws.map wyT), b0)) (p0 : (BookOk b)) (p1 : (b.sites ≠ [])) (p2 : (b.sites.length ≤ 8)) (p3 : (sOk o)) (p4 : (sOk x)) (p5 : (ws.length ≤ 16000000)) (p6 : ((∀ w ∈ ws, w ≠ [] ∧ w.length ≤ 8 ∧ ∀ y ∈ w, sOk y))) (h : ∀ vs : List (List Str), ∀ p g', (vs.length ≤ 100) → ((∀ v ∈ vs, TwOk v)) → Fr (.go s (m + 3000)) g0 g' ((p, .lst (vs.map wyT), true) :: lo) → Q (.ref p) g') : sp_Ltuples ([.ref s.L, .tup (b.ds), .str o, .ref W, .str x] ++ []) g Q := ⟨s, m, b, ws, rfl, F.src, hm, rfl, F.at n0 e0, F.neL n0 e0, p0, p1, p2, p3, p4, p5, p6, fun vs p g' a0 a1 f G e => h vs p g' a0 a1 (F.retG f G e)⟩
local macro_rules | `(tactic| walk_at "call") => `(tactic| ((with_reducible refine (?_ : sp_Ltuples _ _ _)); first
    | (refine t_Ltuples (by assumption) ?_ 0 _ rfl ?_ ?_ ?_ ?_ ?_ ?_ ?_ ?_; omega; walk_at "sd"; walk_at "sd"; walk_at "sd"; walk_at "sd"; walk_at "sd"; walk_at "sd"; walk_at "sd"; intro _ _ _ _ _ _)
    | (refine t_Ltuples (by assumption) ?_ 1 _ rfl ?_ ?_ ?_ ?_ ?_ ?_ ?_ ?_; omega; walk_at "sd"; walk_at "sd"; walk_at "sd"; walk_at "sd"; walk_at "sd"; walk_at "sd"; walk_at "sd"; intro _ _ _ _ _ _)
    | (refine t_Ltuples (by assumption) ?_ 2 _ rfl ?_ ?_ ?_ ?_ ?_ ?_ ?_ ?_; omega; walk_at "sd"; walk_at "sd"; walk_at "sd"; walk_at "sd"; walk_at "sd"; walk_at "sd"; walk_at "sd"; intro _ _ _ _ _ _)
    | (refine t_Ltuples (by assumption) ?_ 3 _ rfl ?_ ?_ ?_ ?_ ?_ ?_ ?_ ?_; omega; walk_at "sd"; walk_at "sd"; walk_at "sd"; walk_at "sd"; walk_at "sd"; walk_at "sd"; walk_at "sd"; intro _ _ _ _ _ _)
    | (refine t_Ltuples (by assumption) ?_ 4 _ rfl ?_ ?_ ?_ ?_ ?_ ?_ ?_ ?_; omega; walk_at "sd"; walk_at "sd"; walk_at "sd"; walk_at "sd"; walk_at "sd"; walk_at "sd"; walk_at "sd"; intro _ _ _ _ _ _)))
theorem rd_Ltuples : ∀ ds g Q, sp_Ltuples ds g Q → w_Ltuples { nx := fun _ g => Q .non g, rt := Q } (dstart N_Ltuples ds) g := fun ds g Q h => by
  unfold sp_Ltuples at h; split at h
  case h_2 => exact h.elim
  obtain ⟨s, m, b, ws, rfl, hS, hm, rfl, hp0, np0, p0, p1, p2, p3, p4, p5, p6, q⟩ := h
  rename_i o W x
  have F := Fr.startG hS
  have F := F.argG hp0 np0
  rw [st0_Ltuples]
  unfold w_Ltuples
  have hsl : (b.sites.map SiteR.d).length = b.sites.length := List.length_map ..
  have hN : ∀ z ∈ b.sites.map (·.name), sOk z := fun z hz => by
    obtain ⟨s, hs, rfl⟩ := List.mem_map.mp hz
    exact (p0.sites s hs).name.sOk
  walk_at "au"
  refine s_anyT ?_
  walk_at "au"
  refine lcM b.sites SiteR.d (fun s => .str s.name) F rfl (fun _ _ => trivial) (by omega) (fun i s g1 Q1 hi F1 k1 => ?_) (fun N g1 F1 => ?_)
  · walk_at "au"
    exact k1 _ .refl
  have en : (b.sites.map fun s => DL.D.str s.name) = (b.sites.map (·.name)).map D.str := by rw [List.map_map]; rfl
  rw [en] at F1
  obtain ⟨n0, nr, hnn⟩ : ∃ n0 nr, b.sites.map (·.name) = n0 :: nr := by
    cases h : b.sites.map (·.name) with
    | nil => exact absurd (List.map_eq_nil_iff.mp h) p1
    | cons a r => exact ⟨a, r, rfl⟩
  have hnl : (b.sites.map (·.name)).length ≤ 8 := by rw [List.length_map]; exact p2
  rw [hnn] at F1 hN hnl
  generalize b.sites.map (·.name) = names at *
  walk_at "au"
  refine k_ixLN 0 rfl F1 0 rfl (d := .str n0) rfl ?_
  walk_at "au"
  rename_i Fd g2 F2
  have hn0 : sOk n0 := hN n0 List.mem_cons_self
  have F2 : Fr (.go s m) g g2 [(Fd, .lst (([[], [n0], [x]] : List (List Str)).map wyT), true), (N, .lst ((n0 :: nr).map D.str), true), (W, .lst (ws.map wyT), false)] := F2
  refine for4 7 8 9 10 (fun i _ _ _ _ g' => ∃ vs : List (List Str), vs.length ≤ 3 + 5 * i ∧ (∀ v ∈ vs, TwOk v) ∧ Fr (.go s (m + 500 * i)) g g' [(Fd, .lst (vs.map wyT), true), (N, .lst ((n0 :: nr).map D.str), true), (W, .lst (ws.map wyT), false)]) ⟨_, _, _, _, rfl, _, by simp, tws_app (tws_app (vs := [[]]) (fun v hv => by rw [List.mem_singleton.mp hv]; exact tw_nil) (tw_one hn0)) (tw_one p4), F2⟩ (fun _ _ _ _ _ _ _ _ => trivial) (fun i d x7 x8 x9 x10 g3 hd hI => ?_) (fun x7 x8 x9 x10 g3 hI => ?_)
  · obtain ⟨vs, vl, vo, F3⟩ := hI
    obtain ⟨hi, rfl⟩ := ran_get hd
    have hi : i < 3 := by omega
    clear F1 F2
    dsimp only [List.set_cons_succ, List.set_cons_zero]
    walk_at "au"
    rename_i P1 g4 F4 P2 g5 F5
    refine t_LpickD F5 (by omega) 0 _ rfl (by simp) (by rw [List.length_append, List.length_map]; simp; omega) fun d g6 hd6 F6 => ?_
    obtain ⟨w, rfl, w0, w8, wok⟩ : ∃ w : List Str, d = wyT w ∧ w ≠ [] ∧ w.length ≤ 8 ∧ ∀ y ∈ w, sOk y := by
      rcases List.mem_append.mp hd6 with h | h
      · obtain ⟨w, hw, rfl⟩ := List.mem_map.mp h
        exact ⟨w, rfl, p6 w hw⟩
      · exact ⟨[o], List.mem_singleton.mp h, by simp, by simp, fun y hy => by rw [List.mem_singleton.mp hy]; exact p3⟩
    have F6 := F6.sub (.cons _ (.cons _ (List.Sublist.refl _)))
    have hwl : (w.map D.str).length = w.length := List.length_map ..
    have hwp := List.length_pos_iff.mpr w0
    clear F3 F4 F5
    walk_at "au"
    rename_i sv g7 s0 s1 F7 P3 g8 F8 P4 g9 F9
    have eus : (n0 :: nr).map D.str ++ [.str x, .str ""] = ((n0 :: nr) ++ [x, ""]).map D.str := by rw [List.map_append]; rfl
    have husl : ((n0 :: nr) ++ [x, ("" : Str)]).length ≤ 1000 := by rw [List.length_append]; simp at hnl ⊢; omega
    have huso : ∀ z ∈ (n0 :: nr) ++ [x, ("" : Str)], sOk z := fun z hz => by
      rcases List.mem_append.mp hz with hz | hz
      · exact hN z hz
      · simp only [List.mem_cons, List.mem_nil_iff, or_false] at hz
        rcases hz with rfl | rfl
        · exact p4
        · decide +kernel
    rw [eus] at F9
    refine t_Lbent F9 (by omega) 0 _ rfl (by simp) husl (by omega) wok huso fun v g10 v1 v2 F10 => ?_
    have F10 := F10.sub (.cons _ (.cons _ (List.Sublist.refl _)))
    clear F6 F7 F8 F9
    have hvs : (vs.map wyT).length ≤ 100 := by rw [List.length_map]; omega
    walk_at "au"
    rename_i g11 F11
    have ap : ∀ {us : List (List Str)} {u : List Str} {m' : Nat} {g' : GS}, Fr (.go s m') g g' ([(Fd, .lst (us.map wyT), true), (N, .lst ((n0 :: nr).map D.str), true), (W, .lst (ws.map wyT), false)].set 0 (Fd, .lst (us.map wyT ++ [wyT u]), true)) → Fr (.go s m') g g' [(Fd, .lst ((us ++ [u]).map wyT), true), (N, .lst ((n0 :: nr).map D.str), true), (W, .lst (ws.map wyT), false)] := fun h => by
      rw [List.map_append]; exact h
    have F11 := ap F11
    have o1 := tws_app vo (⟨by omega, wok⟩ : TwOk w)
    clear F10
    refine v_slToT (by omega) ?_
    walk_at "au"
    refine t_LpickD F11 (by omega) 1 _ rfl (by simp) (by rw [List.length_map]; omega) fun d g12 hd12 F12 => ?_
    obtain ⟨y, hy, rfl⟩ := List.mem_map.mp hd12
    have hys := hN y hy
    clear F11
    obtain ⟨z, hz⟩ : ∃ z, w[sv.toNat]? = some z := ⟨_, List.getElem?_eq_getElem (by omega)⟩
    have hzs := wok z (List.mem_of_getElem? hz)
    walk_at "au"
    refine v_ixTN sv.toNat (by omega) (by rw [List.getElem?_map, hz]; rfl) ?_
    walk_at "au"
    refine v_slFromT (by omega) ?_
    have e2 : (w.map D.str).take (1 + sv).toNat ++ [.str y, .str z] ++ (w.map D.str).drop (1 + sv).toNat = (w.take (1 + sv).toNat ++ [y, z] ++ w.drop (1 + sv).toNat).map D.str := by
      rw [List.map_append, List.map_append, List.map_take, List.map_drop]; rfl
    have t2 : TwOk (w.take (1 + sv).toNat ++ [y, z] ++ w.drop (1 + sv).toNat) := ⟨by rw [List.length_append, List.length_append, List.length_take, List.length_drop]; simp; omega, fun u hu => by
      rcases List.mem_append.mp hu with hu | hu
      · rcases List.mem_append.mp hu with hu | hu
        · exact wok u (List.mem_of_mem_take hu)
        · simp only [List.mem_cons, List.mem_nil_iff, or_false] at hu
          rcases hu with rfl | rfl
          · exact hys
          · exact hzs
      · exact wok u (List.mem_of_mem_drop hu)⟩
    have hvs : ((vs ++ [w]).map wyT).length ≤ 101 := by rw [List.length_map, List.length_append]; simp; omega
    refine v_addT (by rw [szl]; simp; omega) ?_
    rw [e2]
    generalize w.take (1 + sv).toNat ++ [y, z] ++ w.drop (1 + sv).toNat = w2 at *
    walk_at "au"
    rename_i g13 F13 led g14 l1 l2 F14 g15 F15 g16 F16 P5 g17 F17 P6 g18 F18
    rw [eus] at F18
    refine t_Lbent (w := v) F18 (by omega) 0 _ rfl (by simp) husl (by omega) v2 huso fun v3 g19 u1 u2 F19 => ?_
    have F19 := F19.sub (.cons _ (.cons _ (List.Sublist.refl _)))
    clear F12 F13 F14 F15 F16 F17 F18
    dsimp only [List.set_cons_succ, List.set_cons_zero] at F19
    walk_at "au"
    rename_i g20 F20
    have ef : (vs ++ [w]).map wyT ++ [wyT w2] ++ [wyT led] ++ [wyT v] ++ [wyT v3] = (vs ++ [w] ++ [w2] ++ [led] ++ [v] ++ [v3]).map wyT := by
      simp only [List.map_append, List.map_cons, List.map_nil]
    have F20 : Fr (.go s (m + 500 * (i + 1))) g g20 [(Fd, .lst ((vs ++ [w] ++ [w2] ++ [led] ++ [v] ++ [v3]).map wyT), true), (N, .lst ((n0 :: nr).map D.str), true), (W, .lst (ws.map wyT), false)] := by
      rw [← ef]
      exact F20.le (by omega)
    refine ⟨_, _, _, _, rfl, _, ?_, tws_app (tws_app (tws_app (tws_app o1 t2) ⟨by omega, l2⟩) ⟨by omega, v2⟩) ⟨by omega, u2⟩, F20⟩
    simp only [List.length_append, List.length_cons, List.length_nil]
    omega
  obtain ⟨vs, vl, vo, F3⟩ := hI
  rw [ran_len] at vl F3
  have e3 : (3 : Int).toNat = 3 := rfl
  rw [e3] at vl F3
  walk_at "au"
  exact q vs Fd _ (by omega) vo (F3.fresh 0 rfl) (Fr.gov F3 (by omega)) (F3.at 0 rfl)
/-- .law.least.right(book, kind, ways): 0 book, 1 kind, 2 ways, 3 site -/
abbrev N_Lleast_right : List Str := ["book", "kind", "ways", "site"]
theorem st0_Lleast_right (a0 a1 a2 : D) : dstart N_Lleast_right [a0, a1, a2] = [some a0, some a1, some a2, none] := rfl
def w_Lleast_right : DTS := (dSeq (dFor (iAny (dOp ixD (dVar 0) (dC (.int 3)))) (gNm 3) (dIf (dNot (dTru (dCall sp_Lsame [] (dCons (dCall sp_least_way [] (dCons (dVar 0) (dCons (dVar 1) (dCons (dOp ixD (dVar 3) (dC (.int 1))) dNil)))) (dCons (dCall sp_Lleast [] (dCons (dVar 2) (dCons (dOp ixD (dVar 3) (dC (.int 1))) dNil))) dNil))))) (dRet (dC (.bl false))) dNext))
  (dRet (dC (.bl true))))
theorem ok_optW {r : Option (List Str)} (h : ∀ w, r = some w → w.length ≤ 1000) : okT 12 (optW r) := by
  cases r with
  | none => trivial
  | some w => exact okT_le (ok_flat (by rw [List.length_map]; have := h w rfl; omega) fun x hx => by
      obtain ⟨y, _, rfl⟩ := List.mem_map.mp hx
      exact ok_str) (by decide)
theorem lvl_nil {F : List FeedR} : ∀ t, lvl F [] t = []
  | 0 => rfl
  | t + 1 => by
    show (lvl F [] t).flatMap _ = []
    rw [lvl_nil t]; rfl
abbrev lawW (b : BookR) (o : Str) (L : List Str) (n : Int) : List (List Str) := waysL (wayF b L n) (wayS b o L) b.sites.length
theorem lawW_ok {b : BookR} {o : Str} {L : List Str} {n : Int} (hb : BookOk b) (h8 : b.sites.length ≤ 8) (hn : (b.feeds.map gtF).Nodup) (ho : o ∈ b.sites.map (·.name)) : (lawW b o L n).length ≤ 16000000 ∧ ∀ w ∈ lawW b o L n, w ≠ [] ∧ w.length ≤ 8 ∧ ∀ y ∈ w, sOk y := by
  have hN := netF_of (L := L) (n := n) hb h8 hn
  obtain ⟨hS, hS1⟩ := wayS_ok (b := b) (L := L) ho
  refine ⟨?_, fun w hw => ?_⟩
  · have h1 : (lawW b o L n).length ≤ 7 ^ b.sites.length := waysL_len hN hS hS1 b.sites.length
    have h2 : 7 ^ b.sites.length ≤ 7 ^ 8 := Nat.pow_le_pow_right (by omega) h8
    have e7 : 7 ^ 8 = 5764801 := by decide +kernel
    omega
  · obtain ⟨t, ht, hw⟩ := List.mem_flatMap.mp hw
    have ht := List.mem_range.mp ht
    have hk := lvl_ok hN hS t w hw
    refine ⟨fun e => by have := hk.len; rw [e] at this; simp at this, by have := hk.len; omega, fun y hy => ?_⟩
    obtain ⟨s, hs, e⟩ := List.mem_map.mp (hk.mem y hy)
    rw [← e]
    exact (hb.sites s hs).name.sOk
theorem law_least {b : BookR} {o : Str} {L : List Str} {n : Int} (hb : BookOk b) (h0 : b.sites ≠ []) (z : Str) : LeastW (lawW b o L n) z (lkS (wayL b o L n (b.sites.length - 1)) z) := by
  have hp := List.length_pos_iff.mpr h0
  by_cases ho : o ∈ carL b.sites L
  · have e : lawW b o L n = waysL (wayF b L n) [[o]] (b.sites.length - 1 + 1) := by
      unfold lawW wayS
      rw [if_pos ho, Nat.sub_add_cancel hp]
    rw [e]
    refine (wayL_least hb ho (fun f hf => ?_) (fun f hf hg => ?_) fun f hf => ?_).1 z
    · obtain ⟨h1, h2⟩ := List.mem_filter.mp hf
      unfold opn at h2
      rw [Bool.and_eq_true] at h2
      exact List.mem_filter.mpr ⟨h1, h2.2⟩
    · obtain ⟨h1, h2⟩ := List.mem_filter.mp hf
      refine List.mem_filter.mpr ⟨h1, ?_⟩
      unfold opn
      rw [decide_eq_true hg, Bool.true_and]
      exact h2
    · have h2 := (List.mem_filter.mp hf).2
      unfold opT at h2
      rw [Bool.and_eq_true] at h2
      exact of_decide_eq_true h2.1
  · have e : lkS (wayL b o L n (b.sites.length - 1)) z = none := by
      cases hk : lkS (wayL b o L n (b.sites.length - 1)) z with
      | none => rfl
      | some w =>
        obtain ⟨k, _, hz, _⟩ := wInv_all (ps := psF L n) (G := b.feeds) (bsW_inv (o := o) (L := L) (n := n) hb).1 (fun f hf => (hb.feeds f hf).1.taker.sOk) (b.sites.length - 1) z w hk
        have hz : lkS (leastL b o L n) z = some k := hz
        rw [leastL_no ho] at hz
        cases hz
    rw [e]
    intro w hw
    obtain ⟨t, _, hw⟩ := List.mem_flatMap.mp hw
    unfold wayS at hw
    rw [if_neg ho, lvl_nil] at hw
    cases hw
def sp_Lleast_right : DSp := fun ds g Q => match ds with
  | [.tup bk, .tup kd, .ref W] => ∃ b : BookR, ∃ o : Str, ∃ L : List Str, ∃ n : Int, bk = b.ds ∧ kd = kindD o L n ∧ g W = some (.lst ((lawW b o L n).map wyT)) ∧ (BookOk b) ∧ (BdsOk L) ∧ (b.sites ≠ []) ∧ (b.sites.length ≤ 8) ∧ ((b.feeds.map gtF).Nodup) ∧ (o ∈ b.sites.map (·.name)) ∧ ∀ g', Up [] g g' → Q (.bl true) g'
  | _ => False
theorem len_Lleast_right : ∀ ds g Q, sp_Lleast_right ds g Q → ds.length = 3 := fun ds g Q h => by
  unfold sp_Lleast_right at h; split at h <;> first | rfl | exact h.elim
theorem t_Lleast_right {k : FK} {g0 g : GS} {lo : FL} {Q : DK} {b : BookR} {o : Str} {L : List Str} {n : Int} {W : Addr} (F : Fr k g0 g lo) (n0 : Nat) (b0 : Bool) (e0 : lo[n0]? = some (W, .lst ((lawW b o L n).map wyT), b0)) (p0 : (BookOk b)) (p1 : (BdsOk L)) (p2 : (b.sites ≠ [])) (p3 : (b.sites.length ≤ 8)) (p4 : ((b.feeds.map gtF).Nodup)) (p5 : (o ∈ b.sites.map (·.name))) (h : ∀ g', Fr k g0 g' lo → Q (.bl true) g') : sp_Lleast_right ([.tup (b.ds), .tup (kindD o L n), .ref W] ++ []) g Q := ⟨b, o, L, n, rfl, rfl, F.at n0 e0, p0, p1, p2, p3, p4, p5, fun g' u => h g' (F.up u)⟩
local macro_rules | `(tactic| walk_at "call") => `(tactic| ((with_reducible refine (?_ : sp_Lleast_right _ _ _)); first
    | (refine t_Lleast_right (by assumption) 0 _ rfl ?_ ?_ ?_ ?_ ?_ ?_ ?_; walk_at "sd"; walk_at "sd"; walk_at "sd"; walk_at "sd"; walk_at "sd"; walk_at "sd"; intro _ _)
    | (refine t_Lleast_right (by assumption) 1 _ rfl ?_ ?_ ?_ ?_ ?_ ?_ ?_; walk_at "sd"; walk_at "sd"; walk_at "sd"; walk_at "sd"; walk_at "sd"; walk_at "sd"; intro _ _)
    | (refine t_Lleast_right (by assumption) 2 _ rfl ?_ ?_ ?_ ?_ ?_ ?_ ?_; walk_at "sd"; walk_at "sd"; walk_at "sd"; walk_at "sd"; walk_at "sd"; walk_at "sd"; intro _ _)
    | (refine t_Lleast_right (by assumption) 3 _ rfl ?_ ?_ ?_ ?_ ?_ ?_ ?_; walk_at "sd"; walk_at "sd"; walk_at "sd"; walk_at "sd"; walk_at "sd"; walk_at "sd"; intro _ _)
    | (refine t_Lleast_right (by assumption) 4 _ rfl ?_ ?_ ?_ ?_ ?_ ?_ ?_; walk_at "sd"; walk_at "sd"; walk_at "sd"; walk_at "sd"; walk_at "sd"; walk_at "sd"; intro _ _)))
theorem rd_Lleast_right : ∀ ds g Q, sp_Lleast_right ds g Q → w_Lleast_right { nx := fun _ g => Q .non g, rt := Q } (dstart N_Lleast_right ds) g := fun ds g Q h => by
  unfold sp_Lleast_right at h; split at h
  case h_2 => exact h.elim
  obtain ⟨b, o, L, n, rfl, rfl, hp0, p0, p1, p2, p3, p4, p5, q⟩ := h
  rename_i W
  have F : Fr .pu g g [] := Fr.startP
  have F := F.argP hp0
  rw [st0_Lleast_right]
  unfold w_Lleast_right
  obtain ⟨w1, w2⟩ := lawW_ok (L := L) (n := n) p0 p3 p4 p5
  refine DL.s_seq ?_
  walk_at "au"
  refine s_anyT ?_
  walk_at "au"
  refine for1 3 (fun i _ g' => Fr .pu g g' [(W, .lst ((lawW b o L n).map wyT), false)]) ⟨_, rfl, F⟩ (fun _ _ _ _ _ => trivial) (fun i d x3 g1 hd F1 => ?_) (fun x3 g1 F1 => ?_)
  · obtain ⟨s, hs, rfl⟩ := get_map hd
    dsimp only [List.set_cons_succ, List.set_cons_zero]
    have hl := law_least (o := o) (L := L) (n := n) p0 p2 s.name
    walk_at "au"
    rename_i g2 F2
    refine ⟨lawW b o L n, F2.at 0 rfl, w1, fun w hw => ⟨(w2 w hw).1, by have := (w2 w hw).2.1; omega, (w2 w hw).2.2⟩, fun r g3 hr U3 => ?_⟩
    have F3 := F2.up U3
    have e := leastW_uniq hr hl
    subst e
    have hok : okT 12 (optW (lkS (wayL b o L n (b.sites.length - 1)) s.name)) := ok_optW fun w hw => by
      rw [hw] at hl
      have := (w2 w hl.1).2.1
      omega
    walk_at "au"
    refine t_same hok ?_
    walk_at "au"
    exact ⟨_, rfl, by assumption⟩
  walk_at "au"
  exact q _ (Fr.upv (by assumption))
/-- law(script): 0 script, 1 source, 2 words, 3 many, 4 book, 5 kind, 6 ways, 7 other, 8 beside, 9 names, 10 goal, 11 way, 12 due, 13 site -/
abbrev N_law : List Str := ["script", "source", "words", "many", "book", "kind", "ways", "other", "beside", "names", "goal", "way", "due", "site"]
theorem st0_law (a0 : D) : dstart N_law [a0] = [some a0, none, none, none, none, none, none, none, none, none, none, none, none, none] := rfl
def w_law : DTS := (dSeq (dAsg (dCall sp_Lsource [] (dCons (dVar 0) dNil)) (gNm 1))
  (dSeq (dAsg (dCall sp_Lwords [] (dCons (dVar 1) dNil)) (gNm 2))
  (dSeq (dAsg (dOp addD (dC (.int 1)) (dCall sp_Ldraw [] (dCons (dVar 1) (dCons (dC (.int 4)) dNil)))) (gNm 3))
  (dSeq (dIf (dTru (dCall sp_Lonce_in [] (dCons (dVar 1) (dCons (dC (.int 7)) dNil)))) (dAsg (dOp addD (dC (.int 5)) (dCall sp_Ldraw [] (dCons (dVar 1) (dCons (dC (.int 4)) dNil)))) (gNm 3)) dNext)
  (dSeq (dAsg (dCall sp_Lnet [] (dCons (dVar 1) (dCons (dVar 3) (dCons (dVar 2) dNil)))) (gNm 4))
  (dSeq (dAsg (dCall sp_Lkind [] (dCons (dVar 1) (dCons (dVar 4) (dCons (dVar 2) dNil)))) (gNm 5))
  (dSeq (dAsg (dCall sp_Lways [] (dCons (dVar 4) (dCons (dVar 5) dNil))) (gNm 6))
  (dSeq (dAsg (dCall sp_Lnet [] (dCons (dVar 1) (dCons (dC (.int 2)) (dCons (dVar 2) dNil)))) (gNm 7))
  (dSeq (dAsg (dCall sp_Lkind [] (dCons (dVar 1) (dCons (dVar 7) (dCons (dVar 2) dNil)))) (gNm 8))
  (dSeq (dIf (dOr (dNot (dTru (dCall sp_Lleast_right [] (dCons (dVar 4) (dCons (dVar 5) (dCons (dVar 6) dNil)))))) (dNot (dTru (dCall sp_Lleast_right [] (dCons (dVar 7) (dCons (dVar 8) (dCons (dCall sp_Lways [] (dCons (dVar 7) (dCons (dVar 8) dNil))) dNil))))))) (dRet (dC (.bl false))) dNext)
  (dSeq (dAsg (dLc (iAny (dOp ixD (dVar 4) (dC (.int 3)))) 13 dYes (dOp ixD (dVar 13) (dC (.int 1)))) (gNm 9))
  (dSeq (dAsg (dOp ixD (dVar 9) (dC (.int 0))) (gNm 10))
  (dSeq (dFor (iAny (dCall sp_Ltuples [] (dCons (dVar 1) (dCons (dVar 4) (dCons (dOp ixD (dVar 5) (dC (.int 1))) (dCons (dVar 6) (dCons (dCall sp_Lnew_name [] (dCons (dVar 1) (dCons (dVar 9) dNil))) dNil))))))) (gNm 11) (dSeq (dAsg (dCall sp_Lpick [] (dCons (dVar 1) (dCons (dVar 9) dNil))) (gNm 10))
  (dSeq (dIf (dAnd (dTest (dOp gtD (dCB lenD (dCons (dVar 11) dNil)) (dC (.int 0)))) (dAnd (dTest (dOp inD (dOp ixD (dVar 11) (dOp subD (dCB lenD (dCons (dVar 11) dNil)) (dC (.int 1)))) (dVar 9))) (dTest (dOp neD (dCall sp_Ldraw [] (dCons (dVar 1) (dCons (dC (.int 4)) dNil))) (dC (.int 1)))))) (dAsg (dOp ixD (dVar 11) (dOp subD (dCB lenD (dCons (dVar 11) dNil)) (dC (.int 1)))) (gNm 10)) dNext)
  (dSeq (dAsg (dAndV (dOp inD (dVar 11) (dVar 6)) (dOp eqD (dOp ixD (dVar 11) (dOp subD (dCB lenD (dCons (dVar 11) dNil)) (dC (.int 1)))) (dVar 10))) (gNm 12))
  (dIf (dNot (dTru (dCall sp_Lsame [] (dCons (dCall sp_judge_way [] (dCons (dVar 4) (dCons (dVar 5) (dCons (dVar 10) (dCons (dVar 11) dNil))))) (dCons (dVar 12) dNil))))) (dRet (dC (.bl false))) dNext)))))
  (dRet (dCall sp_Lsame [] (dCons (dCall sp_least_way [] (dCons (dVar 4) (dCons (dVar 5) (dCons (dVar 10) dNil)))) (dCons (dCall sp_Lleast [] (dCons (dVar 6) (dCons (dVar 10) dNil))) dNil)))))))))))))))))
theorem eqv_strs : ∀ a b : List Str, PyData.eqvAll (a.map PyData.str) (b.map PyData.str) = decide (a = b)
  | [], [] => by simp [PyData.eqvAll]
  | [], b :: bs => by simp [PyData.eqvAll]
  | a :: as, [] => by simp [PyData.eqvAll]
  | a :: as, b :: bs => by
    rw [List.map_cons, List.map_cons, PyData.eqvAll, eqv_strs as bs, PyData.eqv]
    by_cases h : a = b
    · subst h; simp
    · simp [h]
theorem eqP_way (a b : List Str) : eqP (wyT a) (wyT b) = decide (a = b) := by
  unfold eqP
  rw [pd_way, pd_way, PyData.eqv, eqv_strs]
theorem any_way (v : List Str) : ∀ ws : List (List Str), ((ws.map wyT).any fun z => eqP z (wyT v)) = decide (v ∈ ws)
  | [] => by simp
  | w :: ws => by
    rw [List.map_cons, List.any_cons, any_way v ws, eqP_way]
    by_cases h : w = v
    · subst h; simp
    · have h' : ¬ v = w := fun z => h z.symm
      simp [h, h']
theorem fine_way {v : List Str} (h : ∀ z ∈ v, sOk z) : fine (wyT v) := ⟨by show pure? (.tup (v.map D.str)) = true; rw [pure?]; exact pures_strs h, by show dep (.tup (v.map D.str)) ≤ 60; rw [dep, deps_strs]; omega⟩
theorem gt_inj {Fs : List FeedR} (h : (Fs.map gtF).Nodup) {f g : FeedR} (hf : f ∈ Fs) (hg : g ∈ Fs) (e : gtF f = gtF g) : f = g := by
  induction Fs with
  | nil => cases hf
  | cons a Fs ih =>
    rw [List.map_cons, List.nodup_cons] at h
    rcases List.mem_cons.mp hf with hf1 | hf1
    · rcases List.mem_cons.mp hg with hg1 | hg1
      · rw [hf1, hg1]
      · have := List.mem_map_of_mem (f := gtF) hg1
        rw [← e, hf1] at this
        exact absurd this h.1
    · rcases List.mem_cons.mp hg with hg1 | hg1
      · have := List.mem_map_of_mem (f := gtF) hf1
        rw [e, hg1] at this
        exact absurd this h.1
      · exact ih h.2 hf1 hg1
theorem feedOf_nd {Fs : List FeedR} (h : (Fs.map gtF).Nodup) {f : FeedR} (hf : f ∈ Fs) : feedOf Fs f.giver f.taker = some f := by
  cases e : feedOf Fs f.giver f.taker with
  | none =>
    have := List.find?_eq_none.mp (show Fs.find? (fun g => decide (g.giver = f.giver) && decide (g.taker = f.taker)) = none from e) f hf
    simp at this
  | some g =>
    have h1 := List.mem_of_find?_eq_some (show Fs.find? (fun g => decide (g.giver = f.giver) && decide (g.taker = f.taker)) = some g from e)
    have h2 := List.find?_some (show Fs.find? (fun g => decide (g.giver = f.giver) && decide (g.taker = f.taker)) = some g from e)
    rw [Bool.and_eq_true] at h2
    rw [gt_inj h h1 hf (Prod.ext (of_decide_eq_true h2.1) (of_decide_eq_true h2.2))]
theorem jg_of {b : BookR} {o : Str} {L : List Str} {n : Int} (hn : (b.feeds.map gtF).Nodup) (ho : o ∈ carL b.sites L) : ∀ t, ∀ w ∈ lvl (wayF b L n) [[o]] t, jgB b o L n w
  | 0 => fun w hw => by
    rw [List.mem_singleton.mp (show w ∈ [[o]] from hw)]
    refine ⟨by simp, rfl, fun k z hk => ?_, fun k y z _ hz => ?_⟩
    · cases k with
      | zero => cases hk; exact ⟨by simp, ho⟩
      | succ k => simp at hk
    · simp at hz
  | t + 1 => fun w hw => by
    obtain ⟨v, hv, hw⟩ := List.mem_flatMap.mp hw
    obtain ⟨f, hf, rfl⟩ := List.mem_map.mp hw
    obtain ⟨j1, j2, j3, j4⟩ := jg_of hn ho t v hv
    have hl := lvl_one t v hv
    obtain ⟨hfF, hok⟩ := List.mem_filter.mp hf
    obtain ⟨hfb, hop⟩ := List.mem_filter.mp hfF
    unfold okx at hok
    rw [Bool.and_eq_true, Bool.and_eq_true] at hok
    have hg := of_decide_eq_true hok.1
    have hnot : f.taker ∉ v := by simpa using hok.2.1
    have hhp := of_decide_eq_true hok.2.2
    unfold opT at hop
    rw [Bool.and_eq_true] at hop
    have htk := of_decide_eq_true hop.1
    have at1 : ∀ {k z}, (v ++ [f.taker])[k]? = some z → (k < v.length ∧ v[k]? = some z) ∨ (k = v.length ∧ z = f.taker) := fun {k z} h => by
      by_cases hk : k < v.length
      · rw [List.getElem?_append_left hk] at h
        exact .inl ⟨hk, h⟩
      · rw [List.getElem?_append_right (by omega)] at h
        have hk2 : k = v.length := by
          have := (List.getElem?_eq_some_iff.mp h).1
          simp at this
          omega
        subst hk2
        simp at h
        exact .inr ⟨rfl, h.symm⟩
    refine ⟨by simp, by rw [List.getElem?_append_left (List.length_pos_iff.mpr j1)]; exact j2, fun k z hk => ?_, fun k y z hy hz => ?_⟩
    · rcases at1 hk with ⟨h1, h2⟩ | ⟨rfl, rfl⟩
      · rw [List.take_append_of_le_length (by omega)]
        exact j3 k z h2
      · rw [List.take_left]
        exact ⟨hnot, htk⟩
    · rcases at1 hz with ⟨h1, h2⟩ | ⟨h1, rfl⟩
      · rcases at1 hy with ⟨h3, h4⟩ | ⟨h3, _⟩
        · exact j4 k y z h4 h2
        · omega
      · rcases at1 hy with ⟨h3, h4⟩ | ⟨h3, _⟩
        · have hkt : k = t := by omega
          subst hkt
          rw [hg] at h4
          cases h4
          refine ⟨f, feedOf_nd hn hfb, ?_⟩
          unfold psF
          rw [decide_eq_true hhp, Bool.true_and]
          exact hop.2
        · omega
theorem of_jg {b : BookR} {o : Str} {L : List Str} {n : Int} {v : List Str} (hj : jgB b o L n v) : ∀ t, t < v.length → v.take (t + 1) ∈ lvl (wayF b L n) [[o]] t
  | 0, ht => by
    obtain ⟨a, r, rfl⟩ : ∃ a r, v = a :: r := by
      cases v with
      | nil => cases ht
      | cons a r => exact ⟨a, r, rfl⟩
    have := hj.2.1
    cases this
    exact List.mem_singleton.mpr rfl
  | t + 1, ht => by
    obtain ⟨j1, j2, j3, j4⟩ := hj
    have ih := of_jg ⟨j1, j2, j3, j4⟩ t (by omega)
    have hy : v[t]? = some v[t] := List.getElem?_eq_getElem (by omega)
    have hz : v[t + 1]? = some v[t + 1] := List.getElem?_eq_getElem ht
    generalize v[t] = y at hy
    generalize v[t + 1] = z at hz
    obtain ⟨f, hf, hp⟩ := j4 t y z hy hz
    obtain ⟨hzn, hzc⟩ := j3 (t + 1) z hz
    have hf1 := List.mem_of_find?_eq_some (show b.feeds.find? (fun g => decide (g.giver = y) && decide (g.taker = z)) = some f from hf)
    have hf2 := List.find?_some (show b.feeds.find? (fun g => decide (g.giver = y) && decide (g.taker = z)) = some f from hf)
    rw [Bool.and_eq_true] at hf2
    have hfg : f.giver = y := of_decide_eq_true hf2.1
    have hft : f.taker = z := of_decide_eq_true hf2.2
    unfold psF at hp
    rw [Bool.and_eq_true] at hp
    have et : v.take (t + 1 + 1) = v.take (t + 1) ++ [f.taker] := by
      rw [List.take_add_one, hz, hft]; rfl
    rw [et]
    refine List.mem_flatMap.mpr ⟨_, ih, List.mem_map.mpr ⟨f, List.mem_filter.mpr ⟨List.mem_filter.mpr ⟨hf1, ?_⟩, ?_⟩, rfl⟩⟩
    · unfold opT
      rw [hft, decide_eq_true hzc, Bool.true_and]
      exact hp.2
    · unfold okx
      have e1 : (v.take (t + 1))[t]? = some f.giver := by rw [List.getElem?_take_of_lt (by omega), hy, hfg]
      rw [e1, decide_eq_true rfl, hft, decide_eq_false hzn, hp.1]; rfl
theorem jg_nd {v : List Str} (h : ∀ k z, v[k]? = some z → z ∉ v.take k) : ∀ t, (v.take t).Nodup
  | 0 => by simp
  | t + 1 => by
    rw [List.take_add_one]
    cases hz : v[t]? with
    | none => simp; exact jg_nd h t
    | some z =>
      show (v.take t ++ [z]).Nodup
      rw [List.nodup_append]
      refine ⟨jg_nd h t, by simp, fun a ha c hc e => ?_⟩
      rw [List.mem_singleton.mp hc] at e
      subst e
      exact h t _ hz ha
theorem jg_iff {b : BookR} {o : Str} {L : List Str} {n : Int} {v : List Str} (hn : (b.feeds.map gtF).Nodup) : v ∈ lawW b o L n ↔ jgB b o L n v := by
  refine ⟨fun h => ?_, fun h => ?_⟩
  · obtain ⟨t, _, hw⟩ := List.mem_flatMap.mp h
    unfold wayS at hw
    by_cases ho : o ∈ carL b.sites L
    · rw [if_pos ho] at hw
      exact jg_of hn ho t v hw
    · rw [if_neg ho, lvl_nil] at hw
      cases hw
  · have ho : o ∈ carL b.sites L := (h.2.2.1 0 o h.2.1).2
    have hp := List.length_pos_iff.mpr h.1
    have hnd := jg_nd (fun k z hk => (h.2.2.1 k z hk).1) v.length
    rw [List.take_length] at hnd
    have hlen := nodup_len v (b.sites.map (·.name)) hnd fun z hz => by
      obtain ⟨k, hk, e⟩ := List.getElem_of_mem hz
      obtain ⟨s, hs, e2⟩ := carL_mem (h.2.2.1 k z (by rw [← e]; exact List.getElem?_eq_getElem hk)).2
      exact List.mem_map.mpr ⟨s, hs, e2⟩
    rw [List.length_map] at hlen
    refine List.mem_flatMap.mpr ⟨v.length - 1, List.mem_range.mpr (by omega), ?_⟩
    unfold wayS
    rw [if_pos ho]
    have := of_jg h (v.length - 1) (by omega)
    rw [show v.length - 1 + 1 = v.length by omega, List.take_length] at this
    exact this
def sp_law : DSp := fun ds g Q => match ds with
  | [.klst xs] => ∃ ns : List Int, xs = ns.map D.int ∧ ns.length ≤ 63 ∧ ∀ g', Q (.bl true) g'
  | _ => False
theorem len_law : ∀ ds g Q, sp_law ds g Q → ds.length = 1 := fun ds g Q h => by
  unfold sp_law at h; split at h <;> first | rfl | exact h.elim
theorem fin (K : PySem.W.Frag) (H : L2.Hp) (a : Addr) (ns : List Int) (hn : ns.length ≤ 63) (hO : L2.Only H) (hS : L2.SqL K H a (ns.map L2.V.int)) : lSp K sp_law [.ref a] H (fun v _ => v = .bl true) fun _ _ _ => False :=
  fin_of (sp := sp_law) (fun ns g hn _ => ⟨ns, rfl, hn, fun _ => rfl⟩) K H a ns hn hO hS
theorem rd_law : ∀ ds g Q, sp_law ds g Q → w_law { nx := fun _ g => Q .non g, rt := Q } (dstart N_law ds) g := fun ds g Q h => by
  unfold sp_law at h; split at h
  case h_2 => exact h.elim
  obtain ⟨ns, rfl, hn, q⟩ := h
  rw [st0_law]
  unfold w_law
  walk_at "au"
  refine ⟨ns, rfl, hn, fun s g1 es U1 hS f1 f2 => ?_⟩
  have F : Fr (.go s 0) g1 g1 [] := Fr.startG hS
  walk_at "ac"
  rename_i us W g2 u1 u2 u3 u4 F2 v g3 v0 v1 F3
  have u0 : us ≠ [] := fun e => by rw [e] at u1; simp at u1
  have u5 : us.length < 1000 := by omega
  refine cut1 3 (fun x3 g' => ∃ w : Nat, x3 = some (.int (w : Int)) ∧ 1 ≤ w ∧ w ≤ 8 ∧ Fr (.go s 2000) g1 g' [(W, .lst (us.map D.str), true)]) ?_ ?_
  · walk_at "au"
    rename_i ob g4 F4
    refine iteB (fun _ => ?_) (fun _ => ?_)
    · walk_at "au"
      rename_i v2 g5 v20 v21 F5
      exact ⟨_, rfl, (5 + v2).toNat, congrArg (fun z : Int => some (D.int z)) (by omega), by omega, by omega, F5.le (by omega)⟩
    · walk_at "au"
      exact ⟨_, rfl, (1 + v).toNat, congrArg (fun z : Int => some (D.int z)) (by omega), by omega, by omega, F4.le (by omega)⟩
  clear F2 F3
  rintro x3 g5 ⟨w, rfl, w1, w8, F5⟩
  dsimp only [List.set_cons_succ, List.set_cons_zero]
  walk_at "au"
  rename_i b g6 bk bl bn F6
  have b0 : b.sites ≠ [] := fun e => by rw [e] at bl; simp at bl; omega
  have b8 : b.sites.length ≤ 8 := by omega
  walk_at "au"
  rename_i o L n g7 k1 k2 k3 k4 k5 k6 F7
  have bd : BdsOk L := ⟨fun z hz => by have := (k4 z hz).len; omega, by omega⟩
  have om : o ∈ b.sites.map (·.name) := List.mem_map.mpr k1
  walk_at "au"
  rename_i Y g8 F8 e1 g9 ek el en F9
  have el : e1.sites.length = 2 := el
  have e0 : e1.sites ≠ [] := fun e => by rw [e] at el; simp at el
  have e8 : e1.sites.length ≤ 8 := by omega
  clear F5 F6 F7 F8
  walk_at "au"
  rename_i o1 L1 n1 g10 q1 q2 q3 q4 q5 q6 F10 g11 F11
  have bd1 : BdsOk L1 := ⟨fun z hz => by have := (q4 z hz).len; omega, by omega⟩
  have om1 : o1 ∈ e1.sites.map (·.name) := List.mem_map.mpr q1
  walk_at "au"
  rename_i Y2 g12 F12 g13 F13
  have F13 := F13.sub (.cons _ (List.Sublist.refl _))
  clear F9 F10 F11 F12
  refine s_anyT ?_
  walk_at "au"
  have hsl : (b.sites.map SiteR.d).length = b.sites.length := List.length_map ..
  refine lcM b.sites SiteR.d (fun s => .str s.name) F13 rfl (fun _ _ => trivial) (by omega) (fun i s g1 Q1 hi F1 k1 => ?_) (fun N g14 F14 => ?_)
  · walk_at "au"
    exact k1 _ .refl
  have enm : (b.sites.map fun s => DL.D.str s.name) = (b.sites.map (·.name)).map D.str := by rw [List.map_map]; rfl
  rw [enm] at F14
  have hN : ∀ z ∈ b.sites.map (·.name), sOk z := fun z hz => by
    obtain ⟨s, hs, rfl⟩ := List.mem_map.mp hz
    exact (bk.sites s hs).name.sOk
  have hnl : (b.sites.map (·.name)).length ≤ 8 := by rw [List.length_map]; exact b8
  have hos := hN o om
  obtain ⟨n0, nr, hnn⟩ : ∃ n0 nr, b.sites.map (·.name) = n0 :: nr := by
    cases h : b.sites.map (·.name) with
    | nil => exact absurd (List.map_eq_nil_iff.mp h) b0
    | cons a r => exact ⟨a, r, rfl⟩
  obtain ⟨y1, y2⟩ := lawW_ok (L := L) (n := n) bk b8 bn om
  rw [hnn] at F14 hN hnl
  generalize b.sites.map (·.name) = names at *
  walk_at "au"
  refine k_ixLN 0 rfl F14 0 rfl (d := .str n0) rfl ?_
  walk_at "au"
  refine s_anyL ?_
  walk_at "au"
  refine ⟨s, _, n0 :: nr, rfl, F14.src, by omega, F14.at 0 rfl, by omega, fun sx g15 hsx hsn G15 => ?_⟩
  have F15 := F14.call G15
  have hsxo := hsx.sOk
  clear F13 F14
  walk_at "au"
  rename_i vs P g16 vl vo F16
  clear F15
  have F16 : Fr (.go s (607030 + 2 * 0)) g1 g16 [(P, .lst (vs.map wyT), true), (N, .lst ((n0 :: nr).map D.str), true), (Y, .lst ((lawW b o L n).map wyT), true), (W, .lst (us.map D.str), true)] := F16.le (by omega)
  refine for3 10 11 12 (fun i x10 _ _ g' => ∃ gl : Str, x10 = some (.str gl) ∧ Fr (.go s (607030 + 2 * i)) g1 g' [(P, .lst (vs.map wyT), true), (N, .lst ((n0 :: nr).map D.str), true), (Y, .lst ((lawW b o L n).map wyT), true), (W, .lst (us.map D.str), true)]) ⟨_, _, _, rfl, n0, rfl, F16⟩ (fun _ _ _ _ g' _ ⟨_, _, h⟩ => .inl (h.at 0 rfl)) (fun i d x10 x11 x12 g17 hd hI => ?_) (fun x10 x11 x12 g17 hI => ?_)
  · obtain ⟨gl, rfl, F17⟩ := hI
    obtain ⟨v, hv, rfl⟩ := get_map hd
    have hi := (List.getElem?_eq_some_iff.mp hv).1
    have hvo := vo v (List.mem_of_getElem? hv)
    have hvl : (v.map D.str).length = v.length := List.length_map ..
    have hv3 := hvo.1
    clear F16
    dsimp only [List.set_cons_succ, List.set_cons_zero]
    walk_at "au"
    refine t_LpickD F17 (by omega) 1 _ rfl (by simp) (by rw [List.length_map]; omega) fun d g18 hd18 F18 => ?_
    obtain ⟨g0, hg0, rfl⟩ := List.mem_map.mp hd18
    clear F17
    refine cut1 10 (fun x10 g' => ∃ gl : Str, x10 = some (.str gl) ∧ Fr (.go s (607030 + 2 * i + 2)) g1 g' [(P, .lst (vs.map wyT), true), (N, .lst ((n0 :: nr).map D.str), true), (Y, .lst ((lawW b o L n).map wyT), true), (W, .lst (us.map D.str), true)]) ?_ ?_
    · walk_at "au"
      refine iteD (fun h0 => ?_) (fun h0 => ?_)
      · have hv0 : v ≠ [] := fun z => by rw [z] at h0; simp at h0
        have hvp := List.length_pos_iff.mpr hv0
        walk_at "au"
        refine v_ixTN (v.length - 1) (by omega) (ends_at hv0) ?_
        walk_at "au"
        refine iteD (fun h1 => ?_) (fun h1 => ?_)
        · walk_at "au"
          rename_i dv g19 d0 d1 F19
          refine iteN (fun _ => ?_) (fun _ => ?_)
          · walk_at "au"
            refine v_ixTN (v.length - 1) (by omega) (ends_at hv0) ?_
            walk_at "au"
            exact ⟨_, rfl, lastS v, rfl, F19.le (by omega)⟩
          · walk_at "au"
            exact ⟨_, rfl, g0, rfl, F19.le (by omega)⟩
        · refine iteB (fun z => by cases z) (fun _ => ?_)
          walk_at "au"
          exact ⟨_, rfl, g0, rfl, F18.le (by omega)⟩
      · refine iteB (fun z => by cases z) (fun _ => ?_)
        walk_at "au"
        exact ⟨_, rfl, g0, rfl, F18.le (by omega)⟩
    rintro x10 g19 ⟨gl, rfl, F19⟩
    clear F18
    dsimp only [List.set_cons_succ, List.set_cons_zero]
    refine cut1 12 (fun x12 g' => ∃ db : Bool, x12 = some (.bl db) ∧ (db = true ↔ jgB b o L n v ∧ lastS v = gl) ∧ Fr (.go s (607030 + 2 * i + 2)) g1 g' [(P, .lst (vs.map wyT), true), (N, .lst ((n0 :: nr).map D.str), true), (Y, .lst ((lawW b o L n).map wyT), true), (W, .lst (us.map D.str), true)]) ?_ ?_
    · walk_at "au"
      refine v_inLd (F19.at 2 rfl) (fine_way hvo.2) (pures_ways fun w hw => (y2 w hw).2.2) (by have := deps_ways (lawW b o L n); omega) ?_
      rw [any_way]
      walk_at "au"
      refine iteD (fun h1 => ?_) (fun h1 => ?_)
      · have hv0 := (y2 v h1).1
        have hvp := List.length_pos_iff.mpr hv0
        have hj := (jg_iff bn).mp h1
        walk_at "au"
        refine v_ixTN (v.length - 1) (by omega) (ends_at hv0) ?_
        walk_at "au"
        exact ⟨_, rfl, _, rfl, ⟨fun z => ⟨hj, of_decide_eq_true z⟩, fun z => decide_eq_true z.2⟩, F19⟩
      · walk_at "au"
        exact ⟨_, rfl, _, rfl, ⟨fun z => Bool.noConfusion z, fun z => absurd ((jg_iff bn).mpr z.1) h1⟩, F19⟩
    rintro x12 g20 ⟨db, rfl, hdb, F20⟩
    clear F19
    dsimp only [List.set_cons_succ, List.set_cons_zero]
    walk_at "au"
    refine ⟨b, o, L, n, v, rfl, rfl, rfl, bk, bd, by omega, fun r g21 hr U21 => ?_⟩
    have F21 := F20.up U21
    have er : r = db := Bool.eq_iff_iff.mpr (hr.trans hdb.symm)
    subst er
    walk_at "au"
    refine t_same ok_bl ?_
    walk_at "au"
    exact ⟨_, _, _, rfl, gl, rfl, Fr.le (by assumption) (by omega)⟩
  obtain ⟨gl, rfl, F17⟩ := hI
  clear F16
  have hl := law_least (o := o) (L := L) (n := n) bk b0 gl
  have hok : okT 12 (optW (lkS (wayL b o L n (b.sites.length - 1)) gl)) := ok_optW fun w hw => by
    rw [hw] at hl
    have := (y2 w hl.1).2.1
    omega
  dsimp only [List.set_cons_succ, List.set_cons_zero]
  walk_at "au"
  rename_i g18 F18
  refine ⟨lawW b o L n, F18.at 2 rfl, y1, fun w hw => ⟨(y2 w hw).1, by have := (y2 w hw).2.1; omega, (y2 w hw).2.2⟩, fun r g19 hr U19 => ?_⟩
  have e := leastW_uniq hr hl
  subst e
  refine t_same hok ?_
  exact q _
open PySem PySem.Spec PyProof.Rows L2 DL
def topS (i : Nat) : Stmt := PySem.Challenge.pw_criermoot_k21_least_ways.main.body.getD i (.Pass ⟨0, 0, 0, 0⟩)
abbrev s_with_stars : Stmt := topS 1
theorem sc_with_stars : FnScope N_with_stars ["glob", "reached"] (defScope s_with_stars) := ⟨rfl, rfl, rfl, by decide +kernel, rfl, by decide +kernel, by decide +kernel⟩
abbrev s_follows : Stmt := topS 2
theorem sc_follows : FnScope N_follows ["glob", "places", "character"] (defScope s_follows) := ⟨rfl, rfl, rfl, by decide +kernel, rfl, by decide +kernel, by decide +kernel⟩
abbrev s_standing : Stmt := topS 3
theorem sc_standing : FnScope N_standing ["glob", "beginning"] (defScope s_standing) := ⟨rfl, rfl, rfl, by decide +kernel, rfl, by decide +kernel, by decide +kernel⟩
abbrev s_fits : Stmt := topS 4
theorem sc_fits : FnScope N_fits ["glob", "board"] (defScope s_fits) := ⟨rfl, rfl, rfl, by decide +kernel, rfl, by decide +kernel, by decide +kernel⟩
abbrev s_lets : Stmt := topS 6
theorem sc_lets : FnScope N_lets ["pattern", "board"] (defScope s_lets) := ⟨rfl, rfl, rfl, by decide +kernel, rfl, by decide +kernel, by decide +kernel⟩
abbrev s_site_of : Stmt := topS 8
theorem sc_site_of : FnScope N_site_of ["book", "name"] (defScope s_site_of) := ⟨rfl, rfl, rfl, by decide +kernel, rfl, by decide +kernel, by decide +kernel⟩
abbrev s_feed_of : Stmt := topS 9
theorem sc_feed_of : FnScope N_feed_of ["book", "giver", "taker"] (defScope s_feed_of) := ⟨rfl, rfl, rfl, by decide +kernel, rfl, by decide +kernel, by decide +kernel⟩
abbrev s_carries : Stmt := topS 10
theorem sc_carries : FnScope N_carries ["book", "name", "boards"] (defScope s_carries) := ⟨rfl, rfl, rfl, by decide +kernel, rfl, by decide +kernel, by decide +kernel⟩
abbrev s_lets_some : Stmt := topS 12
theorem sc_lets_some : FnScope N_lets_some ["pattern", "boards"] (defScope s_lets_some) := ⟨rfl, rfl, rfl, by decide +kernel, rfl, by decide +kernel, by decide +kernel⟩
abbrev s_is_open : Stmt := topS 13
theorem sc_is_open : FnScope N_is_open ["feed", "boards", "size"] (defScope s_is_open) := ⟨rfl, rfl, rfl, by decide +kernel, rfl, by decide +kernel, by decide +kernel⟩
abbrev s_passes : Stmt := topS 14
theorem sc_passes : FnScope N_passes ["feed", "boards", "size", "hops"] (defScope s_passes) := ⟨rfl, rfl, rfl, by decide +kernel, rfl, by decide +kernel, by decide +kernel⟩
abbrev s_carriers : Stmt := topS 16
theorem sc_carriers : FnScope N_carriers ["book", "boards"] (defScope s_carriers) := ⟨rfl, rfl, rfl, by decide +kernel, rfl, by decide +kernel, by decide +kernel⟩
abbrev s_open_feeds : Stmt := topS 17
theorem sc_open_feeds : FnScope N_open_feeds ["book", "carried", "kind"] (defScope s_open_feeds) := ⟨rfl, rfl, rfl, by decide +kernel, rfl, by decide +kernel, by decide +kernel⟩
abbrev s_hops_over : Stmt := topS 18
theorem sc_hops_over : FnScope N_hops_over ["feeds", "origin", "rounds"] (defScope s_hops_over) := ⟨rfl, rfl, rfl, by decide +kernel, rfl, by decide +kernel, by decide +kernel⟩
abbrev s_least_hops : Stmt := topS 19
theorem sc_least_hops : FnScope N_least_hops ["book", "kind"] (defScope s_least_hops) := ⟨rfl, rfl, rfl, by decide +kernel, rfl, by decide +kernel, by decide +kernel⟩
abbrev s_Lmix : Stmt := topS 25
theorem sc_Lmix : FnScope N_Lmix ["seed", "turn"] (defScope s_Lmix) := ⟨rfl, rfl, rfl, by decide +kernel, rfl, by decide +kernel, by decide +kernel⟩
abbrev s_Lsource : Stmt := topS 26
theorem sc_Lsource : FnScope N_Lsource ["script"] (defScope s_Lsource) := ⟨rfl, rfl, rfl, by decide +kernel, rfl, by decide +kernel, by decide +kernel⟩
abbrev s_Ldraw : Stmt := topS 27
theorem sc_Ldraw : FnScope N_Ldraw ["source", "many"] (defScope s_Ldraw) := ⟨rfl, rfl, rfl, by decide +kernel, rfl, by decide +kernel, by decide +kernel⟩
abbrev s_Lpick : Stmt := topS 28
theorem sc_Lpick : FnScope N_Lpick ["source", "row"] (defScope s_Lpick) := ⟨rfl, rfl, rfl, by decide +kernel, rfl, by decide +kernel, by decide +kernel⟩
abbrev s_Lonce_in : Stmt := topS 29
theorem sc_Lonce_in : FnScope N_Lonce_in ["source", "many"] (defScope s_Lonce_in) := ⟨rfl, rfl, rfl, by decide +kernel, rfl, by decide +kernel, by decide +kernel⟩
abbrev s_Lshuffled : Stmt := topS 30
theorem sc_Lshuffled : FnScope N_Lshuffled ["source", "row"] (defScope s_Lshuffled) := ⟨rfl, rfl, rfl, by decide +kernel, rfl, by decide +kernel, by decide +kernel⟩
abbrev s_Lnew_name : Stmt := topS 31
theorem sc_Lnew_name : FnScope N_Lnew_name ["source", "used"] (defScope s_Lnew_name) := ⟨rfl, rfl, rfl, by decide +kernel, rfl, by decide +kernel, by decide +kernel⟩
abbrev s_Lnames : Stmt := topS 32
theorem sc_Lnames : FnScope N_Lnames ["source", "many"] (defScope s_Lnames) := ⟨rfl, rfl, rfl, by decide +kernel, rfl, by decide +kernel, by decide +kernel⟩
abbrev s_Lwords : Stmt := topS 33
theorem sc_Lwords : FnScope N_Lwords ["source"] (defScope s_Lwords) := ⟨rfl, rfl, rfl, by decide +kernel, rfl, by decide +kernel, by decide +kernel⟩
abbrev s_Lboard : Stmt := topS 34
theorem sc_Lboard : FnScope N_Lboard ["source", "words"] (defScope s_Lboard) := ⟨rfl, rfl, rfl, by decide +kernel, rfl, by decide +kernel, by decide +kernel⟩
abbrev s_Lboards : Stmt := topS 35
theorem sc_Lboards : FnScope N_Lboards ["source", "words", "most"] (defScope s_Lboards) := ⟨rfl, rfl, rfl, by decide +kernel, rfl, by decide +kernel, by decide +kernel⟩
abbrev s_Lglob : Stmt := topS 36
theorem sc_Lglob : FnScope N_Lglob ["source", "words"] (defScope s_Lglob) := ⟨rfl, rfl, rfl, by decide +kernel, rfl, by decide +kernel, by decide +kernel⟩
abbrev s_Lpattern : Stmt := topS 37
theorem sc_Lpattern : FnScope N_Lpattern ["source", "words"] (defScope s_Lpattern) := ⟨rfl, rfl, rfl, by decide +kernel, rfl, by decide +kernel, by decide +kernel⟩
abbrev s_Lfits : Stmt := topS 38
theorem sc_Lfits : FnScope N_Lfits ["glob", "board"] (defScope s_Lfits) := ⟨rfl, rfl, rfl, by decide +kernel, rfl, by decide +kernel, by decide +kernel⟩
abbrev s_Llets : Stmt := topS 39
theorem sc_Llets : FnScope N_Llets ["pattern", "board"] (defScope s_Llets) := ⟨rfl, rfl, rfl, by decide +kernel, rfl, by decide +kernel, by decide +kernel⟩
abbrev s_Llets_some : Stmt := topS 40
theorem sc_Llets_some : FnScope N_Llets_some ["pattern", "boards"] (defScope s_Llets_some) := ⟨rfl, rfl, rfl, by decide +kernel, rfl, by decide +kernel, by decide +kernel⟩
abbrev s_Lis_int : Stmt := topS 41
theorem sc_Lis_int : FnScope N_Lis_int ["value"] (defScope s_Lis_int) := ⟨rfl, rfl, rfl, by decide +kernel, rfl, by decide +kernel, by decide +kernel⟩
abbrev s_Lsame : Stmt := topS 42
theorem sc_Lsame : FnScope N_Lsame ["actual", "due"] (defScope s_Lsame) := ⟨rfl, rfl, rfl, by decide +kernel, rfl, by decide +kernel, by decide +kernel⟩
abbrev s_Llines : Stmt := topS 43
theorem sc_Llines : FnScope N_Llines ["source", "names"] (defScope s_Llines) := ⟨rfl, rfl, rfl, by decide +kernel, rfl, by decide +kernel, by decide +kernel⟩
abbrev s_least_ways : Stmt := topS 21
theorem sc_least_ways : FnScope N_least_ways ["book", "kind"] (defScope s_least_ways) := ⟨rfl, rfl, rfl, by decide +kernel, rfl, by decide +kernel, by decide +kernel⟩
abbrev s_least_way : Stmt := topS 22
theorem sc_least_way : FnScope N_least_way ["book", "kind", "site"] (defScope s_least_way) := ⟨rfl, rfl, rfl, by decide +kernel, rfl, by decide +kernel, by decide +kernel⟩
abbrev s_judge_way : Stmt := topS 23
theorem sc_judge_way : FnScope N_judge_way ["book", "kind", "site", "way"] (defScope s_judge_way) := ⟨rfl, rfl, rfl, by decide +kernel, rfl, by decide +kernel, by decide +kernel⟩
abbrev s_Lall_lines : Stmt := topS 44
theorem sc_Lall_lines : FnScope N_Lall_lines ["names"] (defScope s_Lall_lines) := ⟨rfl, rfl, rfl, by decide +kernel, rfl, by decide +kernel, by decide +kernel⟩
abbrev s_Lnet : Stmt := topS 45
theorem sc_Lnet : FnScope N_Lnet ["source", "many", "words"] (defScope s_Lnet) := ⟨rfl, rfl, rfl, by decide +kernel, rfl, by decide +kernel, by decide +kernel⟩
abbrev s_Lkind : Stmt := topS 46
theorem sc_Lkind : FnScope N_Lkind ["source", "book", "words"] (defScope s_Lkind) := ⟨rfl, rfl, rfl, by decide +kernel, rfl, by decide +kernel, by decide +kernel⟩
abbrev s_Lways : Stmt := topS 47
theorem sc_Lways : FnScope N_Lways ["book", "kind"] (defScope s_Lways) := ⟨rfl, rfl, rfl, by decide +kernel, rfl, by decide +kernel, by decide +kernel⟩
abbrev s_Lleast : Stmt := topS 48
theorem sc_Lleast : FnScope N_Lleast ["ways", "name"] (defScope s_Lleast) := ⟨rfl, rfl, rfl, by decide +kernel, rfl, by decide +kernel, by decide +kernel⟩
abbrev s_Lbent : Stmt := topS 49
theorem sc_Lbent : FnScope N_Lbent ["source", "way", "words"] (defScope s_Lbent) := ⟨rfl, rfl, rfl, by decide +kernel, rfl, by decide +kernel, by decide +kernel⟩
abbrev s_Lled : Stmt := topS 50
theorem sc_Lled : FnScope N_Lled ["source", "book", "name"] (defScope s_Lled) := ⟨rfl, rfl, rfl, by decide +kernel, rfl, by decide +kernel, by decide +kernel⟩
abbrev s_Ltuples : Stmt := topS 51
theorem sc_Ltuples : FnScope N_Ltuples ["source", "book", "origin", "ways", "strange"] (defScope s_Ltuples) := ⟨rfl, rfl, rfl, by decide +kernel, rfl, by decide +kernel, by decide +kernel⟩
abbrev s_Lleast_right : Stmt := topS 52
theorem sc_Lleast_right : FnScope N_Lleast_right ["book", "kind", "ways"] (defScope s_Lleast_right) := ⟨rfl, rfl, rfl, by decide +kernel, rfl, by decide +kernel, by decide +kernel⟩
abbrev s_law : Stmt := topS 53
theorem sc_law : FnScope N_law ["script"] (defScope s_law) := ⟨rfl, rfl, rfl, by decide +kernel, rfl, by decide +kernel, by decide +kernel⟩
structure Fx (K : PySem.W.Frag) (mg : Str → Option Value) where
  a_with_stars : Addr
  d_with_stars : FuncData
  F_with_stars : Fun K "with_stars" "with_stars" s_with_stars a_with_stars d_with_stars
  g_with_stars : mg "with_stars" = some (.ref a_with_stars)
  b_with_stars : Binds K d_with_stars ["glob", "reached"] []
  a_follows : Addr
  d_follows : FuncData
  F_follows : Fun K "follows" "follows" s_follows a_follows d_follows
  g_follows : mg "follows" = some (.ref a_follows)
  b_follows : Binds K d_follows ["glob", "places", "character"] []
  a_standing : Addr
  d_standing : FuncData
  F_standing : Fun K "standing" "standing" s_standing a_standing d_standing
  g_standing : mg "standing" = some (.ref a_standing)
  b_standing : Binds K d_standing ["glob", "beginning"] []
  a_fits : Addr
  d_fits : FuncData
  F_fits : Fun K "fits" "fits" s_fits a_fits d_fits
  g_fits : mg "fits" = some (.ref a_fits)
  b_fits : Binds K d_fits ["glob", "board"] []
  a_lets : Addr
  d_lets : FuncData
  F_lets : Fun K "lets" "lets" s_lets a_lets d_lets
  g_lets : mg "lets" = some (.ref a_lets)
  b_lets : Binds K d_lets ["pattern", "board"] []
  a_site_of : Addr
  d_site_of : FuncData
  F_site_of : Fun K "site_of" "site_of" s_site_of a_site_of d_site_of
  g_site_of : mg "site_of" = some (.ref a_site_of)
  b_site_of : Binds K d_site_of ["book", "name"] []
  a_feed_of : Addr
  d_feed_of : FuncData
  F_feed_of : Fun K "feed_of" "feed_of" s_feed_of a_feed_of d_feed_of
  g_feed_of : mg "feed_of" = some (.ref a_feed_of)
  b_feed_of : Binds K d_feed_of ["book", "giver", "taker"] []
  a_carries : Addr
  d_carries : FuncData
  F_carries : Fun K "carries" "carries" s_carries a_carries d_carries
  g_carries : mg "carries" = some (.ref a_carries)
  b_carries : Binds K d_carries ["book", "name", "boards"] []
  a_lets_some : Addr
  d_lets_some : FuncData
  F_lets_some : Fun K "lets_some" "lets_some" s_lets_some a_lets_some d_lets_some
  g_lets_some : mg "lets_some" = some (.ref a_lets_some)
  b_lets_some : Binds K d_lets_some ["pattern", "boards"] []
  a_is_open : Addr
  d_is_open : FuncData
  F_is_open : Fun K "is_open" "is_open" s_is_open a_is_open d_is_open
  g_is_open : mg "is_open" = some (.ref a_is_open)
  b_is_open : Binds K d_is_open ["feed", "boards", "size"] []
  a_passes : Addr
  d_passes : FuncData
  F_passes : Fun K "passes" "passes" s_passes a_passes d_passes
  g_passes : mg "passes" = some (.ref a_passes)
  b_passes : Binds K d_passes ["feed", "boards", "size", "hops"] []
  a_carriers : Addr
  d_carriers : FuncData
  F_carriers : Fun K "carriers" "carriers" s_carriers a_carriers d_carriers
  g_carriers : mg "carriers" = some (.ref a_carriers)
  b_carriers : Binds K d_carriers ["book", "boards"] []
  a_open_feeds : Addr
  d_open_feeds : FuncData
  F_open_feeds : Fun K "open_feeds" "open_feeds" s_open_feeds a_open_feeds d_open_feeds
  g_open_feeds : mg "open_feeds" = some (.ref a_open_feeds)
  b_open_feeds : Binds K d_open_feeds ["book", "carried", "kind"] []
  a_hops_over : Addr
  d_hops_over : FuncData
  F_hops_over : Fun K "hops_over" "hops_over" s_hops_over a_hops_over d_hops_over
  g_hops_over : mg "hops_over" = some (.ref a_hops_over)
  b_hops_over : Binds K d_hops_over ["feeds", "origin", "rounds"] []
  a_least_hops : Addr
  d_least_hops : FuncData
  F_least_hops : Fun K "least_hops" "least_hops" s_least_hops a_least_hops d_least_hops
  g_least_hops : mg "least_hops" = some (.ref a_least_hops)
  b_least_hops : Binds K d_least_hops ["book", "kind"] []
  a_Lmix : Addr
  d_Lmix : FuncData
  F_Lmix : Fun K "_law_mix" "_law_mix" s_Lmix a_Lmix d_Lmix
  g_Lmix : mg "_law_mix" = some (.ref a_Lmix)
  b_Lmix : Binds K d_Lmix ["seed", "turn"] []
  a_Lsource : Addr
  d_Lsource : FuncData
  F_Lsource : Fun K "_law_source" "_law_source" s_Lsource a_Lsource d_Lsource
  g_Lsource : mg "_law_source" = some (.ref a_Lsource)
  b_Lsource : Binds K d_Lsource ["script"] []
  a_Ldraw : Addr
  d_Ldraw : FuncData
  F_Ldraw : Fun K "_law_draw" "_law_draw" s_Ldraw a_Ldraw d_Ldraw
  g_Ldraw : mg "_law_draw" = some (.ref a_Ldraw)
  b_Ldraw : Binds K d_Ldraw ["source", "many"] []
  a_Lpick : Addr
  d_Lpick : FuncData
  F_Lpick : Fun K "_law_pick" "_law_pick" s_Lpick a_Lpick d_Lpick
  g_Lpick : mg "_law_pick" = some (.ref a_Lpick)
  b_Lpick : Binds K d_Lpick ["source", "row"] []
  a_Lonce_in : Addr
  d_Lonce_in : FuncData
  F_Lonce_in : Fun K "_law_once_in" "_law_once_in" s_Lonce_in a_Lonce_in d_Lonce_in
  g_Lonce_in : mg "_law_once_in" = some (.ref a_Lonce_in)
  b_Lonce_in : Binds K d_Lonce_in ["source", "many"] []
  a_Lshuffled : Addr
  d_Lshuffled : FuncData
  F_Lshuffled : Fun K "_law_shuffled" "_law_shuffled" s_Lshuffled a_Lshuffled d_Lshuffled
  g_Lshuffled : mg "_law_shuffled" = some (.ref a_Lshuffled)
  b_Lshuffled : Binds K d_Lshuffled ["source", "row"] []
  a_Lnew_name : Addr
  d_Lnew_name : FuncData
  F_Lnew_name : Fun K "_law_new_name" "_law_new_name" s_Lnew_name a_Lnew_name d_Lnew_name
  g_Lnew_name : mg "_law_new_name" = some (.ref a_Lnew_name)
  b_Lnew_name : Binds K d_Lnew_name ["source", "used"] []
  a_Lnames : Addr
  d_Lnames : FuncData
  F_Lnames : Fun K "_law_names" "_law_names" s_Lnames a_Lnames d_Lnames
  g_Lnames : mg "_law_names" = some (.ref a_Lnames)
  b_Lnames : Binds K d_Lnames ["source", "many"] []
  a_Lwords : Addr
  d_Lwords : FuncData
  F_Lwords : Fun K "_law_words" "_law_words" s_Lwords a_Lwords d_Lwords
  g_Lwords : mg "_law_words" = some (.ref a_Lwords)
  b_Lwords : Binds K d_Lwords ["source"] []
  a_Lboard : Addr
  d_Lboard : FuncData
  F_Lboard : Fun K "_law_board" "_law_board" s_Lboard a_Lboard d_Lboard
  g_Lboard : mg "_law_board" = some (.ref a_Lboard)
  b_Lboard : Binds K d_Lboard ["source", "words"] []
  a_Lboards : Addr
  d_Lboards : FuncData
  F_Lboards : Fun K "_law_boards" "_law_boards" s_Lboards a_Lboards d_Lboards
  g_Lboards : mg "_law_boards" = some (.ref a_Lboards)
  b_Lboards : Binds K d_Lboards ["source", "words", "most"] []
  a_Lglob : Addr
  d_Lglob : FuncData
  F_Lglob : Fun K "_law_glob" "_law_glob" s_Lglob a_Lglob d_Lglob
  g_Lglob : mg "_law_glob" = some (.ref a_Lglob)
  b_Lglob : Binds K d_Lglob ["source", "words"] []
  a_Lpattern : Addr
  d_Lpattern : FuncData
  F_Lpattern : Fun K "_law_pattern" "_law_pattern" s_Lpattern a_Lpattern d_Lpattern
  g_Lpattern : mg "_law_pattern" = some (.ref a_Lpattern)
  b_Lpattern : Binds K d_Lpattern ["source", "words"] []
  a_Lfits : Addr
  d_Lfits : FuncData
  F_Lfits : Fun K "_law_fits" "_law_fits" s_Lfits a_Lfits d_Lfits
  g_Lfits : mg "_law_fits" = some (.ref a_Lfits)
  b_Lfits : Binds K d_Lfits ["glob", "board"] []
  a_Llets : Addr
  d_Llets : FuncData
  F_Llets : Fun K "_law_lets" "_law_lets" s_Llets a_Llets d_Llets
  g_Llets : mg "_law_lets" = some (.ref a_Llets)
  b_Llets : Binds K d_Llets ["pattern", "board"] []
  a_Llets_some : Addr
  d_Llets_some : FuncData
  F_Llets_some : Fun K "_law_lets_some" "_law_lets_some" s_Llets_some a_Llets_some d_Llets_some
  g_Llets_some : mg "_law_lets_some" = some (.ref a_Llets_some)
  b_Llets_some : Binds K d_Llets_some ["pattern", "boards"] []
  a_Lis_int : Addr
  d_Lis_int : FuncData
  F_Lis_int : Fun K "_law_is_int" "_law_is_int" s_Lis_int a_Lis_int d_Lis_int
  g_Lis_int : mg "_law_is_int" = some (.ref a_Lis_int)
  b_Lis_int : Binds K d_Lis_int ["value"] []
  a_Lsame : Addr
  d_Lsame : FuncData
  F_Lsame : Fun K "_law_same" "_law_same" s_Lsame a_Lsame d_Lsame
  g_Lsame : mg "_law_same" = some (.ref a_Lsame)
  b_Lsame : Binds K d_Lsame ["actual", "due"] []
  a_Llines : Addr
  d_Llines : FuncData
  F_Llines : Fun K "_law_lines" "_law_lines" s_Llines a_Llines d_Llines
  g_Llines : mg "_law_lines" = some (.ref a_Llines)
  b_Llines : Binds K d_Llines ["source", "names"] []
  a_least_ways : Addr
  d_least_ways : FuncData
  F_least_ways : Fun K "least_ways" "least_ways" s_least_ways a_least_ways d_least_ways
  g_least_ways : mg "least_ways" = some (.ref a_least_ways)
  b_least_ways : Binds K d_least_ways ["book", "kind"] []
  a_least_way : Addr
  d_least_way : FuncData
  F_least_way : Fun K "least_way" "least_way" s_least_way a_least_way d_least_way
  g_least_way : mg "least_way" = some (.ref a_least_way)
  b_least_way : Binds K d_least_way ["book", "kind", "site"] []
  a_judge_way : Addr
  d_judge_way : FuncData
  F_judge_way : Fun K "judge_way" "judge_way" s_judge_way a_judge_way d_judge_way
  g_judge_way : mg "judge_way" = some (.ref a_judge_way)
  b_judge_way : Binds K d_judge_way ["book", "kind", "site", "way"] []
  a_Lall_lines : Addr
  d_Lall_lines : FuncData
  F_Lall_lines : Fun K "_law_all_lines" "_law_all_lines" s_Lall_lines a_Lall_lines d_Lall_lines
  g_Lall_lines : mg "_law_all_lines" = some (.ref a_Lall_lines)
  b_Lall_lines : Binds K d_Lall_lines ["names"] []
  a_Lnet : Addr
  d_Lnet : FuncData
  F_Lnet : Fun K "_law_net" "_law_net" s_Lnet a_Lnet d_Lnet
  g_Lnet : mg "_law_net" = some (.ref a_Lnet)
  b_Lnet : Binds K d_Lnet ["source", "many", "words"] []
  a_Lkind : Addr
  d_Lkind : FuncData
  F_Lkind : Fun K "_law_kind" "_law_kind" s_Lkind a_Lkind d_Lkind
  g_Lkind : mg "_law_kind" = some (.ref a_Lkind)
  b_Lkind : Binds K d_Lkind ["source", "book", "words"] []
  a_Lways : Addr
  d_Lways : FuncData
  F_Lways : Fun K "_law_ways" "_law_ways" s_Lways a_Lways d_Lways
  g_Lways : mg "_law_ways" = some (.ref a_Lways)
  b_Lways : Binds K d_Lways ["book", "kind"] []
  a_Lleast : Addr
  d_Lleast : FuncData
  F_Lleast : Fun K "_law_least" "_law_least" s_Lleast a_Lleast d_Lleast
  g_Lleast : mg "_law_least" = some (.ref a_Lleast)
  b_Lleast : Binds K d_Lleast ["ways", "name"] []
  a_Lbent : Addr
  d_Lbent : FuncData
  F_Lbent : Fun K "_law_bent" "_law_bent" s_Lbent a_Lbent d_Lbent
  g_Lbent : mg "_law_bent" = some (.ref a_Lbent)
  b_Lbent : Binds K d_Lbent ["source", "way", "words"] []
  a_Lled : Addr
  d_Lled : FuncData
  F_Lled : Fun K "_law_led" "_law_led" s_Lled a_Lled d_Lled
  g_Lled : mg "_law_led" = some (.ref a_Lled)
  b_Lled : Binds K d_Lled ["source", "book", "name"] []
  a_Ltuples : Addr
  d_Ltuples : FuncData
  F_Ltuples : Fun K "_law_tuples" "_law_tuples" s_Ltuples a_Ltuples d_Ltuples
  g_Ltuples : mg "_law_tuples" = some (.ref a_Ltuples)
  b_Ltuples : Binds K d_Ltuples ["source", "book", "origin", "ways", "strange"] []
  a_Lleast_right : Addr
  d_Lleast_right : FuncData
  F_Lleast_right : Fun K "_law_least_right" "_law_least_right" s_Lleast_right a_Lleast_right d_Lleast_right
  g_Lleast_right : mg "_law_least_right" = some (.ref a_Lleast_right)
  b_Lleast_right : Binds K d_Lleast_right ["book", "kind", "ways"] []
  a_law : Addr
  d_law : FuncData
  F_law : Fun K "law" "law" s_law a_law d_law
  g_law : mg "law" = some (.ref a_law)
  b_law : Binds K d_law ["script"] []
  m_abs : mg "abs" = none
  m_any : mg "any" = none
  m_bool : mg "bool" = none
  m_int : mg "int" = none
  m_isinstance : mg "isinstance" = none
  m_len : mg "len" = none
  m_list : mg "list" = none
  m_max : mg "max" = none
  m_min : mg "min" = none
  m_range : mg "range" = none
  m_reversed : mg "reversed" = none
  m_sorted : mg "sorted" = none
  m_str : mg "str" = none
  m_tuple : mg "tuple" = none
section
variable {P : Program} {w : World} {K : PySem.W.Frag} {mg : Str → Option Value} {base : Heap}
theorem ok_with_stars (T : Fx K mg) : FnOk P w K mg base CX0 1 T.a_with_stars T.d_with_stars ["glob", "reached"] (lSp K sp_with_stars) :=
  okD T.F_with_stars sc_with_stars len_with_stars rd_with_stars fun cdv A outer s H E hr =>
    (dss_cons (ds_set (i := 2) (fun _ h => ps_set sc_with_stars.nd rfl (by first | exact .inl rfl | exact .inr rfl) h) (de_lst da_nil))
    (dss_cons (ds_for PassesOwn.never rfl (di_range1 (by rfl) T.m_range (de_op op_addD (de_callB call_lenD (by rfl) T.m_len (by decide +kernel) (da_cons (de_var (pv 0)) da_nil)) de_int)) (dg_name (pg_name (i := 3) sc_with_stars.nd rfl (by first | exact .inl rfl | exact .inr rfl))) (dss_one (ds_if (dt_din (hu_of hr) (de_var (pv 3)) (de_var (pv 1)) (by rfl)) (dss_one (ds_expr (de_bm PySem.F.plainAttrs_list PySem.F.slot_list_append PySem.F.type_list_append mt_appD (de_var (pv 2)) (da_cons (de_var (pv 3)) da_nil)))) (dss_one (ds_if (DW.dt (dw_and (dt_cmp (op_gtD hr.units) (de_var (pv 3)) de_int (nomark _)) (dw_and (dt_cmp (op_eqDD hr.units) (de_ix (de_var (pv 0)) (de_op op_subD (de_var (pv 3)) de_int) (fun _ _ => rfl)) de_str (nomark _)) (dw_and1 (dt_cmp (op_inDD (u65 hr)) (de_op op_subD (de_var (pv 3)) de_int) (de_var (pv 2)) (by rfl)))))) (dss_one (ds_expr (de_bm PySem.F.plainAttrs_list PySem.F.slot_list_append PySem.F.type_list_append mt_appD (de_var (pv 2)) (da_cons (de_var (pv 3)) da_nil)))) dss_nil)))))
    (dss_one (ds_ret (de_callTy call_tupF (by rfl) T.m_tuple (by decide +kernel) (da_cons (de_var (pv 2)) da_nil))))))
theorem ok_follows (T : Fx K mg) : FnOk P w K mg base CX0 2 T.a_follows T.d_follows ["glob", "places", "character"] (lSp K sp_follows) :=
  okD T.F_follows sc_follows len_follows rd_follows fun cdv A outer s H E hr =>
    (dss_cons (ds_set (i := 3) (fun _ h => ps_set sc_follows.nd rfl (by first | exact .inl rfl | exact .inr rfl) h) de_dnew)
    (dss_cons (ds_for PassesOwn.never rfl (di_any (de_var (pv 1))) (dg_name (pg_name (i := 4) sc_follows.nd rfl (by first | exact .inl rfl | exact .inr rfl))) (dss_cons (ds_if (DW.dt (dw_and (dt_cmp (op_gtD hr.units) (de_var (pv 4)) de_int (nomark _)) (dw_and1 (dt_cmp (op_eqDD hr.units) (de_ix (de_var (pv 0)) (de_op op_subD (de_var (pv 4)) de_int) (fun _ _ => rfl)) de_str (nomark _))))) (dss_one (ds_dput (hu_of hr) (de_var (pv 3)) (de_var (pv 4)) de_bl)) dss_nil)
    (dss_one (ds_if (DW.dt (dw_and (dt_cmp (op_ltD hr.units) (de_var (pv 4)) (de_callB call_lenD (by rfl) T.m_len (by decide +kernel) (da_cons (de_var (pv 0)) da_nil)) (nomark _)) (dw_and1 (dt_cmp (op_inDD (u65 hr)) (de_ix (de_var (pv 0)) (de_var (pv 4)) (fun _ _ => rfl)) (de_tup (da_cons de_str (da_cons (de_var (pv 2)) da_nil))) (by rfl))))) (dss_one (ds_dput (hu_of hr) (de_var (pv 3)) (de_op op_addD (de_var (pv 4)) de_int) de_bl)) dss_nil))))
    (dss_one (ds_ret (de_call ((ok_with_stars T).mono (by decide)) hr (by rfl) T.g_with_stars T.F_with_stars.kp T.b_with_stars .nil (fun _ => .nil) (da_cons (de_var (pv 0)) (da_cons (de_var (pv 3)) da_nil)))))))
theorem ok_standing (T : Fx K mg) : FnOk P w K mg base CX0 3 T.a_standing T.d_standing ["glob", "beginning"] (lSp K sp_standing) :=
  okD T.F_standing sc_standing len_standing rd_standing fun cdv A outer s H E hr =>
    (dss_cons (ds_set (i := 2) (fun _ h => ps_set sc_standing.nd rfl (by first | exact .inl rfl | exact .inr rfl) h) (de_call ((ok_with_stars T).mono (by decide)) hr (by rfl) T.g_with_stars T.F_with_stars.kp T.b_with_stars .nil (fun _ => .nil) (da_cons (de_var (pv 0)) (da_cons (de_disp (dps_cons de_int de_bl dps_nil) (by rfl) (by rfl) (fun z => by cases z) (by decide)) da_nil))))
    (dss_cons (ds_for PassesOwn.never rfl (di_any (de_var (pv 1))) (dg_name (pg_name (i := 3) sc_standing.nd rfl (by first | exact .inl rfl | exact .inr rfl))) (dss_cons (ds_if (dt_not (dt_tru (de_var (pv 2)))) (dss_one ds_break) dss_nil)
    (dss_one (ds_set (i := 2) (fun _ h => ps_set sc_standing.nd rfl (by first | exact .inl rfl | exact .inr rfl) h) (de_call ((ok_follows T).mono (by decide)) hr (by rfl) T.g_follows T.F_follows.kp T.b_follows .nil (fun _ => .nil) (da_cons (de_var (pv 0)) (da_cons (de_var (pv 2)) (da_cons (de_var (pv 3)) da_nil))))))))
    (dss_one (ds_ret (de_var (pv 2))))))
theorem ok_fits (T : Fx K mg) : FnOk P w K mg base CX0 4 T.a_fits T.d_fits ["glob", "board"] (lSp K sp_fits) :=
  okD T.F_fits sc_fits len_fits rd_fits fun cdv A outer s H E hr =>
    (dss_cons (ds_if (dt_cmp (op_eqDD hr.units) (de_var (pv 0)) de_str (nomark _)) (dss_one (ds_ret de_bl)) dss_nil)
    (dss_cons (ds_if (DW.dt (dw_and (dt_cmp (op_notInDD (u65 hr)) de_str (de_var (pv 0)) (by rfl)) (dw_and1 (dt_cmp (op_notInDD (u65 hr)) de_str (de_var (pv 0)) (by rfl))))) (dss_one (ds_ret (de_cmp (op_eqDD hr.units) (de_var (pv 0)) (de_var (pv 1)) (nomark _)))) dss_nil)
    (dss_one (ds_ret (de_cmp (op_inDD (u65 hr)) (de_callB call_lenD (by rfl) T.m_len (by decide +kernel) (da_cons (de_var (pv 0)) da_nil)) (de_call ((ok_standing T).mono (by decide)) hr (by rfl) T.g_standing T.F_standing.kp T.b_standing .nil (fun _ => .nil) (da_cons (de_var (pv 0)) (da_cons (de_var (pv 1)) da_nil))) (by rfl))))))
theorem ok_lets (T : Fx K mg) : FnOk P w K mg base CX0 5 T.a_lets T.d_lets ["pattern", "board"] (lSp K sp_lets) :=
  okD T.F_lets sc_lets len_lets rd_lets fun cdv A outer s H E hr =>
    (dss_cons (ds_for PassesOwn.never rfl (di_rev (by rfl) T.m_reversed (de_bm PySem.F.plainAttrs_str PySem.F.slot_str_split PySem.F.type_str_split mt_splitD (de_var (pv 0)) (da_cons de_str da_nil))) (dg_name (pg_name (i := 2) sc_lets.nd rfl (by first | exact .inl rfl | exact .inr rfl))) (dss_one (ds_if (dt_cmp (op_eqDD hr.units) (de_ix (de_var (pv 2)) de_int (fun _ _ => rfl)) de_str (nomark _)) (dss_one (ds_if (dt_tru (de_call ((ok_fits T).mono (by decide)) hr (by rfl) T.g_fits T.F_fits.kp T.b_fits .nil (fun _ => .nil) (da_cons (de_sl (de_var (pv 2)) (do_some de_int) do_no) (da_cons (de_var (pv 1)) da_nil)))) (dss_one (ds_ret de_bl)) dss_nil)) (dss_one (ds_if (dt_tru (de_call ((ok_fits T).mono (by decide)) hr (by rfl) T.g_fits T.F_fits.kp T.b_fits .nil (fun _ => .nil) (da_cons (de_var (pv 2)) (da_cons (de_var (pv 1)) da_nil)))) (dss_one (ds_ret de_bl)) dss_nil)))))
    (dss_one (ds_ret de_bl)))
theorem ok_site_of (T : Fx K mg) : FnOk P w K mg base CX0 1 T.a_site_of T.d_site_of ["book", "name"] (lSp K sp_site_of) :=
  okD T.F_site_of sc_site_of len_site_of rd_site_of fun cdv A outer s H E hr =>
    (dss_cons (ds_for PassesOwn.never rfl (di_any (de_ix (de_var (pv 0)) de_int (fun _ _ => rfl))) (dg_name (pg_name (i := 2) sc_site_of.nd rfl (by first | exact .inl rfl | exact .inr rfl))) (dss_one (ds_if (dt_cmp (op_eqDD hr.units) (de_ix (de_var (pv 2)) de_int (fun _ _ => rfl)) (de_var (pv 1)) (nomark _)) (dss_one (ds_ret (de_var (pv 2)))) dss_nil)))
    (dss_one (ds_ret de_non)))
theorem ok_feed_of (T : Fx K mg) : FnOk P w K mg base CX0 1 T.a_feed_of T.d_feed_of ["book", "giver", "taker"] (lSp K sp_feed_of) :=
  okD T.F_feed_of sc_feed_of len_feed_of rd_feed_of fun cdv A outer s H E hr =>
    (dss_cons (ds_for PassesOwn.never rfl (di_any (de_ix (de_var (pv 0)) de_int (fun _ _ => rfl))) (dg_name (pg_name (i := 3) sc_feed_of.nd rfl (by first | exact .inl rfl | exact .inr rfl))) (dss_one (ds_if (DW.dt (dw_and (dt_cmp (op_eqDD hr.units) (de_ix (de_var (pv 3)) de_int (fun _ _ => rfl)) (de_var (pv 1)) (nomark _)) (dw_and1 (dt_cmp (op_eqDD hr.units) (de_ix (de_var (pv 3)) de_int (fun _ _ => rfl)) (de_var (pv 2)) (nomark _))))) (dss_one (ds_ret (de_var (pv 3)))) dss_nil)))
    (dss_one (ds_ret de_non)))
theorem ok_carries (T : Fx K mg) : FnOk P w K mg base CX0 6 T.a_carries T.d_carries ["book", "name", "boards"] (lSp K sp_carries) :=
  okD T.F_carries sc_carries len_carries rd_carries fun cdv A outer s H E hr =>
    (dss_cons (ds_set (i := 3) (fun _ h => ps_set sc_carries.nd rfl (by first | exact .inl rfl | exact .inr rfl) h) (de_ix (de_call ((ok_site_of T).mono (by decide)) hr (by rfl) T.g_site_of T.F_site_of.kp T.b_site_of .nil (fun _ => .nil) (da_cons (de_var (pv 0)) (da_cons (de_var (pv 1)) da_nil))) de_int (fun _ _ => rfl)))
    (dss_one (ds_ret (de_callB (call_anyD rfl) (by rfl) T.m_any (by decide +kernel) (da_cons (de_lc (x := "board") (j := 4) rfl sc_carries.nd (di_any (de_var (pv 2))) (blkOk_by (own := [("board", 4)]) (N := N_carries) (sc := defScope s_carries) (by decide +kernel)) (fun _ _ _ _ _ => pg_name (i := 4) sc_carries.nd rfl (by first | exact .inl rfl | exact .inr rfl)) (fun _ _ _ _ _ => dts_nil) (fun _ _ _ _ _ => (de_call ((ok_lets T).mono (by decide)) hr (by rfl) T.g_lets T.F_lets.kp T.b_lets .nil (fun _ => .nil) (da_cons (de_var (pv 3)) (da_cons (de_var (pv 4)) da_nil))))) da_nil)))))
theorem ok_lets_some (T : Fx K mg) : FnOk P w K mg base CX0 6 T.a_lets_some T.d_lets_some ["pattern", "boards"] (lSp K sp_lets_some) :=
  okD T.F_lets_some sc_lets_some len_lets_some rd_lets_some fun cdv A outer s H E hr =>
    (dss_one (ds_ret (de_callB (call_anyD rfl) (by rfl) T.m_any (by decide +kernel) (da_cons (de_lc (x := "board") (j := 2) rfl sc_lets_some.nd (di_any (de_var (pv 1))) (blkOk_by (own := [("board", 2)]) (N := N_lets_some) (sc := defScope s_lets_some) (by decide +kernel)) (fun _ _ _ _ _ => pg_name (i := 2) sc_lets_some.nd rfl (by first | exact .inl rfl | exact .inr rfl)) (fun _ _ _ _ _ => dts_nil) (fun _ _ _ _ _ => (de_call ((ok_lets T).mono (by decide)) hr (by rfl) T.g_lets T.F_lets.kp T.b_lets .nil (fun _ => .nil) (da_cons (de_var (pv 0)) (da_cons (de_var (pv 2)) da_nil))))) da_nil))))
theorem ok_is_open (T : Fx K mg) : FnOk P w K mg base CX0 7 T.a_is_open T.d_is_open ["feed", "boards", "size"] (lSp K sp_is_open) :=
  okD T.F_is_open sc_is_open len_is_open rd_is_open fun cdv A outer s H E hr =>
    (dss_one (ds_ret (de_and (de_cmp (op_leD hr.units) (de_var (pv 2)) (de_ix (de_var (pv 0)) de_int (fun _ _ => rfl)) (nomark _)) (de_one (de_call ((ok_lets_some T).mono (by decide)) hr (by rfl) T.g_lets_some T.F_lets_some.kp T.b_lets_some .nil (fun _ => .nil) (da_cons (de_ix (de_var (pv 0)) de_int (fun _ _ => rfl)) (da_cons (de_var (pv 1)) da_nil)))))))
theorem ok_passes (T : Fx K mg) : FnOk P w K mg base CX0 8 T.a_passes T.d_passes ["feed", "boards", "size", "hops"] (lSp K sp_passes) :=
  okD T.F_passes sc_passes len_passes rd_passes fun cdv A outer s H E hr =>
    (dss_one (ds_ret (de_and (de_cmp (op_leD hr.units) (de_op op_addD (de_var (pv 3)) de_int) (de_ix (de_var (pv 0)) de_int (fun _ _ => rfl)) (nomark _)) (de_one (de_call ((ok_is_open T).mono (by decide)) hr (by rfl) T.g_is_open T.F_is_open.kp T.b_is_open .nil (fun _ => .nil) (da_cons (de_var (pv 0)) (da_cons (de_var (pv 1)) (da_cons (de_var (pv 2)) da_nil))))))))
theorem ok_carriers (T : Fx K mg) : FnOk P w K mg base CX0 7 T.a_carriers T.d_carriers ["book", "boards"] (lSp K sp_carriers) :=
  okD T.F_carriers sc_carriers len_carriers rd_carriers fun cdv A outer s H E hr =>
    (dss_one (ds_ret (de_lc (x := "site") (j := 2) rfl sc_carriers.nd (di_any (de_ix (de_var (pv 0)) de_int (fun _ _ => rfl))) (blkOk_by (own := [("site", 2)]) (N := N_carriers) (sc := defScope s_carriers) (by decide +kernel)) (fun _ _ _ _ _ => pg_name (i := 2) sc_carriers.nd rfl (by first | exact .inl rfl | exact .inr rfl)) (fun _ _ _ _ _ => (dts_one (dt_tru (de_call ((ok_carries T).mono (by decide)) hr (by rfl) T.g_carries T.F_carries.kp T.b_carries .nil (fun _ => .nil) (da_cons (de_var (pv 0)) (da_cons (de_ix (de_var (pv 2)) de_int (fun _ _ => rfl)) (da_cons (de_var (pv 1)) da_nil))))))) (fun _ _ _ _ _ => (de_ix (de_var (pv 2)) de_int (fun _ _ => rfl))))))
theorem ok_open_feeds (T : Fx K mg) : FnOk P w K mg base CX0 8 T.a_open_feeds T.d_open_feeds ["book", "carried", "kind"] (lSp K sp_open_feeds) :=
  okD T.F_open_feeds sc_open_feeds len_open_feeds rd_open_feeds fun cdv A outer s H E hr =>
    (dss_cons (ds_set (i := 3) (fun _ h => ps_set sc_open_feeds.nd rfl (by first | exact .inl rfl | exact .inr rfl) h) (de_lst da_nil))
    (dss_cons (ds_for PassesOwn.never rfl (di_any (de_ix (de_var (pv 0)) de_int (fun _ _ => rfl))) (dg_name (pg_name (i := 4) sc_open_feeds.nd rfl (by first | exact .inl rfl | exact .inr rfl))) (dss_one (ds_if (DW.dt (dw_and (dt_cmp (op_inDD (u65 hr)) (de_ix (de_var (pv 4)) de_int (fun _ _ => rfl)) (de_var (pv 1)) (by rfl)) (dw_and (dt_cmp (op_inDD (u65 hr)) (de_ix (de_var (pv 4)) de_int (fun _ _ => rfl)) (de_var (pv 1)) (by rfl)) (dw_and1 (dt_tru (de_call ((ok_is_open T).mono (by decide)) hr (by rfl) T.g_is_open T.F_is_open.kp T.b_is_open .nil (fun _ => .nil) (da_cons (de_var (pv 4)) (da_cons (de_ix (de_var (pv 2)) de_int (fun _ _ => rfl)) (da_cons (de_ix (de_var (pv 2)) de_int (fun _ _ => rfl)) da_nil))))))))) (dss_one (ds_expr (de_bm PySem.F.plainAttrs_list PySem.F.slot_list_append PySem.F.type_list_append mt_appD (de_var (pv 3)) (da_cons (de_var (pv 4)) da_nil)))) dss_nil)))
    (dss_one (ds_ret (de_var (pv 3))))))
theorem ok_hops_over (T : Fx K mg) : FnOk P w K mg base CX0 1 T.a_hops_over T.d_hops_over ["feeds", "origin", "rounds"] (lSp K sp_hops_over) :=
  okD T.F_hops_over sc_hops_over len_hops_over rd_hops_over fun cdv A outer s H E hr =>
    (dss_cons (ds_set (i := 3) (fun _ h => ps_set sc_hops_over.nd rfl (by first | exact .inl rfl | exact .inr rfl) h) de_dnew)
    (dss_cons (ds_dput (hu_of hr) (de_var (pv 3)) (de_var (pv 1)) de_int)
    (dss_cons (ds_for PassesOwn.never rfl (di_range2 (by rfl) T.m_range de_int (de_op op_addD (de_var (pv 2)) de_int)) (dg_name (pg_name (i := 4) sc_hops_over.nd rfl (by first | exact .inl rfl | exact .inr rfl))) (dss_one (ds_for PassesOwn.never rfl (di_any (de_var (pv 0))) (dg_name (pg_name (i := 5) sc_hops_over.nd rfl (by first | exact .inl rfl | exact .inr rfl))) (dss_one (ds_if (DW.dt (dw_and (dt_cmp (op_eqDD hr.units) (de_dget1 (hu_of hr) (de_var (pv 3)) (de_ix (de_var (pv 5)) de_int (fun _ _ => rfl))) (de_op op_subD (de_var (pv 4)) de_int) (nomark _)) (dw_and (dt_cmp (op_leD hr.units) (de_var (pv 4)) (de_ix (de_var (pv 5)) de_int (fun _ _ => rfl)) (nomark _)) (dw_and1 (dt_dnotin (hu_of hr) (de_ix (de_var (pv 5)) de_int (fun _ _ => rfl)) (de_var (pv 3)) (by rfl)))))) (dss_one (ds_dput (hu_of hr) (de_var (pv 3)) (de_ix (de_var (pv 5)) de_int (fun _ _ => rfl)) (de_var (pv 4)))) dss_nil)))))
    (dss_one (ds_ret (de_var (pv 3)))))))
theorem ok_least_hops (T : Fx K mg) : FnOk P w K mg base CX0 9 T.a_least_hops T.d_least_hops ["book", "kind"] (lSp K sp_least_hops) :=
  okD T.F_least_hops sc_least_hops len_least_hops rd_least_hops fun cdv A outer s H E hr =>
    (dss_cons (ds_set (i := 2) (fun _ h => ps_set sc_least_hops.nd rfl (by first | exact .inl rfl | exact .inr rfl) h) (de_call ((ok_carriers T).mono (by decide)) hr (by rfl) T.g_carriers T.F_carriers.kp T.b_carriers .nil (fun _ => .nil) (da_cons (de_var (pv 0)) (da_cons (de_ix (de_var (pv 1)) de_int (fun _ _ => rfl)) da_nil))))
    (dss_cons (ds_if (dt_cmp (op_notInDD (u65 hr)) (de_ix (de_var (pv 1)) de_int (fun _ _ => rfl)) (de_var (pv 2)) (by rfl)) (dss_one (ds_ret de_dnew)) dss_nil)
    (dss_one (ds_ret (de_call ((ok_hops_over T).mono (by decide)) hr (by rfl) T.g_hops_over T.F_hops_over.kp T.b_hops_over .nil (fun _ => .nil) (da_cons (de_call ((ok_open_feeds T).mono (by decide)) hr (by rfl) T.g_open_feeds T.F_open_feeds.kp T.b_open_feeds .nil (fun _ => .nil) (da_cons (de_var (pv 0)) (da_cons (de_var (pv 2)) (da_cons (de_var (pv 1)) da_nil)))) (da_cons (de_ix (de_var (pv 1)) de_int (fun _ _ => rfl)) (da_cons (de_op op_subD (de_callB call_lenD (by rfl) T.m_len (by decide +kernel) (da_cons (de_ix (de_var (pv 0)) de_int (fun _ _ => rfl)) da_nil)) de_int) da_nil))))))))
theorem ok_Lmix (T : Fx K mg) : FnOk P w K mg base CX0 1 T.a_Lmix T.d_Lmix ["seed", "turn"] (lSp K sp_Lmix) :=
  okD T.F_Lmix sc_Lmix len_Lmix rd_Lmix fun cdv A outer s H E hr =>
    (dss_cons (ds_set (i := 2) (fun _ h => ps_set sc_Lmix.nd rfl (by first | exact .inl rfl | exact .inr rfl) h) (de_op op_modD (de_callTy call_intF (by rfl) T.m_int (by decide +kernel) (da_cons (de_op op_addD (de_op op_addD (de_op op_mulD (de_var (pv 0)) de_int) (de_op op_mulD (de_var (pv 1)) de_int)) de_int) da_nil)) de_int))
    (dss_cons (ds_set (i := 2) (fun _ h => ps_set sc_Lmix.nd rfl (by first | exact .inl rfl | exact .inr rfl) h) (de_op op_modD (de_callTy call_intF (by rfl) T.m_int (by decide +kernel) (da_cons (de_op op_addD (de_op op_addD (de_op op_mulD (de_var (pv 2)) (de_var (pv 2))) (de_op op_mulD (de_var (pv 1)) de_int)) de_int) da_nil)) de_int))
    (dss_cons (ds_set (i := 2) (fun _ h => ps_set sc_Lmix.nd rfl (by first | exact .inl rfl | exact .inr rfl) h) (de_op op_modD (de_callTy call_intF (by rfl) T.m_int (by decide +kernel) (da_cons (de_op op_addD (de_op op_addD (de_op op_mulD (de_var (pv 2)) de_int) (de_op op_mulD (de_op op_mulD (de_var (pv 1)) (de_var (pv 1))) de_int)) de_int) da_nil)) de_int))
    (dss_one (ds_ret (de_var (pv 2)))))))
theorem ok_Lsource (T : Fx K mg) : FnOk P w K mg base CX0 2 T.a_Lsource T.d_Lsource ["script"] (lSp K sp_Lsource) :=
  okD T.F_Lsource sc_Lsource len_Lsource rd_Lsource fun cdv A outer s H E hr =>
    (dss_cons (ds_set (i := 1) (fun _ h => ps_set sc_Lsource.nd rfl (by first | exact .inl rfl | exact .inr rfl) h) de_int)
    (dss_cons (ds_for PassesOwn.never rfl (di_range1 (by rfl) T.m_range (de_callB call_lenD (by rfl) T.m_len (by decide +kernel) (da_cons (de_var (pv 0)) da_nil))) (dg_name (pg_name (i := 2) sc_Lsource.nd rfl (by first | exact .inl rfl | exact .inr rfl))) (dss_one (ds_set (i := 1) (fun _ h => ps_set sc_Lsource.nd rfl (by first | exact .inl rfl | exact .inr rfl) h) (de_call ((ok_Lmix T).mono (by decide)) hr (by rfl) T.g_Lmix T.F_Lmix.kp T.b_Lmix .nil (fun _ => .nil) (da_cons (de_op op_addD (de_var (pv 1)) (de_op op_modD (de_callTy call_intF (by rfl) T.m_int (by decide +kernel) (da_cons (de_ix (de_var (pv 0)) (de_var (pv 2)) (fun _ _ => rfl)) da_nil)) de_int)) (da_cons (de_var (pv 2)) da_nil))))))
    (dss_one (ds_ret (de_lst (da_cons (de_callTy call_lstF (by rfl) T.m_list (by decide +kernel) (da_cons (de_var (pv 0)) da_nil)) (da_cons de_int (da_cons de_int (da_cons (de_var (pv 1)) (da_cons de_int da_nil))))))))))
theorem ok_Ldraw (T : Fx K mg) : FnOk P w K mg base CX0 2 T.a_Ldraw T.d_Ldraw ["source", "many"] (lSp K sp_Ldraw) :=
  okD T.F_Ldraw sc_Ldraw len_Ldraw rd_Ldraw fun cdv A outer s H E hr =>
    (dss_cons (ds_if (DW.dt (dw_and (dt_cmp (op_eqDD hr.units) (de_ix (de_var (pv 0)) de_int (fun _ _ => rfl)) de_int (nomark _)) (dw_and (dt_cmp (op_ltD hr.units) (de_ix (de_var (pv 0)) de_int (fun _ _ => rfl)) (de_callB call_lenD (by rfl) T.m_len (by decide +kernel) (da_cons (de_ix (de_var (pv 0)) de_int (fun _ _ => rfl)) da_nil)) (nomark _)) (dw_and1 (dt_cmp (op_eqDD hr.units) (de_op op_modD (de_callTy call_intF (by rfl) T.m_int (by decide +kernel) (da_cons (de_ix (de_var (pv 0)) de_int (fun _ _ => rfl)) da_nil)) de_int) de_int (nomark _)))))) (dss_cons (ds_set (i := 2) (fun _ h => ps_set sc_Ldraw.nd rfl (by first | exact .inl rfl | exact .inr rfl) h) (de_ix (de_ix (de_var (pv 0)) de_int (fun _ _ => rfl)) (de_ix (de_var (pv 0)) de_int (fun _ _ => rfl)) (fun _ _ => rfl)))
    (dss_cons (ds_asg (de_op op_addD (de_ix (de_var (pv 0)) de_int (fun _ _ => rfl)) de_int) (dg_sub (de_var (pv 0)) de_int))
    (dss_one (ds_if (dt_cmp (op_geD hr.units) (de_callB call_absD (by rfl) T.m_abs (by decide +kernel) (da_cons (de_var (pv 2)) da_nil)) (de_op op_powD de_int de_int) (nomark _)) (dss_one (ds_asg (de_op op_andD (de_callB call_absD (by rfl) T.m_abs (by decide +kernel) (da_cons (de_var (pv 2)) da_nil)) (de_op op_subD (de_op op_shlD de_int de_int) de_int)) (dg_sub (de_var (pv 0)) de_int))) (dss_one (ds_asg (de_call ((ok_Lmix T).mono (by decide)) hr (by rfl) T.g_Lmix T.F_Lmix.kp T.b_Lmix .nil (fun _ => .nil) (da_cons (de_op op_addD (de_ix (de_var (pv 0)) de_int (fun _ _ => rfl)) (de_op op_modD (de_callTy call_intF (by rfl) T.m_int (by decide +kernel) (da_cons (de_var (pv 2)) da_nil)) de_int)) (da_cons (de_ix (de_var (pv 0)) de_int (fun _ _ => rfl)) da_nil))) (dg_sub (de_var (pv 0)) de_int))))))) dss_nil)
    (dss_cons (ds_if (dt_cmp (op_gtD hr.units) (de_ix (de_var (pv 0)) de_int (fun _ _ => rfl)) de_int (nomark _)) (dss_cons (ds_set (i := 3) (fun _ h => ps_set sc_Ldraw.nd rfl (by first | exact .inl rfl | exact .inr rfl) h) (de_op op_modD (de_callTy call_intF (by rfl) T.m_int (by decide +kernel) (da_cons (de_ix (de_var (pv 0)) de_int (fun _ _ => rfl)) da_nil)) (de_var (pv 1))))
    (dss_cons (ds_asg (de_op op_fdivD (de_callTy call_intF (by rfl) T.m_int (by decide +kernel) (da_cons (de_ix (de_var (pv 0)) de_int (fun _ _ => rfl)) da_nil)) (de_var (pv 1))) (dg_sub (de_var (pv 0)) de_int))
    (dss_one (ds_ret (de_var (pv 3)))))) dss_nil)
    (dss_cons (ds_asg (de_op op_addD (de_ix (de_var (pv 0)) de_int (fun _ _ => rfl)) de_int) (dg_sub (de_var (pv 0)) de_int))
    (dss_one (ds_ret (de_op op_modD (de_callTy call_intF (by rfl) T.m_int (by decide +kernel) (da_cons (de_op op_fdivD (de_call ((ok_Lmix T).mono (by decide)) hr (by rfl) T.g_Lmix T.F_Lmix.kp T.b_Lmix .nil (fun _ => .nil) (da_cons (de_ix (de_var (pv 0)) de_int (fun _ _ => rfl)) (da_cons (de_ix (de_var (pv 0)) de_int (fun _ _ => rfl)) da_nil))) de_int) da_nil)) (de_var (pv 1))))))))
theorem ok_Lpick (T : Fx K mg) : FnOk P w K mg base CX0 3 T.a_Lpick T.d_Lpick ["source", "row"] (lSp K sp_Lpick) :=
  okD T.F_Lpick sc_Lpick len_Lpick rd_Lpick fun cdv A outer s H E hr =>
    (dss_one (ds_ret (de_ix (de_var (pv 1)) (de_call ((ok_Ldraw T).mono (by decide)) hr (by rfl) T.g_Ldraw T.F_Ldraw.kp T.b_Ldraw .nil (fun _ => .nil) (da_cons (de_var (pv 0)) (da_cons (de_callB call_lenD (by rfl) T.m_len (by decide +kernel) (da_cons (de_var (pv 1)) da_nil)) da_nil))) (fun _ _ => rfl))))
theorem ok_Lonce_in (T : Fx K mg) : FnOk P w K mg base CX0 3 T.a_Lonce_in T.d_Lonce_in ["source", "many"] (lSp K sp_Lonce_in) :=
  okD T.F_Lonce_in sc_Lonce_in len_Lonce_in rd_Lonce_in fun cdv A outer s H E hr =>
    (dss_one (ds_ret (de_cmp (op_eqDD hr.units) (de_call ((ok_Ldraw T).mono (by decide)) hr (by rfl) T.g_Ldraw T.F_Ldraw.kp T.b_Ldraw .nil (fun _ => .nil) (da_cons (de_var (pv 0)) (da_cons (de_var (pv 1)) da_nil))) (de_op op_fdivD (de_var (pv 1)) de_int) (nomark _))))
theorem ok_Lshuffled (T : Fx K mg) : FnOk P w K mg base CX0 3 T.a_Lshuffled T.d_Lshuffled ["source", "row"] (lSp K sp_Lshuffled) :=
  okD T.F_Lshuffled sc_Lshuffled len_Lshuffled rd_Lshuffled fun cdv A outer s H E hr =>
    (dss_cons (ds_set (i := 2) (fun _ h => ps_set sc_Lshuffled.nd rfl (by first | exact .inl rfl | exact .inr rfl) h) (de_callTy call_lstF (by rfl) T.m_list (by decide +kernel) (da_cons (de_var (pv 1)) da_nil)))
    (dss_cons (ds_set (i := 3) (fun _ h => ps_set sc_Lshuffled.nd rfl (by first | exact .inl rfl | exact .inr rfl) h) (de_lst da_nil))
    (dss_cons (ds_for PassesOwn.never rfl (di_range1 (by rfl) T.m_range (de_callB call_lenD (by rfl) T.m_len (by decide +kernel) (da_cons (de_var (pv 1)) da_nil))) (dg_name (pg_name (i := 4) sc_Lshuffled.nd rfl (by first | exact .inl rfl | exact .inr rfl))) (dss_one (ds_expr (de_bm PySem.F.plainAttrs_list PySem.F.slot_list_append PySem.F.type_list_append mt_appD (de_var (pv 3)) (da_cons (de_bm PySem.F.plainAttrs_list PySem.F.slot_list_pop PySem.F.type_list_pop mt_popD (de_var (pv 2)) (da_cons (de_call ((ok_Ldraw T).mono (by decide)) hr (by rfl) T.g_Ldraw T.F_Ldraw.kp T.b_Ldraw .nil (fun _ => .nil) (da_cons (de_var (pv 0)) (da_cons (de_callB call_lenD (by rfl) T.m_len (by decide +kernel) (da_cons (de_var (pv 2)) da_nil)) da_nil))) da_nil)) da_nil)))))
    (dss_one (ds_ret (de_var (pv 3)))))))
theorem ok_Lnew_name (T : Fx K mg) : FnOk P w K mg base CX0 3 T.a_Lnew_name T.d_Lnew_name ["source", "used"] (lSp K sp_Lnew_name) :=
  okD T.F_Lnew_name sc_Lnew_name len_Lnew_name rd_Lnew_name fun cdv A outer s H E hr =>
    (dss_cons (ds_set (i := 2) (fun _ h => ps_set sc_Lnew_name.nd rfl (by first | exact .inl rfl | exact .inr rfl) h) de_str)
    (dss_cons (ds_set (i := 3) (fun _ h => ps_set sc_Lnew_name.nd rfl (by first | exact .inl rfl | exact .inr rfl) h) (de_op op_addD de_int (de_call ((ok_Ldraw T).mono (by decide)) hr (by rfl) T.g_Ldraw T.F_Ldraw.kp T.b_Ldraw .nil (fun _ => .nil) (da_cons (de_var (pv 0)) (da_cons de_int da_nil)))))
    (dss_cons (ds_set (i := 4) (fun _ h => ps_set sc_Lnew_name.nd rfl (by first | exact .inl rfl | exact .inr rfl) h) (de_ix (de_var (pv 2)) (de_call ((ok_Ldraw T).mono (by decide)) hr (by rfl) T.g_Ldraw T.F_Ldraw.kp T.b_Ldraw .nil (fun _ => .nil) (da_cons (de_var (pv 0)) (da_cons de_int da_nil))) (fun _ _ => rfl)))
    (dss_cons (ds_for PassesOwn.never rfl (di_range1 (by rfl) T.m_range (de_op op_subD (de_var (pv 3)) de_int)) (dg_name (pg_name (i := 5) sc_Lnew_name.nd rfl (by first | exact .inl rfl | exact .inr rfl))) (dss_one (ds_set (i := 4) (fun _ h => ps_set sc_Lnew_name.nd rfl (by first | exact .inl rfl | exact .inr rfl) h) (de_op op_addD (de_var (pv 4)) (de_ix (de_op op_addD (de_var (pv 2)) de_str) (de_call ((ok_Ldraw T).mono (by decide)) hr (by rfl) T.g_Ldraw T.F_Ldraw.kp T.b_Ldraw .nil (fun _ => .nil) (da_cons (de_var (pv 0)) (da_cons de_int da_nil))) (fun _ _ => rfl))))))
    (dss_cons (ds_for PassesOwn.never rfl (di_range1 (by rfl) T.m_range (de_op op_addD (de_callB call_lenD (by rfl) T.m_len (by decide +kernel) (da_cons (de_var (pv 1)) da_nil)) de_int)) (dg_name (pg_name (i := 5) sc_Lnew_name.nd rfl (by first | exact .inl rfl | exact .inr rfl))) (dss_cons (ds_set (i := 6) (fun _ h => ps_set sc_Lnew_name.nd rfl (by first | exact .inl rfl | exact .inr rfl) h) (de_op op_addD (de_var (pv 4)) (de_ix (de_lst (da_cons de_str (da_cons (de_callTy call_strF (by rfl) T.m_str (by decide +kernel) (da_cons (de_var (pv 5)) da_nil)) da_nil))) (de_callTy call_intF (by rfl) T.m_int (by decide +kernel) (da_cons (de_cmp (op_gtD hr.units) (de_var (pv 5)) de_int (nomark _)) da_nil)) (fun _ _ => rfl))))
    (dss_one (ds_if (dt_cmp (op_notInDD (u65 hr)) (de_var (pv 6)) (de_var (pv 1)) (by rfl)) (dss_one (ds_ret (de_var (pv 6)))) dss_nil))))
    (dss_one (ds_ret (de_var (pv 4)))))))))
theorem ok_Lnames (T : Fx K mg) : FnOk P w K mg base CX0 4 T.a_Lnames T.d_Lnames ["source", "many"] (lSp K sp_Lnames) :=
  okD T.F_Lnames sc_Lnames len_Lnames rd_Lnames fun cdv A outer s H E hr =>
    (dss_cons (ds_set (i := 2) (fun _ h => ps_set sc_Lnames.nd rfl (by first | exact .inl rfl | exact .inr rfl) h) (de_lst da_nil))
    (dss_cons (ds_for PassesOwn.never rfl (di_range1 (by rfl) T.m_range (de_var (pv 1))) (dg_name (pg_name (i := 3) sc_Lnames.nd rfl (by first | exact .inl rfl | exact .inr rfl))) (dss_one (ds_expr (de_bm PySem.F.plainAttrs_list PySem.F.slot_list_append PySem.F.type_list_append mt_appD (de_var (pv 2)) (da_cons (de_call ((ok_Lnew_name T).mono (by decide)) hr (by rfl) T.g_Lnew_name T.F_Lnew_name.kp T.b_Lnew_name .nil (fun _ => .nil) (da_cons (de_var (pv 0)) (da_cons (de_var (pv 2)) da_nil))) da_nil)))))
    (dss_one (ds_ret (de_var (pv 2))))))
theorem ok_Lwords (T : Fx K mg) : FnOk P w K mg base CX0 5 T.a_Lwords T.d_Lwords ["source"] (lSp K sp_Lwords) :=
  okD T.F_Lwords sc_Lwords len_Lwords rd_Lwords fun cdv A outer s H E hr =>
    (dss_one (ds_ret (de_call ((ok_Lnames T).mono (by decide)) hr (by rfl) T.g_Lnames T.F_Lnames.kp T.b_Lnames .nil (fun _ => .nil) (da_cons (de_var (pv 0)) (da_cons (de_op op_addD de_int (de_call ((ok_Ldraw T).mono (by decide)) hr (by rfl) T.g_Ldraw T.F_Ldraw.kp T.b_Ldraw .nil (fun _ => .nil) (da_cons (de_var (pv 0)) (da_cons de_int da_nil)))) da_nil)))))
theorem ok_Lboard (T : Fx K mg) : FnOk P w K mg base CX0 4 T.a_Lboard T.d_Lboard ["source", "words"] (lSp K sp_Lboard) :=
  okD T.F_Lboard sc_Lboard len_Lboard rd_Lboard fun cdv A outer s H E hr =>
    (dss_cons (ds_set (i := 2) (fun _ h => ps_set sc_Lboard.nd rfl (by first | exact .inl rfl | exact .inr rfl) h) (de_op op_addD de_int (de_call ((ok_Ldraw T).mono (by decide)) hr (by rfl) T.g_Ldraw T.F_Ldraw.kp T.b_Ldraw .nil (fun _ => .nil) (da_cons (de_var (pv 0)) (da_cons de_int da_nil)))))
    (dss_one (ds_ret (de_bm PySem.F.plainAttrs_str PySem.F.slot_str_join PySem.F.type_str_join mt_joinD de_str (da_cons (de_lc (x := "k") (j := 3) rfl sc_Lboard.nd (di_range1 (by rfl) T.m_range (de_var (pv 2))) (blkOk_by (own := [("k", 3)]) (N := N_Lboard) (sc := defScope s_Lboard) (by decide +kernel)) (fun _ _ _ _ _ => pg_name (i := 3) sc_Lboard.nd rfl (by first | exact .inl rfl | exact .inr rfl)) (fun _ _ _ _ _ => dts_nil) (fun _ _ _ _ _ => (de_call ((ok_Lpick T).mono (by decide)) hr (by rfl) T.g_Lpick T.F_Lpick.kp T.b_Lpick .nil (fun _ => .nil) (da_cons (de_var (pv 0)) (da_cons (de_var (pv 1)) da_nil))))) da_nil)))))
theorem ok_Lboards (T : Fx K mg) : FnOk P w K mg base CX0 5 T.a_Lboards T.d_Lboards ["source", "words", "most"] (lSp K sp_Lboards) :=
  okD T.F_Lboards sc_Lboards len_Lboards rd_Lboards fun cdv A outer s H E hr =>
    (dss_cons (ds_set (i := 3) (fun _ h => ps_set sc_Lboards.nd rfl (by first | exact .inl rfl | exact .inr rfl) h) (de_lst da_nil))
    (dss_cons (ds_for PassesOwn.never rfl (di_range1 (by rfl) T.m_range (de_op op_addD de_int (de_call ((ok_Ldraw T).mono (by decide)) hr (by rfl) T.g_Ldraw T.F_Ldraw.kp T.b_Ldraw .nil (fun _ => .nil) (da_cons (de_var (pv 0)) (da_cons (de_var (pv 2)) da_nil))))) (dg_name (pg_name (i := 4) sc_Lboards.nd rfl (by first | exact .inl rfl | exact .inr rfl))) (dss_cons (ds_set (i := 5) (fun _ h => ps_set sc_Lboards.nd rfl (by first | exact .inl rfl | exact .inr rfl) h) (de_call ((ok_Lboard T).mono (by decide)) hr (by rfl) T.g_Lboard T.F_Lboard.kp T.b_Lboard .nil (fun _ => .nil) (da_cons (de_var (pv 0)) (da_cons (de_var (pv 1)) da_nil))))
    (dss_one (ds_if (dt_cmp (op_notInDD (u65 hr)) (de_var (pv 5)) (de_var (pv 3)) (by rfl)) (dss_one (ds_expr (de_bm PySem.F.plainAttrs_list PySem.F.slot_list_append PySem.F.type_list_append mt_appD (de_var (pv 3)) (da_cons (de_var (pv 5)) da_nil)))) dss_nil))))
    (dss_one (ds_ret (de_callTy call_tupF (by rfl) T.m_tuple (by decide +kernel) (da_cons (de_var (pv 3)) da_nil))))))
theorem ok_Lglob (T : Fx K mg) : FnOk P w K mg base CX0 5 T.a_Lglob T.d_Lglob ["source", "words"] (lSp K sp_Lglob) :=
  okD T.F_Lglob sc_Lglob len_Lglob rd_Lglob fun cdv A outer s H E hr =>
    (dss_cons (ds_set (i := 2) (fun _ h => ps_set sc_Lglob.nd rfl (by first | exact .inl rfl | exact .inr rfl) h) (de_call ((ok_Lpick T).mono (by decide)) hr (by rfl) T.g_Lpick T.F_Lpick.kp T.b_Lpick .nil (fun _ => .nil) (da_cons (de_var (pv 0)) (da_cons (de_var (pv 1)) da_nil))))
    (dss_cons (ds_set (i := 3) (fun _ h => ps_set sc_Lglob.nd rfl (by first | exact .inl rfl | exact .inr rfl) h) (de_lst (da_cons (de_call ((ok_Lboard T).mono (by decide)) hr (by rfl) T.g_Lboard T.F_Lboard.kp T.b_Lboard .nil (fun _ => .nil) (da_cons (de_var (pv 0)) (da_cons (de_var (pv 1)) da_nil))) (da_cons (de_op op_addD (de_var (pv 2)) de_str) (da_cons (de_op op_addD de_str (de_var (pv 2))) (da_cons (de_op op_addD (de_var (pv 2)) de_str) (da_cons (de_op op_addD (de_op op_addD de_str (de_sl (de_var (pv 2)) (do_some de_int) do_no)) de_str) da_nil)))))))
    (dss_one (ds_ret (de_call ((ok_Lpick T).mono (by decide)) hr (by rfl) T.g_Lpick T.F_Lpick.kp T.b_Lpick .nil (fun _ => .nil) (da_cons (de_var (pv 0)) (da_cons (de_op op_addD (de_var (pv 3)) (de_lst (da_cons (de_op op_addD (de_op op_addD de_str (de_sl (de_var (pv 2)) (do_some (de_un un_negD de_int)) do_no)) de_str) (da_cons (de_op op_addD (de_var (pv 2)) de_str) (da_cons de_str da_nil))))) da_nil)))))))
theorem ok_Lpattern (T : Fx K mg) : FnOk P w K mg base CX0 6 T.a_Lpattern T.d_Lpattern ["source", "words"] (lSp K sp_Lpattern) :=
  okD T.F_Lpattern sc_Lpattern len_Lpattern rd_Lpattern fun cdv A outer s H E hr =>
    (dss_cons (ds_set (i := 2) (fun _ h => ps_set sc_Lpattern.nd rfl (by first | exact .inl rfl | exact .inr rfl) h) (de_op op_addD de_int (de_call ((ok_Ldraw T).mono (by decide)) hr (by rfl) T.g_Ldraw T.F_Ldraw.kp T.b_Ldraw .nil (fun _ => .nil) (da_cons (de_var (pv 0)) (da_cons de_int da_nil)))))
    (dss_cons (ds_setLc (x := "k") (j := 4) (i := 3) rfl sc_Lpattern.nd rfl rfl (sw_true rfl rfl rfl (by decide +kernel)) (di_range1 (by rfl) T.m_range (de_var (pv 2))) (blkOk_by (own := [("k", 4)]) (N := N_Lpattern) (sc := defScope s_Lpattern) (by decide +kernel)) (fun _ _ _ _ _ => pg_name (i := 4) sc_Lpattern.nd rfl (by first | exact .inl rfl | exact .inr rfl)) (fun _ _ _ _ _ => dts_nil) (fun _ _ _ _ _ => (de_op op_addD (de_ix (de_lst (da_cons de_str (da_cons de_str da_nil))) (de_callTy call_intF (by rfl) T.m_int (by decide +kernel) (da_cons (de_and (de_cmp (op_gtD hr.units) (de_var (pv 4)) de_int (nomark _)) (de_one (de_cmp (op_eqDD hr.units) (de_call ((ok_Ldraw T).mono (by decide)) hr (by rfl) T.g_Ldraw T.F_Ldraw.kp T.b_Ldraw .nil (fun _ => .nil) (da_cons (de_var (pv 0)) (da_cons de_int da_nil))) de_int (nomark _)))) da_nil)) (fun _ _ => rfl)) (de_call ((ok_Lglob T).mono (by decide)) hr (by rfl) T.g_Lglob T.F_Lglob.kp T.b_Lglob .nil (fun _ => .nil) (da_cons (de_var (pv 0)) (da_cons (de_var (pv 1)) da_nil))))))
    (dss_cons (ds_while PassesOwn.never (DW.dt (dw_and (dt_cmp (op_gtD hr.units) (de_callB call_lenD (by rfl) T.m_len (by decide +kernel) (da_cons (de_var (pv 3)) da_nil)) de_int (nomark _)) (dw_and1 (dt_cmp (op_gtD hr.units) (de_callB call_lenD (by rfl) T.m_len (by decide +kernel) (da_cons (de_bm PySem.F.plainAttrs_str PySem.F.slot_str_join PySem.F.type_str_join mt_joinD de_str (da_cons (de_var (pv 3)) da_nil)) da_nil)) de_int (nomark _))))) (dss_one (ds_expr (de_bm0 PySem.F.plainAttrs_list PySem.F.slot_list_pop PySem.F.type_list_pop mt_popD (de_var (pv 3))))))
    (dss_one (ds_ret (de_bm PySem.F.plainAttrs_str PySem.F.slot_str_join PySem.F.type_str_join mt_joinD de_str (da_cons (de_var (pv 3)) da_nil)))))))
theorem ok_Lfits (T : Fx K mg) : FnOk P w K mg base CX0 1 T.a_Lfits T.d_Lfits ["glob", "board"] (lSp K sp_Lfits) :=
  okD T.F_Lfits sc_Lfits len_Lfits rd_Lfits fun cdv A outer s H E hr =>
    (dss_cons (ds_set (i := 2) (fun _ h => ps_set sc_Lfits.nd rfl (by first | exact .inl rfl | exact .inr rfl) h) (de_op op_addD (de_lst (da_cons de_bl da_nil)) (de_op op_mulD (de_lst (da_cons de_bl da_nil)) (de_callB call_lenD (by rfl) T.m_len (by decide +kernel) (da_cons (de_var (pv 0)) da_nil)))))
    (dss_cons (ds_for PassesOwn.never rfl (di_range1 (by rfl) T.m_range (de_callB call_lenD (by rfl) T.m_len (by decide +kernel) (da_cons (de_var (pv 0)) da_nil))) (dg_name (pg_name (i := 3) sc_Lfits.nd rfl (by first | exact .inl rfl | exact .inr rfl))) (dss_one (ds_if (DW.dt (dw_and (dt_tru (de_ix (de_var (pv 2)) (de_var (pv 3)) (fun _ _ => rfl))) (dw_and1 (dt_cmp (op_eqDD hr.units) (de_ix (de_var (pv 0)) (de_var (pv 3)) (fun _ _ => rfl)) de_str (nomark _))))) (dss_one (ds_asg de_bl (dg_sub (de_var (pv 2)) (de_op op_addD (de_var (pv 3)) de_int)))) dss_nil)))
    (dss_cons (ds_for PassesOwn.never rfl (di_any (de_var (pv 1))) (dg_name (pg_name (i := 4) sc_Lfits.nd rfl (by first | exact .inl rfl | exact .inr rfl))) (dss_cons (ds_set (i := 5) (fun _ h => ps_set sc_Lfits.nd rfl (by first | exact .inl rfl | exact .inr rfl) h) (de_op op_mulD (de_lst (da_cons de_bl da_nil)) (de_op op_addD (de_callB call_lenD (by rfl) T.m_len (by decide +kernel) (da_cons (de_var (pv 0)) da_nil)) de_int)))
    (dss_cons (ds_for PassesOwn.never rfl (di_range1 (by rfl) T.m_range (de_callB call_lenD (by rfl) T.m_len (by decide +kernel) (da_cons (de_var (pv 0)) da_nil))) (dg_name (pg_name (i := 3) sc_Lfits.nd rfl (by first | exact .inl rfl | exact .inr rfl))) (dss_cons (ds_if (DW.dt (dw_and (dt_tru (de_ix (de_var (pv 2)) (de_var (pv 3)) (fun _ _ => rfl))) (dw_and1 (dt_cmp (op_eqDD hr.units) (de_ix (de_var (pv 0)) (de_var (pv 3)) (fun _ _ => rfl)) de_str (nomark _))))) (dss_one (ds_asg de_bl (dg_sub (de_var (pv 5)) (de_var (pv 3))))) dss_nil)
    (dss_one (ds_if (DW.dt (dw_and (dt_tru (de_ix (de_var (pv 2)) (de_var (pv 3)) (fun _ _ => rfl))) (dw_and1 (dt_cmp (op_inDD (u65 hr)) (de_ix (de_var (pv 0)) (de_var (pv 3)) (fun _ _ => rfl)) (de_tup (da_cons de_str (da_cons (de_var (pv 4)) da_nil))) (by rfl))))) (dss_one (ds_asg de_bl (dg_sub (de_var (pv 5)) (de_op op_addD (de_var (pv 3)) de_int)))) dss_nil))))
    (dss_cons (ds_for PassesOwn.never rfl (di_range1 (by rfl) T.m_range (de_callB call_lenD (by rfl) T.m_len (by decide +kernel) (da_cons (de_var (pv 0)) da_nil))) (dg_name (pg_name (i := 3) sc_Lfits.nd rfl (by first | exact .inl rfl | exact .inr rfl))) (dss_one (ds_if (DW.dt (dw_and (dt_tru (de_ix (de_var (pv 5)) (de_var (pv 3)) (fun _ _ => rfl))) (dw_and1 (dt_cmp (op_eqDD hr.units) (de_ix (de_var (pv 0)) (de_var (pv 3)) (fun _ _ => rfl)) de_str (nomark _))))) (dss_one (ds_asg de_bl (dg_sub (de_var (pv 5)) (de_op op_addD (de_var (pv 3)) de_int)))) dss_nil)))
    (dss_one (ds_set (i := 2) (fun _ h => ps_set sc_Lfits.nd rfl (by first | exact .inl rfl | exact .inr rfl) h) (de_var (pv 5))))))))
    (dss_one (ds_ret (de_ix (de_var (pv 2)) (de_callB call_lenD (by rfl) T.m_len (by decide +kernel) (da_cons (de_var (pv 0)) da_nil)) (fun _ _ => rfl)))))))
theorem ok_Llets (T : Fx K mg) : FnOk P w K mg base CX0 2 T.a_Llets T.d_Llets ["pattern", "board"] (lSp K sp_Llets) :=
  okD T.F_Llets sc_Llets len_Llets rd_Llets fun cdv A outer s H E hr =>
    (dss_cons (ds_set (i := 2) (fun _ h => ps_set sc_Llets.nd rfl (by first | exact .inl rfl | exact .inr rfl) h) de_bl)
    (dss_cons (ds_for PassesOwn.never rfl (di_any (de_bm PySem.F.plainAttrs_str PySem.F.slot_str_split PySem.F.type_str_split mt_splitD (de_var (pv 0)) (da_cons de_str da_nil))) (dg_name (pg_name (i := 3) sc_Llets.nd rfl (by first | exact .inl rfl | exact .inr rfl))) (dss_one (ds_if (dt_cmp (op_eqDD hr.units) (de_sl (de_var (pv 3)) do_no (do_some de_int)) de_str (nomark _)) (dss_one (ds_if (dt_tru (de_call ((ok_Lfits T).mono (by decide)) hr (by rfl) T.g_Lfits T.F_Lfits.kp T.b_Lfits .nil (fun _ => .nil) (da_cons (de_sl (de_var (pv 3)) (do_some de_int) do_no) (da_cons (de_var (pv 1)) da_nil)))) (dss_one (ds_set (i := 2) (fun _ h => ps_set sc_Llets.nd rfl (by first | exact .inl rfl | exact .inr rfl) h) de_bl)) dss_nil)) (dss_one (ds_if (dt_tru (de_call ((ok_Lfits T).mono (by decide)) hr (by rfl) T.g_Lfits T.F_Lfits.kp T.b_Lfits .nil (fun _ => .nil) (da_cons (de_var (pv 3)) (da_cons (de_var (pv 1)) da_nil)))) (dss_one (ds_set (i := 2) (fun _ h => ps_set sc_Llets.nd rfl (by first | exact .inl rfl | exact .inr rfl) h) de_bl)) dss_nil)))))
    (dss_one (ds_ret (de_var (pv 2))))))
theorem ok_Llets_some (T : Fx K mg) : FnOk P w K mg base CX0 3 T.a_Llets_some T.d_Llets_some ["pattern", "boards"] (lSp K sp_Llets_some) :=
  okD T.F_Llets_some sc_Llets_some len_Llets_some rd_Llets_some fun cdv A outer s H E hr =>
    (dss_cons (ds_for PassesOwn.never rfl (di_any (de_var (pv 1))) (dg_name (pg_name (i := 2) sc_Llets_some.nd rfl (by first | exact .inl rfl | exact .inr rfl))) (dss_one (ds_if (dt_tru (de_call ((ok_Llets T).mono (by decide)) hr (by rfl) T.g_Llets T.F_Llets.kp T.b_Llets .nil (fun _ => .nil) (da_cons (de_var (pv 0)) (da_cons (de_var (pv 2)) da_nil)))) (dss_one (ds_ret de_bl)) dss_nil)))
    (dss_one (ds_ret de_bl)))
theorem ok_Lis_int (T : Fx K mg) : FnOk P w K mg base CX0 1 T.a_Lis_int T.d_Lis_int ["value"] (lSp K sp_Lis_int) :=
  okD T.F_Lis_int sc_Lis_int len_Lis_int rd_Lis_int fun cdv A outer s H E hr =>
    (dss_one (ds_ret (de_and (de_isi (T := "int") (by rfl) T.m_isinstance (de_var (pv 0)) (by rfl) T.m_int (by decide +kernel)) (de_one (de_not (de_isi (T := "bool") (by rfl) T.m_isinstance (de_var (pv 0)) (by rfl) T.m_bool (by decide +kernel)))))))
theorem st_Lsame (T : Fx K mg) {k : Nat} {sp sp2 : DSp} (G_Lsame : FnOk P w K mg base CX0 k T.a_Lsame T.d_Lsame ["actual", "due"] (lSp K sp)) (hl : ∀ ds g Q, sp2 ds g Q → ds.length = 2) (hrd : ∀ ds g Q, sp2 ds g Q → w_Lsame sp { nx := fun _ g => Q .non g, rt := Q } (dstart N_Lsame ds) g) (hk : 1 ≤ k) : FnOk P w K mg base CX0 (k + 1) T.a_Lsame T.d_Lsame ["actual", "due"] (lSp K sp2) :=
  okD T.F_Lsame sc_Lsame hl hrd fun cdv A outer s H E hr =>
    (dss_cons (ds_if (dt_tru (de_isi (T := "tuple") (by rfl) T.m_isinstance (de_var (pv 1)) (by rfl) T.m_tuple (by decide +kernel))) (dss_cons (ds_if (DW.dt (dw_or (dt_not (dt_tru (de_isi (T := "tuple") (by rfl) T.m_isinstance (de_var (pv 0)) (by rfl) T.m_tuple (by decide +kernel)))) (dw_or1 (dt_cmp (op_neDD hr.units) (de_callB call_lenD (by rfl) T.m_len (by decide +kernel) (da_cons (de_var (pv 0)) da_nil)) (de_callB call_lenD (by rfl) T.m_len (by decide +kernel) (da_cons (de_var (pv 1)) da_nil)) (nomark _))))) (dss_one (ds_ret de_bl)) dss_nil)
    (dss_cons (ds_for PassesOwn.never rfl (di_range1 (by rfl) T.m_range (de_callB call_lenD (by rfl) T.m_len (by decide +kernel) (da_cons (de_var (pv 1)) da_nil))) (dg_name (pg_name (i := 2) sc_Lsame.nd rfl (by first | exact .inl rfl | exact .inr rfl))) (dss_one (ds_if (dt_not (dt_tru (de_call G_Lsame hr (by rfl) T.g_Lsame T.F_Lsame.kp T.b_Lsame .nil (fun _ => .nil) (da_cons (de_ix (de_var (pv 0)) (de_var (pv 2)) (fun _ _ => rfl)) (da_cons (de_ix (de_var (pv 1)) (de_var (pv 2)) (fun _ _ => rfl)) da_nil))))) (dss_one (ds_ret de_bl)) dss_nil)))
    (dss_one (ds_ret de_bl)))) dss_nil)
    (dss_cons (ds_if (dt_cmp op_isND (de_var (pv 1)) de_non (nomark _)) (dss_one (ds_ret (de_cmp op_isND (de_var (pv 0)) de_non (nomark _)))) dss_nil)
    (dss_cons (ds_if (dt_tru (de_isi (T := "bool") (by rfl) T.m_isinstance (de_var (pv 1)) (by rfl) T.m_bool (by decide +kernel))) (dss_one (ds_ret (de_and (de_isi (T := "bool") (by rfl) T.m_isinstance (de_var (pv 0)) (by rfl) T.m_bool (by decide +kernel)) (de_one (de_cmp (op_eqDD hr.units) (de_var (pv 0)) (de_var (pv 1)) (nomark _)))))) dss_nil)
    (dss_cons (ds_if (dt_tru (de_isi (T := "int") (by rfl) T.m_isinstance (de_var (pv 1)) (by rfl) T.m_int (by decide +kernel))) (dss_one (ds_ret (de_and (de_call ((ok_Lis_int T).mono (Nat.le_trans (by decide) hk)) hr (by rfl) T.g_Lis_int T.F_Lis_int.kp T.b_Lis_int .nil (fun _ => .nil) (da_cons (de_var (pv 0)) da_nil)) (de_one (de_cmp (op_eqDD hr.units) (de_var (pv 0)) (de_var (pv 1)) (nomark _)))))) dss_nil)
    (dss_one (ds_ret (de_and (de_isi (T := "str") (by rfl) T.m_isinstance (de_var (pv 0)) (by rfl) T.m_str (by decide +kernel)) (de_one (de_cmp (op_eqDD hr.units) (de_var (pv 0)) (de_var (pv 1)) (nomark _))))))))))
theorem fl_Lsame (T : Fx K mg) : ∀ n, FnOk P w K mg base CX0 (n + 1) T.a_Lsame T.d_Lsame ["actual", "due"] (lSp K (sp_same n))
  | 0 => ⟨fun vs H Q E h => (by obtain ⟨_, _, _, _, _, z, _⟩ := h; exact z.elim), fun A outer s H args us vs Q E _ _ _ _ h => (by obtain ⟨_, _, _, _, _, z, _⟩ := h; exact z.elim)⟩
  | n + 1 => st_Lsame T (fl_Lsame T n) (len_same _) (rd_same n) (by omega)
theorem ok_Lsame (T : Fx K mg) : FnOk P w K mg base CX0 14 T.a_Lsame T.d_Lsame ["actual", "due"] (lSp K sp_Lsame) := fl_Lsame T 13
theorem ok_Llines (T : Fx K mg) : FnOk P w K mg base CX0 4 T.a_Llines T.d_Llines ["source", "names"] (lSp K sp_Llines) :=
  okD T.F_Llines sc_Llines len_Llines rd_Llines fun cdv A outer s H E hr =>
    (dss_cons (ds_set (i := 2) (fun _ h => ps_set sc_Llines.nd rfl (by first | exact .inl rfl | exact .inr rfl) h) (de_lst da_nil))
    (dss_cons (ds_for PassesOwn.never rfl (di_range2 (by rfl) T.m_range de_int (de_callB call_lenD (by rfl) T.m_len (by decide +kernel) (da_cons (de_var (pv 1)) da_nil))) (dg_name (pg_name (i := 3) sc_Llines.nd rfl (by first | exact .inl rfl | exact .inr rfl))) (dss_cons (ds_set (i := 4) (fun _ h => ps_set sc_Llines.nd rfl (by first | exact .inl rfl | exact .inr rfl) h) (de_ix (de_var (pv 1)) (de_call ((ok_Ldraw T).mono (by decide)) hr (by rfl) T.g_Ldraw T.F_Ldraw.kp T.b_Ldraw .nil (fun _ => .nil) (da_cons (de_var (pv 0)) (da_cons (de_var (pv 3)) da_nil))) (fun _ _ => rfl)))
    (dss_one (ds_expr (de_bm PySem.F.plainAttrs_list PySem.F.slot_list_append PySem.F.type_list_append mt_appD (de_var (pv 2)) (da_cons (de_tup (da_cons (de_callB (call_min2D rfl) (by rfl) T.m_min (by decide +kernel) (da_cons (de_var (pv 4)) (da_cons (de_ix (de_var (pv 1)) (de_var (pv 3)) (fun _ _ => rfl)) da_nil))) (da_cons (de_callB (call_max2D rfl) (by rfl) T.m_max (by decide +kernel) (da_cons (de_var (pv 4)) (da_cons (de_ix (de_var (pv 1)) (de_var (pv 3)) (fun _ _ => rfl)) da_nil))) da_nil))) da_nil))))))
    (dss_cons (ds_for PassesOwn.never rfl (di_range1 (by rfl) T.m_range (de_call ((ok_Ldraw T).mono (by decide)) hr (by rfl) T.g_Ldraw T.F_Ldraw.kp T.b_Ldraw .nil (fun _ => .nil) (da_cons (de_var (pv 0)) (da_cons (de_callB call_lenD (by rfl) T.m_len (by decide +kernel) (da_cons (de_var (pv 1)) da_nil)) da_nil)))) (dg_name (pg_name (i := 3) sc_Llines.nd rfl (by first | exact .inl rfl | exact .inr rfl))) (dss_cons (ds_set (i := 4) (fun _ h => ps_set sc_Llines.nd rfl (by first | exact .inl rfl | exact .inr rfl) h) (de_call ((ok_Lpick T).mono (by decide)) hr (by rfl) T.g_Lpick T.F_Lpick.kp T.b_Lpick .nil (fun _ => .nil) (da_cons (de_var (pv 0)) (da_cons (de_var (pv 1)) da_nil))))
    (dss_cons (ds_set (i := 5) (fun _ h => ps_set sc_Llines.nd rfl (by first | exact .inl rfl | exact .inr rfl) h) (de_call ((ok_Lpick T).mono (by decide)) hr (by rfl) T.g_Lpick T.F_Lpick.kp T.b_Lpick .nil (fun _ => .nil) (da_cons (de_var (pv 0)) (da_cons (de_var (pv 1)) da_nil))))
    (dss_one (ds_if (DW.dt (dw_and (dt_cmp (op_neDD hr.units) (de_var (pv 4)) (de_var (pv 5)) (nomark _)) (dw_and1 (dt_cmp (op_notInDD (u65 hr)) (de_tup (da_cons (de_callB (call_min2D rfl) (by rfl) T.m_min (by decide +kernel) (da_cons (de_var (pv 4)) (da_cons (de_var (pv 5)) da_nil))) (da_cons (de_callB (call_max2D rfl) (by rfl) T.m_max (by decide +kernel) (da_cons (de_var (pv 4)) (da_cons (de_var (pv 5)) da_nil))) da_nil))) (de_var (pv 2)) (by rfl))))) (dss_one (ds_expr (de_bm PySem.F.plainAttrs_list PySem.F.slot_list_append PySem.F.type_list_append mt_appD (de_var (pv 2)) (da_cons (de_tup (da_cons (de_callB (call_min2D rfl) (by rfl) T.m_min (by decide +kernel) (da_cons (de_var (pv 4)) (da_cons (de_var (pv 5)) da_nil))) (da_cons (de_callB (call_max2D rfl) (by rfl) T.m_max (by decide +kernel) (da_cons (de_var (pv 4)) (da_cons (de_var (pv 5)) da_nil))) da_nil))) da_nil)))) dss_nil)))))
    (dss_one (ds_ret (de_callB (DL.call_sortedD (u65 hr)) (by rfl) T.m_sorted (by decide +kernel) (da_cons (de_var (pv 2)) da_nil)))))))
theorem ok_least_ways (T : Fx K mg) : FnOk P w K mg base CX0 10 T.a_least_ways T.d_least_ways ["book", "kind"] (lSp K sp_least_ways) :=
  okD T.F_least_ways sc_least_ways len_least_ways rd_least_ways fun cdv A outer s H E hr =>
    (dss_cons (ds_set (i := 2) (fun _ h => ps_set sc_least_ways.nd rfl (by first | exact .inl rfl | exact .inr rfl) h) (de_call ((ok_least_hops T).mono (by decide)) hr (by rfl) T.g_least_hops T.F_least_hops.kp T.b_least_hops .nil (fun _ => .nil) (da_cons (de_var (pv 0)) (da_cons (de_var (pv 1)) da_nil))))
    (dss_cons (ds_set (i := 3) (fun _ h => ps_set sc_least_ways.nd rfl (by first | exact .inl rfl | exact .inr rfl) h) de_dnew)
    (dss_cons (ds_if (dt_din (hu_of hr) (de_ix (de_var (pv 1)) de_int (fun _ _ => rfl)) (de_var (pv 2)) (by rfl)) (dss_one (ds_dput (hu_of hr) (de_var (pv 3)) (de_ix (de_var (pv 1)) de_int (fun _ _ => rfl)) (de_tup (da_cons (de_ix (de_var (pv 1)) de_int (fun _ _ => rfl)) da_nil)))) dss_nil)
    (dss_cons (ds_for PassesOwn.never rfl (di_range2 (by rfl) T.m_range de_int (de_callB call_lenD (by rfl) T.m_len (by decide +kernel) (da_cons (de_ix (de_var (pv 0)) de_int (fun _ _ => rfl)) da_nil))) (dg_name (pg_name (i := 4) sc_least_ways.nd rfl (by first | exact .inl rfl | exact .inr rfl))) (dss_one (ds_for PassesOwn.never rfl (di_any (de_ix (de_var (pv 0)) de_int (fun _ _ => rfl))) (dg_name (pg_name (i := 5) sc_least_ways.nd rfl (by first | exact .inl rfl | exact .inr rfl))) (dss_cons (ds_par (i := 6) (j := 7) rfl sc_least_ways.nd rfl rfl (by decide) rfl rfl (da_cons (de_ix (de_var (pv 5)) de_int (fun _ _ => rfl)) (da_cons (de_ix (de_var (pv 5)) de_int (fun _ _ => rfl)) da_nil)) (by rfl))
    (dss_one (ds_if (DW.dt (dw_and (dt_cmp (op_eqDD hr.units) (de_dget1 (hu_of hr) (de_var (pv 2)) (de_var (pv 6))) (de_op op_subD (de_var (pv 4)) de_int) (nomark _)) (dw_and (dt_cmp (op_eqDD hr.units) (de_dget1 (hu_of hr) (de_var (pv 2)) (de_var (pv 7))) (de_var (pv 4)) (nomark _)) (dw_and1 (dt_tru (de_call ((ok_passes T).mono (by decide)) hr (by rfl) T.g_passes T.F_passes.kp T.b_passes .nil (fun _ => .nil) (da_cons (de_var (pv 5)) (da_cons (de_ix (de_var (pv 1)) de_int (fun _ _ => rfl)) (da_cons (de_ix (de_var (pv 1)) de_int (fun _ _ => rfl)) (da_cons (de_op op_subD (de_var (pv 4)) de_int) da_nil)))))))))) (dss_cons (ds_set (i := 8) (fun _ h => ps_set sc_least_ways.nd rfl (by first | exact .inl rfl | exact .inr rfl) h) (de_op op_addD (de_dget (hu_of hr) (de_var (pv 3)) (de_var (pv 6)) (fun _ _ => rfl)) (de_tup (da_cons (de_var (pv 7)) da_nil))))
    (dss_one (ds_if (DW.dt (dw_or (dt_dnotin (hu_of hr) (de_var (pv 7)) (de_var (pv 3)) (by rfl)) (dw_or1 (dt_cmp (op_ltD hr.units) (de_var (pv 8)) (de_dget (hu_of hr) (de_var (pv 3)) (de_var (pv 7)) (fun _ _ => rfl)) (nomark _))))) (dss_one (ds_dput (hu_of hr) (de_var (pv 3)) (de_var (pv 7)) (de_var (pv 8)))) dss_nil))) dss_nil))))))
    (dss_one (ds_ret (de_var (pv 3))))))))
theorem ok_least_way (T : Fx K mg) : FnOk P w K mg base CX0 11 T.a_least_way T.d_least_way ["book", "kind", "site"] (lSp K sp_least_way) :=
  okD T.F_least_way sc_least_way len_least_way rd_least_way fun cdv A outer s H E hr =>
    (dss_one (ds_ret (de_dget1 (hu_of hr) (de_call ((ok_least_ways T).mono (by decide)) hr (by rfl) T.g_least_ways T.F_least_ways.kp T.b_least_ways .nil (fun _ => .nil) (da_cons (de_var (pv 0)) (da_cons (de_var (pv 1)) da_nil))) (de_var (pv 2)))))
theorem ok_judge_way (T : Fx K mg) : FnOk P w K mg base CX0 9 T.a_judge_way T.d_judge_way ["book", "kind", "site", "way"] (lSp K sp_judge_way) :=
  okD T.F_judge_way sc_judge_way len_judge_way rd_judge_way fun cdv A outer s H E hr =>
    (dss_cons (ds_if (DW.dt (dw_or (dt_cmp (op_eqDD hr.units) (de_callB call_lenD (by rfl) T.m_len (by decide +kernel) (da_cons (de_var (pv 3)) da_nil)) de_int (nomark _)) (dw_or (dt_cmp (op_neDD hr.units) (de_ix (de_var (pv 3)) de_int (fun _ _ => rfl)) (de_ix (de_var (pv 1)) de_int (fun _ _ => rfl)) (nomark _)) (dw_or1 (dt_cmp (op_neDD hr.units) (de_ix (de_var (pv 3)) (de_un un_negD de_int) (fun _ _ => rfl)) (de_var (pv 2)) (nomark _)))))) (dss_one (ds_ret de_bl)) dss_nil)
    (dss_cons (ds_for PassesOwn.never rfl (di_range1 (by rfl) T.m_range (de_callB call_lenD (by rfl) T.m_len (by decide +kernel) (da_cons (de_var (pv 3)) da_nil))) (dg_name (pg_name (i := 4) sc_judge_way.nd rfl (by first | exact .inl rfl | exact .inr rfl))) (dss_one (ds_if (DW.dt (dw_or (dt_cmp (op_inDD (u65 hr)) (de_ix (de_var (pv 3)) (de_var (pv 4)) (fun _ _ => rfl)) (de_sl (de_var (pv 3)) do_no (do_some (de_var (pv 4)))) (by rfl)) (dw_or (dt_cmp op_isND (de_call ((ok_site_of T).mono (by decide)) hr (by rfl) T.g_site_of T.F_site_of.kp T.b_site_of .nil (fun _ => .nil) (da_cons (de_var (pv 0)) (da_cons (de_ix (de_var (pv 3)) (de_var (pv 4)) (fun _ _ => rfl)) da_nil))) de_non (nomark _)) (dw_or1 (dt_not (dt_tru (de_call ((ok_carries T).mono (by decide)) hr (by rfl) T.g_carries T.F_carries.kp T.b_carries .nil (fun _ => .nil) (da_cons (de_var (pv 0)) (da_cons (de_ix (de_var (pv 3)) (de_var (pv 4)) (fun _ _ => rfl)) (da_cons (de_ix (de_var (pv 1)) de_int (fun _ _ => rfl)) da_nil)))))))))) (dss_one (ds_ret de_bl)) dss_nil)))
    (dss_cons (ds_for PassesOwn.never rfl (di_range1 (by rfl) T.m_range (de_op op_subD (de_callB call_lenD (by rfl) T.m_len (by decide +kernel) (da_cons (de_var (pv 3)) da_nil)) de_int)) (dg_name (pg_name (i := 4) sc_judge_way.nd rfl (by first | exact .inl rfl | exact .inr rfl))) (dss_cons (ds_set (i := 5) (fun _ h => ps_set sc_judge_way.nd rfl (by first | exact .inl rfl | exact .inr rfl) h) (de_call ((ok_feed_of T).mono (by decide)) hr (by rfl) T.g_feed_of T.F_feed_of.kp T.b_feed_of .nil (fun _ => .nil) (da_cons (de_var (pv 0)) (da_cons (de_ix (de_var (pv 3)) (de_var (pv 4)) (fun _ _ => rfl)) (da_cons (de_ix (de_var (pv 3)) (de_op op_addD (de_var (pv 4)) de_int) (fun _ _ => rfl)) da_nil)))))
    (dss_one (ds_if (DW.dt (dw_or (dt_cmp op_isND (de_var (pv 5)) de_non (nomark _)) (dw_or1 (dt_not (dt_tru (de_call ((ok_passes T).mono (by decide)) hr (by rfl) T.g_passes T.F_passes.kp T.b_passes .nil (fun _ => .nil) (da_cons (de_var (pv 5)) (da_cons (de_ix (de_var (pv 1)) de_int (fun _ _ => rfl)) (da_cons (de_ix (de_var (pv 1)) de_int (fun _ _ => rfl)) (da_cons (de_var (pv 4)) da_nil)))))))))) (dss_one (ds_ret de_bl)) dss_nil))))
    (dss_one (ds_ret de_bl)))))
theorem ok_Lall_lines (T : Fx K mg) : FnOk P w K mg base CX0 1 T.a_Lall_lines T.d_Lall_lines ["names"] (lSp K sp_Lall_lines) :=
  okD T.F_Lall_lines sc_Lall_lines len_Lall_lines rd_Lall_lines fun cdv A outer s H E hr =>
    (dss_cons (ds_set (i := 1) (fun _ h => ps_set sc_Lall_lines.nd rfl (by first | exact .inl rfl | exact .inr rfl) h) (de_lst da_nil))
    (dss_cons (ds_for PassesOwn.never rfl (di_any (de_var (pv 0))) (dg_name (pg_name (i := 2) sc_Lall_lines.nd rfl (by first | exact .inl rfl | exact .inr rfl))) (dss_one (ds_for PassesOwn.never rfl (di_any (de_var (pv 0))) (dg_name (pg_name (i := 3) sc_Lall_lines.nd rfl (by first | exact .inl rfl | exact .inr rfl))) (dss_one (ds_if (dt_cmp (op_ltD hr.units) (de_var (pv 2)) (de_var (pv 3)) (nomark _)) (dss_one (ds_expr (de_bm PySem.F.plainAttrs_list PySem.F.slot_list_append PySem.F.type_list_append mt_appD (de_var (pv 1)) (da_cons (de_tup (da_cons (de_var (pv 2)) (da_cons (de_var (pv 3)) da_nil))) da_nil)))) dss_nil)))))
    (dss_one (ds_ret (de_callB (DL.call_sortedD (u65 hr)) (by rfl) T.m_sorted (by decide +kernel) (da_cons (de_var (pv 1)) da_nil))))))
theorem ok_Lnet (T : Fx K mg) : FnOk P w K mg base CX0 7 T.a_Lnet T.d_Lnet ["source", "many", "words"] (lSp K sp_Lnet) :=
  okD T.F_Lnet sc_Lnet len_Lnet rd_Lnet fun cdv A outer s H E hr =>
    (dss_cons (ds_set (i := 3) (fun _ h => ps_set sc_Lnet.nd rfl (by first | exact .inl rfl | exact .inr rfl) h) (de_call ((ok_Lnames T).mono (by decide)) hr (by rfl) T.g_Lnames T.F_Lnames.kp T.b_Lnames .nil (fun _ => .nil) (da_cons (de_var (pv 0)) (da_cons (de_var (pv 1)) da_nil))))
    (dss_cons (ds_set (i := 4) (fun _ h => ps_set sc_Lnet.nd rfl (by first | exact .inl rfl | exact .inr rfl) h) (de_sl (de_call ((ok_Llines T).mono (by decide)) hr (by rfl) T.g_Llines T.F_Llines.kp T.b_Llines .nil (fun _ => .nil) (da_cons (de_var (pv 0)) (da_cons (de_var (pv 3)) da_nil))) do_no (do_some de_int)))
    (dss_cons (ds_if (DW.dt (dw_and (dt_cmp (op_ltD hr.units) (de_var (pv 1)) de_int (nomark _)) (dw_and1 (dt_cmp (op_eqDD hr.units) (de_call ((ok_Ldraw T).mono (by decide)) hr (by rfl) T.g_Ldraw T.F_Ldraw.kp T.b_Ldraw .nil (fun _ => .nil) (da_cons (de_var (pv 0)) (da_cons de_int da_nil))) de_int (nomark _))))) (dss_one (ds_set (i := 4) (fun _ h => ps_set sc_Lnet.nd rfl (by first | exact .inl rfl | exact .inr rfl) h) (de_call ((ok_Lall_lines T).mono (by decide)) hr (by rfl) T.g_Lall_lines T.F_Lall_lines.kp T.b_Lall_lines .nil (fun _ => .nil) (da_cons (de_var (pv 3)) da_nil)))) dss_nil)
    (dss_cons (ds_set (i := 5) (fun _ h => ps_set sc_Lnet.nd rfl (by first | exact .inl rfl | exact .inr rfl) h) (de_lst (da_cons de_str (da_cons de_str (da_cons de_str (da_cons (de_call ((ok_Lpattern T).mono (by decide)) hr (by rfl) T.g_Lpattern T.F_Lpattern.kp T.b_Lpattern .nil (fun _ => .nil) (da_cons (de_var (pv 0)) (da_cons (de_var (pv 2)) da_nil))) (da_cons (de_call ((ok_Lpattern T).mono (by decide)) hr (by rfl) T.g_Lpattern T.F_Lpattern.kp T.b_Lpattern .nil (fun _ => .nil) (da_cons (de_var (pv 0)) (da_cons (de_var (pv 2)) da_nil))) da_nil)))))))
    (dss_cons (ds_set (i := 6) (fun _ h => ps_set sc_Lnet.nd rfl (by first | exact .inl rfl | exact .inr rfl) h) (de_lst (da_cons (de_op op_addD de_int (de_call ((ok_Ldraw T).mono (by decide)) hr (by rfl) T.g_Ldraw T.F_Ldraw.kp T.b_Ldraw .nil (fun _ => .nil) (da_cons (de_var (pv 0)) (da_cons de_int da_nil)))) (da_cons (de_op op_addD de_int (de_call ((ok_Ldraw T).mono (by decide)) hr (by rfl) T.g_Ldraw T.F_Ldraw.kp T.b_Ldraw .nil (fun _ => .nil) (da_cons (de_var (pv 0)) (da_cons de_int da_nil)))) (da_cons de_int da_nil)))))
    (dss_cons (ds_set (i := 7) (fun _ h => ps_set sc_Lnet.nd rfl (by first | exact .inl rfl | exact .inr rfl) h) (de_lst da_nil))
    (dss_cons (ds_for PassesOwn.never rfl (di_any (de_var (pv 4))) (dg_name (pg_name (i := 8) sc_Lnet.nd rfl (by first | exact .inl rfl | exact .inr rfl))) (dss_one (ds_for PassesOwn.never rfl (di_range1 (by rfl) T.m_range de_int) (dg_name (pg_name (i := 11) sc_Lnet.nd rfl (by first | exact .inl rfl | exact .inr rfl))) (dss_one (ds_if (dt_cmp (op_neDD hr.units) (de_call ((ok_Ldraw T).mono (by decide)) hr (by rfl) T.g_Ldraw T.F_Ldraw.kp T.b_Ldraw .nil (fun _ => .nil) (da_cons (de_var (pv 0)) (da_cons de_int da_nil))) de_int (nomark _)) (dss_cons (ds_set (i := 12) (fun _ h => ps_set sc_Lnet.nd rfl (by first | exact .inl rfl | exact .inr rfl) h) (de_op op_addD de_int (de_call ((ok_Ldraw T).mono (by decide)) hr (by rfl) T.g_Ldraw T.F_Ldraw.kp T.b_Ldraw .nil (fun _ => .nil) (da_cons (de_var (pv 0)) (da_cons (de_op op_addD (de_var (pv 1)) de_int) da_nil)))))
    (dss_cons (ds_set (i := 13) (fun _ h => ps_set sc_Lnet.nd rfl (by first | exact .inl rfl | exact .inr rfl) h) (de_call ((ok_Lpick T).mono (by decide)) hr (by rfl) T.g_Lpick T.F_Lpick.kp T.b_Lpick .nil (fun _ => .nil) (da_cons (de_var (pv 0)) (da_cons (de_var (pv 6)) da_nil))))
    (dss_one (ds_expr (de_bm PySem.F.plainAttrs_list PySem.F.slot_list_append PySem.F.type_list_append mt_appD (de_var (pv 7)) (da_cons (de_tup (da_cons de_str (da_cons (de_ix (de_var (pv 8)) (de_var (pv 11)) (fun _ _ => rfl)) (da_cons (de_ix (de_var (pv 8)) (de_op op_subD de_int (de_var (pv 11))) (fun _ _ => rfl)) (da_cons (de_call ((ok_Lpick T).mono (by decide)) hr (by rfl) T.g_Lpick T.F_Lpick.kp T.b_Lpick .nil (fun _ => .nil) (da_cons (de_var (pv 0)) (da_cons (de_var (pv 5)) da_nil))) (da_cons (de_var (pv 12)) (da_cons (de_var (pv 13)) da_nil))))))) da_nil)))))) dss_nil)))))
    (dss_cons (ds_set (i := 9) (fun _ h => ps_set sc_Lnet.nd rfl (by first | exact .inl rfl | exact .inr rfl) h) (de_lst da_nil))
    (dss_cons (ds_for PassesOwn.never rfl (di_any (de_var (pv 3))) (dg_name (pg_name (i := 10) sc_Lnet.nd rfl (by first | exact .inl rfl | exact .inr rfl))) (dss_one (ds_expr (de_bm PySem.F.plainAttrs_list PySem.F.slot_list_append PySem.F.type_list_append mt_appD (de_var (pv 9)) (da_cons (de_tup (da_cons de_str (da_cons (de_var (pv 10)) (da_cons (de_call ((ok_Ldraw T).mono (by decide)) hr (by rfl) T.g_Ldraw T.F_Ldraw.kp T.b_Ldraw .nil (fun _ => .nil) (da_cons (de_var (pv 0)) (da_cons de_int da_nil))) (da_cons de_int (da_cons de_int (da_cons (de_call ((ok_Lpick T).mono (by decide)) hr (by rfl) T.g_Lpick T.F_Lpick.kp T.b_Lpick .nil (fun _ => .nil) (da_cons (de_var (pv 0)) (da_cons (de_op op_addD (de_lst (da_cons de_str da_nil)) (de_var (pv 5))) da_nil))) da_nil))))))) da_nil)))))
    (dss_one (ds_ret (de_tup (da_cons de_str (da_cons de_int (da_cons (de_tup (da_cons de_int (da_cons de_int da_nil))) (da_cons (de_callTy call_tupF (by rfl) T.m_tuple (by decide +kernel) (da_cons (de_var (pv 9)) da_nil)) (da_cons (de_callTy call_tupF (by rfl) T.m_tuple (by decide +kernel) (da_cons (de_var (pv 4)) da_nil)) (da_cons (de_callTy call_tupF (by rfl) T.m_tuple (by decide +kernel) (da_cons (de_call ((ok_Lshuffled T).mono (by decide)) hr (by rfl) T.g_Lshuffled T.F_Lshuffled.kp T.b_Lshuffled .nil (fun _ => .nil) (da_cons (de_var (pv 0)) (da_cons (de_var (pv 7)) da_nil))) da_nil)) (da_cons (de_tup da_nil) (da_cons (de_tup da_nil) da_nil))))))))))))))))))))
theorem ok_Lkind (T : Fx K mg) : FnOk P w K mg base CX0 6 T.a_Lkind T.d_Lkind ["source", "book", "words"] (lSp K sp_Lkind) :=
  okD T.F_Lkind sc_Lkind len_Lkind rd_Lkind fun cdv A outer s H E hr =>
    (dss_cons (ds_set (i := 3) (fun _ h => ps_set sc_Lkind.nd rfl (by first | exact .inl rfl | exact .inr rfl) h) (de_lst (da_cons de_int (da_cons de_int (da_cons de_int (da_cons de_int (da_cons de_int (da_cons de_int da_nil))))))))
    (dss_cons (ds_for PassesOwn.never rfl (di_any (de_ix (de_var (pv 1)) de_int (fun _ _ => rfl))) (dg_name (pg_name (i := 4) sc_Lkind.nd rfl (by first | exact .inl rfl | exact .inr rfl))) (dss_one (ds_if (dt_cmp (op_notInDD (u65 hr)) (de_ix (de_var (pv 4)) de_int (fun _ _ => rfl)) (de_var (pv 3)) (by rfl)) (dss_cons (ds_expr (de_bm PySem.F.plainAttrs_list PySem.F.slot_list_append PySem.F.type_list_append mt_appD (de_var (pv 3)) (da_cons (de_ix (de_var (pv 4)) de_int (fun _ _ => rfl)) da_nil)))
    (dss_one (ds_expr (de_bm PySem.F.plainAttrs_list PySem.F.slot_list_append PySem.F.type_list_append mt_appD (de_var (pv 3)) (da_cons (de_op op_addD (de_ix (de_var (pv 4)) de_int (fun _ _ => rfl)) de_int) da_nil))))) dss_nil)))
    (dss_cons (ds_set (i := 5) (fun _ h => ps_set sc_Lkind.nd rfl (by first | exact .inl rfl | exact .inr rfl) h) (de_ix (de_call ((ok_Lpick T).mono (by decide)) hr (by rfl) T.g_Lpick T.F_Lpick.kp T.b_Lpick .nil (fun _ => .nil) (da_cons (de_var (pv 0)) (da_cons (de_ix (de_var (pv 1)) de_int (fun _ _ => rfl)) da_nil))) de_int (fun _ _ => rfl)))
    (dss_one (ds_ret (de_tup (da_cons de_str (da_cons (de_var (pv 5)) (da_cons (de_call ((ok_Lboards T).mono (by decide)) hr (by rfl) T.g_Lboards T.F_Lboards.kp T.b_Lboards .nil (fun _ => .nil) (da_cons (de_var (pv 0)) (da_cons (de_var (pv 2)) (da_cons de_int da_nil)))) (da_cons (de_call ((ok_Lpick T).mono (by decide)) hr (by rfl) T.g_Lpick T.F_Lpick.kp T.b_Lpick .nil (fun _ => .nil) (da_cons (de_var (pv 0)) (da_cons (de_var (pv 3)) da_nil))) da_nil))))))))))
theorem ok_Lways (T : Fx K mg) : FnOk P w K mg base CX0 4 T.a_Lways T.d_Lways ["book", "kind"] (lSp K sp_Lways) :=
  okD T.F_Lways sc_Lways len_Lways rd_Lways fun cdv A outer s H E hr =>
    (dss_cons (ds_set (i := 2) (fun _ h => ps_set sc_Lways.nd rfl (by first | exact .inl rfl | exact .inr rfl) h) (de_lc (x := "site") (j := 9) rfl sc_Lways.nd (di_any (de_ix (de_var (pv 0)) de_int (fun _ _ => rfl))) (blkOk_by (own := [("site", 9)]) (N := N_Lways) (sc := defScope s_Lways) (by decide +kernel)) (fun _ _ _ _ _ => pg_name (i := 9) sc_Lways.nd rfl (by first | exact .inl rfl | exact .inr rfl)) (fun _ _ _ _ _ => (dts_one (dt_tru (de_call ((ok_Llets_some T).mono (by decide)) hr (by rfl) T.g_Llets_some T.F_Llets_some.kp T.b_Llets_some .nil (fun _ => .nil) (da_cons (de_ix (de_var (pv 9)) de_int (fun _ _ => rfl)) (da_cons (de_ix (de_var (pv 1)) de_int (fun _ _ => rfl)) da_nil)))))) (fun _ _ _ _ _ => (de_ix (de_var (pv 9)) de_int (fun _ _ => rfl)))))
    (dss_cons (ds_setLc (x := "feed") (j := 10) (i := 3) rfl sc_Lways.nd rfl rfl (sw_true rfl rfl rfl (by decide +kernel)) (di_any (de_ix (de_var (pv 0)) de_int (fun _ _ => rfl))) (blkOk_by (own := [("feed", 10)]) (N := N_Lways) (sc := defScope s_Lways) (by decide +kernel)) (fun _ _ _ _ _ => pg_name (i := 10) sc_Lways.nd rfl (by first | exact .inl rfl | exact .inr rfl)) (fun _ _ _ _ _ => (dts_one (DW.dt (dw_and (dt_cmp (op_inDD (u65 hr)) (de_ix (de_var (pv 10)) de_int (fun _ _ => rfl)) (de_var (pv 2)) (by rfl)) (dw_and (dt_cmp (op_leD hr.units) (de_ix (de_var (pv 1)) de_int (fun _ _ => rfl)) (de_ix (de_var (pv 10)) de_int (fun _ _ => rfl)) (nomark _)) (dw_and1 (dt_tru (de_call ((ok_Llets_some T).mono (by decide)) hr (by rfl) T.g_Llets_some T.F_Llets_some.kp T.b_Llets_some .nil (fun _ => .nil) (da_cons (de_ix (de_var (pv 10)) de_int (fun _ _ => rfl)) (da_cons (de_ix (de_var (pv 1)) de_int (fun _ _ => rfl)) da_nil)))))))))) (fun _ _ _ _ _ => (de_var (pv 10))))
    (dss_cons (ds_set (i := 4) (fun _ h => ps_set sc_Lways.nd rfl (by first | exact .inl rfl | exact .inr rfl) h) (de_lst da_nil))
    (dss_cons (ds_set (i := 5) (fun _ h => ps_set sc_Lways.nd rfl (by first | exact .inl rfl | exact .inr rfl) h) (de_lst da_nil))
    (dss_cons (ds_if (dt_cmp (op_inDD (u65 hr)) (de_ix (de_var (pv 1)) de_int (fun _ _ => rfl)) (de_var (pv 2)) (by rfl)) (dss_one (ds_set (i := 5) (fun _ h => ps_set sc_Lways.nd rfl (by first | exact .inl rfl | exact .inr rfl) h) (de_lst (da_cons (de_tup (da_cons (de_ix (de_var (pv 1)) de_int (fun _ _ => rfl)) da_nil)) da_nil)))) dss_nil)
    (dss_cons (ds_for PassesOwn.never rfl (di_range1 (by rfl) T.m_range (de_callB call_lenD (by rfl) T.m_len (by decide +kernel) (da_cons (de_ix (de_var (pv 0)) de_int (fun _ _ => rfl)) da_nil))) (dg_name (pg_name (i := 6) sc_Lways.nd rfl (by first | exact .inl rfl | exact .inr rfl))) (dss_cons (ds_expr (de_bm PySem.F.plainAttrs_list PySem.F.slot_list_extend PySem.F.type_list_extend mt_extD (de_var (pv 4)) (da_cons (de_var (pv 5)) da_nil)))
    (dss_cons (ds_set (i := 7) (fun _ h => ps_set sc_Lways.nd rfl (by first | exact .inl rfl | exact .inr rfl) h) (de_lst da_nil))
    (dss_cons (ds_for PassesOwn.never rfl (di_any (de_var (pv 5))) (dg_name (pg_name (i := 8) sc_Lways.nd rfl (by first | exact .inl rfl | exact .inr rfl))) (dss_one (ds_for PassesOwn.never rfl (di_any (de_var (pv 3))) (dg_name (pg_name (i := 10) sc_Lways.nd rfl (by first | exact .inl rfl | exact .inr rfl))) (dss_one (ds_if (DW.dt (dw_and (dt_cmp (op_eqDD hr.units) (de_ix (de_var (pv 10)) de_int (fun _ _ => rfl)) (de_ix (de_var (pv 8)) (de_var (pv 6)) (fun _ _ => rfl)) (nomark _)) (dw_and (dt_cmp (op_notInDD (u65 hr)) (de_ix (de_var (pv 10)) de_int (fun _ _ => rfl)) (de_var (pv 8)) (by rfl)) (dw_and1 (dt_cmp (op_leD hr.units) (de_op op_addD (de_var (pv 6)) de_int) (de_ix (de_var (pv 10)) de_int (fun _ _ => rfl)) (nomark _)))))) (dss_one (ds_expr (de_bm PySem.F.plainAttrs_list PySem.F.slot_list_append PySem.F.type_list_append mt_appD (de_var (pv 7)) (da_cons (de_op op_addD (de_var (pv 8)) (de_tup (da_cons (de_ix (de_var (pv 10)) de_int (fun _ _ => rfl)) da_nil))) da_nil)))) dss_nil)))))
    (dss_one (ds_set (i := 5) (fun _ h => ps_set sc_Lways.nd rfl (by first | exact .inl rfl | exact .inr rfl) h) (de_var (pv 7))))))))
    (dss_one (ds_ret (de_var (pv 4))))))))))
theorem ok_Lleast (T : Fx K mg) : FnOk P w K mg base CX0 1 T.a_Lleast T.d_Lleast ["ways", "name"] (lSp K sp_Lleast) :=
  okD T.F_Lleast sc_Lleast len_Lleast rd_Lleast fun cdv A outer s H E hr =>
    (dss_cons (ds_setLc (x := "way") (j := 4) (i := 2) rfl sc_Lleast.nd rfl rfl (sw_true rfl rfl rfl (by decide +kernel)) (di_any (de_var (pv 0))) (blkOk_by (own := [("way", 4)]) (N := N_Lleast) (sc := defScope s_Lleast) (by decide +kernel)) (fun _ _ _ _ _ => pg_name (i := 4) sc_Lleast.nd rfl (by first | exact .inl rfl | exact .inr rfl)) (fun _ _ _ _ _ => (dts_one (dt_cmp (op_eqDD hr.units) (de_ix (de_var (pv 4)) (de_op op_subD (de_callB call_lenD (by rfl) T.m_len (by decide +kernel) (da_cons (de_var (pv 4)) da_nil)) de_int) (fun _ _ => rfl)) (de_var (pv 1)) (nomark _)))) (fun _ _ _ _ _ => (de_var (pv 4))))
    (dss_cons (ds_if (dt_cmp (op_eqDD hr.units) (de_callB call_lenD (by rfl) T.m_len (by decide +kernel) (da_cons (de_var (pv 2)) da_nil)) de_int (nomark _)) (dss_one (ds_ret de_non)) dss_nil)
    (dss_cons (ds_set (i := 3) (fun _ h => ps_set sc_Lleast.nd rfl (by first | exact .inl rfl | exact .inr rfl) h) (de_callB (call_minLD rfl (u65 hr)) (by rfl) T.m_min (by decide +kernel) (da_cons (de_lc (x := "way") (j := 4) rfl sc_Lleast.nd (di_any (de_var (pv 2))) (blkOk_by (own := [("way", 4)]) (N := N_Lleast) (sc := defScope s_Lleast) (by decide +kernel)) (fun _ _ _ _ _ => pg_name (i := 4) sc_Lleast.nd rfl (by first | exact .inl rfl | exact .inr rfl)) (fun _ _ _ _ _ => dts_nil) (fun _ _ _ _ _ => (de_callB call_lenD (by rfl) T.m_len (by decide +kernel) (da_cons (de_var (pv 4)) da_nil)))) da_nil)))
    (dss_one (ds_ret (de_callB (call_minPD rfl (u65 hr)) (by rfl) T.m_min (by decide +kernel) (da_cons (de_lc (x := "way") (j := 4) rfl sc_Lleast.nd (di_any (de_var (pv 2))) (blkOk_by (own := [("way", 4)]) (N := N_Lleast) (sc := defScope s_Lleast) (by decide +kernel)) (fun _ _ _ _ _ => pg_name (i := 4) sc_Lleast.nd rfl (by first | exact .inl rfl | exact .inr rfl)) (fun _ _ _ _ _ => (dts_one (dt_cmp (op_eqDD hr.units) (de_callB call_lenD (by rfl) T.m_len (by decide +kernel) (da_cons (de_var (pv 4)) da_nil)) (de_var (pv 3)) (nomark _)))) (fun _ _ _ _ _ => (de_var (pv 4)))) da_nil)))))))
theorem ok_Lbent (T : Fx K mg) : FnOk P w K mg base CX0 4 T.a_Lbent T.d_Lbent ["source", "way", "words"] (lSp K sp_Lbent) :=
  okD T.F_Lbent sc_Lbent len_Lbent rd_Lbent fun cdv A outer s H E hr =>
    (dss_cons (ds_set (i := 3) (fun _ h => ps_set sc_Lbent.nd rfl (by first | exact .inl rfl | exact .inr rfl) h) (de_callTy call_lstF (by rfl) T.m_list (by decide +kernel) (da_cons (de_var (pv 1)) da_nil)))
    (dss_cons (ds_set (i := 4) (fun _ h => ps_set sc_Lbent.nd rfl (by first | exact .inl rfl | exact .inr rfl) h) (de_call ((ok_Ldraw T).mono (by decide)) hr (by rfl) T.g_Ldraw T.F_Ldraw.kp T.b_Ldraw .nil (fun _ => .nil) (da_cons (de_var (pv 0)) (da_cons (de_op op_addD (de_callB call_lenD (by rfl) T.m_len (by decide +kernel) (da_cons (de_var (pv 3)) da_nil)) de_int) da_nil))))
    (dss_cons (ds_set (i := 5) (fun _ h => ps_set sc_Lbent.nd rfl (by first | exact .inl rfl | exact .inr rfl) h) (de_call ((ok_Lpick T).mono (by decide)) hr (by rfl) T.g_Lpick T.F_Lpick.kp T.b_Lpick .nil (fun _ => .nil) (da_cons (de_var (pv 0)) (da_cons (de_var (pv 2)) da_nil))))
    (dss_cons (ds_set (i := 6) (fun _ h => ps_set sc_Lbent.nd rfl (by first | exact .inl rfl | exact .inr rfl) h) (de_call ((ok_Ldraw T).mono (by decide)) hr (by rfl) T.g_Ldraw T.F_Ldraw.kp T.b_Ldraw .nil (fun _ => .nil) (da_cons (de_var (pv 0)) (da_cons de_int da_nil))))
    (dss_cons (ds_if (DW.dt (dw_or (dt_cmp (op_eqDD hr.units) (de_var (pv 6)) de_int (nomark _)) (dw_or1 (dt_cmp (op_ltD hr.units) (de_callB call_lenD (by rfl) T.m_len (by decide +kernel) (da_cons (de_var (pv 3)) da_nil)) de_int (nomark _))))) (dss_one (ds_expr (de_bm PySem.F.plainAttrs_list PySem.F.slot_list_insert PySem.F.type_list_insert mt_insD (de_var (pv 3)) (da_cons (de_var (pv 4)) (da_cons (de_var (pv 5)) da_nil))))) (dss_one (ds_if (dt_cmp (op_eqDD hr.units) (de_var (pv 6)) de_int (nomark _)) (dss_one (ds_expr (de_bm PySem.F.plainAttrs_list PySem.F.slot_list_pop PySem.F.type_list_pop mt_popD (de_var (pv 3)) (da_cons (de_callB (call_min2D rfl) (by rfl) T.m_min (by decide +kernel) (da_cons (de_var (pv 4)) (da_cons (de_op op_subD (de_callB call_lenD (by rfl) T.m_len (by decide +kernel) (da_cons (de_var (pv 3)) da_nil)) de_int) da_nil))) da_nil)))) (dss_one (ds_if (dt_cmp (op_eqDD hr.units) (de_var (pv 6)) de_int (nomark _)) (dss_one (ds_asg (de_var (pv 5)) (dg_sub (de_var (pv 3)) (de_callB (call_min2D rfl) (by rfl) T.m_min (by decide +kernel) (da_cons (de_var (pv 4)) (da_cons (de_op op_subD (de_callB call_lenD (by rfl) T.m_len (by decide +kernel) (da_cons (de_var (pv 3)) da_nil)) de_int) da_nil)))))) (dss_one (ds_if (dt_cmp (op_eqDD hr.units) (de_var (pv 6)) de_int (nomark _)) (dss_one (ds_expr (de_bm0 PySem.F.plainAttrs_list PySem.F.slot_list_reverse PySem.F.type_list_reverse mt_revD (de_var (pv 3))))) (dss_cons (ds_set (i := 5) (fun _ h => ps_set sc_Lbent.nd rfl (by first | exact .inl rfl | exact .inr rfl) h) (de_bm PySem.F.plainAttrs_list PySem.F.slot_list_pop PySem.F.type_list_pop mt_popD (de_var (pv 3)) (da_cons (de_callB (call_min2D rfl) (by rfl) T.m_min (by decide +kernel) (da_cons (de_var (pv 4)) (da_cons (de_op op_subD (de_callB call_lenD (by rfl) T.m_len (by decide +kernel) (da_cons (de_var (pv 3)) da_nil)) de_int) da_nil))) da_nil)))
    (dss_one (ds_expr (de_bm PySem.F.plainAttrs_list PySem.F.slot_list_insert PySem.F.type_list_insert mt_insD (de_var (pv 3)) (da_cons (de_op op_addD (de_callB (call_min2D rfl) (by rfl) T.m_min (by decide +kernel) (da_cons (de_var (pv 4)) (da_cons (de_op op_subD (de_callB call_lenD (by rfl) T.m_len (by decide +kernel) (da_cons (de_var (pv 3)) da_nil)) de_int) da_nil))) de_int) (da_cons (de_var (pv 5)) da_nil)))))))))))))
    (dss_one (ds_ret (de_callTy call_tupF (by rfl) T.m_tuple (by decide +kernel) (da_cons (de_var (pv 3)) da_nil)))))))))
theorem ok_Lled (T : Fx K mg) : FnOk P w K mg base CX0 4 T.a_Lled T.d_Lled ["source", "book", "name"] (lSp K sp_Lled) :=
  okD T.F_Lled sc_Lled len_Lled rd_Lled fun cdv A outer s H E hr =>
    (dss_cons (ds_set (i := 3) (fun _ h => ps_set sc_Lled.nd rfl (by first | exact .inl rfl | exact .inr rfl) h) (de_tup (da_cons (de_var (pv 2)) da_nil)))
    (dss_cons (ds_for PassesOwn.never rfl (di_range1 (by rfl) T.m_range (de_op op_addD de_int (de_call ((ok_Ldraw T).mono (by decide)) hr (by rfl) T.g_Ldraw T.F_Ldraw.kp T.b_Ldraw .nil (fun _ => .nil) (da_cons (de_var (pv 0)) (da_cons (de_callB call_lenD (by rfl) T.m_len (by decide +kernel) (da_cons (de_ix (de_var (pv 1)) de_int (fun _ _ => rfl)) da_nil)) da_nil))))) (dg_name (pg_name (i := 4) sc_Lled.nd rfl (by first | exact .inl rfl | exact .inr rfl))) (dss_cons (ds_setLc (x := "feed") (j := 6) (i := 5) rfl sc_Lled.nd rfl rfl (sw_true rfl rfl rfl (by decide +kernel)) (di_any (de_ix (de_var (pv 1)) de_int (fun _ _ => rfl))) (blkOk_by (own := [("feed", 6)]) (N := N_Lled) (sc := defScope s_Lled) (by decide +kernel)) (fun _ _ _ _ _ => pg_name (i := 6) sc_Lled.nd rfl (by first | exact .inl rfl | exact .inr rfl)) (fun _ _ _ _ _ => (dts_one (DW.dt (dw_and (dt_cmp (op_eqDD hr.units) (de_ix (de_var (pv 6)) de_int (fun _ _ => rfl)) (de_ix (de_var (pv 3)) (de_op op_subD (de_callB call_lenD (by rfl) T.m_len (by decide +kernel) (da_cons (de_var (pv 3)) da_nil)) de_int) (fun _ _ => rfl)) (nomark _)) (dw_and1 (dt_cmp (op_notInDD (u65 hr)) (de_ix (de_var (pv 6)) de_int (fun _ _ => rfl)) (de_var (pv 3)) (by rfl))))))) (fun _ _ _ _ _ => (de_ix (de_var (pv 6)) de_int (fun _ _ => rfl))))
    (dss_one (ds_if (dt_cmp (op_gtD hr.units) (de_callB call_lenD (by rfl) T.m_len (by decide +kernel) (da_cons (de_var (pv 5)) da_nil)) de_int (nomark _)) (dss_one (ds_set (i := 3) (fun _ h => ps_set sc_Lled.nd rfl (by first | exact .inl rfl | exact .inr rfl) h) (de_op op_addD (de_var (pv 3)) (de_tup (da_cons (de_call ((ok_Lpick T).mono (by decide)) hr (by rfl) T.g_Lpick T.F_Lpick.kp T.b_Lpick .nil (fun _ => .nil) (da_cons (de_var (pv 0)) (da_cons (de_var (pv 5)) da_nil))) da_nil))))) dss_nil))))
    (dss_one (ds_ret (de_var (pv 3))))))
theorem ok_Ltuples (T : Fx K mg) : FnOk P w K mg base CX0 5 T.a_Ltuples T.d_Ltuples ["source", "book", "origin", "ways", "strange"] (lSp K sp_Ltuples) :=
  okD T.F_Ltuples sc_Ltuples len_Ltuples rd_Ltuples fun cdv A outer s H E hr =>
    (dss_cons (ds_setLc (x := "site") (j := 11) (i := 5) rfl sc_Ltuples.nd rfl rfl (sw_true rfl rfl rfl (by decide +kernel)) (di_any (de_ix (de_var (pv 1)) de_int (fun _ _ => rfl))) (blkOk_by (own := [("site", 11)]) (N := N_Ltuples) (sc := defScope s_Ltuples) (by decide +kernel)) (fun _ _ _ _ _ => pg_name (i := 11) sc_Ltuples.nd rfl (by first | exact .inl rfl | exact .inr rfl)) (fun _ _ _ _ _ => dts_nil) (fun _ _ _ _ _ => (de_ix (de_var (pv 11)) de_int (fun _ _ => rfl))))
    (dss_cons (ds_set (i := 6) (fun _ h => ps_set sc_Ltuples.nd rfl (by first | exact .inl rfl | exact .inr rfl) h) (de_lst (da_cons (de_tup da_nil) (da_cons (de_tup (da_cons (de_ix (de_var (pv 5)) de_int (fun _ _ => rfl)) da_nil)) (da_cons (de_tup (da_cons (de_var (pv 4)) da_nil)) da_nil)))))
    (dss_cons (ds_for PassesOwn.never rfl (di_range1 (by rfl) T.m_range de_int) (dg_name (pg_name (i := 7) sc_Ltuples.nd rfl (by first | exact .inl rfl | exact .inr rfl))) (dss_cons (ds_set (i := 8) (fun _ h => ps_set sc_Ltuples.nd rfl (by first | exact .inl rfl | exact .inr rfl) h) (de_call ((ok_Lpick T).mono (by decide)) hr (by rfl) T.g_Lpick T.F_Lpick.kp T.b_Lpick .nil (fun _ => .nil) (da_cons (de_var (pv 0)) (da_cons (de_op op_addD (de_var (pv 3)) (de_lst (da_cons (de_tup (da_cons (de_var (pv 2)) da_nil)) da_nil))) da_nil))))
    (dss_cons (ds_set (i := 9) (fun _ h => ps_set sc_Ltuples.nd rfl (by first | exact .inl rfl | exact .inr rfl) h) (de_op op_addD de_int (de_call ((ok_Ldraw T).mono (by decide)) hr (by rfl) T.g_Ldraw T.F_Ldraw.kp T.b_Ldraw .nil (fun _ => .nil) (da_cons (de_var (pv 0)) (da_cons (de_callB call_lenD (by rfl) T.m_len (by decide +kernel) (da_cons (de_var (pv 8)) da_nil)) da_nil)))))
    (dss_cons (ds_set (i := 10) (fun _ h => ps_set sc_Ltuples.nd rfl (by first | exact .inl rfl | exact .inr rfl) h) (de_call ((ok_Lbent T).mono (by decide)) hr (by rfl) T.g_Lbent T.F_Lbent.kp T.b_Lbent .nil (fun _ => .nil) (da_cons (de_var (pv 0)) (da_cons (de_var (pv 8)) (da_cons (de_op op_addD (de_var (pv 5)) (de_lst (da_cons (de_var (pv 4)) (da_cons de_str da_nil)))) da_nil)))))
    (dss_cons (ds_expr (de_bm PySem.F.plainAttrs_list PySem.F.slot_list_append PySem.F.type_list_append mt_appD (de_var (pv 6)) (da_cons (de_var (pv 8)) da_nil)))
    (dss_cons (ds_expr (de_bm PySem.F.plainAttrs_list PySem.F.slot_list_append PySem.F.type_list_append mt_appD (de_var (pv 6)) (da_cons (de_op op_addD (de_op op_addD (de_sl (de_var (pv 8)) do_no (do_some (de_var (pv 9)))) (de_tup (da_cons (de_call ((ok_Lpick T).mono (by decide)) hr (by rfl) T.g_Lpick T.F_Lpick.kp T.b_Lpick .nil (fun _ => .nil) (da_cons (de_var (pv 0)) (da_cons (de_var (pv 5)) da_nil))) (da_cons (de_ix (de_var (pv 8)) (de_op op_subD (de_var (pv 9)) de_int) (fun _ _ => rfl)) da_nil)))) (de_sl (de_var (pv 8)) (do_some (de_var (pv 9))) do_no)) da_nil)))
    (dss_cons (ds_expr (de_bm PySem.F.plainAttrs_list PySem.F.slot_list_append PySem.F.type_list_append mt_appD (de_var (pv 6)) (da_cons (de_call ((ok_Lled T).mono (by decide)) hr (by rfl) T.g_Lled T.F_Lled.kp T.b_Lled .nil (fun _ => .nil) (da_cons (de_var (pv 0)) (da_cons (de_var (pv 1)) (da_cons (de_var (pv 2)) da_nil)))) da_nil)))
    (dss_cons (ds_expr (de_bm PySem.F.plainAttrs_list PySem.F.slot_list_append PySem.F.type_list_append mt_appD (de_var (pv 6)) (da_cons (de_var (pv 10)) da_nil)))
    (dss_one (ds_expr (de_bm PySem.F.plainAttrs_list PySem.F.slot_list_append PySem.F.type_list_append mt_appD (de_var (pv 6)) (da_cons (de_call ((ok_Lbent T).mono (by decide)) hr (by rfl) T.g_Lbent T.F_Lbent.kp T.b_Lbent .nil (fun _ => .nil) (da_cons (de_var (pv 0)) (da_cons (de_var (pv 10)) (da_cons (de_op op_addD (de_var (pv 5)) (de_lst (da_cons (de_var (pv 4)) (da_cons de_str da_nil)))) da_nil)))) da_nil))))))))))))
    (dss_one (ds_ret (de_var (pv 6)))))))
theorem ok_Lleast_right (T : Fx K mg) : FnOk P w K mg base CX0 15 T.a_Lleast_right T.d_Lleast_right ["book", "kind", "ways"] (lSp K sp_Lleast_right) :=
  okD T.F_Lleast_right sc_Lleast_right len_Lleast_right rd_Lleast_right fun cdv A outer s H E hr =>
    (dss_cons (ds_for PassesOwn.never rfl (di_any (de_ix (de_var (pv 0)) de_int (fun _ _ => rfl))) (dg_name (pg_name (i := 3) sc_Lleast_right.nd rfl (by first | exact .inl rfl | exact .inr rfl))) (dss_one (ds_if (dt_not (dt_tru (de_call ((ok_Lsame T).mono (by decide)) hr (by rfl) T.g_Lsame T.F_Lsame.kp T.b_Lsame .nil (fun _ => .nil) (da_cons (de_call ((ok_least_way T).mono (by decide)) hr (by rfl) T.g_least_way T.F_least_way.kp T.b_least_way .nil (fun _ => .nil) (da_cons (de_var (pv 0)) (da_cons (de_var (pv 1)) (da_cons (de_ix (de_var (pv 3)) de_int (fun _ _ => rfl)) da_nil)))) (da_cons (de_call ((ok_Lleast T).mono (by decide)) hr (by rfl) T.g_Lleast T.F_Lleast.kp T.b_Lleast .nil (fun _ => .nil) (da_cons (de_var (pv 2)) (da_cons (de_ix (de_var (pv 3)) de_int (fun _ _ => rfl)) da_nil))) da_nil))))) (dss_one (ds_ret de_bl)) dss_nil)))
    (dss_one (ds_ret de_bl)))
theorem ok_law (T : Fx K mg) : FnOk P w K mg base CX0 16 T.a_law T.d_law ["script"] (lSp K sp_law) :=
  okD T.F_law sc_law len_law rd_law fun cdv A outer s H E hr =>
    (dss_cons (ds_set (i := 1) (fun _ h => ps_set sc_law.nd rfl (by first | exact .inl rfl | exact .inr rfl) h) (de_call ((ok_Lsource T).mono (by decide)) hr (by rfl) T.g_Lsource T.F_Lsource.kp T.b_Lsource .nil (fun _ => .nil) (da_cons (de_var (pv 0)) da_nil)))
    (dss_cons (ds_set (i := 2) (fun _ h => ps_set sc_law.nd rfl (by first | exact .inl rfl | exact .inr rfl) h) (de_call ((ok_Lwords T).mono (by decide)) hr (by rfl) T.g_Lwords T.F_Lwords.kp T.b_Lwords .nil (fun _ => .nil) (da_cons (de_var (pv 1)) da_nil)))
    (dss_cons (ds_set (i := 3) (fun _ h => ps_set sc_law.nd rfl (by first | exact .inl rfl | exact .inr rfl) h) (de_op op_addD de_int (de_call ((ok_Ldraw T).mono (by decide)) hr (by rfl) T.g_Ldraw T.F_Ldraw.kp T.b_Ldraw .nil (fun _ => .nil) (da_cons (de_var (pv 1)) (da_cons de_int da_nil)))))
    (dss_cons (ds_if (dt_tru (de_call ((ok_Lonce_in T).mono (by decide)) hr (by rfl) T.g_Lonce_in T.F_Lonce_in.kp T.b_Lonce_in .nil (fun _ => .nil) (da_cons (de_var (pv 1)) (da_cons de_int da_nil)))) (dss_one (ds_set (i := 3) (fun _ h => ps_set sc_law.nd rfl (by first | exact .inl rfl | exact .inr rfl) h) (de_op op_addD de_int (de_call ((ok_Ldraw T).mono (by decide)) hr (by rfl) T.g_Ldraw T.F_Ldraw.kp T.b_Ldraw .nil (fun _ => .nil) (da_cons (de_var (pv 1)) (da_cons de_int da_nil)))))) dss_nil)
    (dss_cons (ds_set (i := 4) (fun _ h => ps_set sc_law.nd rfl (by first | exact .inl rfl | exact .inr rfl) h) (de_call ((ok_Lnet T).mono (by decide)) hr (by rfl) T.g_Lnet T.F_Lnet.kp T.b_Lnet .nil (fun _ => .nil) (da_cons (de_var (pv 1)) (da_cons (de_var (pv 3)) (da_cons (de_var (pv 2)) da_nil)))))
    (dss_cons (ds_set (i := 5) (fun _ h => ps_set sc_law.nd rfl (by first | exact .inl rfl | exact .inr rfl) h) (de_call ((ok_Lkind T).mono (by decide)) hr (by rfl) T.g_Lkind T.F_Lkind.kp T.b_Lkind .nil (fun _ => .nil) (da_cons (de_var (pv 1)) (da_cons (de_var (pv 4)) (da_cons (de_var (pv 2)) da_nil)))))
    (dss_cons (ds_set (i := 6) (fun _ h => ps_set sc_law.nd rfl (by first | exact .inl rfl | exact .inr rfl) h) (de_call ((ok_Lways T).mono (by decide)) hr (by rfl) T.g_Lways T.F_Lways.kp T.b_Lways .nil (fun _ => .nil) (da_cons (de_var (pv 4)) (da_cons (de_var (pv 5)) da_nil))))
    (dss_cons (ds_set (i := 7) (fun _ h => ps_set sc_law.nd rfl (by first | exact .inl rfl | exact .inr rfl) h) (de_call ((ok_Lnet T).mono (by decide)) hr (by rfl) T.g_Lnet T.F_Lnet.kp T.b_Lnet .nil (fun _ => .nil) (da_cons (de_var (pv 1)) (da_cons de_int (da_cons (de_var (pv 2)) da_nil)))))
    (dss_cons (ds_set (i := 8) (fun _ h => ps_set sc_law.nd rfl (by first | exact .inl rfl | exact .inr rfl) h) (de_call ((ok_Lkind T).mono (by decide)) hr (by rfl) T.g_Lkind T.F_Lkind.kp T.b_Lkind .nil (fun _ => .nil) (da_cons (de_var (pv 1)) (da_cons (de_var (pv 7)) (da_cons (de_var (pv 2)) da_nil)))))
    (dss_cons (ds_if (DW.dt (dw_or (dt_not (dt_tru (de_call ((ok_Lleast_right T).mono (by decide)) hr (by rfl) T.g_Lleast_right T.F_Lleast_right.kp T.b_Lleast_right .nil (fun _ => .nil) (da_cons (de_var (pv 4)) (da_cons (de_var (pv 5)) (da_cons (de_var (pv 6)) da_nil)))))) (dw_or1 (dt_not (dt_tru (de_call ((ok_Lleast_right T).mono (by decide)) hr (by rfl) T.g_Lleast_right T.F_Lleast_right.kp T.b_Lleast_right .nil (fun _ => .nil) (da_cons (de_var (pv 7)) (da_cons (de_var (pv 8)) (da_cons (de_call ((ok_Lways T).mono (by decide)) hr (by rfl) T.g_Lways T.F_Lways.kp T.b_Lways .nil (fun _ => .nil) (da_cons (de_var (pv 7)) (da_cons (de_var (pv 8)) da_nil))) da_nil))))))))) (dss_one (ds_ret de_bl)) dss_nil)
    (dss_cons (ds_setLc (x := "site") (j := 13) (i := 9) rfl sc_law.nd rfl rfl (sw_true rfl rfl rfl (by decide +kernel)) (di_any (de_ix (de_var (pv 4)) de_int (fun _ _ => rfl))) (blkOk_by (own := [("site", 13)]) (N := N_law) (sc := defScope s_law) (by decide +kernel)) (fun _ _ _ _ _ => pg_name (i := 13) sc_law.nd rfl (by first | exact .inl rfl | exact .inr rfl)) (fun _ _ _ _ _ => dts_nil) (fun _ _ _ _ _ => (de_ix (de_var (pv 13)) de_int (fun _ _ => rfl))))
    (dss_cons (ds_set (i := 10) (fun _ h => ps_set sc_law.nd rfl (by first | exact .inl rfl | exact .inr rfl) h) (de_ix (de_var (pv 9)) de_int (fun _ _ => rfl)))
    (dss_cons (ds_for PassesOwn.never rfl (di_any (de_call ((ok_Ltuples T).mono (by decide)) hr (by rfl) T.g_Ltuples T.F_Ltuples.kp T.b_Ltuples .nil (fun _ => .nil) (da_cons (de_var (pv 1)) (da_cons (de_var (pv 4)) (da_cons (de_ix (de_var (pv 5)) de_int (fun _ _ => rfl)) (da_cons (de_var (pv 6)) (da_cons (de_call ((ok_Lnew_name T).mono (by decide)) hr (by rfl) T.g_Lnew_name T.F_Lnew_name.kp T.b_Lnew_name .nil (fun _ => .nil) (da_cons (de_var (pv 1)) (da_cons (de_var (pv 9)) da_nil))) da_nil))))))) (dg_name (pg_name (i := 11) sc_law.nd rfl (by first | exact .inl rfl | exact .inr rfl))) (dss_cons (ds_set (i := 10) (fun _ h => ps_set sc_law.nd rfl (by first | exact .inl rfl | exact .inr rfl) h) (de_call ((ok_Lpick T).mono (by decide)) hr (by rfl) T.g_Lpick T.F_Lpick.kp T.b_Lpick .nil (fun _ => .nil) (da_cons (de_var (pv 1)) (da_cons (de_var (pv 9)) da_nil))))
    (dss_cons (ds_if (DW.dt (dw_and (dt_cmp (op_gtD hr.units) (de_callB call_lenD (by rfl) T.m_len (by decide +kernel) (da_cons (de_var (pv 11)) da_nil)) de_int (nomark _)) (dw_and (dt_cmp (op_inDD (u65 hr)) (de_ix (de_var (pv 11)) (de_op op_subD (de_callB call_lenD (by rfl) T.m_len (by decide +kernel) (da_cons (de_var (pv 11)) da_nil)) de_int) (fun _ _ => rfl)) (de_var (pv 9)) (by rfl)) (dw_and1 (dt_cmp (op_neDD hr.units) (de_call ((ok_Ldraw T).mono (by decide)) hr (by rfl) T.g_Ldraw T.F_Ldraw.kp T.b_Ldraw .nil (fun _ => .nil) (da_cons (de_var (pv 1)) (da_cons de_int da_nil))) de_int (nomark _)))))) (dss_one (ds_set (i := 10) (fun _ h => ps_set sc_law.nd rfl (by first | exact .inl rfl | exact .inr rfl) h) (de_ix (de_var (pv 11)) (de_op op_subD (de_callB call_lenD (by rfl) T.m_len (by decide +kernel) (da_cons (de_var (pv 11)) da_nil)) de_int) (fun _ _ => rfl)))) dss_nil)
    (dss_cons (ds_set (i := 12) (fun _ h => ps_set sc_law.nd rfl (by first | exact .inl rfl | exact .inr rfl) h) (de_and (de_cmp (op_inDD (u65 hr)) (de_var (pv 11)) (de_var (pv 6)) (by rfl)) (de_one (de_cmp (op_eqDD hr.units) (de_ix (de_var (pv 11)) (de_op op_subD (de_callB call_lenD (by rfl) T.m_len (by decide +kernel) (da_cons (de_var (pv 11)) da_nil)) de_int) (fun _ _ => rfl)) (de_var (pv 10)) (nomark _)))))
    (dss_one (ds_if (dt_not (dt_tru (de_call ((ok_Lsame T).mono (by decide)) hr (by rfl) T.g_Lsame T.F_Lsame.kp T.b_Lsame .nil (fun _ => .nil) (da_cons (de_call ((ok_judge_way T).mono (by decide)) hr (by rfl) T.g_judge_way T.F_judge_way.kp T.b_judge_way .nil (fun _ => .nil) (da_cons (de_var (pv 4)) (da_cons (de_var (pv 5)) (da_cons (de_var (pv 10)) (da_cons (de_var (pv 11)) da_nil))))) (da_cons (de_var (pv 12)) da_nil))))) (dss_one (ds_ret de_bl)) dss_nil))))))
    (dss_one (ds_ret (de_call ((ok_Lsame T).mono (by decide)) hr (by rfl) T.g_Lsame T.F_Lsame.kp T.b_Lsame .nil (fun _ => .nil) (da_cons (de_call ((ok_least_way T).mono (by decide)) hr (by rfl) T.g_least_way T.F_least_way.kp T.b_least_way .nil (fun _ => .nil) (da_cons (de_var (pv 4)) (da_cons (de_var (pv 5)) (da_cons (de_var (pv 10)) da_nil)))) (da_cons (de_call ((ok_Lleast T).mono (by decide)) hr (by rfl) T.g_Lleast T.F_Lleast.kp T.b_Lleast .nil (fun _ => .nil) (da_cons (de_var (pv 6)) (da_cons (de_var (pv 10)) da_nil))) da_nil))))))))))))))))))
end
theorem all_mk {l : PySem.W.OpenLaw} {w : World} {K : PySem.W.Frag} {h : Heap} {mg : Str → Option Value} {fa : Addr} (X : K.In h) (G : h.Ns mainGlobals mg) (hfa : mg "law" = some (.ref fa))
    {od_with_stars an_with_stars : Option Addr} {sl_with_stars : Array (Option Value)} {oc_with_stars kV_with_stars dc_with_stars pm_with_stars cd_with_stars ct_with_stars : Value} {f_with_stars : Addr}
    (a_with_stars : PySem.W.nsIn K mainGlobals "with_stars" = some (some (.ref f_with_stars))) (l_with_stars : K.lookup f_with_stars = some ⟨oc_with_stars, od_with_stars, .func (PySem.W.fnOf "with_stars" "with_stars" (defArgs s_with_stars) (defBody s_with_stars) (defScope s_with_stars) .none kV_with_stars dc_with_stars pm_with_stars an_with_stars cd_with_stars ct_with_stars), sl_with_stars⟩) (c_with_stars : PySem.W.codeIn K cd_with_stars "with_stars" = true) (k_with_stars : PySem.W.keepIn K (.ref f_with_stars) = true)
    {od_follows an_follows : Option Addr} {sl_follows : Array (Option Value)} {oc_follows kV_follows dc_follows pm_follows cd_follows ct_follows : Value} {f_follows : Addr}
    (a_follows : PySem.W.nsIn K mainGlobals "follows" = some (some (.ref f_follows))) (l_follows : K.lookup f_follows = some ⟨oc_follows, od_follows, .func (PySem.W.fnOf "follows" "follows" (defArgs s_follows) (defBody s_follows) (defScope s_follows) .none kV_follows dc_follows pm_follows an_follows cd_follows ct_follows), sl_follows⟩) (c_follows : PySem.W.codeIn K cd_follows "follows" = true) (k_follows : PySem.W.keepIn K (.ref f_follows) = true)
    {od_standing an_standing : Option Addr} {sl_standing : Array (Option Value)} {oc_standing kV_standing dc_standing pm_standing cd_standing ct_standing : Value} {f_standing : Addr}
    (a_standing : PySem.W.nsIn K mainGlobals "standing" = some (some (.ref f_standing))) (l_standing : K.lookup f_standing = some ⟨oc_standing, od_standing, .func (PySem.W.fnOf "standing" "standing" (defArgs s_standing) (defBody s_standing) (defScope s_standing) .none kV_standing dc_standing pm_standing an_standing cd_standing ct_standing), sl_standing⟩) (c_standing : PySem.W.codeIn K cd_standing "standing" = true) (k_standing : PySem.W.keepIn K (.ref f_standing) = true)
    {od_fits an_fits : Option Addr} {sl_fits : Array (Option Value)} {oc_fits kV_fits dc_fits pm_fits cd_fits ct_fits : Value} {f_fits : Addr}
    (a_fits : PySem.W.nsIn K mainGlobals "fits" = some (some (.ref f_fits))) (l_fits : K.lookup f_fits = some ⟨oc_fits, od_fits, .func (PySem.W.fnOf "fits" "fits" (defArgs s_fits) (defBody s_fits) (defScope s_fits) .none kV_fits dc_fits pm_fits an_fits cd_fits ct_fits), sl_fits⟩) (c_fits : PySem.W.codeIn K cd_fits "fits" = true) (k_fits : PySem.W.keepIn K (.ref f_fits) = true)
    {od_lets an_lets : Option Addr} {sl_lets : Array (Option Value)} {oc_lets kV_lets dc_lets pm_lets cd_lets ct_lets : Value} {f_lets : Addr}
    (a_lets : PySem.W.nsIn K mainGlobals "lets" = some (some (.ref f_lets))) (l_lets : K.lookup f_lets = some ⟨oc_lets, od_lets, .func (PySem.W.fnOf "lets" "lets" (defArgs s_lets) (defBody s_lets) (defScope s_lets) .none kV_lets dc_lets pm_lets an_lets cd_lets ct_lets), sl_lets⟩) (c_lets : PySem.W.codeIn K cd_lets "lets" = true) (k_lets : PySem.W.keepIn K (.ref f_lets) = true)
    {od_site_of an_site_of : Option Addr} {sl_site_of : Array (Option Value)} {oc_site_of kV_site_of dc_site_of pm_site_of cd_site_of ct_site_of : Value} {f_site_of : Addr}
    (a_site_of : PySem.W.nsIn K mainGlobals "site_of" = some (some (.ref f_site_of))) (l_site_of : K.lookup f_site_of = some ⟨oc_site_of, od_site_of, .func (PySem.W.fnOf "site_of" "site_of" (defArgs s_site_of) (defBody s_site_of) (defScope s_site_of) .none kV_site_of dc_site_of pm_site_of an_site_of cd_site_of ct_site_of), sl_site_of⟩) (c_site_of : PySem.W.codeIn K cd_site_of "site_of" = true) (k_site_of : PySem.W.keepIn K (.ref f_site_of) = true)
    {od_feed_of an_feed_of : Option Addr} {sl_feed_of : Array (Option Value)} {oc_feed_of kV_feed_of dc_feed_of pm_feed_of cd_feed_of ct_feed_of : Value} {f_feed_of : Addr}
    (a_feed_of : PySem.W.nsIn K mainGlobals "feed_of" = some (some (.ref f_feed_of))) (l_feed_of : K.lookup f_feed_of = some ⟨oc_feed_of, od_feed_of, .func (PySem.W.fnOf "feed_of" "feed_of" (defArgs s_feed_of) (defBody s_feed_of) (defScope s_feed_of) .none kV_feed_of dc_feed_of pm_feed_of an_feed_of cd_feed_of ct_feed_of), sl_feed_of⟩) (c_feed_of : PySem.W.codeIn K cd_feed_of "feed_of" = true) (k_feed_of : PySem.W.keepIn K (.ref f_feed_of) = true)
    {od_carries an_carries : Option Addr} {sl_carries : Array (Option Value)} {oc_carries kV_carries dc_carries pm_carries cd_carries ct_carries : Value} {f_carries : Addr}
    (a_carries : PySem.W.nsIn K mainGlobals "carries" = some (some (.ref f_carries))) (l_carries : K.lookup f_carries = some ⟨oc_carries, od_carries, .func (PySem.W.fnOf "carries" "carries" (defArgs s_carries) (defBody s_carries) (defScope s_carries) .none kV_carries dc_carries pm_carries an_carries cd_carries ct_carries), sl_carries⟩) (c_carries : PySem.W.codeIn K cd_carries "carries" = true) (k_carries : PySem.W.keepIn K (.ref f_carries) = true)
    {od_lets_some an_lets_some : Option Addr} {sl_lets_some : Array (Option Value)} {oc_lets_some kV_lets_some dc_lets_some pm_lets_some cd_lets_some ct_lets_some : Value} {f_lets_some : Addr}
    (a_lets_some : PySem.W.nsIn K mainGlobals "lets_some" = some (some (.ref f_lets_some))) (l_lets_some : K.lookup f_lets_some = some ⟨oc_lets_some, od_lets_some, .func (PySem.W.fnOf "lets_some" "lets_some" (defArgs s_lets_some) (defBody s_lets_some) (defScope s_lets_some) .none kV_lets_some dc_lets_some pm_lets_some an_lets_some cd_lets_some ct_lets_some), sl_lets_some⟩) (c_lets_some : PySem.W.codeIn K cd_lets_some "lets_some" = true) (k_lets_some : PySem.W.keepIn K (.ref f_lets_some) = true)
    {od_is_open an_is_open : Option Addr} {sl_is_open : Array (Option Value)} {oc_is_open kV_is_open dc_is_open pm_is_open cd_is_open ct_is_open : Value} {f_is_open : Addr}
    (a_is_open : PySem.W.nsIn K mainGlobals "is_open" = some (some (.ref f_is_open))) (l_is_open : K.lookup f_is_open = some ⟨oc_is_open, od_is_open, .func (PySem.W.fnOf "is_open" "is_open" (defArgs s_is_open) (defBody s_is_open) (defScope s_is_open) .none kV_is_open dc_is_open pm_is_open an_is_open cd_is_open ct_is_open), sl_is_open⟩) (c_is_open : PySem.W.codeIn K cd_is_open "is_open" = true) (k_is_open : PySem.W.keepIn K (.ref f_is_open) = true)
    {od_passes an_passes : Option Addr} {sl_passes : Array (Option Value)} {oc_passes kV_passes dc_passes pm_passes cd_passes ct_passes : Value} {f_passes : Addr}
    (a_passes : PySem.W.nsIn K mainGlobals "passes" = some (some (.ref f_passes))) (l_passes : K.lookup f_passes = some ⟨oc_passes, od_passes, .func (PySem.W.fnOf "passes" "passes" (defArgs s_passes) (defBody s_passes) (defScope s_passes) .none kV_passes dc_passes pm_passes an_passes cd_passes ct_passes), sl_passes⟩) (c_passes : PySem.W.codeIn K cd_passes "passes" = true) (k_passes : PySem.W.keepIn K (.ref f_passes) = true)
    {od_carriers an_carriers : Option Addr} {sl_carriers : Array (Option Value)} {oc_carriers kV_carriers dc_carriers pm_carriers cd_carriers ct_carriers : Value} {f_carriers : Addr}
    (a_carriers : PySem.W.nsIn K mainGlobals "carriers" = some (some (.ref f_carriers))) (l_carriers : K.lookup f_carriers = some ⟨oc_carriers, od_carriers, .func (PySem.W.fnOf "carriers" "carriers" (defArgs s_carriers) (defBody s_carriers) (defScope s_carriers) .none kV_carriers dc_carriers pm_carriers an_carriers cd_carriers ct_carriers), sl_carriers⟩) (c_carriers : PySem.W.codeIn K cd_carriers "carriers" = true) (k_carriers : PySem.W.keepIn K (.ref f_carriers) = true)
    {od_open_feeds an_open_feeds : Option Addr} {sl_open_feeds : Array (Option Value)} {oc_open_feeds kV_open_feeds dc_open_feeds pm_open_feeds cd_open_feeds ct_open_feeds : Value} {f_open_feeds : Addr}
    (a_open_feeds : PySem.W.nsIn K mainGlobals "open_feeds" = some (some (.ref f_open_feeds))) (l_open_feeds : K.lookup f_open_feeds = some ⟨oc_open_feeds, od_open_feeds, .func (PySem.W.fnOf "open_feeds" "open_feeds" (defArgs s_open_feeds) (defBody s_open_feeds) (defScope s_open_feeds) .none kV_open_feeds dc_open_feeds pm_open_feeds an_open_feeds cd_open_feeds ct_open_feeds), sl_open_feeds⟩) (c_open_feeds : PySem.W.codeIn K cd_open_feeds "open_feeds" = true) (k_open_feeds : PySem.W.keepIn K (.ref f_open_feeds) = true)
    {od_hops_over an_hops_over : Option Addr} {sl_hops_over : Array (Option Value)} {oc_hops_over kV_hops_over dc_hops_over pm_hops_over cd_hops_over ct_hops_over : Value} {f_hops_over : Addr}
    (a_hops_over : PySem.W.nsIn K mainGlobals "hops_over" = some (some (.ref f_hops_over))) (l_hops_over : K.lookup f_hops_over = some ⟨oc_hops_over, od_hops_over, .func (PySem.W.fnOf "hops_over" "hops_over" (defArgs s_hops_over) (defBody s_hops_over) (defScope s_hops_over) .none kV_hops_over dc_hops_over pm_hops_over an_hops_over cd_hops_over ct_hops_over), sl_hops_over⟩) (c_hops_over : PySem.W.codeIn K cd_hops_over "hops_over" = true) (k_hops_over : PySem.W.keepIn K (.ref f_hops_over) = true)
    {od_least_hops an_least_hops : Option Addr} {sl_least_hops : Array (Option Value)} {oc_least_hops kV_least_hops dc_least_hops pm_least_hops cd_least_hops ct_least_hops : Value} {f_least_hops : Addr}
    (a_least_hops : PySem.W.nsIn K mainGlobals "least_hops" = some (some (.ref f_least_hops))) (l_least_hops : K.lookup f_least_hops = some ⟨oc_least_hops, od_least_hops, .func (PySem.W.fnOf "least_hops" "least_hops" (defArgs s_least_hops) (defBody s_least_hops) (defScope s_least_hops) .none kV_least_hops dc_least_hops pm_least_hops an_least_hops cd_least_hops ct_least_hops), sl_least_hops⟩) (c_least_hops : PySem.W.codeIn K cd_least_hops "least_hops" = true) (k_least_hops : PySem.W.keepIn K (.ref f_least_hops) = true)
    {od_Lmix an_Lmix : Option Addr} {sl_Lmix : Array (Option Value)} {oc_Lmix kV_Lmix dc_Lmix pm_Lmix cd_Lmix ct_Lmix : Value} {f_Lmix : Addr}
    (a_Lmix : PySem.W.nsIn K mainGlobals "_law_mix" = some (some (.ref f_Lmix))) (l_Lmix : K.lookup f_Lmix = some ⟨oc_Lmix, od_Lmix, .func (PySem.W.fnOf "_law_mix" "_law_mix" (defArgs s_Lmix) (defBody s_Lmix) (defScope s_Lmix) .none kV_Lmix dc_Lmix pm_Lmix an_Lmix cd_Lmix ct_Lmix), sl_Lmix⟩) (c_Lmix : PySem.W.codeIn K cd_Lmix "_law_mix" = true) (k_Lmix : PySem.W.keepIn K (.ref f_Lmix) = true)
    {od_Lsource an_Lsource : Option Addr} {sl_Lsource : Array (Option Value)} {oc_Lsource kV_Lsource dc_Lsource pm_Lsource cd_Lsource ct_Lsource : Value} {f_Lsource : Addr}
    (a_Lsource : PySem.W.nsIn K mainGlobals "_law_source" = some (some (.ref f_Lsource))) (l_Lsource : K.lookup f_Lsource = some ⟨oc_Lsource, od_Lsource, .func (PySem.W.fnOf "_law_source" "_law_source" (defArgs s_Lsource) (defBody s_Lsource) (defScope s_Lsource) .none kV_Lsource dc_Lsource pm_Lsource an_Lsource cd_Lsource ct_Lsource), sl_Lsource⟩) (c_Lsource : PySem.W.codeIn K cd_Lsource "_law_source" = true) (k_Lsource : PySem.W.keepIn K (.ref f_Lsource) = true)
    {od_Ldraw an_Ldraw : Option Addr} {sl_Ldraw : Array (Option Value)} {oc_Ldraw kV_Ldraw dc_Ldraw pm_Ldraw cd_Ldraw ct_Ldraw : Value} {f_Ldraw : Addr}
    (a_Ldraw : PySem.W.nsIn K mainGlobals "_law_draw" = some (some (.ref f_Ldraw))) (l_Ldraw : K.lookup f_Ldraw = some ⟨oc_Ldraw, od_Ldraw, .func (PySem.W.fnOf "_law_draw" "_law_draw" (defArgs s_Ldraw) (defBody s_Ldraw) (defScope s_Ldraw) .none kV_Ldraw dc_Ldraw pm_Ldraw an_Ldraw cd_Ldraw ct_Ldraw), sl_Ldraw⟩) (c_Ldraw : PySem.W.codeIn K cd_Ldraw "_law_draw" = true) (k_Ldraw : PySem.W.keepIn K (.ref f_Ldraw) = true)
    {od_Lpick an_Lpick : Option Addr} {sl_Lpick : Array (Option Value)} {oc_Lpick kV_Lpick dc_Lpick pm_Lpick cd_Lpick ct_Lpick : Value} {f_Lpick : Addr}
    (a_Lpick : PySem.W.nsIn K mainGlobals "_law_pick" = some (some (.ref f_Lpick))) (l_Lpick : K.lookup f_Lpick = some ⟨oc_Lpick, od_Lpick, .func (PySem.W.fnOf "_law_pick" "_law_pick" (defArgs s_Lpick) (defBody s_Lpick) (defScope s_Lpick) .none kV_Lpick dc_Lpick pm_Lpick an_Lpick cd_Lpick ct_Lpick), sl_Lpick⟩) (c_Lpick : PySem.W.codeIn K cd_Lpick "_law_pick" = true) (k_Lpick : PySem.W.keepIn K (.ref f_Lpick) = true)
    {od_Lonce_in an_Lonce_in : Option Addr} {sl_Lonce_in : Array (Option Value)} {oc_Lonce_in kV_Lonce_in dc_Lonce_in pm_Lonce_in cd_Lonce_in ct_Lonce_in : Value} {f_Lonce_in : Addr}
    (a_Lonce_in : PySem.W.nsIn K mainGlobals "_law_once_in" = some (some (.ref f_Lonce_in))) (l_Lonce_in : K.lookup f_Lonce_in = some ⟨oc_Lonce_in, od_Lonce_in, .func (PySem.W.fnOf "_law_once_in" "_law_once_in" (defArgs s_Lonce_in) (defBody s_Lonce_in) (defScope s_Lonce_in) .none kV_Lonce_in dc_Lonce_in pm_Lonce_in an_Lonce_in cd_Lonce_in ct_Lonce_in), sl_Lonce_in⟩) (c_Lonce_in : PySem.W.codeIn K cd_Lonce_in "_law_once_in" = true) (k_Lonce_in : PySem.W.keepIn K (.ref f_Lonce_in) = true)
    {od_Lshuffled an_Lshuffled : Option Addr} {sl_Lshuffled : Array (Option Value)} {oc_Lshuffled kV_Lshuffled dc_Lshuffled pm_Lshuffled cd_Lshuffled ct_Lshuffled : Value} {f_Lshuffled : Addr}
    (a_Lshuffled : PySem.W.nsIn K mainGlobals "_law_shuffled" = some (some (.ref f_Lshuffled))) (l_Lshuffled : K.lookup f_Lshuffled = some ⟨oc_Lshuffled, od_Lshuffled, .func (PySem.W.fnOf "_law_shuffled" "_law_shuffled" (defArgs s_Lshuffled) (defBody s_Lshuffled) (defScope s_Lshuffled) .none kV_Lshuffled dc_Lshuffled pm_Lshuffled an_Lshuffled cd_Lshuffled ct_Lshuffled), sl_Lshuffled⟩) (c_Lshuffled : PySem.W.codeIn K cd_Lshuffled "_law_shuffled" = true) (k_Lshuffled : PySem.W.keepIn K (.ref f_Lshuffled) = true)
    {od_Lnew_name an_Lnew_name : Option Addr} {sl_Lnew_name : Array (Option Value)} {oc_Lnew_name kV_Lnew_name dc_Lnew_name pm_Lnew_name cd_Lnew_name ct_Lnew_name : Value} {f_Lnew_name : Addr}
    (a_Lnew_name : PySem.W.nsIn K mainGlobals "_law_new_name" = some (some (.ref f_Lnew_name))) (l_Lnew_name : K.lookup f_Lnew_name = some ⟨oc_Lnew_name, od_Lnew_name, .func (PySem.W.fnOf "_law_new_name" "_law_new_name" (defArgs s_Lnew_name) (defBody s_Lnew_name) (defScope s_Lnew_name) .none kV_Lnew_name dc_Lnew_name pm_Lnew_name an_Lnew_name cd_Lnew_name ct_Lnew_name), sl_Lnew_name⟩) (c_Lnew_name : PySem.W.codeIn K cd_Lnew_name "_law_new_name" = true) (k_Lnew_name : PySem.W.keepIn K (.ref f_Lnew_name) = true)
    {od_Lnames an_Lnames : Option Addr} {sl_Lnames : Array (Option Value)} {oc_Lnames kV_Lnames dc_Lnames pm_Lnames cd_Lnames ct_Lnames : Value} {f_Lnames : Addr}
    (a_Lnames : PySem.W.nsIn K mainGlobals "_law_names" = some (some (.ref f_Lnames))) (l_Lnames : K.lookup f_Lnames = some ⟨oc_Lnames, od_Lnames, .func (PySem.W.fnOf "_law_names" "_law_names" (defArgs s_Lnames) (defBody s_Lnames) (defScope s_Lnames) .none kV_Lnames dc_Lnames pm_Lnames an_Lnames cd_Lnames ct_Lnames), sl_Lnames⟩) (c_Lnames : PySem.W.codeIn K cd_Lnames "_law_names" = true) (k_Lnames : PySem.W.keepIn K (.ref f_Lnames) = true)
    {od_Lwords an_Lwords : Option Addr} {sl_Lwords : Array (Option Value)} {oc_Lwords kV_Lwords dc_Lwords pm_Lwords cd_Lwords ct_Lwords : Value} {f_Lwords : Addr}
    (a_Lwords : PySem.W.nsIn K mainGlobals "_law_words" = some (some (.ref f_Lwords))) (l_Lwords : K.lookup f_Lwords = some ⟨oc_Lwords, od_Lwords, .func (PySem.W.fnOf "_law_words" "_law_words" (defArgs s_Lwords) (defBody s_Lwords) (defScope s_Lwords) .none kV_Lwords dc_Lwords pm_Lwords an_Lwords cd_Lwords ct_Lwords), sl_Lwords⟩) (c_Lwords : PySem.W.codeIn K cd_Lwords "_law_words" = true) (k_Lwords : PySem.W.keepIn K (.ref f_Lwords) = true)
    {od_Lboard an_Lboard : Option Addr} {sl_Lboard : Array (Option Value)} {oc_Lboard kV_Lboard dc_Lboard pm_Lboard cd_Lboard ct_Lboard : Value} {f_Lboard : Addr}
    (a_Lboard : PySem.W.nsIn K mainGlobals "_law_board" = some (some (.ref f_Lboard))) (l_Lboard : K.lookup f_Lboard = some ⟨oc_Lboard, od_Lboard, .func (PySem.W.fnOf "_law_board" "_law_board" (defArgs s_Lboard) (defBody s_Lboard) (defScope s_Lboard) .none kV_Lboard dc_Lboard pm_Lboard an_Lboard cd_Lboard ct_Lboard), sl_Lboard⟩) (c_Lboard : PySem.W.codeIn K cd_Lboard "_law_board" = true) (k_Lboard : PySem.W.keepIn K (.ref f_Lboard) = true)
    {od_Lboards an_Lboards : Option Addr} {sl_Lboards : Array (Option Value)} {oc_Lboards kV_Lboards dc_Lboards pm_Lboards cd_Lboards ct_Lboards : Value} {f_Lboards : Addr}
    (a_Lboards : PySem.W.nsIn K mainGlobals "_law_boards" = some (some (.ref f_Lboards))) (l_Lboards : K.lookup f_Lboards = some ⟨oc_Lboards, od_Lboards, .func (PySem.W.fnOf "_law_boards" "_law_boards" (defArgs s_Lboards) (defBody s_Lboards) (defScope s_Lboards) .none kV_Lboards dc_Lboards pm_Lboards an_Lboards cd_Lboards ct_Lboards), sl_Lboards⟩) (c_Lboards : PySem.W.codeIn K cd_Lboards "_law_boards" = true) (k_Lboards : PySem.W.keepIn K (.ref f_Lboards) = true)
    {od_Lglob an_Lglob : Option Addr} {sl_Lglob : Array (Option Value)} {oc_Lglob kV_Lglob dc_Lglob pm_Lglob cd_Lglob ct_Lglob : Value} {f_Lglob : Addr}
    (a_Lglob : PySem.W.nsIn K mainGlobals "_law_glob" = some (some (.ref f_Lglob))) (l_Lglob : K.lookup f_Lglob = some ⟨oc_Lglob, od_Lglob, .func (PySem.W.fnOf "_law_glob" "_law_glob" (defArgs s_Lglob) (defBody s_Lglob) (defScope s_Lglob) .none kV_Lglob dc_Lglob pm_Lglob an_Lglob cd_Lglob ct_Lglob), sl_Lglob⟩) (c_Lglob : PySem.W.codeIn K cd_Lglob "_law_glob" = true) (k_Lglob : PySem.W.keepIn K (.ref f_Lglob) = true)
    {od_Lpattern an_Lpattern : Option Addr} {sl_Lpattern : Array (Option Value)} {oc_Lpattern kV_Lpattern dc_Lpattern pm_Lpattern cd_Lpattern ct_Lpattern : Value} {f_Lpattern : Addr}
    (a_Lpattern : PySem.W.nsIn K mainGlobals "_law_pattern" = some (some (.ref f_Lpattern))) (l_Lpattern : K.lookup f_Lpattern = some ⟨oc_Lpattern, od_Lpattern, .func (PySem.W.fnOf "_law_pattern" "_law_pattern" (defArgs s_Lpattern) (defBody s_Lpattern) (defScope s_Lpattern) .none kV_Lpattern dc_Lpattern pm_Lpattern an_Lpattern cd_Lpattern ct_Lpattern), sl_Lpattern⟩) (c_Lpattern : PySem.W.codeIn K cd_Lpattern "_law_pattern" = true) (k_Lpattern : PySem.W.keepIn K (.ref f_Lpattern) = true)
    {od_Lfits an_Lfits : Option Addr} {sl_Lfits : Array (Option Value)} {oc_Lfits kV_Lfits dc_Lfits pm_Lfits cd_Lfits ct_Lfits : Value} {f_Lfits : Addr}
    (a_Lfits : PySem.W.nsIn K mainGlobals "_law_fits" = some (some (.ref f_Lfits))) (l_Lfits : K.lookup f_Lfits = some ⟨oc_Lfits, od_Lfits, .func (PySem.W.fnOf "_law_fits" "_law_fits" (defArgs s_Lfits) (defBody s_Lfits) (defScope s_Lfits) .none kV_Lfits dc_Lfits pm_Lfits an_Lfits cd_Lfits ct_Lfits), sl_Lfits⟩) (c_Lfits : PySem.W.codeIn K cd_Lfits "_law_fits" = true) (k_Lfits : PySem.W.keepIn K (.ref f_Lfits) = true)
    {od_Llets an_Llets : Option Addr} {sl_Llets : Array (Option Value)} {oc_Llets kV_Llets dc_Llets pm_Llets cd_Llets ct_Llets : Value} {f_Llets : Addr}
    (a_Llets : PySem.W.nsIn K mainGlobals "_law_lets" = some (some (.ref f_Llets))) (l_Llets : K.lookup f_Llets = some ⟨oc_Llets, od_Llets, .func (PySem.W.fnOf "_law_lets" "_law_lets" (defArgs s_Llets) (defBody s_Llets) (defScope s_Llets) .none kV_Llets dc_Llets pm_Llets an_Llets cd_Llets ct_Llets), sl_Llets⟩) (c_Llets : PySem.W.codeIn K cd_Llets "_law_lets" = true) (k_Llets : PySem.W.keepIn K (.ref f_Llets) = true)
    {od_Llets_some an_Llets_some : Option Addr} {sl_Llets_some : Array (Option Value)} {oc_Llets_some kV_Llets_some dc_Llets_some pm_Llets_some cd_Llets_some ct_Llets_some : Value} {f_Llets_some : Addr}
    (a_Llets_some : PySem.W.nsIn K mainGlobals "_law_lets_some" = some (some (.ref f_Llets_some))) (l_Llets_some : K.lookup f_Llets_some = some ⟨oc_Llets_some, od_Llets_some, .func (PySem.W.fnOf "_law_lets_some" "_law_lets_some" (defArgs s_Llets_some) (defBody s_Llets_some) (defScope s_Llets_some) .none kV_Llets_some dc_Llets_some pm_Llets_some an_Llets_some cd_Llets_some ct_Llets_some), sl_Llets_some⟩) (c_Llets_some : PySem.W.codeIn K cd_Llets_some "_law_lets_some" = true) (k_Llets_some : PySem.W.keepIn K (.ref f_Llets_some) = true)
    {od_Lis_int an_Lis_int : Option Addr} {sl_Lis_int : Array (Option Value)} {oc_Lis_int kV_Lis_int dc_Lis_int pm_Lis_int cd_Lis_int ct_Lis_int : Value} {f_Lis_int : Addr}
    (a_Lis_int : PySem.W.nsIn K mainGlobals "_law_is_int" = some (some (.ref f_Lis_int))) (l_Lis_int : K.lookup f_Lis_int = some ⟨oc_Lis_int, od_Lis_int, .func (PySem.W.fnOf "_law_is_int" "_law_is_int" (defArgs s_Lis_int) (defBody s_Lis_int) (defScope s_Lis_int) .none kV_Lis_int dc_Lis_int pm_Lis_int an_Lis_int cd_Lis_int ct_Lis_int), sl_Lis_int⟩) (c_Lis_int : PySem.W.codeIn K cd_Lis_int "_law_is_int" = true) (k_Lis_int : PySem.W.keepIn K (.ref f_Lis_int) = true)
    {od_Lsame an_Lsame : Option Addr} {sl_Lsame : Array (Option Value)} {oc_Lsame kV_Lsame dc_Lsame pm_Lsame cd_Lsame ct_Lsame : Value} {f_Lsame : Addr}
    (a_Lsame : PySem.W.nsIn K mainGlobals "_law_same" = some (some (.ref f_Lsame))) (l_Lsame : K.lookup f_Lsame = some ⟨oc_Lsame, od_Lsame, .func (PySem.W.fnOf "_law_same" "_law_same" (defArgs s_Lsame) (defBody s_Lsame) (defScope s_Lsame) .none kV_Lsame dc_Lsame pm_Lsame an_Lsame cd_Lsame ct_Lsame), sl_Lsame⟩) (c_Lsame : PySem.W.codeIn K cd_Lsame "_law_same" = true) (k_Lsame : PySem.W.keepIn K (.ref f_Lsame) = true)
    {od_Llines an_Llines : Option Addr} {sl_Llines : Array (Option Value)} {oc_Llines kV_Llines dc_Llines pm_Llines cd_Llines ct_Llines : Value} {f_Llines : Addr}
    (a_Llines : PySem.W.nsIn K mainGlobals "_law_lines" = some (some (.ref f_Llines))) (l_Llines : K.lookup f_Llines = some ⟨oc_Llines, od_Llines, .func (PySem.W.fnOf "_law_lines" "_law_lines" (defArgs s_Llines) (defBody s_Llines) (defScope s_Llines) .none kV_Llines dc_Llines pm_Llines an_Llines cd_Llines ct_Llines), sl_Llines⟩) (c_Llines : PySem.W.codeIn K cd_Llines "_law_lines" = true) (k_Llines : PySem.W.keepIn K (.ref f_Llines) = true)
    {od_least_ways an_least_ways : Option Addr} {sl_least_ways : Array (Option Value)} {oc_least_ways kV_least_ways dc_least_ways pm_least_ways cd_least_ways ct_least_ways : Value} {f_least_ways : Addr}
    (a_least_ways : PySem.W.nsIn K mainGlobals "least_ways" = some (some (.ref f_least_ways))) (l_least_ways : K.lookup f_least_ways = some ⟨oc_least_ways, od_least_ways, .func (PySem.W.fnOf "least_ways" "least_ways" (defArgs s_least_ways) (defBody s_least_ways) (defScope s_least_ways) .none kV_least_ways dc_least_ways pm_least_ways an_least_ways cd_least_ways ct_least_ways), sl_least_ways⟩) (c_least_ways : PySem.W.codeIn K cd_least_ways "least_ways" = true) (k_least_ways : PySem.W.keepIn K (.ref f_least_ways) = true)
    {od_least_way an_least_way : Option Addr} {sl_least_way : Array (Option Value)} {oc_least_way kV_least_way dc_least_way pm_least_way cd_least_way ct_least_way : Value} {f_least_way : Addr}
    (a_least_way : PySem.W.nsIn K mainGlobals "least_way" = some (some (.ref f_least_way))) (l_least_way : K.lookup f_least_way = some ⟨oc_least_way, od_least_way, .func (PySem.W.fnOf "least_way" "least_way" (defArgs s_least_way) (defBody s_least_way) (defScope s_least_way) .none kV_least_way dc_least_way pm_least_way an_least_way cd_least_way ct_least_way), sl_least_way⟩) (c_least_way : PySem.W.codeIn K cd_least_way "least_way" = true) (k_least_way : PySem.W.keepIn K (.ref f_least_way) = true)
    {od_judge_way an_judge_way : Option Addr} {sl_judge_way : Array (Option Value)} {oc_judge_way kV_judge_way dc_judge_way pm_judge_way cd_judge_way ct_judge_way : Value} {f_judge_way : Addr}
    (a_judge_way : PySem.W.nsIn K mainGlobals "judge_way" = some (some (.ref f_judge_way))) (l_judge_way : K.lookup f_judge_way = some ⟨oc_judge_way, od_judge_way, .func (PySem.W.fnOf "judge_way" "judge_way" (defArgs s_judge_way) (defBody s_judge_way) (defScope s_judge_way) .none kV_judge_way dc_judge_way pm_judge_way an_judge_way cd_judge_way ct_judge_way), sl_judge_way⟩) (c_judge_way : PySem.W.codeIn K cd_judge_way "judge_way" = true) (k_judge_way : PySem.W.keepIn K (.ref f_judge_way) = true)
    {od_Lall_lines an_Lall_lines : Option Addr} {sl_Lall_lines : Array (Option Value)} {oc_Lall_lines kV_Lall_lines dc_Lall_lines pm_Lall_lines cd_Lall_lines ct_Lall_lines : Value} {f_Lall_lines : Addr}
    (a_Lall_lines : PySem.W.nsIn K mainGlobals "_law_all_lines" = some (some (.ref f_Lall_lines))) (l_Lall_lines : K.lookup f_Lall_lines = some ⟨oc_Lall_lines, od_Lall_lines, .func (PySem.W.fnOf "_law_all_lines" "_law_all_lines" (defArgs s_Lall_lines) (defBody s_Lall_lines) (defScope s_Lall_lines) .none kV_Lall_lines dc_Lall_lines pm_Lall_lines an_Lall_lines cd_Lall_lines ct_Lall_lines), sl_Lall_lines⟩) (c_Lall_lines : PySem.W.codeIn K cd_Lall_lines "_law_all_lines" = true) (k_Lall_lines : PySem.W.keepIn K (.ref f_Lall_lines) = true)
    {od_Lnet an_Lnet : Option Addr} {sl_Lnet : Array (Option Value)} {oc_Lnet kV_Lnet dc_Lnet pm_Lnet cd_Lnet ct_Lnet : Value} {f_Lnet : Addr}
    (a_Lnet : PySem.W.nsIn K mainGlobals "_law_net" = some (some (.ref f_Lnet))) (l_Lnet : K.lookup f_Lnet = some ⟨oc_Lnet, od_Lnet, .func (PySem.W.fnOf "_law_net" "_law_net" (defArgs s_Lnet) (defBody s_Lnet) (defScope s_Lnet) .none kV_Lnet dc_Lnet pm_Lnet an_Lnet cd_Lnet ct_Lnet), sl_Lnet⟩) (c_Lnet : PySem.W.codeIn K cd_Lnet "_law_net" = true) (k_Lnet : PySem.W.keepIn K (.ref f_Lnet) = true)
    {od_Lkind an_Lkind : Option Addr} {sl_Lkind : Array (Option Value)} {oc_Lkind kV_Lkind dc_Lkind pm_Lkind cd_Lkind ct_Lkind : Value} {f_Lkind : Addr}
    (a_Lkind : PySem.W.nsIn K mainGlobals "_law_kind" = some (some (.ref f_Lkind))) (l_Lkind : K.lookup f_Lkind = some ⟨oc_Lkind, od_Lkind, .func (PySem.W.fnOf "_law_kind" "_law_kind" (defArgs s_Lkind) (defBody s_Lkind) (defScope s_Lkind) .none kV_Lkind dc_Lkind pm_Lkind an_Lkind cd_Lkind ct_Lkind), sl_Lkind⟩) (c_Lkind : PySem.W.codeIn K cd_Lkind "_law_kind" = true) (k_Lkind : PySem.W.keepIn K (.ref f_Lkind) = true)
    {od_Lways an_Lways : Option Addr} {sl_Lways : Array (Option Value)} {oc_Lways kV_Lways dc_Lways pm_Lways cd_Lways ct_Lways : Value} {f_Lways : Addr}
    (a_Lways : PySem.W.nsIn K mainGlobals "_law_ways" = some (some (.ref f_Lways))) (l_Lways : K.lookup f_Lways = some ⟨oc_Lways, od_Lways, .func (PySem.W.fnOf "_law_ways" "_law_ways" (defArgs s_Lways) (defBody s_Lways) (defScope s_Lways) .none kV_Lways dc_Lways pm_Lways an_Lways cd_Lways ct_Lways), sl_Lways⟩) (c_Lways : PySem.W.codeIn K cd_Lways "_law_ways" = true) (k_Lways : PySem.W.keepIn K (.ref f_Lways) = true)
    {od_Lleast an_Lleast : Option Addr} {sl_Lleast : Array (Option Value)} {oc_Lleast kV_Lleast dc_Lleast pm_Lleast cd_Lleast ct_Lleast : Value} {f_Lleast : Addr}
    (a_Lleast : PySem.W.nsIn K mainGlobals "_law_least" = some (some (.ref f_Lleast))) (l_Lleast : K.lookup f_Lleast = some ⟨oc_Lleast, od_Lleast, .func (PySem.W.fnOf "_law_least" "_law_least" (defArgs s_Lleast) (defBody s_Lleast) (defScope s_Lleast) .none kV_Lleast dc_Lleast pm_Lleast an_Lleast cd_Lleast ct_Lleast), sl_Lleast⟩) (c_Lleast : PySem.W.codeIn K cd_Lleast "_law_least" = true) (k_Lleast : PySem.W.keepIn K (.ref f_Lleast) = true)
    {od_Lbent an_Lbent : Option Addr} {sl_Lbent : Array (Option Value)} {oc_Lbent kV_Lbent dc_Lbent pm_Lbent cd_Lbent ct_Lbent : Value} {f_Lbent : Addr}
    (a_Lbent : PySem.W.nsIn K mainGlobals "_law_bent" = some (some (.ref f_Lbent))) (l_Lbent : K.lookup f_Lbent = some ⟨oc_Lbent, od_Lbent, .func (PySem.W.fnOf "_law_bent" "_law_bent" (defArgs s_Lbent) (defBody s_Lbent) (defScope s_Lbent) .none kV_Lbent dc_Lbent pm_Lbent an_Lbent cd_Lbent ct_Lbent), sl_Lbent⟩) (c_Lbent : PySem.W.codeIn K cd_Lbent "_law_bent" = true) (k_Lbent : PySem.W.keepIn K (.ref f_Lbent) = true)
    {od_Lled an_Lled : Option Addr} {sl_Lled : Array (Option Value)} {oc_Lled kV_Lled dc_Lled pm_Lled cd_Lled ct_Lled : Value} {f_Lled : Addr}
    (a_Lled : PySem.W.nsIn K mainGlobals "_law_led" = some (some (.ref f_Lled))) (l_Lled : K.lookup f_Lled = some ⟨oc_Lled, od_Lled, .func (PySem.W.fnOf "_law_led" "_law_led" (defArgs s_Lled) (defBody s_Lled) (defScope s_Lled) .none kV_Lled dc_Lled pm_Lled an_Lled cd_Lled ct_Lled), sl_Lled⟩) (c_Lled : PySem.W.codeIn K cd_Lled "_law_led" = true) (k_Lled : PySem.W.keepIn K (.ref f_Lled) = true)
    {od_Ltuples an_Ltuples : Option Addr} {sl_Ltuples : Array (Option Value)} {oc_Ltuples kV_Ltuples dc_Ltuples pm_Ltuples cd_Ltuples ct_Ltuples : Value} {f_Ltuples : Addr}
    (a_Ltuples : PySem.W.nsIn K mainGlobals "_law_tuples" = some (some (.ref f_Ltuples))) (l_Ltuples : K.lookup f_Ltuples = some ⟨oc_Ltuples, od_Ltuples, .func (PySem.W.fnOf "_law_tuples" "_law_tuples" (defArgs s_Ltuples) (defBody s_Ltuples) (defScope s_Ltuples) .none kV_Ltuples dc_Ltuples pm_Ltuples an_Ltuples cd_Ltuples ct_Ltuples), sl_Ltuples⟩) (c_Ltuples : PySem.W.codeIn K cd_Ltuples "_law_tuples" = true) (k_Ltuples : PySem.W.keepIn K (.ref f_Ltuples) = true)
    {od_Lleast_right an_Lleast_right : Option Addr} {sl_Lleast_right : Array (Option Value)} {oc_Lleast_right kV_Lleast_right dc_Lleast_right pm_Lleast_right cd_Lleast_right ct_Lleast_right : Value} {f_Lleast_right : Addr}
    (a_Lleast_right : PySem.W.nsIn K mainGlobals "_law_least_right" = some (some (.ref f_Lleast_right))) (l_Lleast_right : K.lookup f_Lleast_right = some ⟨oc_Lleast_right, od_Lleast_right, .func (PySem.W.fnOf "_law_least_right" "_law_least_right" (defArgs s_Lleast_right) (defBody s_Lleast_right) (defScope s_Lleast_right) .none kV_Lleast_right dc_Lleast_right pm_Lleast_right an_Lleast_right cd_Lleast_right ct_Lleast_right), sl_Lleast_right⟩) (c_Lleast_right : PySem.W.codeIn K cd_Lleast_right "_law_least_right" = true) (k_Lleast_right : PySem.W.keepIn K (.ref f_Lleast_right) = true)
    {od_law an_law : Option Addr} {sl_law : Array (Option Value)} {oc_law kV_law dc_law pm_law cd_law ct_law : Value} {f_law : Addr}
    (a_law : PySem.W.nsIn K mainGlobals "law" = some (some (.ref f_law))) (l_law : K.lookup f_law = some ⟨oc_law, od_law, .func (PySem.W.fnOf "law" "law" (defArgs s_law) (defBody s_law) (defScope s_law) .none kV_law dc_law pm_law an_law cd_law ct_law), sl_law⟩) (c_law : PySem.W.codeIn K cd_law "law" = true) (k_law : PySem.W.keepIn K (.ref f_law) = true)
    (z_abs : PySem.W.nsIn K mainGlobals "abs" = some none)
    (z_any : PySem.W.nsIn K mainGlobals "any" = some none)
    (z_bool : PySem.W.nsIn K mainGlobals "bool" = some none)
    (z_int : PySem.W.nsIn K mainGlobals "int" = some none)
    (z_isinstance : PySem.W.nsIn K mainGlobals "isinstance" = some none)
    (z_len : PySem.W.nsIn K mainGlobals "len" = some none)
    (z_list : PySem.W.nsIn K mainGlobals "list" = some none)
    (z_max : PySem.W.nsIn K mainGlobals "max" = some none)
    (z_min : PySem.W.nsIn K mainGlobals "min" = some none)
    (z_range : PySem.W.nsIn K mainGlobals "range" = some none)
    (z_reversed : PySem.W.nsIn K mainGlobals "reversed" = some none)
    (z_sorted : PySem.W.nsIn K mainGlobals "sorted" = some none)
    (z_str : PySem.W.nsIn K mainGlobals "str" = some none)
    (z_tuple : PySem.W.nsIn K mainGlobals "tuple" = some none) :
    ∃ fd : FuncData, (∀ (s : Shared) (v : Value), BindsTo s fd ⟨[v], []⟩ [("script", v)]) ∧ ∀ base : Heap, K.In base → base.Ns mainGlobals mg → FnOk l.prog w K mg base CX0 16 fa fd ["script"] (lSp K sp_law) := by
  have e : f_law = fa := by
    have e := (PySem.W.mg_of X G a_law).symm.trans hfa
    injection e with e
    injection e
  subst e
  have F_with_stars := fun_mk (st := s_with_stars) l_with_stars c_with_stars k_with_stars
  have b_with_stars := F_with_stars.binds (ps := ["glob", "reached"]) fun _ _ _ _ _ _ us hl => match us, hl with | [_, _], _ => rfl
  have F_follows := fun_mk (st := s_follows) l_follows c_follows k_follows
  have b_follows := F_follows.binds (ps := ["glob", "places", "character"]) fun _ _ _ _ _ _ us hl => match us, hl with | [_, _, _], _ => rfl
  have F_standing := fun_mk (st := s_standing) l_standing c_standing k_standing
  have b_standing := F_standing.binds (ps := ["glob", "beginning"]) fun _ _ _ _ _ _ us hl => match us, hl with | [_, _], _ => rfl
  have F_fits := fun_mk (st := s_fits) l_fits c_fits k_fits
  have b_fits := F_fits.binds (ps := ["glob", "board"]) fun _ _ _ _ _ _ us hl => match us, hl with | [_, _], _ => rfl
  have F_lets := fun_mk (st := s_lets) l_lets c_lets k_lets
  have b_lets := F_lets.binds (ps := ["pattern", "board"]) fun _ _ _ _ _ _ us hl => match us, hl with | [_, _], _ => rfl
  have F_site_of := fun_mk (st := s_site_of) l_site_of c_site_of k_site_of
  have b_site_of := F_site_of.binds (ps := ["book", "name"]) fun _ _ _ _ _ _ us hl => match us, hl with | [_, _], _ => rfl
  have F_feed_of := fun_mk (st := s_feed_of) l_feed_of c_feed_of k_feed_of
  have b_feed_of := F_feed_of.binds (ps := ["book", "giver", "taker"]) fun _ _ _ _ _ _ us hl => match us, hl with | [_, _, _], _ => rfl
  have F_carries := fun_mk (st := s_carries) l_carries c_carries k_carries
  have b_carries := F_carries.binds (ps := ["book", "name", "boards"]) fun _ _ _ _ _ _ us hl => match us, hl with | [_, _, _], _ => rfl
  have F_lets_some := fun_mk (st := s_lets_some) l_lets_some c_lets_some k_lets_some
  have b_lets_some := F_lets_some.binds (ps := ["pattern", "boards"]) fun _ _ _ _ _ _ us hl => match us, hl with | [_, _], _ => rfl
  have F_is_open := fun_mk (st := s_is_open) l_is_open c_is_open k_is_open
  have b_is_open := F_is_open.binds (ps := ["feed", "boards", "size"]) fun _ _ _ _ _ _ us hl => match us, hl with | [_, _, _], _ => rfl
  have F_passes := fun_mk (st := s_passes) l_passes c_passes k_passes
  have b_passes := F_passes.binds (ps := ["feed", "boards", "size", "hops"]) fun _ _ _ _ _ _ us hl => match us, hl with | [_, _, _, _], _ => rfl
  have F_carriers := fun_mk (st := s_carriers) l_carriers c_carriers k_carriers
  have b_carriers := F_carriers.binds (ps := ["book", "boards"]) fun _ _ _ _ _ _ us hl => match us, hl with | [_, _], _ => rfl
  have F_open_feeds := fun_mk (st := s_open_feeds) l_open_feeds c_open_feeds k_open_feeds
  have b_open_feeds := F_open_feeds.binds (ps := ["book", "carried", "kind"]) fun _ _ _ _ _ _ us hl => match us, hl with | [_, _, _], _ => rfl
  have F_hops_over := fun_mk (st := s_hops_over) l_hops_over c_hops_over k_hops_over
  have b_hops_over := F_hops_over.binds (ps := ["feeds", "origin", "rounds"]) fun _ _ _ _ _ _ us hl => match us, hl with | [_, _, _], _ => rfl
  have F_least_hops := fun_mk (st := s_least_hops) l_least_hops c_least_hops k_least_hops
  have b_least_hops := F_least_hops.binds (ps := ["book", "kind"]) fun _ _ _ _ _ _ us hl => match us, hl with | [_, _], _ => rfl
  have F_Lmix := fun_mk (st := s_Lmix) l_Lmix c_Lmix k_Lmix
  have b_Lmix := F_Lmix.binds (ps := ["seed", "turn"]) fun _ _ _ _ _ _ us hl => match us, hl with | [_, _], _ => rfl
  have F_Lsource := fun_mk (st := s_Lsource) l_Lsource c_Lsource k_Lsource
  have b_Lsource := F_Lsource.binds (ps := ["script"]) fun _ _ _ _ _ _ us hl => match us, hl with | [_], _ => rfl
  have F_Ldraw := fun_mk (st := s_Ldraw) l_Ldraw c_Ldraw k_Ldraw
  have b_Ldraw := F_Ldraw.binds (ps := ["source", "many"]) fun _ _ _ _ _ _ us hl => match us, hl with | [_, _], _ => rfl
  have F_Lpick := fun_mk (st := s_Lpick) l_Lpick c_Lpick k_Lpick
  have b_Lpick := F_Lpick.binds (ps := ["source", "row"]) fun _ _ _ _ _ _ us hl => match us, hl with | [_, _], _ => rfl
  have F_Lonce_in := fun_mk (st := s_Lonce_in) l_Lonce_in c_Lonce_in k_Lonce_in
  have b_Lonce_in := F_Lonce_in.binds (ps := ["source", "many"]) fun _ _ _ _ _ _ us hl => match us, hl with | [_, _], _ => rfl
  have F_Lshuffled := fun_mk (st := s_Lshuffled) l_Lshuffled c_Lshuffled k_Lshuffled
  have b_Lshuffled := F_Lshuffled.binds (ps := ["source", "row"]) fun _ _ _ _ _ _ us hl => match us, hl with | [_, _], _ => rfl
  have F_Lnew_name := fun_mk (st := s_Lnew_name) l_Lnew_name c_Lnew_name k_Lnew_name
  have b_Lnew_name := F_Lnew_name.binds (ps := ["source", "used"]) fun _ _ _ _ _ _ us hl => match us, hl with | [_, _], _ => rfl
  have F_Lnames := fun_mk (st := s_Lnames) l_Lnames c_Lnames k_Lnames
  have b_Lnames := F_Lnames.binds (ps := ["source", "many"]) fun _ _ _ _ _ _ us hl => match us, hl with | [_, _], _ => rfl
  have F_Lwords := fun_mk (st := s_Lwords) l_Lwords c_Lwords k_Lwords
  have b_Lwords := F_Lwords.binds (ps := ["source"]) fun _ _ _ _ _ _ us hl => match us, hl with | [_], _ => rfl
  have F_Lboard := fun_mk (st := s_Lboard) l_Lboard c_Lboard k_Lboard
  have b_Lboard := F_Lboard.binds (ps := ["source", "words"]) fun _ _ _ _ _ _ us hl => match us, hl with | [_, _], _ => rfl
  have F_Lboards := fun_mk (st := s_Lboards) l_Lboards c_Lboards k_Lboards
  have b_Lboards := F_Lboards.binds (ps := ["source", "words", "most"]) fun _ _ _ _ _ _ us hl => match us, hl with | [_, _, _], _ => rfl
  have F_Lglob := fun_mk (st := s_Lglob) l_Lglob c_Lglob k_Lglob
  have b_Lglob := F_Lglob.binds (ps := ["source", "words"]) fun _ _ _ _ _ _ us hl => match us, hl with | [_, _], _ => rfl
  have F_Lpattern := fun_mk (st := s_Lpattern) l_Lpattern c_Lpattern k_Lpattern
  have b_Lpattern := F_Lpattern.binds (ps := ["source", "words"]) fun _ _ _ _ _ _ us hl => match us, hl with | [_, _], _ => rfl
  have F_Lfits := fun_mk (st := s_Lfits) l_Lfits c_Lfits k_Lfits
  have b_Lfits := F_Lfits.binds (ps := ["glob", "board"]) fun _ _ _ _ _ _ us hl => match us, hl with | [_, _], _ => rfl
  have F_Llets := fun_mk (st := s_Llets) l_Llets c_Llets k_Llets
  have b_Llets := F_Llets.binds (ps := ["pattern", "board"]) fun _ _ _ _ _ _ us hl => match us, hl with | [_, _], _ => rfl
  have F_Llets_some := fun_mk (st := s_Llets_some) l_Llets_some c_Llets_some k_Llets_some
  have b_Llets_some := F_Llets_some.binds (ps := ["pattern", "boards"]) fun _ _ _ _ _ _ us hl => match us, hl with | [_, _], _ => rfl
  have F_Lis_int := fun_mk (st := s_Lis_int) l_Lis_int c_Lis_int k_Lis_int
  have b_Lis_int := F_Lis_int.binds (ps := ["value"]) fun _ _ _ _ _ _ us hl => match us, hl with | [_], _ => rfl
  have F_Lsame := fun_mk (st := s_Lsame) l_Lsame c_Lsame k_Lsame
  have b_Lsame := F_Lsame.binds (ps := ["actual", "due"]) fun _ _ _ _ _ _ us hl => match us, hl with | [_, _], _ => rfl
  have F_Llines := fun_mk (st := s_Llines) l_Llines c_Llines k_Llines
  have b_Llines := F_Llines.binds (ps := ["source", "names"]) fun _ _ _ _ _ _ us hl => match us, hl with | [_, _], _ => rfl
  have F_least_ways := fun_mk (st := s_least_ways) l_least_ways c_least_ways k_least_ways
  have b_least_ways := F_least_ways.binds (ps := ["book", "kind"]) fun _ _ _ _ _ _ us hl => match us, hl with | [_, _], _ => rfl
  have F_least_way := fun_mk (st := s_least_way) l_least_way c_least_way k_least_way
  have b_least_way := F_least_way.binds (ps := ["book", "kind", "site"]) fun _ _ _ _ _ _ us hl => match us, hl with | [_, _, _], _ => rfl
  have F_judge_way := fun_mk (st := s_judge_way) l_judge_way c_judge_way k_judge_way
  have b_judge_way := F_judge_way.binds (ps := ["book", "kind", "site", "way"]) fun _ _ _ _ _ _ us hl => match us, hl with | [_, _, _, _], _ => rfl
  have F_Lall_lines := fun_mk (st := s_Lall_lines) l_Lall_lines c_Lall_lines k_Lall_lines
  have b_Lall_lines := F_Lall_lines.binds (ps := ["names"]) fun _ _ _ _ _ _ us hl => match us, hl with | [_], _ => rfl
  have F_Lnet := fun_mk (st := s_Lnet) l_Lnet c_Lnet k_Lnet
  have b_Lnet := F_Lnet.binds (ps := ["source", "many", "words"]) fun _ _ _ _ _ _ us hl => match us, hl with | [_, _, _], _ => rfl
  have F_Lkind := fun_mk (st := s_Lkind) l_Lkind c_Lkind k_Lkind
  have b_Lkind := F_Lkind.binds (ps := ["source", "book", "words"]) fun _ _ _ _ _ _ us hl => match us, hl with | [_, _, _], _ => rfl
  have F_Lways := fun_mk (st := s_Lways) l_Lways c_Lways k_Lways
  have b_Lways := F_Lways.binds (ps := ["book", "kind"]) fun _ _ _ _ _ _ us hl => match us, hl with | [_, _], _ => rfl
  have F_Lleast := fun_mk (st := s_Lleast) l_Lleast c_Lleast k_Lleast
  have b_Lleast := F_Lleast.binds (ps := ["ways", "name"]) fun _ _ _ _ _ _ us hl => match us, hl with | [_, _], _ => rfl
  have F_Lbent := fun_mk (st := s_Lbent) l_Lbent c_Lbent k_Lbent
  have b_Lbent := F_Lbent.binds (ps := ["source", "way", "words"]) fun _ _ _ _ _ _ us hl => match us, hl with | [_, _, _], _ => rfl
  have F_Lled := fun_mk (st := s_Lled) l_Lled c_Lled k_Lled
  have b_Lled := F_Lled.binds (ps := ["source", "book", "name"]) fun _ _ _ _ _ _ us hl => match us, hl with | [_, _, _], _ => rfl
  have F_Ltuples := fun_mk (st := s_Ltuples) l_Ltuples c_Ltuples k_Ltuples
  have b_Ltuples := F_Ltuples.binds (ps := ["source", "book", "origin", "ways", "strange"]) fun _ _ _ _ _ _ us hl => match us, hl with | [_, _, _, _, _], _ => rfl
  have F_Lleast_right := fun_mk (st := s_Lleast_right) l_Lleast_right c_Lleast_right k_Lleast_right
  have b_Lleast_right := F_Lleast_right.binds (ps := ["book", "kind", "ways"]) fun _ _ _ _ _ _ us hl => match us, hl with | [_, _, _], _ => rfl
  have F_law := fun_mk (st := s_law) l_law c_law k_law
  have b_law := F_law.binds (ps := ["script"]) fun _ _ _ _ _ _ us hl => match us, hl with | [_], _ => rfl
  let T : Fx K mg := { a_with_stars := f_with_stars, d_with_stars := _, F_with_stars := F_with_stars, b_with_stars := b_with_stars, g_with_stars := PySem.W.mg_of X G a_with_stars, a_follows := f_follows, d_follows := _, F_follows := F_follows, b_follows := b_follows, g_follows := PySem.W.mg_of X G a_follows, a_standing := f_standing, d_standing := _, F_standing := F_standing, b_standing := b_standing, g_standing := PySem.W.mg_of X G a_standing, a_fits := f_fits, d_fits := _, F_fits := F_fits, b_fits := b_fits, g_fits := PySem.W.mg_of X G a_fits, a_lets := f_lets, d_lets := _, F_lets := F_lets, b_lets := b_lets, g_lets := PySem.W.mg_of X G a_lets, a_site_of := f_site_of, d_site_of := _, F_site_of := F_site_of, b_site_of := b_site_of, g_site_of := PySem.W.mg_of X G a_site_of, a_feed_of := f_feed_of, d_feed_of := _, F_feed_of := F_feed_of, b_feed_of := b_feed_of, g_feed_of := PySem.W.mg_of X G a_feed_of, a_carries := f_carries, d_carries := _, F_carries := F_carries, b_carries := b_carries, g_carries := PySem.W.mg_of X G a_carries, a_lets_some := f_lets_some, d_lets_some := _, F_lets_some := F_lets_some, b_lets_some := b_lets_some, g_lets_some := PySem.W.mg_of X G a_lets_some, a_is_open := f_is_open, d_is_open := _, F_is_open := F_is_open, b_is_open := b_is_open, g_is_open := PySem.W.mg_of X G a_is_open, a_passes := f_passes, d_passes := _, F_passes := F_passes, b_passes := b_passes, g_passes := PySem.W.mg_of X G a_passes, a_carriers := f_carriers, d_carriers := _, F_carriers := F_carriers, b_carriers := b_carriers, g_carriers := PySem.W.mg_of X G a_carriers, a_open_feeds := f_open_feeds, d_open_feeds := _, F_open_feeds := F_open_feeds, b_open_feeds := b_open_feeds, g_open_feeds := PySem.W.mg_of X G a_open_feeds, a_hops_over := f_hops_over, d_hops_over := _, F_hops_over := F_hops_over, b_hops_over := b_hops_over, g_hops_over := PySem.W.mg_of X G a_hops_over, a_least_hops := f_least_hops, d_least_hops := _, F_least_hops := F_least_hops, b_least_hops := b_least_hops, g_least_hops := PySem.W.mg_of X G a_least_hops, a_Lmix := f_Lmix, d_Lmix := _, F_Lmix := F_Lmix, b_Lmix := b_Lmix, g_Lmix := PySem.W.mg_of X G a_Lmix, a_Lsource := f_Lsource, d_Lsource := _, F_Lsource := F_Lsource, b_Lsource := b_Lsource, g_Lsource := PySem.W.mg_of X G a_Lsource, a_Ldraw := f_Ldraw, d_Ldraw := _, F_Ldraw := F_Ldraw, b_Ldraw := b_Ldraw, g_Ldraw := PySem.W.mg_of X G a_Ldraw, a_Lpick := f_Lpick, d_Lpick := _, F_Lpick := F_Lpick, b_Lpick := b_Lpick, g_Lpick := PySem.W.mg_of X G a_Lpick, a_Lonce_in := f_Lonce_in, d_Lonce_in := _, F_Lonce_in := F_Lonce_in, b_Lonce_in := b_Lonce_in, g_Lonce_in := PySem.W.mg_of X G a_Lonce_in, a_Lshuffled := f_Lshuffled, d_Lshuffled := _, F_Lshuffled := F_Lshuffled, b_Lshuffled := b_Lshuffled, g_Lshuffled := PySem.W.mg_of X G a_Lshuffled, a_Lnew_name := f_Lnew_name, d_Lnew_name := _, F_Lnew_name := F_Lnew_name, b_Lnew_name := b_Lnew_name, g_Lnew_name := PySem.W.mg_of X G a_Lnew_name, a_Lnames := f_Lnames, d_Lnames := _, F_Lnames := F_Lnames, b_Lnames := b_Lnames, g_Lnames := PySem.W.mg_of X G a_Lnames, a_Lwords := f_Lwords, d_Lwords := _, F_Lwords := F_Lwords, b_Lwords := b_Lwords, g_Lwords := PySem.W.mg_of X G a_Lwords, a_Lboard := f_Lboard, d_Lboard := _, F_Lboard := F_Lboard, b_Lboard := b_Lboard, g_Lboard := PySem.W.mg_of X G a_Lboard, a_Lboards := f_Lboards, d_Lboards := _, F_Lboards := F_Lboards, b_Lboards := b_Lboards, g_Lboards := PySem.W.mg_of X G a_Lboards, a_Lglob := f_Lglob, d_Lglob := _, F_Lglob := F_Lglob, b_Lglob := b_Lglob, g_Lglob := PySem.W.mg_of X G a_Lglob, a_Lpattern := f_Lpattern, d_Lpattern := _, F_Lpattern := F_Lpattern, b_Lpattern := b_Lpattern, g_Lpattern := PySem.W.mg_of X G a_Lpattern, a_Lfits := f_Lfits, d_Lfits := _, F_Lfits := F_Lfits, b_Lfits := b_Lfits, g_Lfits := PySem.W.mg_of X G a_Lfits, a_Llets := f_Llets, d_Llets := _, F_Llets := F_Llets, b_Llets := b_Llets, g_Llets := PySem.W.mg_of X G a_Llets, a_Llets_some := f_Llets_some, d_Llets_some := _, F_Llets_some := F_Llets_some, b_Llets_some := b_Llets_some, g_Llets_some := PySem.W.mg_of X G a_Llets_some, a_Lis_int := f_Lis_int, d_Lis_int := _, F_Lis_int := F_Lis_int, b_Lis_int := b_Lis_int, g_Lis_int := PySem.W.mg_of X G a_Lis_int, a_Lsame := f_Lsame, d_Lsame := _, F_Lsame := F_Lsame, b_Lsame := b_Lsame, g_Lsame := PySem.W.mg_of X G a_Lsame, a_Llines := f_Llines, d_Llines := _, F_Llines := F_Llines, b_Llines := b_Llines, g_Llines := PySem.W.mg_of X G a_Llines, a_least_ways := f_least_ways, d_least_ways := _, F_least_ways := F_least_ways, b_least_ways := b_least_ways, g_least_ways := PySem.W.mg_of X G a_least_ways, a_least_way := f_least_way, d_least_way := _, F_least_way := F_least_way, b_least_way := b_least_way, g_least_way := PySem.W.mg_of X G a_least_way, a_judge_way := f_judge_way, d_judge_way := _, F_judge_way := F_judge_way, b_judge_way := b_judge_way, g_judge_way := PySem.W.mg_of X G a_judge_way, a_Lall_lines := f_Lall_lines, d_Lall_lines := _, F_Lall_lines := F_Lall_lines, b_Lall_lines := b_Lall_lines, g_Lall_lines := PySem.W.mg_of X G a_Lall_lines, a_Lnet := f_Lnet, d_Lnet := _, F_Lnet := F_Lnet, b_Lnet := b_Lnet, g_Lnet := PySem.W.mg_of X G a_Lnet, a_Lkind := f_Lkind, d_Lkind := _, F_Lkind := F_Lkind, b_Lkind := b_Lkind, g_Lkind := PySem.W.mg_of X G a_Lkind, a_Lways := f_Lways, d_Lways := _, F_Lways := F_Lways, b_Lways := b_Lways, g_Lways := PySem.W.mg_of X G a_Lways, a_Lleast := f_Lleast, d_Lleast := _, F_Lleast := F_Lleast, b_Lleast := b_Lleast, g_Lleast := PySem.W.mg_of X G a_Lleast, a_Lbent := f_Lbent, d_Lbent := _, F_Lbent := F_Lbent, b_Lbent := b_Lbent, g_Lbent := PySem.W.mg_of X G a_Lbent, a_Lled := f_Lled, d_Lled := _, F_Lled := F_Lled, b_Lled := b_Lled, g_Lled := PySem.W.mg_of X G a_Lled, a_Ltuples := f_Ltuples, d_Ltuples := _, F_Ltuples := F_Ltuples, b_Ltuples := b_Ltuples, g_Ltuples := PySem.W.mg_of X G a_Ltuples, a_Lleast_right := f_Lleast_right, d_Lleast_right := _, F_Lleast_right := F_Lleast_right, b_Lleast_right := b_Lleast_right, g_Lleast_right := PySem.W.mg_of X G a_Lleast_right, a_law := f_law, d_law := _, F_law := F_law, b_law := b_law, g_law := PySem.W.mg_of X G a_law, m_abs := PySem.W.mg_none_of X G z_abs, m_any := PySem.W.mg_none_of X G z_any, m_bool := PySem.W.mg_none_of X G z_bool, m_int := PySem.W.mg_none_of X G z_int, m_isinstance := PySem.W.mg_none_of X G z_isinstance, m_len := PySem.W.mg_none_of X G z_len, m_list := PySem.W.mg_none_of X G z_list, m_max := PySem.W.mg_none_of X G z_max, m_min := PySem.W.mg_none_of X G z_min, m_range := PySem.W.mg_none_of X G z_range, m_reversed := PySem.W.mg_none_of X G z_reversed, m_sorted := PySem.W.mg_none_of X G z_sorted, m_str := PySem.W.mg_none_of X G z_str, m_tuple := PySem.W.mg_none_of X G z_tuple }
  exact ⟨T.d_law, fun s v => .of_eq rfl, fun base _ _ => ok_law (P := l.prog) (w := w) (base := base) T⟩
end CK21
open PySem PySem.W PyProof.Rows
set_option maxHeartbeats 0 in
theorem PySem.Challenge.cw_criermoot_k21_least_ways_holds : PySem.Challenge.rw_criermoot_k21_least_ways.Holds := by
  w_on; o_law; k_head; (case hw => w_witness2)
  k_fill
  refine L2.walk_ofK (l := PySem.Challenge.rw_criermoot_k21_least_ways) (n := 63) (k := 16) (x := "script") (CX := L2.CX0) (sp := fun K => DL.lSp K CK21.sp_law) rfl (by decide) rfl ⟨rfl, by decide, by decide⟩ (fun w h Y => PySem.W.kIn_of Y) ?F CK21.fin (fun _ _ _ _ h => h)
  case F =>
    intro w mg fa h KX G hmg
    refine' CK21.all_mk KX G hmg ?a_with_stars ?l_with_stars ?c_with_stars ?k_with_stars ?a_follows ?l_follows ?c_follows ?k_follows ?a_standing ?l_standing ?c_standing ?k_standing ?a_fits ?l_fits ?c_fits ?k_fits ?a_lets ?l_lets ?c_lets ?k_lets ?a_site_of ?l_site_of ?c_site_of ?k_site_of ?a_feed_of ?l_feed_of ?c_feed_of ?k_feed_of ?a_carries ?l_carries ?c_carries ?k_carries ?a_lets_some ?l_lets_some ?c_lets_some ?k_lets_some ?a_is_open ?l_is_open ?c_is_open ?k_is_open ?a_passes ?l_passes ?c_passes ?k_passes ?a_carriers ?l_carriers ?c_carriers ?k_carriers ?a_open_feeds ?l_open_feeds ?c_open_feeds ?k_open_feeds ?a_hops_over ?l_hops_over ?c_hops_over ?k_hops_over ?a_least_hops ?l_least_hops ?c_least_hops ?k_least_hops ?a_Lmix ?l_Lmix ?c_Lmix ?k_Lmix ?a_Lsource ?l_Lsource ?c_Lsource ?k_Lsource ?a_Ldraw ?l_Ldraw ?c_Ldraw ?k_Ldraw ?a_Lpick ?l_Lpick ?c_Lpick ?k_Lpick ?a_Lonce_in ?l_Lonce_in ?c_Lonce_in ?k_Lonce_in ?a_Lshuffled ?l_Lshuffled ?c_Lshuffled ?k_Lshuffled ?a_Lnew_name ?l_Lnew_name ?c_Lnew_name ?k_Lnew_name ?a_Lnames ?l_Lnames ?c_Lnames ?k_Lnames ?a_Lwords ?l_Lwords ?c_Lwords ?k_Lwords ?a_Lboard ?l_Lboard ?c_Lboard ?k_Lboard ?a_Lboards ?l_Lboards ?c_Lboards ?k_Lboards ?a_Lglob ?l_Lglob ?c_Lglob ?k_Lglob ?a_Lpattern ?l_Lpattern ?c_Lpattern ?k_Lpattern ?a_Lfits ?l_Lfits ?c_Lfits ?k_Lfits ?a_Llets ?l_Llets ?c_Llets ?k_Llets ?a_Llets_some ?l_Llets_some ?c_Llets_some ?k_Llets_some ?a_Lis_int ?l_Lis_int ?c_Lis_int ?k_Lis_int ?a_Lsame ?l_Lsame ?c_Lsame ?k_Lsame ?a_Llines ?l_Llines ?c_Llines ?k_Llines ?a_least_ways ?l_least_ways ?c_least_ways ?k_least_ways ?a_least_way ?l_least_way ?c_least_way ?k_least_way ?a_judge_way ?l_judge_way ?c_judge_way ?k_judge_way ?a_Lall_lines ?l_Lall_lines ?c_Lall_lines ?k_Lall_lines ?a_Lnet ?l_Lnet ?c_Lnet ?k_Lnet ?a_Lkind ?l_Lkind ?c_Lkind ?k_Lkind ?a_Lways ?l_Lways ?c_Lways ?k_Lways ?a_Lleast ?l_Lleast ?c_Lleast ?k_Lleast ?a_Lbent ?l_Lbent ?c_Lbent ?k_Lbent ?a_Lled ?l_Lled ?c_Lled ?k_Lled ?a_Ltuples ?l_Ltuples ?c_Ltuples ?k_Ltuples ?a_Lleast_right ?l_Lleast_right ?c_Lleast_right ?k_Lleast_right ?a_law ?l_law ?c_law ?k_law ?z_abs ?z_any ?z_bool ?z_int ?z_isinstance ?z_len ?z_list ?z_max ?z_min ?z_range ?z_reversed ?z_sorted ?z_str ?z_tuple
    (case a_with_stars => k_is); (case l_with_stars => k_is); (case c_with_stars => k_is); (case k_with_stars => k_is); (case a_follows => k_is); (case l_follows => k_is); (case c_follows => k_is); (case k_follows => k_is); (case a_standing => k_is); (case l_standing => k_is); (case c_standing => k_is); (case k_standing => k_is); (case a_fits => k_is); (case l_fits => k_is); (case c_fits => k_is); (case k_fits => k_is); (case a_lets => k_is); (case l_lets => k_is); (case c_lets => k_is); (case k_lets => k_is); (case a_site_of => k_is); (case l_site_of => k_is); (case c_site_of => k_is); (case k_site_of => k_is); (case a_feed_of => k_is); (case l_feed_of => k_is); (case c_feed_of => k_is); (case k_feed_of => k_is); (case a_carries => k_is); (case l_carries => k_is); (case c_carries => k_is); (case k_carries => k_is); (case a_lets_some => k_is); (case l_lets_some => k_is); (case c_lets_some => k_is); (case k_lets_some => k_is); (case a_is_open => k_is); (case l_is_open => k_is); (case c_is_open => k_is); (case k_is_open => k_is); (case a_passes => k_is); (case l_passes => k_is); (case c_passes => k_is); (case k_passes => k_is); (case a_carriers => k_is); (case l_carriers => k_is); (case c_carriers => k_is); (case k_carriers => k_is); (case a_open_feeds => k_is); (case l_open_feeds => k_is); (case c_open_feeds => k_is); (case k_open_feeds => k_is); (case a_hops_over => k_is); (case l_hops_over => k_is); (case c_hops_over => k_is); (case k_hops_over => k_is); (case a_least_hops => k_is); (case l_least_hops => k_is); (case c_least_hops => k_is); (case k_least_hops => k_is); (case a_Lmix => k_is); (case l_Lmix => k_is); (case c_Lmix => k_is); (case k_Lmix => k_is); (case a_Lsource => k_is); (case l_Lsource => k_is); (case c_Lsource => k_is); (case k_Lsource => k_is); (case a_Ldraw => k_is); (case l_Ldraw => k_is); (case c_Ldraw => k_is); (case k_Ldraw => k_is); (case a_Lpick => k_is); (case l_Lpick => k_is); (case c_Lpick => k_is); (case k_Lpick => k_is); (case a_Lonce_in => k_is); (case l_Lonce_in => k_is); (case c_Lonce_in => k_is); (case k_Lonce_in => k_is); (case a_Lshuffled => k_is); (case l_Lshuffled => k_is); (case c_Lshuffled => k_is); (case k_Lshuffled => k_is); (case a_Lnew_name => k_is); (case l_Lnew_name => k_is); (case c_Lnew_name => k_is); (case k_Lnew_name => k_is); (case a_Lnames => k_is); (case l_Lnames => k_is); (case c_Lnames => k_is); (case k_Lnames => k_is); (case a_Lwords => k_is); (case l_Lwords => k_is); (case c_Lwords => k_is); (case k_Lwords => k_is); (case a_Lboard => k_is); (case l_Lboard => k_is); (case c_Lboard => k_is); (case k_Lboard => k_is); (case a_Lboards => k_is); (case l_Lboards => k_is); (case c_Lboards => k_is); (case k_Lboards => k_is); (case a_Lglob => k_is); (case l_Lglob => k_is); (case c_Lglob => k_is); (case k_Lglob => k_is); (case a_Lpattern => k_is); (case l_Lpattern => k_is); (case c_Lpattern => k_is); (case k_Lpattern => k_is); (case a_Lfits => k_is); (case l_Lfits => k_is); (case c_Lfits => k_is); (case k_Lfits => k_is); (case a_Llets => k_is); (case l_Llets => k_is); (case c_Llets => k_is); (case k_Llets => k_is); (case a_Llets_some => k_is); (case l_Llets_some => k_is); (case c_Llets_some => k_is); (case k_Llets_some => k_is); (case a_Lis_int => k_is); (case l_Lis_int => k_is); (case c_Lis_int => k_is); (case k_Lis_int => k_is); (case a_Lsame => k_is); (case l_Lsame => k_is); (case c_Lsame => k_is); (case k_Lsame => k_is); (case a_Llines => k_is); (case l_Llines => k_is); (case c_Llines => k_is); (case k_Llines => k_is); (case a_least_ways => k_is); (case l_least_ways => k_is); (case c_least_ways => k_is); (case k_least_ways => k_is); (case a_least_way => k_is); (case l_least_way => k_is); (case c_least_way => k_is); (case k_least_way => k_is); (case a_judge_way => k_is); (case l_judge_way => k_is); (case c_judge_way => k_is); (case k_judge_way => k_is); (case a_Lall_lines => k_is); (case l_Lall_lines => k_is); (case c_Lall_lines => k_is); (case k_Lall_lines => k_is); (case a_Lnet => k_is); (case l_Lnet => k_is); (case c_Lnet => k_is); (case k_Lnet => k_is); (case a_Lkind => k_is); (case l_Lkind => k_is); (case c_Lkind => k_is); (case k_Lkind => k_is); (case a_Lways => k_is); (case l_Lways => k_is); (case c_Lways => k_is); (case k_Lways => k_is); (case a_Lleast => k_is); (case l_Lleast => k_is); (case c_Lleast => k_is); (case k_Lleast => k_is); (case a_Lbent => k_is); (case l_Lbent => k_is); (case c_Lbent => k_is); (case k_Lbent => k_is); (case a_Lled => k_is); (case l_Lled => k_is); (case c_Lled => k_is); (case k_Lled => k_is); (case a_Ltuples => k_is); (case l_Ltuples => k_is); (case c_Ltuples => k_is); (case k_Ltuples => k_is); (case a_Lleast_right => k_is); (case l_Lleast_right => k_is); (case c_Lleast_right => k_is); (case k_Lleast_right => k_is); (case a_law => k_is); (case l_law => k_is); (case c_law => k_is); (case k_law => k_is); (case z_abs => k_is); (case z_any => k_is); (case z_bool => k_is); (case z_int => k_is); (case z_isinstance => k_is); (case z_len => k_is); (case z_list => k_is); (case z_max => k_is); (case z_min => k_is); (case z_range => k_is); (case z_reversed => k_is); (case z_sorted => k_is); (case z_str => k_is); (case z_tuple => k_is)
