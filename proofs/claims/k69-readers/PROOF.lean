import PyProof.Rows.All
import Wide.All
import OpenK.AllK
import Wide.FinOn
import HandS.ForMost
import HandS.IsInst
import HandS.TupAny
import HandS.Deep
import HandS.Replace
import HandS.NoneIn
import HandS.TupMul
import KE.IntTextLaws
import KE.KIntText
import KE.DataCmp
import KE.SortCalls
import KE.SortData
import KE.DataMinMax
import HandS.More
import HandS.Property
import HandS.Conv
import KE.KDictCopyH
import HandS.TupLen
import HandS.SetFor
import PySem.Challenge.RW_criermoot_k69_whole_readers
set_option Elab.async false
set_option linter.all false
set_option maxRecDepth 100000
set_option maxHeartbeats 2000000

namespace DL
open PySem L2
/-- immutable data, deep; a reference to a mutable object -/
inductive D where
  | non | bl (b : Bool) | int (i : Int) | str (x : Str) | tup (ds : List D) | ref (a : Addr) | klst (ds : List D)
/-- mutable objects -/
inductive MO where
  | lst (ds : List D) | ro (ds : List D) | ins (n : Str) (fs : List (Str × D)) | dct (kvs : List (Key × D)) | dtt (kvs : List (List Key × D)) | dctf (kvs : List (Key × D)) | dttf (kvs : List (List Key × D))
abbrev GS := Addr → Option MO
def gup (g : GS) (a : Addr) (o : MO) : GS := fun b => if b = a then some o else g b
theorem gup_same {g : GS} {a : Addr} {o : MO} : gup g a o a = some o := by unfold gup; rw [if_pos rfl]
theorem gup_ne {g : GS} {a b : Addr} {o : MO} (h : b ≠ a) : gup g a o b = g b := by unfold gup; rw [if_neg h]
abbrev DK := D → GS → Prop
abbrev EV := List (Option D)
abbrev DTE := EV → GS → DK → Prop
abbrev DTT := EV → GS → (Bool → GS → Prop) → Prop
abbrev DTA := EV → GS → (List D → GS → Prop) → Prop
structure DEnds where
  nx : EV → GS → Prop
  rt : DK
  bk : EV → GS → Prop := fun _ _ => False
  ct : EV → GS → Prop := fun _ _ => False
abbrev DTS := DEnds → EV → GS → Prop
abbrev DSp := List D → GS → DK → Prop

/-- the address of a class by its name -/
def clsA (K : PySem.W.Frag) (x : Str) : Addr := match PySem.W.nsIn K mainGlobals x with
  | some (some (.ref a)) => a
  | _ => 0
def methA (K : PySem.W.Frag) (C : Addr) (m : Str) : Addr := match PySem.W.findIn K (.ref C) m with
  | some (some (.ref a)) => a
  | _ => 0
/-! ### what represents what -/
/-- a list that never changes: the script, a written one -/
def SqF (K : PySem.W.Frag) (H : Hp) (a : Addr) (xs : List V) : Prop := (∃ o, H a = some (.frz o (.lst xs))) ∨
  ∃ (o : Obj) (its : Array Value) (n : Nat), K.lookup a = some o ∧ o.cls = .type "list" ∧ o.dict = none ∧ o.data = .seq its n ∧ its.size ≤ sizeLine ∧ Vals xs its.toList
theorem SqF.sq {K : PySem.W.Frag} {H : Hp} {a : Addr} {xs : List V} (h : SqF K H a xs) : SqL K H a xs := by
  rcases h with ⟨o, h⟩ | h
  · exact .inl (.inr ⟨o, h⟩)
  · exact .inr h
mutual
inductive RepD (K : PySem.W.Frag) (H : Hp) : V → D → Prop
  | non : RepD K H .non .non
  | bl (b : Bool) : RepD K H (.bl b) (.bl b)
  | int (i : Int) : RepD K H (.int i) (.int i)
  | str (x : Str) : RepD K H (.str x) (.str x)
  | ref (a : Addr) : RepD K H (.ref a) (.ref a)
  | tup {a : Addr} {xs : List V} {ds : List D} : H a = some (.tup xs) → RepL K H xs ds → RepD K H (.ref a) (.tup ds)
  | kl {a : Addr} {xs : List V} {ds : List D} : SqF K H a xs → RepL K H xs ds → RepD K H (.ref a) (.klst ds)
inductive RepL (K : PySem.W.Frag) (H : Hp) : List V → List D → Prop
  | nil : RepL K H [] []
  | cons {v : V} {d : D} {vs : List V} {ds : List D} : RepD K H v d → RepL K H vs ds → RepL K H (v :: vs) (d :: ds)
end
def Ext (H H' : Hp) : Prop := (∀ a xs, H a = some (.tup xs) → H' a = some (.tup xs)) ∧ ∀ a o u, H a = some (.frz o u) → H' a = some (.frz o u)
theorem Ext.refl (H : Hp) : Ext H H := ⟨fun _ _ h => h, fun _ _ _ h => h⟩
theorem Ext.trans {H H1 H2 : Hp} (a : Ext H H1) (b : Ext H1 H2) : Ext H H2 := ⟨fun x y h => b.1 x y (a.1 x y h), fun x y z h => b.2 x y z (a.2 x y z h)⟩
theorem Ext.new {H : Hp} {p : Addr} {o : HO} (h : H p = none) : Ext H (upd H p o) :=
  ⟨fun a xs e => by rw [upd_ne (ne_of_none e h)]; exact e, fun a ob u e => by rw [upd_ne (ne_of_none e h)]; exact e⟩
theorem Ext.lst {H : Hp} {p : Addr} {xs : List V} {o : HO} (h : H p = some (.lst xs)) : Ext H (upd H p o) :=
  ⟨fun a ys e => by rw [upd_ne (ne_of e h (by intro z; cases z))]; exact e, fun a ob u e => by rw [upd_ne (ne_of e h (by intro z; cases z))]; exact e⟩
theorem Ext.dk {H : Hp} {p : Addr} {kvs : List (Key × V)} {o : HO} (h : H p = some (.dK kvs)) : Ext H (upd H p o) :=
  ⟨fun a ys e => by rw [upd_ne (ne_of e h (by intro z; cases z))]; exact e, fun a ob u e => by rw [upd_ne (ne_of e h (by intro z; cases z))]; exact e⟩
theorem Ext.dT {H : Hp} {p : Addr} {kvs : List (List Key × V)} {o : HO} (h : H p = some (.dT kvs)) : Ext H (upd H p o) :=
  ⟨fun a ys e => by rw [upd_ne (ne_of e h (by intro z; cases z))]; exact e, fun a ob u e => by rw [upd_ne (ne_of e h (by intro z; cases z))]; exact e⟩
theorem Ext.ins {H : Hp} {p C dx : Addr} {fs : List (Str × V)} {o : HO} (h : H p = some (.ins C dx fs)) : Ext H (upd H p o) :=
  ⟨fun a ys e => by rw [upd_ne (ne_of e h (by intro z; cases z))]; exact e, fun a ob u e => by rw [upd_ne (ne_of e h (by intro z; cases z))]; exact e⟩
theorem Ext.sqT {K : PySem.W.Frag} {H H' : Hp} {a : Addr} {xs : List V} (e : Ext H H') (h : SqT K H a xs) : SqT K H' a xs := by
  rcases h with (h | ⟨o, h⟩) | h
  · exact .inl (.inl (e.1 _ _ h))
  · exact .inl (.inr ⟨o, e.2 _ _ _ h⟩)
  · exact .inr h
theorem tq {K : PySem.W.Frag} {H : Hp} {a : Addr} {xs : List V} (h : H a = some (.tup xs)) : SqT K H a xs := SqT.of h
/-- what data want to stay -/
def Ext0 (H H' : Hp) : Prop := (∀ a xs, H a = some (.tup xs) → H' a = some (.tup xs)) ∧ ∀ a o xs, H a = some (.frz o (.lst xs)) → H' a = some (.frz o (.lst xs))
theorem Ext.e0 {H H' : Hp} (e : Ext H H') : Ext0 H H' := ⟨e.1, fun a o xs h => e.2 a o _ h⟩
theorem Ext0.sqF {K : PySem.W.Frag} {H H' : Hp} {a : Addr} {xs : List V} (e : Ext0 H H') (h : SqF K H a xs) : SqF K H' a xs := by
  rcases h with ⟨o, h⟩ | h
  · exact .inl ⟨o, e.2 _ _ _ h⟩
  · exact .inr h
theorem Ext.sqF {K : PySem.W.Frag} {H H' : Hp} {a : Addr} {xs : List V} (e : Ext H H') (h : SqF K H a xs) : SqF K H' a xs := e.e0.sqF h
section
variable {K : PySem.W.Frag} {H H' : Hp}
mutual
theorem RepD.mono0 (e : Ext0 H H') : ∀ {v : V} {d : D}, RepD K H v d → RepD K H' v d
  | _, _, .non => .non
  | _, _, .bl b => .bl b
  | _, _, .int i => .int i
  | _, _, .str x => .str x
  | _, _, .ref a => .ref a
  | _, _, .tup h r => .tup (e.1 _ _ h) (RepL.mono0 e r)
  | _, _, .kl h r => .kl (e.sqF h) (RepL.mono0 e r)
theorem RepL.mono0 (e : Ext0 H H') : ∀ {vs : List V} {ds : List D}, RepL K H vs ds → RepL K H' vs ds
  | _, _, .nil => .nil
  | _, _, .cons h r => .cons (RepD.mono0 e h) (RepL.mono0 e r)
end
theorem RepD.mono (e : Ext H H') {v : V} {d : D} (h : RepD K H v d) : RepD K H' v d := h.mono0 e.e0
theorem RepL.mono (e : Ext H H') {vs : List V} {ds : List D} (h : RepL K H vs ds) : RepL K H' vs ds := h.mono0 e.e0
theorem RepL.length : ∀ {vs : List V} {ds : List D}, RepL K H vs ds → vs.length = ds.length
  | _, _, .nil => rfl
  | _, _, .cons _ r => congrArg (· + 1) (RepL.length r)
theorem RepL.get : ∀ {vs : List V} {ds : List D} {i : Nat} {d : D}, RepL K H vs ds → ds[i]? = some d → ∃ v, vs[i]? = some v ∧ RepD K H v d
  | _, _, _, _, .nil, h => by simp at h
  | _, _, 0, _, .cons r _, h => by simp at h; subst h; exact ⟨_, rfl, r⟩
  | _, _, i + 1, _, .cons _ t, h => by
    obtain ⟨v, e, r⟩ := RepL.get (i := i) t (by simpa using h)
    exact ⟨v, by simpa using e, r⟩
theorem RepL.getV : ∀ {vs : List V} {ds : List D} {i : Nat} {v : V}, RepL K H vs ds → vs[i]? = some v → ∃ d, ds[i]? = some d ∧ RepD K H v d
  | _, _, _, _, .nil, h => by simp at h
  | _, _, 0, _, .cons r _, h => by simp at h; subst h; exact ⟨_, rfl, r⟩
  | _, _, i + 1, _, .cons _ t, h => by
    obtain ⟨v, e, r⟩ := RepL.getV (i := i) t (by simpa using h)
    exact ⟨v, by simpa using e, r⟩
theorem RepL.set {v : V} {d : D} (r : RepD K H v d) : ∀ {vs : List V} {ds : List D} (i : Nat), RepL K H vs ds → RepL K H (vs.set i v) (ds.set i d)
  | _, _, _, .nil => .nil
  | _, _, 0, .cons _ t => .cons r t
  | _, _, i + 1, .cons h t => .cons h (RepL.set r i t)
theorem RepL.app : ∀ {vs ws : List V} {ds es : List D}, RepL K H vs ds → RepL K H ws es → RepL K H (vs ++ ws) (ds ++ es)
  | _, _, _, _, .nil, s => s
  | _, _, _, _, .cons h r, s => .cons h (RepL.app r s)
theorem RepL.take : ∀ {vs : List V} {ds : List D} (n : Nat), RepL K H vs ds → RepL K H (vs.take n) (ds.take n)
  | _, _, 0, _ => .nil
  | _, _, _ + 1, .nil => .nil
  | _, _, n + 1, .cons r t => .cons r (RepL.take n t)
theorem RepL.drop : ∀ {vs : List V} {ds : List D} (n : Nat), RepL K H vs ds → RepL K H (vs.drop n) (ds.drop n)
  | _, _, 0, r => r
  | _, _, _ + 1, .nil => .nil
  | _, _, n + 1, .cons _ t => RepL.drop n t
theorem RepL.rev {vs : List V} {ds : List D} (r : RepL K H vs ds) : RepL K H vs.reverse ds.reverse := by
  induction vs generalizing ds with
  | nil => cases r; exact .nil
  | cons v vs ih =>
    cases r with
    | cons h t => rw [List.reverse_cons, List.reverse_cons]; exact (ih t).app (.cons h .nil)
theorem RepL.erase : ∀ {vs : List V} {ds : List D} (i : Nat), RepL K H vs ds → RepL K H (vs.eraseIdx i) (ds.eraseIdx i)
  | _, _, _, .nil => .nil
  | _, _, 0, .cons _ t => t
  | _, _, i + 1, .cons h t => .cons h (RepL.erase i t)
theorem RepL.inj1 : ∀ {vs : List V} {ds : List D}, RepL K H vs ds → vs = [] → ds = []
  | _, _, .nil, _ => rfl
theorem RepL.ints : ∀ {vs : List V} (ns : List Int), RepL K H vs (ns.map D.int) → vs = ns.map V.int
  | _, [], .nil => rfl
  | _, n :: ns, .cons h t => by
    cases h
    rw [List.map_cons, RepL.ints ns t]
theorem RepL.strs : ∀ {vs : List V} (ns : List Str), RepL K H vs (ns.map D.str) → vs = ns.map V.str
  | _, [], .nil => rfl
  | _, n :: ns, .cons h t => by
    cases h
    rw [List.map_cons, RepL.strs ns t]
theorem RepL.ofInts : ∀ (ns : List Int), RepL K H (ns.map V.int) (ns.map D.int)
  | [] => .nil
  | n :: ns => .cons (.int n) (RepL.ofInts ns)
theorem RepL.ofStrs : ∀ (ns : List Str), RepL K H (ns.map V.str) (ns.map D.str)
  | [] => .nil
  | n :: ns => .cons (.str n) (RepL.ofStrs ns)
end
def RepF (K : PySem.W.Frag) (H : Hp) : List (Str × V) → List (Str × D) → Prop := Paired fun p q => p.1 = q.1 ∧ RepD K H p.2 q.2
def RepKV {κ : Type} (K : PySem.W.Frag) (H : Hp) : List (κ × V) → List (κ × D) → Prop := Paired fun p q => p.1 = q.1 ∧ RepD K H p.2 q.2
def RepO (K : PySem.W.Frag) (H : Hp) (a : Addr) : MO → Prop
  | .lst ds => ∃ xs, H a = some (.lst xs) ∧ RepL K H xs ds
  | .ro ds => ∃ o xs, H a = some (.frz o (.lst xs)) ∧ RepL K H xs ds
  | .ins n fs => ∃ dx vs, H a = some (.ins (clsA K n) dx vs) ∧ RepF K H vs fs
  | .dct kvs => ∃ vs, H a = some (.dK vs) ∧ RepKV K H vs kvs
  | .dtt kvs => ∃ vs, H a = some (.dT vs) ∧ RepKV K H vs kvs
  | .dctf kvs => ∃ o vs, H a = some (.frz o (.dK vs)) ∧ RepKV K H vs kvs
  | .dttf kvs => ∃ o vs, H a = some (.frz o (.dT vs)) ∧ RepKV K H vs kvs
def RepG (K : PySem.W.Frag) (H : Hp) (g : GS) : Prop := ∀ a o, g a = some o → RepO K H a o
def RepE (K : PySem.W.Frag) (H : Hp) (σ : L2.St) (e : EV) : Prop := σ.length = e.length ∧ ∀ (i : Nat) (d : D), e[i]? = some (some d) → ∃ v, σ[i]? = some (some v) ∧ RepD K H v d
section
variable {K : PySem.W.Frag} {H H' : Hp} {σ : L2.St} {e : EV} {g : GS}
theorem RepE.mono0 (x : Ext0 H H') (r : RepE K H σ e) : RepE K H' σ e := ⟨r.1, fun i d h => let ⟨v, a, b⟩ := r.2 i d h; ⟨v, a, b.mono0 x⟩⟩
theorem RepE.mono (x : Ext H H') (r : RepE K H σ e) : RepE K H' σ e := ⟨r.1, fun i d h => let ⟨v, a, b⟩ := r.2 i d h; ⟨v, a, b.mono x⟩⟩
theorem RepF.mono0 (x : Ext0 H H') {vs : List (Str × V)} {fs : List (Str × D)} (r : RepF K H vs fs) : RepF K H' vs fs := L2.Paired.mapP r fun _ _ h => ⟨h.1, h.2.mono0 x⟩
theorem RepKV.mono0 {κ : Type} (x : Ext0 H H') {vs : List (κ × V)} {fs : List (κ × D)} (r : RepKV K H vs fs) : RepKV K H' vs fs := L2.Paired.mapP r fun _ _ h => ⟨h.1, h.2.mono0 x⟩
theorem RepF.mono (x : Ext H H') {vs : List (Str × V)} {fs : List (Str × D)} (r : RepF K H vs fs) : RepF K H' vs fs := L2.Paired.mapP r fun _ _ h => ⟨h.1, h.2.mono x⟩
theorem RepKV.mono {κ : Type} (x : Ext H H') {vs : List (κ × V)} {fs : List (κ × D)} (r : RepKV K H vs fs) : RepKV K H' vs fs := L2.Paired.mapP r fun _ _ h => ⟨h.1, h.2.mono x⟩
theorem RepE.set {v : V} {d : D} (r : RepE K H σ e) (h : RepD K H v d) (i : Nat) : RepE K H (σ.set i (some v)) (e.set i (some d)) := by
  refine ⟨by rw [List.length_set, List.length_set]; exact r.1, fun j c hj => ?_⟩
  by_cases hij : i = j
  · subst hij
    by_cases hl : i < e.length
    · rw [List.getElem?_set_self hl] at hj
      cases hj
      exact ⟨v, List.getElem?_set_self (by rw [r.1]; exact hl), h⟩
    · rw [List.getElem?_eq_none (by rw [List.length_set]; omega)] at hj
      cases hj
  · rw [List.getElem?_set_ne hij] at hj
    obtain ⟨w, a, b⟩ := r.2 j c hj
    exact ⟨w, by rw [List.getElem?_set_ne hij]; exact a, b⟩
theorem RepG.free (r : RepG K H g) {p : Addr} (h : H p = none) : g p = none := by
  cases q : g p with
  | none => rfl
  | some o =>
    have z := r p o q
    cases o with
    | lst ds => obtain ⟨xs, e, _⟩ := z; rw [h] at e; cases e
    | ro ds => obtain ⟨o, xs, e, _⟩ := z; rw [h] at e; cases e
    | ins C fs => obtain ⟨dx, vs, e, _⟩ := z; rw [h] at e; cases e
    | dct kvs => obtain ⟨vs, e, _⟩ := z; rw [h] at e; cases e
    | dtt kvs => obtain ⟨vs, e, _⟩ := z; rw [h] at e; cases e
    | dctf kvs => obtain ⟨o, vs, e, _⟩ := z; rw [h] at e; cases e
    | dttf kvs => obtain ⟨o, vs, e, _⟩ := z; rw [h] at e; cases e
theorem RepO.keep {a p : Addr} {o : HO} {n : MO} (z : RepO K H a n) (h : a ≠ p) (x : Ext0 H (upd H p o)) : RepO K (L2.upd H p o) a n := by
  cases n with
  | lst ds => obtain ⟨xs, e, q⟩ := z; exact ⟨xs, by rw [upd_ne h]; exact e, q.mono0 x⟩
  | ro ds => obtain ⟨o, xs, e, q⟩ := z; exact ⟨o, xs, by rw [upd_ne h]; exact e, q.mono0 x⟩
  | ins C fs => obtain ⟨dx, vs, e, q⟩ := z; exact ⟨dx, vs, by rw [upd_ne h]; exact e, RepF.mono0 x q⟩
  | dct kvs => obtain ⟨vs, e, q⟩ := z; exact ⟨vs, by rw [upd_ne h]; exact e, RepKV.mono0 x q⟩
  | dtt kvs => obtain ⟨vs, e, q⟩ := z; exact ⟨vs, by rw [upd_ne h]; exact e, RepKV.mono0 x q⟩
  | dctf kvs => obtain ⟨o, vs, e, q⟩ := z; exact ⟨o, vs, by rw [upd_ne h]; exact e, RepKV.mono0 x q⟩
  | dttf kvs => obtain ⟨o, vs, e, q⟩ := z; exact ⟨o, vs, by rw [upd_ne h]; exact e, RepKV.mono0 x q⟩
/-- one object written or laid -/
theorem RepG.upd0 {p : Addr} {o : HO} {m : MO} (r : RepG K H g) (x : Ext0 H (upd H p o)) (new : RepO K (L2.upd H p o) p m) : RepG K (L2.upd H p o) (gup g p m) := fun a n e => by
  by_cases h : a = p
  · subst h
    rw [gup_same] at e
    cases e
    exact new
  · rw [gup_ne h] at e
    exact (r a n e).keep h x
theorem RepG.upd {p : Addr} {o : HO} {m : MO} (r : RepG K H g) (x : Ext H (upd H p o)) (new : RepO K (L2.upd H p o) p m) : RepG K (L2.upd H p o) (gup g p m) := r.upd0 x.e0 new
/-- an untracked-at-our-level object laid (a tuple) -/
theorem RepG.hid {p : Addr} {o : HO} (r : RepG K H g) (h : H p = none) : RepG K (L2.upd H p o) g := fun a n e =>
  (r a n e).keep (fun z => by rw [z, r.free h] at e; cases e) (Ext.new h).e0
end
/-! ### the lifts -/
section
variable (K : PySem.W.Frag)
def KD (H : Hp) (Qd : DK) (Q : VK) : Prop := ∀ v d H' g', Ext H H' → RepG K H' g' → RepD K H' v d → Qd d g' → Q v H'
def lE (T : DTE) : TE := fun σ H Q => ∃ e g Qd, RepE K H σ e ∧ RepG K H g ∧ T e g Qd ∧ KD K H Qd Q
def lT (T : DTT) : TT := fun σ H Q => ∃ e g Qd, RepE K H σ e ∧ RepG K H g ∧ T e g Qd ∧ ∀ b H' g', Ext H H' → RepG K H' g' → Qd b g' → Q b H'
def lA (T : DTA) : TA := fun σ H Q => ∃ e g Qd, RepE K H σ e ∧ RepG K H g ∧ T e g Qd ∧ ∀ vs ds H' g', Ext H H' → RepG K H' g' → RepL K H' vs ds → Qd ds g' → Q vs H'
def KS (H : Hp) (Q : EV → GS → Prop) (Q' : L2.St → Hp → Prop) : Prop := ∀ σ' H' e' g', Ext H H' → RepE K H' σ' e' → RepG K H' g' → Q e' g' → Q' σ' H'
def lS (T : DTS) : TS := fun D σ H => ∃ e g Dd, RepE K H σ e ∧ RepG K H g ∧ T Dd e g ∧ KS K H Dd.nx D.nx ∧ KD K H Dd.rt D.rt ∧ KS K H Dd.bk D.bk ∧ KS K H Dd.ct D.ct
def lSp (sp : DSp) : Sp := fun vs H Q _ => ∃ ds g Qd, RepL K H vs ds ∧ RepG K H g ∧ sp ds g Qd ∧ KD K H Qd Q
end
theorem KD.mono {K : PySem.W.Frag} {H H' : Hp} {Qd : DK} {Q : VK} (k : KD K H Qd Q) (x : Ext H H') : KD K H' Qd Q := fun v d H2 g2 y => k v d H2 g2 (x.trans y)
theorem KS.mono {K : PySem.W.Frag} {H H' : Hp} {Q : EV → GS → Prop} {Q' : L2.St → Hp → Prop} (k : KS K H Q Q') (x : Ext H H') : KS K H' Q Q' := fun s H2 e g y => k s H2 e g (x.trans y)
structure DE (X : Cx) (e : Expr) (T : DTE) : Prop where
  pe : PE X e (lE X.K T)
structure DT (X : Cx) (e : Expr) (T : DTT) : Prop where
  pt : PT X e (lT X.K T)
structure DW (X : Cx) (e : Expr) (T : DTT) : Prop where
  pw : PW X e (lT X.K T)
structure DA (X : Cx) (es : List Expr) (T : DTA) : Prop where
  pa : PA X es (lA X.K T)
structure DS (X : Cx) (s : Stmt) (T : DTS) : Prop where
  ps : PS X s (lS X.K T)
structure DSs (X : Cx) (s : List Stmt) (T : DTS) : Prop where
  pss : PSs X s (lS X.K T)
/-! ### weakening -/
section
variable {X : Cx}
theorem peW {e : Expr} {t t' : TE} (h : PE X e t) (w : ∀ σ H Q, t' σ H Q → t σ H Q) : PE X e t' := ⟨fun pins s σ H Q I q => h.run pins s σ H Q I (w σ H Q q)⟩
theorem ptW {e : Expr} {t t' : TT} (h : PT X e t) (w : ∀ σ H Q, t' σ H Q → t σ H Q) : PT X e t' := ⟨fun pins s σ H Q I q => h.run pins s σ H Q I (w σ H Q q)⟩
theorem pwW {e : Expr} {t t' : TT} (h : PW X e t) (w : ∀ σ H Q, t' σ H Q → t σ H Q) : PW X e t' := ⟨fun wh pins s σ H Q I q => h.run wh pins s σ H Q I (w σ H Q q)⟩
theorem paW {e : List Expr} {t t' : TA} (h : PA X e t) (w : ∀ σ H Q, t' σ H Q → t σ H Q) : PA X e t' := ⟨fun pos pins s σ H Q I q => h.run pos pins s σ H Q I (w σ H Q q)⟩
theorem psW {e : Stmt} {t t' : TS} (h : PS X e t) (w : ∀ D σ H, t' D σ H → t D σ H) : PS X e t' := ⟨fun pins s σ H Q I q => h.run pins s σ H Q I (w Q σ H q)⟩
theorem pssW {e : List Stmt} {t t' : TS} (h : PSs X e t) (w : ∀ D σ H, t' D σ H → t D σ H) : PSs X e t' := ⟨fun pins s σ H Q I q => h.run pins s σ H Q I (w Q σ H q)⟩
end
end DL

namespace DL
open PySem L2
theorem szl : sizeLine = 16777216 := sizeLine_eq
section
variable {X : Cx} {K : PySem.W.Frag} {H H' : Hp} {σ : L2.St}
/-! ### names, constants -/
def look : EV → Nat → Option D
  | [], _ => none
  | x :: _, 0 => x
  | _ :: r, n + 1 => look r n
theorem look_get : ∀ (e : EV) (i : Nat) (d : D), look e i = some d → e[i]? = some (some d)
  | [], _, _, h => by cases h
  | x :: r, 0, d, h => by
    have h' : x = some d := h
    simp [h']
  | x :: r, n + 1, d, h => by
    have h' : look r n = some d := h
    simpa using look_get r n d h'
def dVar (i : Nat) : DTE := fun e g Q => ∃ d, look e i = some d ∧ Q d g
def dC (d : D) : DTE := fun _ g Q => Q d g
theorem RepG.fin {g : GS} {Qd : DK} {Q : VK} (r : RepG K H g) (k : KD K H Qd Q) {v : V} {d : D} (h : RepD K H v d) (q : Qd d g) : Q v H := k v d H g (.refl H) r h q
theorem RepG.laidL {g : GS} (r : RepG K H g) {n : Addr} (hn : H n = none) {xs : List V} {ds : List D} (l : RepL K H xs ds) : RepG K (L2.upd H n (.lst xs)) (gup g n (.lst ds)) :=
  r.upd (m := .lst ds) (.new hn) (show ∃ _, _ ∧ _ from ⟨_, upd_same, l.mono (.new hn)⟩)
theorem RepG.setL {g : GS} (r : RepG K H g) {n : Addr} {ys : List V} (hn : H n = some (.lst ys)) {xs : List V} {ds : List D} (l : RepL K H xs ds) : RepG K (L2.upd H n (.lst xs)) (gup g n (.lst ds)) :=
  r.upd (m := .lst ds) (.lst hn) (show ∃ _, _ ∧ _ from ⟨_, upd_same, l.mono (.lst hn)⟩)
theorem RepG.finL {g : GS} {Qd : DK} {Q : VK} (r : RepG K H g) (k : KD K H Qd Q) {n : Addr} (hn : H n = none) {xs : List V} {ds : List D} (l : RepL K H xs ds) (q : ∀ p, g p = none → Qd (.ref p) (gup g p (.lst ds))) : Q (.ref n) (L2.upd H n (.lst xs)) :=
  k _ _ _ _ (.new hn) (r.laidL hn l) (.ref n) (q n (r.free hn))
theorem RepG.finU {g : GS} {Qd : DK} {Q : VK} (r : RepG K H g) (k : KD K H Qd Q) {n : Addr} (hn : H n = none) {xs : List V} {ds : List D} (l : RepL K H xs ds) (q : Qd (.tup ds) g) : Q (.ref n) (L2.upd H n (.tup xs)) :=
  k _ _ _ _ (.new hn) (r.hid hn) (.tup upd_same (l.mono (.new hn))) q
theorem RepG.lst {g : GS} (r : RepG K H g) {p : Addr} {ds : List D} (h : g p = some (.lst ds)) : ∃ xs, H p = some (.lst xs) ∧ RepL K H xs ds := r p _ h
theorem RepG.ro {g : GS} (r : RepG K H g) {p : Addr} {ds : List D} (h : g p = some (.ro ds)) : ∃ o xs, H p = some (.frz o (.lst xs)) ∧ RepL K H xs ds := r p _ h
theorem RepG.ins {g : GS} (r : RepG K H g) {p : Addr} {n : Str} {fs : List (Str × D)} (h : g p = some (.ins n fs)) : ∃ dx vs, H p = some (.ins (clsA K n) dx vs) ∧ RepF K H vs fs := r p _ h
/-- a list that is read -/
def rdL (g : GS) (p : Addr) (ds : List D) : Prop := g p = some (.lst ds) ∨ g p = some (.ro ds)
theorem RepG.sq {g : GS} (r : RepG K H g) {p : Addr} {ds : List D} (h : rdL g p ds) : ∃ xs, SqL K H p xs ∧ RepL K H xs ds := by
  rcases h with h | h
  · obtain ⟨xs, e, l⟩ := r.lst h
    exact ⟨xs, .of e, l⟩
  · obtain ⟨o, xs, e, l⟩ := r.ro h
    exact ⟨xs, .inl (.inr ⟨o, e⟩), l⟩
theorem de_var {i : Nat} {x : Str} {pos : Pos} (h : PE X (.Name x pos) (tVar i)) : DE X (.Name x pos) (dVar i) := ⟨peW h fun σ H Q ⟨e, g, Qd, re, rg, ⟨d, l, q⟩, k⟩ => by
  obtain ⟨v, hv, r⟩ := re.2 i d (look_get e i d l)
  exact ⟨v, hv, rg.fin k r q⟩⟩
theorem de_c {e : Expr} {v : V} {d : D} (h : PE X e (tC v)) (r : ∀ H, RepD X.K H v d) : DE X e (dC d) := ⟨peW h fun σ H Q ⟨e, g, Qd, re, rg, q, k⟩ => rg.fin k (r H) q⟩
theorem de_int {i j pos} : DE X (.Constant (.int i) j pos) (dC (.int i)) := de_c pe_int fun _ => .int i
theorem de_bl {b j pos} : DE X (.Constant (.bool b) j pos) (dC (.bl b)) := de_c pe_bl fun _ => .bl b
theorem de_non {j pos} : DE X (.Constant .none j pos) (dC .non) := de_c pe_non fun _ => .non
theorem de_str {x j pos} : DE X (.Constant (.str x) j pos) (dC (.str x)) := de_c pe_str fun _ => .str x
theorem de_globS {x y : Str} {u : Value} {pos : Pos} (hg : Gl X x) (hm : X.mg x = some u) (r : RelV (.str y) u) (hd : (x == ("__debug__" : Str)) = false := by decide) : DE X (.Name x pos) (dC (.str y)) := de_c (pe_glob hg hm r hd) fun _ => .str y
theorem de_globI {x : Str} {i : Int} {u : Value} {pos : Pos} (hg : Gl X x) (hm : X.mg x = some u) (r : RelV (.int i) u) (hd : (x == ("__debug__" : Str)) = false := by decide) : DE X (.Name x pos) (dC (.int i)) := de_c (pe_glob hg hm r hd) fun _ => .int i
/-! ### two-place operations -/
abbrev DR2 := D → D → GS → DK → Prop
def lR2 (K : PySem.W.Frag) (r : DR2) : R2 := fun x y H Q => ∃ dx dy g Qd, RepD K H x dx ∧ RepD K H y dy ∧ RepG K H g ∧ r dx dy g Qd ∧ KD K H Qd Q
def dOp (r : DR2) (ta tb : DTE) : DTE := fun e g Q => ta e g fun x g1 => tb e g1 fun y g2 => r x y g2 Q
theorem lop {r : DR2} {ta tb : DTE} {σ : L2.St} {H : Hp} {Q : VK} (h : lE K (dOp r ta tb) σ H Q) : tOp (lR2 K r) (lE K ta) (lE K tb) σ H Q := by
  obtain ⟨e, g, Qd, re, rg, q, k⟩ := h
  refine ⟨e, g, _, re, rg, q, fun x dx H1 g1 x1 rg1 rx q1 => ?_⟩
  refine ⟨e, g1, _, re.mono x1, rg1, q1, fun y dy H2 g2 x2 rg2 ry q2 => ?_⟩
  exact ⟨dx, dy, g2, Qd, rx.mono x2, ry, rg2, q2, k.mono (x1.trans x2)⟩
abbrev DOpR (X : Cx) (f : Value → Value → Sem Value) (r : DR2) : Prop := OpR X f (lR2 X.K r)
variable {a b c : Expr} {ta tb tc te : DTE} {pos : Pos}
theorem de_op {op : Operator} {r : DR2} (ho : DOpR X (binaryOp op) r) (ha : DE X a ta) (hb : DE X b tb) : DE X (.BinOp a op b pos) (dOp r ta tb) := ⟨peW (pe_op ho ha.pe hb.pe) fun _ _ _ h => lop h⟩
theorem de_cmp {op : CmpOp} {r : DR2} (ho : DOpR X (compareOp op) r) (ha : DE X a ta) (hb : DE X b tb) (hm : behindInMarks op b = false) : DE X (.Compare a [op] [b] pos) (dOp r ta tb) := ⟨peW (pe_cmpR ho ha.pe hb.pe hm) fun _ _ _ h => lop h⟩
def dTest (t : DTE) : DTT := fun e g Q => t e g fun d g' => ∃ k, d = .bl k ∧ Q k g'
theorem ltest {t : DTE} {σ : L2.St} {H : Hp} {Q : Bool → Hp → Prop} (h : lT K (dTest t) σ H Q) : tTest (lE K t) σ H Q := by
  obtain ⟨e, g, Qd, re, rg, q, k⟩ := h
  refine ⟨e, g, _, re, rg, q, fun x d H1 g1 x1 rg1 rx q1 => ?_⟩
  obtain ⟨b, rfl, q1⟩ := q1
  cases rx
  exact ⟨b, rfl, k _ _ _ x1 rg1 q1⟩
theorem tTest_mono {t t' : TE} (w : ∀ σ H Q, t' σ H Q → t σ H Q) {σ : L2.St} {H : Hp} {Q : Bool → Hp → Prop} (h : tTest t' σ H Q) : tTest t σ H Q := w _ _ _ h
theorem dt_cmp {op : CmpOp} {r : DR2} (ho : DOpR X (compareOp op) r) (ha : DE X a ta) (hb : DE X b tb) (hm : behindInMarks op b = false) : DT X (.Compare a [op] [b] pos) (dTest (dOp r ta tb)) :=
  ⟨ptW (pt_cmpR ho ha.pe hb.pe hm) fun _ _ _ h => tTest_mono (fun _ _ _ q => lop q) (ltest h)⟩
/-- a op1 b op2 c -/
def dChain (r r' : DR2) (ta tb tc : DTE) : DTE := fun e g Q => ta e g fun x g1 => tb e g1 fun y g2 => r x y g2 fun z g3 => ∃ k, z = .bl k ∧ (if k = true then tc e g3 fun w g4 => r' y w g4 Q else Q (.bl false) g3)
theorem lchain {r r' : DR2} {ta tb tc : DTE} {σ : L2.St} {H : Hp} {Q : VK} (h : lE K (dChain r r' ta tb tc) σ H Q) : tChain (lR2 K r) (lR2 K r') (lE K ta) (lE K tb) (lE K tc) σ H Q := by
  obtain ⟨e, g, Qd, re, rg, q, k⟩ := h
  refine ⟨e, g, _, re, rg, q, fun x dx H1 g1 x1 rg1 rx q1 => ?_⟩
  refine ⟨e, g1, _, re.mono x1, rg1, q1, fun y dy H2 g2 x2 rg2 ry q2 => ?_⟩
  refine ⟨dx, dy, g2, _, rx.mono x2, ry, rg2, q2, fun z dz H3 g3 x3 rg3 rz q3 => ?_⟩
  obtain ⟨b, rfl, q3⟩ := q3
  cases rz
  refine ⟨b, rfl, ?_⟩
  cases b with
  | false => exact k _ _ _ _ ((x1.trans x2).trans x3) rg3 (.bl false) q3
  | true =>
    rw [if_pos rfl] at q3 ⊢
    refine ⟨e, g3, _, re.mono ((x1.trans x2).trans x3), rg3, q3, fun w dw H4 g4 x4 rg4 rw' q4 => ?_⟩
    exact ⟨dy, dw, g4, Qd, ry.mono (x3.trans x4), rw', rg4, q4, k.mono (((x1.trans x2).trans x3).trans x4)⟩
theorem de_chain {op op' : CmpOp} {r r' : DR2} (ho : DOpR X (compareOp op) r) (ho' : DOpR X (compareOp op') r') (ha : DE X a ta) (hb : DE X b tb) (hc : DE X c tc)
    (hm : lastMarks [op, op'] [b, c] = false := by with_unfolding_all rfl) : DE X (.Compare a [op, op'] [b, c] pos) (dChain r r' ta tb tc) := ⟨peW (pe_chain ho ho' ha.pe hb.pe hc.pe hm) fun _ _ _ h => lchain h⟩
theorem dt_chain {op op' : CmpOp} {r r' : DR2} (ho : DOpR X (compareOp op) r) (ho' : DOpR X (compareOp op') r') (ha : DE X a ta) (hb : DE X b tb) (hc : DE X c tc)
    (hm : lastMarks [op, op'] [b, c] = false := by with_unfolding_all rfl) : DT X (.Compare a [op, op'] [b, c] pos) (dTest (dChain r r' ta tb tc)) :=
  ⟨ptW (pt_chain ho ho' ha.pe hb.pe hc.pe hm) fun _ _ _ h => tTest_mono (fun _ _ _ q => lchain q) (ltest h)⟩
/-! ### one-place -/
def lR1 (K : PySem.W.Frag) (r : D → GS → DK → Prop) : V → Hp → VK → Prop := fun x H Q => ∃ dx g Qd, RepD K H x dx ∧ RepG K H g ∧ r dx g Qd ∧ KD K H Qd Q
def dUn (r : D → GS → DK → Prop) (ta : DTE) : DTE := fun e g Q => ta e g fun x g1 => r x g1 Q
theorem de_un {op : UnaryOp} {r : D → GS → DK → Prop} (ho : UnR X (unaryOp op) (lR1 X.K r)) (ha : DE X a ta) : DE X (.UnaryOp op a pos) (dUn r ta) := ⟨peW (pe_un ho ha.pe) fun σ H Q ⟨e, g, Qd, re, rg, q, k⟩ =>
  ⟨e, g, _, re, rg, q, fun x dx H1 g1 x1 rg1 rx q1 => ⟨dx, g1, Qd, rx, rg1, q1, k.mono x1⟩⟩⟩
def negD : D → GS → DK → Prop := fun x g Q => match x with | .int i => Q (.int (-i)) g | _ => False
theorem un_negD : UnR X (unaryOp .USub) (lR1 X.K negD) := fun pins s σ H x v Q I rx ⟨dx, g, Qd, r, rg, q, k⟩ => by
  cases r with
  | int i => exact un_neg pins s σ H _ v Q I rx ⟨i, rfl, rg.fin k (.int _) q⟩
  | _ => exact q.elim
/-! ### the operations -/
def addD : DR2 := fun x y g Q => match x, y with
  | .int i, .int j => Q (.int (i + j)) g
  | .str a, .str b => a.length + b.length ≤ sizeLine ∧ Q (.str (a ++ b)) g
  | .tup a, .tup b => a.length + b.length ≤ sizeLine ∧ Q (.tup (a ++ b)) g
  | .ref p, .ref q => ∃ xs ys, g p = some (.lst xs) ∧ g q = some (.lst ys) ∧ xs.length + ys.length ≤ sizeLine ∧ ∀ r, g r = none → Q (.ref r) (gup g r (.lst (xs ++ ys)))
  | _, _ => False
theorem op_addD : DOpR X (binaryOp .Add) addD := fun pins s σ H x y v u Q I rx ry ⟨dx, dy, g, Qd, r1, r2, rg, q, k⟩ => by
  cases r1 with
  | int i => cases r2 with
    | int j => exact op_add pins s σ H _ _ v u Q I rx ry ⟨i, j, rfl, rfl, rg.fin k (.int _) q⟩
    | _ => exact q.elim
  | str i => cases r2 with
    | str j => exact op_add_str pins s σ H _ _ v u Q I rx ry ⟨i, j, rfl, rfl, q.1, rg.fin k (.str _) q.2⟩
    | _ => exact q.elim
  | @tup a xs ds h1 l1 => cases r2 with
    | @tup b ys es h2 l2 =>
      refine op_catA pins s σ H _ _ v u Q I rx ry ⟨a, b, xs, ys, rfl, rfl, tq h1, tq h2, by rw [l1.length, l2.length]; exact q.1, fun e => ?_, fun _ e => ?_, fun _ _ p hp => ?_⟩
      · have := l1.inj1 e
        subst this
        exact rg.fin k (.tup h2 l2) q.2
      · have := l2.inj1 e
        subst this
        have q' := q.2
        rw [List.append_nil] at q'
        exact rg.fin k (.tup h1 l1) q'
      · exact rg.finU k hp (l1.app l2) q.2
    | _ => exact q.elim
  | ref p => cases r2 with
    | ref b =>
      obtain ⟨ds, es, h1, h2, hz, q⟩ := q
      obtain ⟨xs, e1, l1⟩ := rg.lst h1
      obtain ⟨ys, e2, l2⟩ := rg.lst h2
      refine op_cat pins s σ H _ _ v u Q I rx ry ⟨p, b, xs, ys, rfl, rfl, e1, e2, by rw [l1.length, l2.length]; exact hz, fun n hn => rg.finL k hn (l1.app l2) q⟩
    | _ => exact q.elim
  | _ => cases r2 <;> exact q.elim
def intD (C : Int → Int → Prop) (f : Int → Int → D) : DR2 := fun x y g Q => match x, y with
  | .int i, .int j => C i j ∧ Q (f i j) g
  | _, _ => False
theorem op_intD {f : Value → Value → Sem Value} {C : Int → Int → Prop} {h : Int → Int → V} {h' : Int → Int → D} (ho : OpR X f (rI C h)) (r : ∀ H i j, RepD X.K H (h i j) (h' i j)) : DOpR X f (intD C h') := fun pins s σ H x y v u Q I rx ry ⟨dx, dy, g, Qd, r1, r2, rg, q, k⟩ => by
  cases r1 with
  | int i => cases r2 with
    | int j => exact ho pins s σ H _ _ v u Q I rx ry ⟨i, j, rfl, rfl, q.1, rg.fin k (r _ _ _) q.2⟩
    | _ => exact q.elim
  | _ => cases r2 <;> exact q.elim
theorem op_intD0 {f : Value → Value → Sem Value} {h : Int → Int → V} {h' : Int → Int → D} (ho : OpR X f (rI0 h)) (r : ∀ H i j, RepD X.K H (h i j) (h' i j)) : DOpR X f (intD (fun _ _ => True) h') := fun pins s σ H x y v u Q I rx ry ⟨dx, dy, g, Qd, r1, r2, rg, q, k⟩ => by
  cases r1 with
  | int i => cases r2 with
    | int j => exact ho pins s σ H _ _ v u Q I rx ry ⟨i, j, rfl, rfl, rg.fin k (r _ _ _) q.2⟩
    | _ => exact q.elim
  | _ => cases r2 <;> exact q.elim
abbrev subD : DR2 := intD (fun _ _ => True) fun i j => .int (i - j)
theorem op_subD : DOpR X (binaryOp .Sub) subD := op_intD0 op_sub fun _ _ _ => .int _
abbrev fdivD : DR2 := intD CDivN fun i j => .int (i.fdiv j)
theorem op_fdivD : DOpR X (binaryOp .FloorDiv) fdivD := op_intD op_fdivN fun _ _ _ => .int _
abbrev modD : DR2 := intD (fun _ j => j ≠ 0) fun i j => .int (i.fmod j)
theorem op_modD : DOpR X (binaryOp .Mod) modD := op_intD op_modN fun _ _ _ => .int _
abbrev powD : DR2 := intD CPow fun i j => .int (i ^ j.toNat)
theorem op_powD : DOpR X (binaryOp .Pow) powD := op_intD op_pow fun _ _ _ => .int _
abbrev shlD : DR2 := intD CPow fun i j => .int (i * 2 ^ j.toNat)
theorem op_shlD : DOpR X (binaryOp .LShift) shlD := op_intD op_shl fun _ _ _ => .int _
abbrev shrD : DR2 := intD (fun _ j => 0 ≤ j) fun i j => .int (i / 2 ^ j.toNat)
theorem op_shrD : DOpR X (binaryOp .RShift) shrD := op_intD op_shr fun _ _ _ => .int _
abbrev andD : DR2 := intD (fun _ _ => True) fun i j => .int (Builtin.bitAnd i j)
theorem op_andD : DOpR X (binaryOp .BitAnd) andD := op_intD0 op_and fun _ _ _ => .int _
abbrev orD : DR2 := intD (fun _ _ => True) fun i j => .int (Builtin.bitOr i j)
theorem op_orD : DOpR X (binaryOp .BitOr) orD := op_intD0 op_or fun _ _ _ => .int _
def repS (s : Str) : Nat → Str
  | 0 => ⟨#[]⟩
  | n + 1 => s ++ repS s n
def mulD : DR2 := fun x y g Q => match x, y with
  | .int i, .int j => CMul i j ∧ Q (.int (i * j)) g
  | .str a, .int k => 0 ≤ k ∧ k ≤ 100000 ∧ a.length * k.toNat ≤ 16777216 ∧ Q (.str ⟨((List.replicate k.toNat a.cps.toList).flatten).toArray⟩) g
  | .tup xs, .int k => xs ≠ [] ∧ 0 ≤ k ∧ k ≤ 1000 ∧ xs.length ≤ 1000 ∧ Q (.tup (List.replicate k.toNat xs).flatten) g
  | .ref p, .int k => ∃ xs, g p = some (.lst xs) ∧ -(2 ^ 63) ≤ k ∧ k < 2 ^ 63 ∧ xs.length * k.toNat ≤ sizeLine ∧ ∀ r, g r = none → Q (.ref r) (gup g r (.lst (List.replicate k.toNat xs).flatten))
  | _, _ => False
theorem RepL.repl {vs : List V} {ds : List D} (r : RepL K H vs ds) : ∀ k : Nat, RepL K H (List.replicate k vs).flatten (List.replicate k ds).flatten
  | 0 => .nil
  | k + 1 => by rw [List.replicate_succ, List.replicate_succ, List.flatten_cons, List.flatten_cons]; exact r.app (RepL.repl r k)
theorem foldl_cat : ∀ (l : List (Array Nat)) (acc : Array Nat), (l.foldl (· ++ ·) acc).toList = acc.toList ++ (l.map Array.toList).flatten
  | [], acc => by simp
  | a :: l, acc => by
    rw [List.foldl_cons, foldl_cat l (acc ++ a), Array.toList_append, List.map_cons, List.flatten_cons, List.append_assoc]
theorem mul_txt {a : Str} {k : Int} (h0 : 0 ≤ k) : PySem.Txt.mul a k = ⟨((List.replicate k.toNat a.cps.toList).flatten).toArray⟩ := by
  by_cases h : 0 < k
  case neg =>
    have : k = 0 := by omega
    subst this
    rfl
  unfold PySem.Txt.mul
  rw [if_neg (by omega)]
  by_cases h2 : (k == 1 || a.length == 0) = true
  · rw [if_pos h2]
    rcases Bool.or_eq_true_iff.mp h2 with e | e
    · have : k = 1 := by simpa using e
      subst this
      refine TL.ext_tl ?_
      simp [TL.tl]
    · have : a.cps.size = 0 := by simpa [Str.length] using e
      have e2 : a.cps.toList = [] := by
        rw [← List.length_eq_zero_iff, Array.length_toList]; exact this
      refine TL.ext_tl ?_
      show a.cps.toList = _
      rw [e2]
      simp [TL.tl]
  · rw [if_neg h2]
    refine TL.ext_tl ?_
    show ((List.replicate k.toNat a.cps).foldl (· ++ ·) #[]).toList = _
    rw [foldl_cat, List.map_replicate]
    simp [TL.tl]
end
section
open PySem.Spec PyProof.Rows
theorem tuple_mul1 (l : Addr) (items : Array Value) (n : Nat) (dd : Option Addr) (sl : Array (Option Value)) (u : Tok) :
    Meets (Builtin.«tuple.__mul__» ⟨[.ref l, .int 1 u], []⟩) (fun _ R s => s.heap.get? l = some { cls := .type "tuple", dict := dd, data := .seq items n, slots := sl } ∧ R (.ok (.ret (Value.ref l))) s) :=
  .of_wp fun prog w A R s h => by
    obtain ⟨hp, g, d, tk, os⟩ := s
    obtain ⟨hl, h⟩ := h
    have f1 := AutoSeq1.idx_int
    have c1 : (items.isEmpty || (1 : Int) == 1) = true := by rw [Bool.or_eq_true]; exact .inr rfl
    wp_walk using wpAny_loadPart' hl
    repeat (first
      | (refine wpAny_ite_false (decide_eq_false (by decide)) ?_; wp_walk using wpAny_loadPart' hl)
      | (refine wpAny_ite_true (decide_eq_true c1) ?_; wp_walk using wpAny_loadPart' hl))
    exact ⟨_, rfl, h⟩
theorem tuple_mul0 (l : Addr) (items : Array Value) (n : Nat) (dd : Option Addr) (sl : Array (Option Value)) (u : Tok) (hi : items.isEmpty = false) :
    Meets (Builtin.«tuple.__mul__» ⟨[.ref l, .int 0 u], []⟩) (fun _ R s => s.heap.get? l = some { cls := .type "tuple", dict := dd, data := .seq items n, slots := sl } ∧
      R (.ok (.ret (Value.ref s.heap.objs.size))) { s with heap := s.heap.push { cls := Value.type "tuple", data := Data.seq #[] }, toks := s.toks }) :=
  .of_wp fun prog w A R s h => by
    obtain ⟨hp, g, d, tk, os⟩ := s
    obtain ⟨hl, h⟩ := h
    have f1 := AutoSeq1.idx_int
    have c1 : (items.isEmpty || (0 : Int) == 1) = false := by rw [hi]; rfl
    wp_walk using wpAny_loadPart' hl
    repeat (first
      | (refine wpAny_ite_false (decide_eq_false (by decide)) ?_; wp_walk using wpAny_loadPart' hl)
      | (refine wpAny_ite_false (decide_eq_false (by rw [c1]; exact Bool.false_ne_true)) ?_; wp_walk using wpAny_loadPart' hl)
      | (refine wpAny_ite_true (decide_eq_true (by rw [hi]; rfl)) ?_; wp_walk using wpAny_loadPart' hl))
    exact ⟨_, rfl, h⟩
def rMulT (K : PySem.W.Frag) : R2 := fun x y H Q => ∃ l k xs, x = .ref l ∧ y = .int k ∧ SqT K H l xs ∧ xs ≠ [] ∧ 0 ≤ k ∧ k ≤ 1000 ∧ xs.length ≤ 1000 ∧ (k = 1 → Q (.ref l) H) ∧ (k ≠ 1 → ∀ p, H p = none → Q (.ref p) (upd H p (.tup (List.replicate k.toNat xs).flatten)))
theorem op_mulT {X : Cx} : OpR X (binaryOp .Mult) (rMulT X.K) := by
  intro pins s σ H x y v u Q I rx ry h
  obtain ⟨l, k, xs, rfl, rfl, hT, hne, h1, h2, hz, q1, q⟩ := h
  by_cases hk : 2 ≤ k
  · exact op_repT pins s σ H _ _ v u Q I rx ry ⟨l, k, xs, rfl, rfl, hT, hne, hk, h2, hz, q (by omega)⟩
  cases rx
  obtain ⟨t, rfl⟩ := ry
  obtain ⟨its, r, ⟨⟨cls, dd, data, sl⟩, ho, hc, n, hd⟩, hs⟩ := I.tuple hT
  simp only at hc hd
  subst hc hd
  have hle : its.length = xs.length := r.length.symm
  have hn : its ≠ [] := fun e => hne (by
    rw [e] at hle
    exact List.eq_nil_of_length_eq_zero hle.symm)
  have hi : its.toArray.isEmpty = false := by
    cases its with
    | nil => exact absurd rfl hn
    | cons a b => rfl
  rcases (by omega : k = 0 ∨ k = 1) with rfl | rfl
  · refine wpAny_binaryOp_repeat_ref (T := "tuple") (U := "int") (by decide) ⟨_, ho, rfl⟩ (fun s' => typeIs_int s' 0 t) noFill_tuple_mul F.fills_int_mul F.slot_int_rmul repeat_tuple F.slot_int_index.lookup
      (call_meets F.slot_int_rmul (typeIs_int s 0 t) F.entry_int_rmul (F.args_int_rmul_2 _ _) (int_rmul_tuple 0 t l its.toArray n dd sl)
        ⟨ho, rfl, ⟨_, ho, rfl⟩, call_meets F.slot_tuple_mul ⟨_, ho, rfl⟩ F.entry_tuple_mul (F.args_tuple_mul_2 _ _) (tuple_mul0 l its.toArray n dd sl t hi) ⟨ho, ?_⟩⟩)
    refine ⟨.ref s.heap.objs.size, _, I.laid (t' := s.toks) (o := .tup []) (fun b ob q => Heap.get?_push_of_some _ q) (Nat.le_refl _) ?_, rfl, q (by omega) _ (I.hok.fresh (Nat.le_refl _))⟩
    exact ⟨Nat.zero_le _, [], .nil, IsTup.new _ _⟩
  · refine wpAny_binaryOp_repeat_ref (T := "tuple") (U := "int") (by decide) ⟨_, ho, rfl⟩ (fun s' => typeIs_int s' 1 t) noFill_tuple_mul F.fills_int_mul F.slot_int_rmul repeat_tuple F.slot_int_index.lookup
      (call_meets F.slot_int_rmul (typeIs_int s 1 t) F.entry_int_rmul (F.args_int_rmul_2 _ _) (int_rmul_tuple 1 t l its.toArray n dd sl)
        ⟨ho, rfl, ⟨_, ho, rfl⟩, call_meets F.slot_tuple_mul ⟨_, ho, rfl⟩ F.entry_tuple_mul (F.args_tuple_mul_2 _ _) (tuple_mul1 l its.toArray n dd sl t) ⟨ho, ?_⟩⟩)
    exact ⟨.ref l, H, I, rfl, q1 rfl⟩
end
section
variable {X : Cx} {K : PySem.W.Frag} {H H' : Hp} {σ : L2.St}
theorem op_mulD : DOpR X (binaryOp .Mult) mulD := fun pins s σ H x y v u Q I rx ry ⟨dx, dy, g, Qd, r1, r2, rg, q, k⟩ => by
  cases r1 with
  | int i => cases r2 with
    | int j => exact op_mul pins s σ H _ _ v u Q I rx ry ⟨i, j, rfl, rfl, q.1, rg.fin k (.int _) q.2⟩
    | _ => exact q.elim
  | str a => cases r2 with
    | int j =>
      obtain ⟨b1, b2, hz, q⟩ := q
      obtain ⟨t, rfl⟩ := rx
      obtain ⟨t2, rfl⟩ := ry
      refine PySem.SB.mul ⟨by simp; omega, fun h1 _ => ?_, fun h1 _ => ?_⟩ fun t' tk => ?_
      · have hl : (a.length : Int) ≤ 16777216 := by
          have : a.length * 1 ≤ a.length * j.toNat := Nat.mul_le_mul_left _ (by omega)
          omega
        have : 92233720368547 ≤ ((2 : Int) ^ 63 - 1) / j := by
          rw [Int.le_ediv_iff_mul_le (by omega)]
          omega
        omega
      · unfold Builtin.Str.tooLong
        rw [sizeLine_eq]
        simp; omega
      · rw [mul_txt b1]
        exact ⟨.str _, H, I.tok _, ⟨_, rfl⟩, rg.fin k (.str _) q⟩
    | _ => exact q.elim
  | ref p => cases r2 with
    | int j =>
      obtain ⟨ds, h1, b1, b2, hz, q⟩ := q
      obtain ⟨xs, e1, l1⟩ := rg.lst h1
      refine op_rep pins s σ H _ _ v u Q I rx ry ⟨p, j, xs, rfl, rfl, e1, b1, b2, by rw [l1.length]; exact hz, fun n hn => rg.finL k hn (l1.repl _) q⟩
    | _ => exact q.elim
  | tup hT l1 => cases r2 with
    | int j =>
      obtain ⟨hne, b1, b2, hz, q⟩ := q
      refine op_mulT pins s σ H _ _ v u Q I rx ry ⟨_, j, _, rfl, rfl, tq hT, fun z => hne (l1.inj1 z), b1, b2, by rw [l1.length]; exact hz, fun e => ?_, fun _ n hn => rg.finU k hn (l1.repl _) q⟩
      subst e
      rw [show (1 : Int).toNat = 1 from rfl, List.replicate_succ, List.replicate_zero, List.flatten_cons, List.flatten_nil, List.append_nil] at q
      exact rg.fin k (.tup hT l1) q
    | _ => exact q.elim
  | _ => cases r2 <;> exact q.elim
end
end DL

namespace DL
open PySem L2
/-! ### data without references, as the library's data -/
mutual
def pd : D → PyData
  | .non => .none
  | .bl b => .bool b
  | .int i => .int i
  | .str x => .str x
  | .tup ds => .tuple (pds ds)
  | .ref _ => .none
  | .klst _ => .none
def pds : List D → List PyData
  | [] => []
  | d :: ds => pd d :: pds ds
end
mutual
def pure? : D → Bool
  | .tup ds => pures ds
  | .str x => PyData.strOk x
  | .ref _ => false
  | .klst _ => false
  | _ => true
def pures : List D → Bool
  | [] => true
  | d :: ds => pure? d && pures ds
end
mutual
def dep : D → Nat
  | .tup ds => deps ds + 1
  | _ => 0
def deps : List D → Nat
  | [] => 0
  | d :: ds => max (dep d) (deps ds)
end
mutual
theorem pd_lay : ∀ d : D, pure? d = true → (pd d).canLay0 = true
  | .non, _ => by simp [pd, PyData.canLay0]
  | .bl b, _ => by simp [pd, PyData.canLay0]
  | .int i, _ => by simp [pd, PyData.canLay0]
  | .str x, h => by
    simp only [pd, PyData.canLay0]
    exact h
  | .ref a, _ => by simp [pd, PyData.canLay0]
  | .klst a, _ => by simp [pd, PyData.canLay0]
  | .tup ds, h => by
    simp only [pd, PyData.canLay0]
    exact pds_lay ds h
theorem pds_lay : ∀ ds : List D, pures ds = true → PyData.canLayAll0 (pds ds) = true
  | [], _ => by simp [pds, PyData.canLayAll0]
  | d :: ds, h => by
    simp only [pures, Bool.and_eq_true] at h
    simp [pds, PyData.canLayAll0, pd_lay d h.1, pds_lay ds h.2]
end
mutual
theorem pd_dep : ∀ d : D, (pd d).depth ≤ dep d
  | .non => by simp [pd, PyData.depth]
  | .bl b => by simp [pd, PyData.depth]
  | .int i => by simp [pd, PyData.depth]
  | .str x => by simp [pd, PyData.depth]
  | .ref a => by simp [pd, PyData.depth]
  | .klst a => by simp [pd, PyData.depth]
  | .tup ds => by
    have h := pds_dep ds
    simp only [pd, PyData.depth, dep]
    omega
theorem pds_dep : ∀ ds : List D, PyData.depthAll (pds ds) ≤ deps ds
  | [] => by simp [pds, PyData.depthAll]
  | d :: ds => by
    have h1 := pd_dep d
    have h2 := pds_dep ds
    simp only [pds, PyData.depthAll, deps]
    omega
end
/-- pure and not deep -/
def fine (d : D) : Prop := pure? d = true ∧ dep d ≤ 60
theorem fine_shaped {d : D} (h : fine d) : SeqAt.shaped (pd d) = true := by
  unfold SeqAt.shaped
  rw [pd_lay d h.1, Bool.true_and]
  have := pd_dep d
  exact decide_eq_true (Nat.le_trans this (Nat.le_trans h.2 (by decide)))
theorem fines_shaped {ds : List D} (h1 : pures ds = true) (h2 : deps ds ≤ 60) : SeqAt.shaped (.list (pds ds)) = true := by
  unfold SeqAt.shaped
  have := pds_dep ds
  have e : (PyData.list (pds ds)).canLay0 = true := by simp [PyData.canLay0, pds_lay ds h1]
  rw [e, Bool.true_and]
  refine decide_eq_true ?_
  simp only [PyData.depth]
  omega
section
variable {K : PySem.W.Frag} {H : Hp}
mutual
theorem RepD.dp : ∀ {v : V} {d : D}, RepD K H v d → pure? d = true → Dp K H v (pd d)
  | _, _, .non, _ => .non
  | _, _, .bl b, _ => .bl b
  | _, _, .int i, _ => .int i
  | _, _, .str x, _ => .str x
  | _, _, .ref a, h => by cases h
  | _, _, .kl _ _, h => by cases h
  | _, _, .tup h r, p => .tup (tq h) (RepL.dps r p)
theorem RepL.dps : ∀ {vs : List V} {ds : List D}, RepL K H vs ds → pures ds = true → DpAll K H vs (pds ds)
  | _, _, .nil, _ => .nil
  | _, _, .cons h r, p => by
    simp only [pures, Bool.and_eq_true] at p
    exact .cons (RepD.dp h p.1) (RepL.dps r p.2)
end
end
def eqP (a b : D) : Bool := PyData.eqv (pd a) (pd b)
section
variable {X : Cx} {K : PySem.W.Frag} {H H' : Hp} {σ : L2.St}
variable {a b c : Expr} {ta tb tc te : DTE} {pos : Pos}
/-! ### comparisons -/
abbrev ltD0 : DR2 := intD (fun _ _ => True) fun i j => .bl (decide (i < j))
def cmpD (f : Int → Int → Bool) (s : Str → Str → Bool) (t : PyData → PyData → Bool) : DR2 := fun x y g Q => match x, y with
  | .int i, .int j => Q (.bl (f i j)) g
  | .str i, .str j => Q (.bl (s i j)) g
  | .tup a, .tup b => pures a = true ∧ pures b = true ∧ deps a ≤ 60 ∧ PySem.W.alike (pd (.tup a)) (pd (.tup b)) = true ∧ Q (.bl (t (pd (.tup a)) (pd (.tup b)))) g
  | _, _ => False
theorem op_cmpD {f : Int → Int → Bool} {s : Str → Str → Bool} {t : PyData → PyData → Bool} {op : CmpOp} (hu : X.A.units + 64 < cLine) (h1 : OpR X (compareOp op) (rI0 fun i j => .bl (f i j))) (h2 : OpR X (compareOp op) (fun x y H Q => ∃ i j, x = .str i ∧ y = .str j ∧ Q (.bl (s i j)) H))
    (h3 : ∀ {sh : Shared} {v u : Value} {da db : PyData} {as bs : List Addr} {Q : Value → Shared → Prop} {E : Value → Shared → Prop}, Reads sh.heap v da as → Reads sh.heap u db bs → PySem.W.alike da db = true → da ≠ .none → X.A.units + min da.depth db.depth < cLine → Q (.bool (t da db)) sh → wpAny (model X.prog X.w) X.A (compareOp op v u) Q E sh) :
    DOpR X (compareOp op) (cmpD f s t) := fun pins s σ H x y v u Q I rx ry ⟨dx, dy, g, Qd, r1, r2, rg, q, k⟩ => by
  cases r1 with
  | int i => cases r2 with
    | int j => exact h1 pins s σ H _ _ v u Q I rx ry ⟨i, j, rfl, rfl, rg.fin k (.bl _) q⟩
    | _ => exact q.elim
  | str i => cases r2 with
    | str j => exact h2 pins s σ H _ _ v u Q I rx ry ⟨i, j, rfl, rfl, rg.fin k (.bl _) q⟩
    | _ => exact q.elim
  | @tup p1 xs a hs1 l1 => cases r2 with
    | @tup p2 ys b hs2 l2 =>
      obtain ⟨h4, h5, h6, h7, q⟩ := q
      obtain ⟨as, ra⟩ := Dp.reads I (pd (.tup a)) (.ref p1) v ((RepD.tup hs1 l1).dp h4) rx
      obtain ⟨bs, rb⟩ := Dp.reads I (pd (.tup b)) (.ref p2) u ((RepD.tup hs2 l2).dp h5) ry
      refine h3 ra rb h7 (fun z => by rw [pd] at z; cases z) ?_ ⟨.bl _, H, I, rfl, rg.fin k (.bl _) q⟩
      have e1 := pd_dep (.tup a)
      rw [dep] at e1
      have e2 := Nat.min_le_left (pd (.tup a)).depth (pd (.tup b)).depth
      omega
    | _ => exact q.elim
  | _ => cases r2 <;> exact q.elim
abbrev ltD : DR2 := cmpD (fun i j => decide (i < j)) (fun i j => decide (i.cps.toList < j.cps.toList)) fun a b => PySem.W.dataLt a b
abbrev leD : DR2 := cmpD (fun i j => decide (i ≤ j)) (fun i j => !decide (j.cps.toList < i.cps.toList)) fun a b => !PySem.W.dataLt b a
abbrev gtD : DR2 := cmpD (fun i j => decide (j < i)) (fun i j => decide (j.cps.toList < i.cps.toList)) fun a b => PySem.W.dataLt b a
abbrev geD : DR2 := cmpD (fun i j => decide (j ≤ i)) (fun i j => !decide (i.cps.toList < j.cps.toList)) fun a b => !PySem.W.dataLt a b
theorem op_ltD (hu : X.A.units + 64 < cLine) : DOpR X (compareOp .Lt) ltD := op_cmpD hu op_lt op_lt_str fun a b c d e f => PySem.W.lt_data a b c d e f
theorem op_leD (hu : X.A.units + 64 < cLine) : DOpR X (compareOp .LtE) leD := op_cmpD hu op_le op_le_str fun a b c d e f => PySem.W.le_data a b c d e f
theorem op_gtD (hu : X.A.units + 64 < cLine) : DOpR X (compareOp .Gt) gtD := op_cmpD hu op_gt op_gt_str fun a b c d e f => PySem.W.gt_data a b c d e f
theorem op_geD (hu : X.A.units + 64 < cLine) : DOpR X (compareOp .GtE) geD := op_cmpD hu op_ge op_ge_str fun a b c d e f => PySem.W.ge_data a b c d e f
/-- ==: scalars of one kind at once, else data -/
def eqD : DR2 := fun x y g Q => match x, y with
  | .int i, .int j => Q (.bl (decide (i = j))) g
  | .str i, .str j => Q (.bl (decide (i = j))) g
  | .bl i, .bl j => Q (.bl (decide (i = j))) g
  | .ref p, .ref q => ∃ xs ys, rdL g p xs ∧ rdL g q ys ∧ pures xs = true ∧ pures ys = true ∧ deps xs ≤ 60 ∧ deps ys ≤ 60 ∧ Q (.bl (PyData.eqv (.list (pds xs)) (.list (pds ys)))) g
  | x, y => fine x ∧ fine y ∧ Q (.bl (eqP x y)) g
def notV (Q : DK) : DK := fun x g => match x with | .bl b => Q (.bl (!b)) g | _ => False
def neD : DR2 := fun x y g Q => eqD x y g (notV Q)
theorem RepG.dpl {g : GS} (rg : RepG K H g) {p : Addr} {xs : List D} (h : rdL g p xs) (hp : pures xs = true) : Dp K H (.ref p) (.list (pds xs)) := by
  obtain ⟨vs, s, l⟩ := rg.sq h
  exact .lst s (l.dps hp)
theorem op_eqDD (hu : X.A.units + 64 < cLine) : DOpR X (compareOp .Eq) eqD := fun pins s σ H x y v u Q I rx ry ⟨dx, dy, g, Qd, r1, r2, rg, q, k⟩ => by
  have gen : (fine dx ∧ fine dy ∧ Qd (.bl (eqP dx dy)) g) → wpAny (model X.prog X.w) X.A (compareOp .Eq v u) (EP X pins σ Q) X.xe s := fun q =>
    op_eqD hu pins s σ H x y v u Q I rx ry ⟨pd dx, pd dy, r1.dp q.1.1, r2.dp q.2.1.1, fine_shaped q.1, fine_shaped q.2.1, rg.fin k (.bl _) q.2.2⟩
  cases r1 with
  | int i => cases r2 with
    | int j => exact op_eq pins s σ H _ _ v u Q I rx ry ⟨rfl, by rw [dec_int, Bool.beq_eq_decide_eq]; exact rg.fin k (.bl _) q⟩
    | _ => exact gen q
  | str i => cases r2 with
    | str j => exact op_eq pins s σ H _ _ v u Q I rx ry ⟨rfl, by rw [dec_str, Bool.beq_eq_decide_eq]; exact rg.fin k (.bl _) q⟩
    | _ => exact gen q
  | bl i => cases r2 with
    | bl j => exact op_eq pins s σ H _ _ v u Q I rx ry ⟨rfl, by rw [dec_bl, Bool.beq_eq_decide_eq]; exact rg.fin k (.bl _) q⟩
    | _ => exact gen q
  | ref i => cases r2 with
    | ref j =>
      obtain ⟨xs, ys, h1, h2, p1, p2, d1, d2, q⟩ := q
      exact op_eqD hu pins s σ H _ _ v u Q I rx ry ⟨_, _, rg.dpl h1 p1, rg.dpl h2 p2, fines_shaped p1 d1, fines_shaped p2 d2, rg.fin k (.bl _) q⟩
    | _ => exact gen q
  | _ => cases r2 <;> exact gen q
theorem op_neDD (hu : X.A.units + 64 < cLine) : DOpR X (compareOp .NotEq) neD := fun pins s σ H x y v u Q I rx ry ⟨dx, dy, g, Qd, r1, r2, rg, q, k⟩ => by
  have gen : (fine dx ∧ fine dy ∧ Qd (.bl (!eqP dx dy)) g) → wpAny (model X.prog X.w) X.A (compareOp .NotEq v u) (EP X pins σ Q) X.xe s := fun q =>
    op_neD hu pins s σ H x y v u Q I rx ry ⟨pd dx, pd dy, r1.dp q.1.1, r2.dp q.2.1.1, fine_shaped q.1, fine_shaped q.2.1, rg.fin k (.bl _) q.2.2⟩
  cases r1 with
  | int i => cases r2 with
    | int j => exact op_ne pins s σ H _ _ v u Q I rx ry ⟨rfl, by rw [dec_int, Bool.beq_eq_decide_eq]; exact rg.fin k (.bl _) q⟩
    | _ => exact gen q
  | str i => cases r2 with
    | str j => exact op_ne pins s σ H _ _ v u Q I rx ry ⟨rfl, by rw [dec_str, Bool.beq_eq_decide_eq]; exact rg.fin k (.bl _) q⟩
    | _ => exact gen q
  | bl i => cases r2 with
    | bl j => exact op_ne pins s σ H _ _ v u Q I rx ry ⟨rfl, by rw [dec_bl, Bool.beq_eq_decide_eq]; exact rg.fin k (.bl _) q⟩
    | _ => exact gen q
  | ref i => cases r2 with
    | ref j =>
      obtain ⟨xs, ys, h1, h2, p1, p2, d1, d2, q⟩ := q
      exact op_neD hu pins s σ H _ _ v u Q I rx ry ⟨_, _, rg.dpl h1 p1, rg.dpl h2 p2, fines_shaped p1 d1, fines_shaped p2 d2, rg.fin k (.bl _) q⟩
    | _ => exact gen q
  | _ => cases r2 <;> exact gen q
/-- is None, is not None -/
def isND : DR2 := fun x y g Q => y = .non ∧ Q (.bl (match x with | .non => true | _ => false)) g
def notND : DR2 := fun x y g Q => y = .non ∧ Q (.bl (match x with | .non => false | _ => true)) g
theorem op_isND : DOpR X (compareOp .Is) isND := fun pins s σ H x y v u Q I rx ry ⟨dx, dy, g, Qd, r1, r2, rg, q, k⟩ => by
  obtain ⟨rfl, q⟩ := q
  cases r2
  refine op_isN pins s σ H _ _ v u Q I rx ry ⟨rfl, ?_⟩
  cases r1 <;> exact rg.fin k (.bl _) q
theorem op_notND : DOpR X (compareOp .IsNot) notND := fun pins s σ H x y v u Q I rx ry ⟨dx, dy, g, Qd, r1, r2, rg, q, k⟩ => by
  obtain ⟨rfl, q⟩ := q
  cases r2
  refine op_notN pins s σ H _ _ v u Q I rx ry ⟨rfl, ?_⟩
  cases r1 <;> exact rg.fin k (.bl _) q
/-- in -/
def inStr (a b : Str) : Bool := !(Builtin.Str.occurrences b a 0 b.length 1).isEmpty
theorem inStr_one (c : Nat) (z : Str) : inStr ⟨#[c]⟩ z = decide (c ∈ z.cps.toList) := PySem.StrLaws.found_one z c
def scalD : D → Bool
  | .non => true
  | .bl _ => true
  | .int _ => true
  | .str _ => true
  | _ => false
def inD : DR2 := fun x y g Q => match x, y with
  | .str a, .str b => Q (.bl (inStr a b)) g
  | x, .ref p => ∃ ds, rdL g p ds ∧ ((scalD x = true ∧ ds.all scalD = true) ∨ (fine x ∧ pures ds = true ∧ deps ds ≤ 60)) ∧ Q (.bl (ds.any fun z => eqP z x)) g
  | x, .tup ds => ((scalD x = true ∧ ds.all scalD = true) ∨ (fine x ∧ pures ds = true ∧ deps ds ≤ 60)) ∧ Q (.bl (ds.any fun z => eqP z x)) g
  | _, _ => False
def notInD : DR2 := fun x y g Q => inD x y g (notV Q)
theorem any_pds (f : PyData → Bool) : ∀ ds : List D, (pds ds).any f = ds.any fun z => f (pd z)
  | [] => rfl
  | d :: ds => by rw [pds, List.any_cons, List.any_cons, any_pds f ds]
theorem eqV_eqP {v w : V} {d e : D} (r : RepD K H v d) (r' : RepD K H w e) (h : scalD d = true) (h' : scalD e = true) : flatV v = true ∧ eqV v w = eqP d e := by
  cases r <;> first | cases h | skip
  all_goals (cases r' <;> first | cases h' | skip)
  all_goals (refine ⟨rfl, ?_⟩; simp [eqV, eqP, pd, PyData.eqv])
theorem inV_eqP {w : V} {e : D} (r' : RepD K H w e) (h' : scalD e = true) : ∀ {vs : List V} {ds : List D}, RepL K H vs ds → ds.all scalD = true → vs.all flatV = true ∧ inV w vs = ds.any fun z => eqP z e
  | _, _, .nil, _ => ⟨rfl, rfl⟩
  | _, _, .cons (v := v) (vs := vs) h r, p => by
    rw [List.all_cons, Bool.and_eq_true] at p
    obtain ⟨f, e1⟩ := eqV_eqP h r' p.1 h'
    obtain ⟨f2, e2⟩ := inV_eqP r' h' r p.2
    refine ⟨by rw [List.all_cons, f, f2]; rfl, ?_⟩
    rw [List.any_cons, ← e2, ← e1]
    rfl
theorem op_inDD (hu : X.A.units + 65 < cLine) : DOpR X (compareOp .In) inD := fun pins s σ H x y v u Q I rx ry ⟨dx, dy, g, Qd, r1, r2, rg, q, k⟩ => by
  cases r2 with
  | str b => cases r1 with
    | str a => exact op_in_str pins s σ H _ _ v u Q I rx ry ⟨a, b, rfl, rfl, rg.fin k (.bl _) q⟩
    | _ => exact q.elim
  | ref p =>
    have q' : ∃ ds, rdL g p ds ∧ ((scalD dx = true ∧ ds.all scalD = true) ∨ (fine dx ∧ pures ds = true ∧ deps ds ≤ 60)) ∧ Qd (.bl (ds.any fun z => eqP z dx)) g := by cases r1 <;> exact q
    obtain ⟨ds, h, ⟨h1, h2⟩ | ⟨f, hp, hd⟩, q⟩ := q'
    · obtain ⟨xs, hs, l⟩ := rg.sq h
      obtain ⟨f, e⟩ := inV_eqP r1 h1 l h2
      refine op_in_seq pins s σ H _ _ v u Q I rx ry ⟨p, xs, rfl, .inl hs, (eqV_eqP r1 r1 h1 h1).1, f, ?_⟩
      rw [e]
      exact rg.fin k (.bl _) q
    · refine op_inD hu pins s σ H _ _ v u Q I rx ry ⟨pd dx, pds ds, r1.dp f.1, rg.dpl h hp, fine_shaped f, fines_shaped hp hd, ?_⟩
      rw [any_pds]
      exact rg.fin k (.bl _) q
  | @tup p xs ds hs l =>
    have q' : ((scalD dx = true ∧ ds.all scalD = true) ∨ (fine dx ∧ pures ds = true ∧ deps ds ≤ 60)) ∧ Qd (.bl (ds.any fun z => eqP z dx)) g := by cases r1 <;> exact q
    obtain ⟨⟨h1, h2⟩ | ⟨f, hp, hd⟩, q⟩ := q'
    · obtain ⟨f, e⟩ := inV_eqP r1 h1 l h2
      refine op_in_seq pins s σ H _ _ v u Q I rx ry ⟨p, xs, rfl, .inr (tq hs), (eqV_eqP r1 r1 h1 h1).1, f, ?_⟩
      rw [e]
      exact rg.fin k (.bl _) q
    · obtain ⟨as, ra⟩ := Dp.reads I (pd dx) _ v (r1.dp f.1) rx
      obtain ⟨bs, rb⟩ := Dp.reads I (pd (.tup ds)) (.ref p) u ((RepD.tup hs l).dp hp) ry
      refine SeqAt.in_tuple_reads rb ra (SeqAt.canLay_of_shaped (fines_shaped hp hd)) (SeqAt.canLay_of_shaped (fine_shaped f)) (PyProof.Rows.room_in_shaped (fine_shaped f) hu) ⟨.bl _, H, I, rfl, ?_⟩
      rw [any_pds]
      exact rg.fin k (.bl _) q
  | _ => cases r1 <;> exact q.elim
theorem op_notInDD (hu : X.A.units + 65 < cLine) : DOpR X (compareOp .NotIn) notInD := fun pins s σ H x y v u Q I rx ry ⟨dx, dy, g, Qd, r1, r2, rg, q, k⟩ => by
  cases r2 with
  | str b => cases r1 with
    | str a => exact op_notin_str pins s σ H _ _ v u Q I rx ry ⟨a, b, rfl, rfl, rg.fin k (.bl _) q⟩
    | _ => exact q.elim
  | ref p =>
    have q' : ∃ ds, rdL g p ds ∧ ((scalD dx = true ∧ ds.all scalD = true) ∨ (fine dx ∧ pures ds = true ∧ deps ds ≤ 60)) ∧ notV Qd (.bl (ds.any fun z => eqP z dx)) g := by cases r1 <;> exact q
    obtain ⟨ds, h, ⟨h1, h2⟩ | ⟨f, hp, hd⟩, q⟩ := q'
    · obtain ⟨xs, hs, l⟩ := rg.sq h
      obtain ⟨f, e⟩ := inV_eqP r1 h1 l h2
      refine op_notIn_seq pins s σ H _ _ v u Q I rx ry ⟨p, xs, rfl, .inl hs, (eqV_eqP r1 r1 h1 h1).1, f, ?_⟩
      rw [e]
      exact rg.fin k (.bl _) q
    · refine op_notInD hu pins s σ H _ _ v u Q I rx ry ⟨pd dx, pds ds, r1.dp f.1, rg.dpl h hp, fine_shaped f, fines_shaped hp hd, ?_⟩
      rw [any_pds]
      exact rg.fin k (.bl _) q
  | @tup p xs ds hs l =>
    have q' : ((scalD dx = true ∧ ds.all scalD = true) ∨ (fine dx ∧ pures ds = true ∧ deps ds ≤ 60)) ∧ notV Qd (.bl (ds.any fun z => eqP z dx)) g := by cases r1 <;> exact q
    obtain ⟨⟨h1, h2⟩ | ⟨f, hp, hd⟩, q⟩ := q'
    · obtain ⟨f, e⟩ := inV_eqP r1 h1 l h2
      refine op_notIn_seq pins s σ H _ _ v u Q I rx ry ⟨p, xs, rfl, .inr (tq hs), (eqV_eqP r1 r1 h1 h1).1, f, ?_⟩
      rw [e]
      exact rg.fin k (.bl _) q
    · obtain ⟨as, ra⟩ := Dp.reads I (pd dx) _ v (r1.dp f.1) rx
      obtain ⟨bs, rb⟩ := Dp.reads I (pd (.tup ds)) (.ref p) u ((RepD.tup hs l).dp hp) ry
      refine SeqAt.notIn_tuple_reads rb ra (SeqAt.canLay_of_shaped (fines_shaped hp hd)) (SeqAt.canLay_of_shaped (fine_shaped f)) (PyProof.Rows.room_in_shaped (fine_shaped f) hu) ⟨.bl _, H, I, rfl, ?_⟩
      rw [any_pds]
      exact rg.fin k (.bl _) q
  | _ => cases r1 <;> exact q.elim
/-! ### subscripts, slices -/
def ixD : DR2 := fun x y g Q => match y with
  | .int i => (match x with
    | .tup ds => ∃ d, atI ds i = some d ∧ Q d g
    | .str z => z.length ≤ sizeLine ∧ ∃ c, atI z.cps.toList i = some c ∧ Q (.str ⟨#[c]⟩) g
    | .ref p => ∃ ds d, rdL g p ds ∧ atI ds i = some d ∧ Q d g
    | .klst ds => ∃ d, atI ds i = some d ∧ Q d g
    | _ => False)
  | _ => False
theorem RepL.at {vs : List V} {ds : List D} (r : RepL K H vs ds) {i : Int} {d : D} (h : atI ds i = some d) : ∃ v, atI vs i = some v ∧ RepD K H v d := by
  unfold atI at h ⊢
  rw [r.length]
  cases q : ixN ds.length i with
  | none => rw [q] at h; cases h
  | some j =>
    rw [q] at h
    obtain ⟨v, e, r'⟩ := r.get (i := j) (by simpa using h)
    exact ⟨v, by simpa using e, r'⟩
theorem de_ix (ha : DE X a ta) (hb : DE X b tb) (hs : PlainIx b) : DE X (.Subscript a b pos) (dOp ixD ta tb) := by
  refine ⟨peW (pe_ix (r := lR2 X.K ixD) ?_ ha.pe hb.pe hs) fun _ _ _ h => lop h⟩
  intro value slice pins s σ H x y v u Q I rx ry ⟨dx, dy, g, Qd, r1, r2, rg, q, k⟩
  cases r2 with
  | int i => cases r1 with
    | @tup p xs ds hs l =>
      obtain ⟨d, e, q⟩ := q
      obtain ⟨w, e', r⟩ := l.at e
      exact ix_tup value slice pins s σ H _ _ v u Q I rx ry ⟨p, xs, i, w, rfl, rfl, tq hs, e', rg.fin k r q⟩
    | str z =>
      obtain ⟨hz, c, e, q⟩ := q
      exact ix_str value slice pins s σ H _ _ v u Q I rx ry ⟨z, i, c, rfl, rfl, hz, e, rg.fin k (.str _) q⟩
    | ref p =>
      obtain ⟨ds, d, h, e, q⟩ := q
      obtain ⟨xs, hs, l⟩ := rg.sq h
      obtain ⟨w, e', r⟩ := l.at e
      exact ix_list value slice pins s σ H _ _ v u Q I rx ry ⟨p, xs, i, w, rfl, rfl, hs, e', rg.fin k r q⟩
    | @kl p xs ds hs l =>
      obtain ⟨d, e, q⟩ := q
      obtain ⟨w, e', r⟩ := l.at e
      exact ix_list value slice pins s σ H _ _ v u Q I rx ry ⟨p, xs, i, w, rfl, rfl, hs.sq, e', rg.fin k r q⟩
    | _ => exact q.elim
  | _ => exact q.elim
abbrev DTO := EV → GS → (Option Int → GS → Prop) → Prop
structure DO (X : Cx) (e : Option Expr) (T : DTO) : Prop where
  po : PO X e (fun σ H Q => ∃ e g Qd, RepE X.K H σ e ∧ RepG X.K H g ∧ T e g Qd ∧ ∀ o H' g', Ext H H' → RepG X.K H' g' → Qd o g' → Q o H')
def dNo : DTO := fun _ g Q => Q none g
def dPart (t : DTE) : DTO := fun e g Q => t e g fun x g1 => ∃ i, x = .int i ∧ Q (some i) g1
theorem poW {e : Option Expr} {t t' : TO} (h : PO X e t) (w : ∀ σ H Q, t' σ H Q → t σ H Q) : PO X e t' := ⟨fun pins s σ H Q I q => h.run pins s σ H Q I (w σ H Q q)⟩
theorem do_no : DO X none dNo := ⟨poW po_none fun σ H Q ⟨e, g, Qd, re, rg, q, k⟩ => k none H g (.refl H) rg q⟩
theorem do_some (h : DE X a ta) : DO X (some a) (dPart ta) := ⟨poW (po_some h.pe) fun σ H Q ⟨e, g, Qd, re, rg, q, k⟩ => ⟨e, g, _, re, rg, q, fun v d H1 g1 x1 rg1 r ⟨i, e1, q1⟩ => by
  subst e1
  cases r
  exact ⟨i, rfl, k _ _ _ x1 rg1 q1⟩⟩⟩
def cutD (xs : List D) (lo hi : Option Int) : List D := (xs.drop (HT.sIx xs.length 0 lo)).take (HT.sIx xs.length xs.length hi - HT.sIx xs.length 0 lo)
def slD : D → Option Int → Option Int → GS → DK → Prop := fun x lo hi g Q => match x with
  | .tup ds => Q (.tup (cutD ds lo hi)) g
  | .str z => z.length ≤ sizeLine ∧ Q (.str (cutS z lo hi)) g
  | .ref p => ∃ ds, rdL g p ds ∧ ∀ r, g r = none → Q (.ref r) (gup g r (.lst (cutD ds lo hi)))
  | _ => False
def dSl (t : DTE) (l h : DTO) : DTE := fun e g Q => t e g fun x g1 => l e g1 fun lo g2 => h e g2 fun hi g3 => slD x lo hi g3 Q
theorem RepL.cut {vs : List V} {ds : List D} (r : RepL K H vs ds) (lo hi : Option Int) : RepL K H (cutV vs lo hi) (cutD ds lo hi) := by
  unfold cutV cutD
  rw [r.length]
  exact (r.drop _).take _
theorem cutD_whole {xs : List D} {lo hi : Option Int} (h : HT.sIx xs.length 0 lo = 0 ∧ HT.sIx xs.length xs.length hi = xs.length) : cutD xs lo hi = xs := by
  unfold cutD
  rw [h.1, h.2]
  simp
theorem de_sl {lo hi : Option Expr} {p2 : Pos} {tl th : DTO} (ha : DE X a ta) (hl : DO X lo tl) (hh : DO X hi th) : DE X (.Subscript a (.Slice lo hi none p2) pos) (dSl ta tl th) := by
  refine ⟨peW (pe_slice (r := fun x lo hi H Q => ∃ dx g Qd, RepD X.K H x dx ∧ RepG X.K H g ∧ slD dx lo hi g Qd ∧ KD X.K H Qd Q) ?_ ha.pe hl.po hh.po) fun σ H Q ⟨e, g, Qd, re, rg, q, k⟩ => ?_⟩
  · intro pins s σ H x v vl vu lo hi sl Q I rx hs pl pu ⟨dx, g, Qd, r1, rg, q, k⟩
    cases r1 with
    | @tup p xs ds hq l =>
      refine sl_tupA pins s σ H _ v vl vu lo hi sl Q I rx hs pl pu ⟨p, xs, rfl, tq hq, fun h => ?_, fun _ n hn => ?_⟩
      · rw [l.length] at h
        have q' : Qd (.tup (cutD ds lo hi)) g := q
        rw [cutD_whole h] at q'
        exact rg.fin k (.tup hq l) q'
      · exact rg.finU k hn (l.cut lo hi) q
    | str z => exact sl_str pins s σ H _ v vl vu lo hi sl Q I rx hs pl pu ⟨z, rfl, q.1, rg.fin k (.str _) q.2⟩
    | ref p =>
      obtain ⟨ds, h, q⟩ := q
      obtain ⟨xs, hq, l⟩ := rg.sq h
      exact sl_list pins s σ H _ v vl vu lo hi sl Q I rx hs pl pu ⟨p, xs, rfl, hq, fun n hn => rg.finL k hn (l.cut lo hi) q⟩
    | _ => exact q.elim
  · refine ⟨e, g, _, re, rg, q, fun x dx H1 g1 x1 rg1 r1 q1 => ?_⟩
    refine ⟨e, g1, _, re.mono x1, rg1, q1, fun l H2 g2 x2 rg2 q2 => ?_⟩
    refine ⟨e, g2, _, re.mono (x1.trans x2), rg2, q2, fun u H3 g3 x3 rg3 q3 => ?_⟩
    exact ⟨dx, g3, Qd, r1.mono (x2.trans x3), rg3, q3, k.mono ((x1.trans x2).trans x3)⟩
end
end DL

namespace DL
open PySem L2
section
variable {X : Cx} {K : PySem.W.Frag} {H H' : Hp} {σ : L2.St}
variable {a b c e : Expr} {es : List Expr} {ta tb tc te : DTE} {tA tB : DTT} {t : DTA} {pos : Pos}
/-! ### argument lists, displays -/
def dNil : DTA := fun _ g Q => Q [] g
def dCons (ta : DTE) (tr : DTA) : DTA := fun e g Q => ta e g fun x g1 => tr e g1 fun xs g2 => Q (x :: xs) g2
theorem da_nil : DA X [] dNil := ⟨paW pa_nil fun σ H Q ⟨e, g, Qd, re, rg, q, k⟩ => k [] [] H g (.refl H) rg .nil q⟩
theorem da_cons (ha : DE X a ta) (hr : DA X es t) (hs : starEach (a :: es) X.env = (false, eval a X.env) :: starEach es X.env := by rfl) : DA X (a :: es) (dCons ta t) :=
  ⟨paW (pa_cons ha.pe hr.pa hs) fun σ H Q ⟨e, g, Qd, re, rg, q, k⟩ => ⟨e, g, _, re, rg, q, fun x d H1 g1 x1 rg1 r1 q1 => ⟨e, g1, _, re.mono x1, rg1, q1, fun vs ds H2 g2 x2 rg2 l2 q2 =>
    k _ _ H2 g2 (x1.trans x2) rg2 (.cons (r1.mono x2) l2) q2⟩⟩⟩
def dTup (t : DTA) : DTE := fun e g Q => t e g fun xs g1 => xs.length ≤ sizeLine ∧ Q (.tup xs) g1
def dLst (t : DTA) : DTE := fun e g Q => t e g fun xs g1 => xs.length ≤ sizeLine ∧ ∀ p, g1 p = none → Q (.ref p) (gup g1 p (.lst xs))
theorem de_tup {x1} (h : DA X es t) : DE X (.Tuple es x1 pos) (dTup t) := ⟨peW (pe_tup h.pa) fun σ H Q ⟨e, g, Qd, re, rg, q, k⟩ => ⟨e, g, _, re, rg, q, fun vs ds H1 g1 x1 rg1 l1 q1 =>
  ⟨by rw [l1.length]; exact q1.1, fun p hp => rg1.finU (k.mono x1) hp l1 q1.2⟩⟩⟩
theorem de_lst (h : DA X es t) : DE X (.List es pos) (dLst t) := ⟨peW (pe_lst h.pa) fun σ H Q ⟨e, g, Qd, re, rg, q, k⟩ => ⟨e, g, _, re, rg, q, fun vs ds H1 g1 x1 rg1 l1 q1 =>
  ⟨by rw [l1.length]; exact q1.1, fun p hp => rg1.finL (k.mono x1) hp l1 q1.2⟩⟩⟩
/-! ### calls of built-ins -/
abbrev DRC := List D → GS → DK → Prop
def lRC (K : PySem.W.Frag) (r : DRC) : List V → Hp → VK → Prop := fun xs H Q => ∃ ds g Qd, RepL K H xs ds ∧ RepG K H g ∧ r ds g Qd ∧ KD K H Qd Q
def dCB (r : DRC) (t : DTA) : DTE := fun e g Q => t e g fun xs g1 => r xs g1 Q
theorem lcb {r : DRC} {t : DTA} {σ : L2.St} {H : Hp} {Q : VK} (h : lE K (dCB r t) σ H Q) : tCB (lRC K r) (lA K t) σ H Q := by
  obtain ⟨e, g, Qd, re, rg, q, k⟩ := h
  exact ⟨e, g, _, re, rg, q, fun vs ds H1 g1 x1 rg1 l1 q1 => ⟨ds, g1, Qd, l1, rg1, q1, k.mono x1⟩⟩
variable {x : Str} {p : Pos} {id T : String} {r : DRC}
theorem de_callB (hc : CallR X (.builtin id) (lRC X.K r)) (hg : Gl X x) (hm : X.mg x = none) (hv : bootBuiltins x = some (.builtin id)) (ha : DA X (e :: es) t) (hn : x ≠ "__name__" := by decide) (hdb : (x == ("__debug__" : Str)) = false := by decide)
    (he : starEach (e :: es) X.env = (false, eval e X.env) :: starEach es X.env := by rfl) (hpl : (backTo pos (starEach es X.env)).any (·.1) = false := by rfl) : DE X (.Call (.Name x p) (e :: es) [] pos) (dCB r t) :=
  ⟨peW (pe_callB hc hg hm hv ha.pa hn hdb he hpl) fun _ _ _ h => lcb h⟩
theorem de_callTy (hc : CallR X (.type T) (lRC X.K r)) (hg : Gl X x) (hm : X.mg x = none) (hv : bootBuiltins x = some (.type T)) (ha : DA X (e :: es) t) (hn : x ≠ "__name__" := by decide) (hdb : (x == ("__debug__" : Str)) = false := by decide)
    (he : starEach (e :: es) X.env = (false, eval e X.env) :: starEach es X.env := by rfl) (hpl : (backTo pos (starEach es X.env)).any (·.1) = false := by rfl) : DE X (.Call (.Name x p) (e :: es) [] pos) (dCB r t) :=
  ⟨peW (pe_callTy hc hg hm hv ha.pa hn hdb he hpl) fun _ _ _ h => lcb h⟩
def lenD : DRC := fun xs g Q => match xs with
  | [.str z] => z.length ≤ sizeLine ∧ Q (.int (z.length : Nat)) g
  | [.tup ds] => Q (.int (ds.length : Nat)) g
  | [.klst ds] => Q (.int (ds.length : Nat)) g
  | [.ref p] => ∃ ds, rdL g p ds ∧ Q (.int (ds.length : Nat)) g
  | _ => False
theorem call_lenD : CallR X (.builtin "len") (lRC X.K lenD) := fun pins s σ H xs us Q I rs ⟨ds, g, Qd, l, rg, q, k⟩ => by
  rcases l with _ | ⟨r1, _ | ⟨r2, l⟩⟩
  · exact q.elim
  · cases r1 with
    | str z => exact call_len pins s σ H _ us Q I rs ⟨_, _, rfl, ⟨q.1, rfl⟩, rg.fin k (.int _) q.2⟩
    | @tup a xs ds hs l => exact call_len pins s σ H _ us Q I rs ⟨_, ds.length, rfl, .inr ⟨xs, tq hs, l.length.symm⟩, rg.fin k (.int _) q⟩
    | @kl a xs ds hs l => exact call_len pins s σ H _ us Q I rs ⟨_, ds.length, rfl, .inl ⟨xs, hs.sq, l.length.symm⟩, rg.fin k (.int _) q⟩
    | ref p =>
      obtain ⟨ds, h, q⟩ := q
      obtain ⟨xs, hs, l⟩ := rg.sq h
      exact call_len pins s σ H _ us Q I rs ⟨_, ds.length, rfl, .inl ⟨xs, hs, l.length.symm⟩, rg.fin k (.int _) q⟩
    | _ => exact q.elim
  · cases r1 <;> exact q.elim
def intF : DRC := fun xs g Q => match xs with
  | [.int i] => Q (.int i) g
  | [.bl b] => Q (.int (if b then 1 else 0)) g
  | [.str z] => ∃ n, PySem.intText? z = some n ∧ z.length ≤ 640 ∧ Q (.int n) g
  | _ => False
theorem call_intF : CallR X (.type "int") (lRC X.K intF) := fun pins s σ H xs us Q I rs ⟨ds, g, Qd, l, rg, q, k⟩ => by
  rcases l with _ | ⟨r1, _ | ⟨r2, l⟩⟩
  · exact q.elim
  · cases r1 with
    | int i => exact call_int1 pins s σ H _ us Q I rs (.inl ⟨i, rfl, rg.fin k (.int _) q⟩)
    | bl b => exact call_int1 pins s σ H _ us Q I rs (.inr ⟨b, rfl, rg.fin k (.int _) q⟩)
    | str z =>
      obtain ⟨n, h, hz, q⟩ := q
      exact call_int_str pins s σ H _ us Q I rs ⟨z, n, rfl, h, hz, rg.fin k (.int _) q⟩
    | _ => exact q.elim
  · cases r1 <;> exact q.elim
def int1D (C : Int → Prop) (f : Int → D) : DRC := fun xs g Q => match xs with
  | [.int i] => C i ∧ Q (f i) g
  | _ => False
abbrev absD : DRC := int1D (fun _ => True) fun i => .int (if i < 0 then -i else i)
theorem call_absD : CallR X (.builtin "abs") (lRC X.K absD) := fun pins s σ H xs us Q I rs ⟨ds, g, Qd, l, rg, q, k⟩ => by
  rcases l with _ | ⟨r1, _ | ⟨r2, l⟩⟩
  · exact q.elim
  · cases r1 with
    | int i => exact call_abs pins s σ H _ us Q I rs ⟨i, rfl, rg.fin k (.int _) q.2⟩
    | _ => exact q.elim
  · cases r1 <;> exact q.elim
abbrev strF : DRC := int1D (fun i => i.natAbs.log2 < 1920) fun i => .str (toString i)
theorem call_strF : CallR X (.type "str") (lRC X.K strF) := fun pins s σ H xs us Q I rs ⟨ds, g, Qd, l, rg, q, k⟩ => by
  rcases l with _ | ⟨r1, _ | ⟨r2, l⟩⟩
  · exact q.elim
  · cases r1 with
    | int i => exact call_str_int pins s σ H _ us Q I rs ⟨i, rfl, q.1, rg.fin k (.str _) q.2⟩
    | _ => exact q.elim
  · cases r1 <;> exact q.elim
def ordD : DRC := fun xs g Q => match xs with
  | [.str z] => z.length = 1 ∧ Q (.int (z.cps.getD 0 0 : Nat)) g
  | _ => False
theorem call_ordD : CallR X (.builtin "ord") (lRC X.K ordD) := fun pins s σ H xs us Q I rs ⟨ds, g, Qd, l, rg, q, k⟩ => by
  rcases l with _ | ⟨r1, _ | ⟨r2, l⟩⟩
  · exact q.elim
  · cases r1 with
    | str z => exact call_ord pins s σ H _ us Q I rs ⟨z, rfl, q.1, rg.fin k (.int _) q.2⟩
    | _ => exact q.elim
  · cases r1 <;> exact q.elim
def two2D (f : Int → Int → Int) (s : Str → Str → Str) : DRC := fun xs g Q => match xs with
  | [.int i, .int j] => Q (.int (f i j)) g
  | [.str i, .str j] => Q (.str (s i j)) g
  | _ => False
abbrev max2D : DRC := two2D (fun i j => if j > i then j else i) fun i j => if i.cps.toList < j.cps.toList then j else i
abbrev min2D : DRC := two2D (fun i j => if j < i then j else i) fun i j => if j.cps.toList < i.cps.toList then j else i
def strItems (xs : Array (Str × Tok)) : Array Value := xs.map fun p => .str p.1 p.2
def strAt (xs : Array (Str × Tok)) (i : Nat) : Str := (xs[i]?.map (·.1)).getD ""
theorem strItems_at {xs : Array (Str × Tok)} {i : Nat} {v : Value} (h : (strItems xs)[i]? = some v) : ∃ t, v = .str (strAt xs i) t := by
  simp only [strItems, Array.getElem?_map, Option.map_eq_some_iff] at h
  obtain ⟨p, hp, rfl⟩ := h
  exact ⟨p.2, by simp [strAt, hp]⟩
theorem strs_gt {prog : Program} {w : World} {A : Around} {P : Nat → Value → Prop} (val : Nat → Str) (hval : ∀ i v, P i v → ∃ t, v = .str (val i) t) :
    CmpOf prog w A .Gt P (fun i j => decide ((val j).cps.toList < (val i).cps.toList)) := fun i j vi vj s Q E hi hj h => by
  obtain ⟨t, rfl⟩ := hval i vi hi
  obtain ⟨u, rfl⟩ := hval j vj hj
  exact richCompare_gives (op := .Gt) (typeIs_str s _ t) (typeIs_str s _ u) F.slot_str_gt F.entry_str_gt (F.args_str_gt_2 _ _) (gives_str_gt _ _ t u) (fun x => nomatch x) h
theorem strs_lt {prog : Program} {w : World} {A : Around} {P : Nat → Value → Prop} (val : Nat → Str) (hval : ∀ i v, P i v → ∃ t, v = .str (val i) t) :
    CmpOf prog w A .Lt P (fun i j => decide ((val i).cps.toList < (val j).cps.toList)) := fun i j vi vj s Q E hi hj h => by
  obtain ⟨t, rfl⟩ := hval i vi hi
  obtain ⟨u, rfl⟩ := hval j vj hj
  exact richCompare_gives (op := .Lt) (typeIs_str s _ t) (typeIs_str s _ u) F.slot_str_lt F.entry_str_lt (F.args_str_lt_2 _ _) (gives_str_lt _ _ t u) (fun x => nomatch x) h
theorem max_two_strs {prog : Program} {w : World} {A : Around} {E : Value → Shared → Prop} {s : Shared} {a b : Str} {t u : Tok} {Q : Value → Shared → Prop} (hh : A.handled = none)
    (h : ∀ h' tk, (∀ c o, s.heap.get? c = some o → h'.get? c = some o) → Q (if a.cps.toList < b.cps.toList then .str b u else .str a t) { s with heap := h', toks := tk }) :
    wpAny (model prog w) A (call (.builtin "max") [.str a t, .str b u]) Q E s := by
  have hT : (s.heap.push { cls := .type "tuple", data := .seq #[.str a t, .str b u] }).IsTuple s.heap.objs.size (strItems #[(a, t), (b, u)]) := ⟨_, Heap.get?_push_size _ rfl, rfl, 0, by simp [strItems]⟩
  refine call_max_two (wpAny_pyIter_tuple hT ?_)
  have hsz : (s.heap.push { cls := .type "tuple", data := .seq #[.str a t, .str b u] }).objs.size = s.heap.objs.size + 1 := Heap.size_push ..
  refine ⟨_, [_, s.heap.objs.size], [_], _, _, _, _, rfl, Walks.tuple (A := A.in1) hh _ s.heap.objs.size (by rw [hsz]; exact Nat.ne_of_lt (Nat.lt_succ_self _)) (strItems #[(a, t), (b, u)]),
    ⟨⟨_, Heap.get?_push_size _ rfl, rfl, rfl⟩, hT.push _⟩, fun c hc => ?_, by simp [strItems], strs_gt (strAt #[(a, t), (b, u)]) (fun _ _ => strItems_at), fun v h' tk hP hk => ?_⟩
  · show c < ((s.heap.push _).push _).objs.size
    rw [Heap.size_push, hsz]
    rcases List.mem_cons.mp hc with rfl | hc
    · rw [hsz]; exact Nat.lt_succ_self _
    · rcases List.mem_cons.mp hc with rfl | hc
      · exact Nat.lt_succ_of_lt (Nat.lt_succ_self _)
      · cases hc
  · have hold : ∀ c o, s.heap.get? c = some o → h'.get? c = some o := fun c o e => by
      refine hk c o (fun hm => ?_) (Heap.get?_push_of_some _ (Heap.get?_push_of_some _ e))
      rcases List.mem_cons.mp hm with e1 | hm
      · have := Heap.lt_size e; rw [e1, hsz] at this; exact Nat.lt_irrefl _ (Nat.lt_of_succ_lt this)
      · cases hm
    have := h h' tk hold
    have hv : v = if a.cps.toList < b.cps.toList then Value.str b u else Value.str a t := by
      have hP' : (strItems #[(a, t), (b, u)])[argBest (fun i j => decide ((strAt #[(a, t), (b, u)] j).cps.toList < (strAt #[(a, t), (b, u)] i).cps.toList)) 1]? = some v := by
        have hsz2 : (strItems #[(a, t), (b, u)]).size - 1 = 1 := by simp [strItems]
        rw [← hsz2]; exact hP
      by_cases hba : a.cps.toList < b.cps.toList
      · have e : argBest (fun i j => decide ((strAt #[(a, t), (b, u)] j).cps.toList < (strAt #[(a, t), (b, u)] i).cps.toList)) 1 = 1 := by
          show (if decide _ = true then 1 else 0) = 1
          exact if_pos (decide_eq_true hba)
        rw [e] at hP'
        rw [if_pos hba]
        simp [strItems] at hP'
        exact hP'.symm
      · have e : argBest (fun i j => decide ((strAt #[(a, t), (b, u)] j).cps.toList < (strAt #[(a, t), (b, u)] i).cps.toList)) 1 = 0 := by
          show (if decide _ = true then 1 else 0) = 0
          exact if_neg fun h => hba (of_decide_eq_true h)
        rw [e] at hP'
        rw [if_neg hba]
        simp [strItems] at hP'
        exact hP'.symm
    rw [hv]; exact this
theorem min_two_strs {prog : Program} {w : World} {A : Around} {E : Value → Shared → Prop} {s : Shared} {a b : Str} {t u : Tok} {Q : Value → Shared → Prop} (hh : A.handled = none)
    (h : ∀ h' tk, (∀ c o, s.heap.get? c = some o → h'.get? c = some o) → Q (if b.cps.toList < a.cps.toList then .str b u else .str a t) { s with heap := h', toks := tk }) :
    wpAny (model prog w) A (call (.builtin "min") [.str a t, .str b u]) Q E s := by
  have hT : (s.heap.push { cls := .type "tuple", data := .seq #[.str a t, .str b u] }).IsTuple s.heap.objs.size (strItems #[(a, t), (b, u)]) := ⟨_, Heap.get?_push_size _ rfl, rfl, 0, by simp [strItems]⟩
  refine call_min_two (wpAny_pyIter_tuple hT ?_)
  have hsz : (s.heap.push { cls := .type "tuple", data := .seq #[.str a t, .str b u] }).objs.size = s.heap.objs.size + 1 := Heap.size_push ..
  refine ⟨_, [_, s.heap.objs.size], [_], _, _, _, _, rfl, Walks.tuple (A := A.in1) hh _ s.heap.objs.size (by rw [hsz]; exact Nat.ne_of_lt (Nat.lt_succ_self _)) (strItems #[(a, t), (b, u)]),
    ⟨⟨_, Heap.get?_push_size _ rfl, rfl, rfl⟩, hT.push _⟩, fun c hc => ?_, by simp [strItems], strs_lt (strAt #[(a, t), (b, u)]) (fun _ _ => strItems_at), fun v h' tk hP hk => ?_⟩
  · show c < ((s.heap.push _).push _).objs.size
    rw [Heap.size_push, hsz]
    rcases List.mem_cons.mp hc with rfl | hc
    · rw [hsz]; exact Nat.lt_succ_self _
    · rcases List.mem_cons.mp hc with rfl | hc
      · exact Nat.lt_succ_of_lt (Nat.lt_succ_self _)
      · cases hc
  · have hold : ∀ c o, s.heap.get? c = some o → h'.get? c = some o := fun c o e => by
      refine hk c o (fun hm => ?_) (Heap.get?_push_of_some _ (Heap.get?_push_of_some _ e))
      rcases List.mem_cons.mp hm with e1 | hm
      · have := Heap.lt_size e; rw [e1, hsz] at this; exact Nat.lt_irrefl _ (Nat.lt_of_succ_lt this)
      · cases hm
    have := h h' tk hold
    have hv : v = if b.cps.toList < a.cps.toList then Value.str b u else Value.str a t := by
      have hP' : (strItems #[(a, t), (b, u)])[argBest (fun i j => decide ((strAt #[(a, t), (b, u)] i).cps.toList < (strAt #[(a, t), (b, u)] j).cps.toList)) 1]? = some v := by
        have hsz2 : (strItems #[(a, t), (b, u)]).size - 1 = 1 := by simp [strItems]
        rw [← hsz2]; exact hP
      by_cases hba : b.cps.toList < a.cps.toList
      · have e : argBest (fun i j => decide ((strAt #[(a, t), (b, u)] i).cps.toList < (strAt #[(a, t), (b, u)] j).cps.toList)) 1 = 1 := by
          show (if decide _ = true then 1 else 0) = 1
          exact if_pos (decide_eq_true hba)
        rw [e] at hP'
        rw [if_pos hba]
        simp [strItems] at hP'
        exact hP'.symm
      · have e : argBest (fun i j => decide ((strAt #[(a, t), (b, u)] i).cps.toList < (strAt #[(a, t), (b, u)] j).cps.toList)) 1 = 0 := by
          show (if decide _ = true then 1 else 0) = 0
          exact if_neg fun h => hba (of_decide_eq_true h)
        rw [e] at hP'
        rw [if_neg hba]
        simp [strItems] at hP'
        exact hP'.symm
    rw [hv]; exact this
theorem call_two2D {f : Value} {h : Int → Int → Int} {h2 : Str → Str → Str} (hc : CallR X f (fun xs H Q => ∃ i j, xs = [.int i, .int j] ∧ Q (.int (h i j)) H)) (hc2 : CallR X f (fun xs H Q => ∃ i j, xs = [.str i, .str j] ∧ Q (.str (h2 i j)) H)) : CallR X f (lRC X.K (two2D h h2)) := fun pins s σ H xs us Q I rs ⟨ds, g, Qd, l, rg, q, k⟩ => by
  rcases l with _ | ⟨r1, _ | ⟨r2, _ | ⟨r3, l⟩⟩⟩
  · exact q.elim
  · cases r1 <;> exact q.elim
  · cases r1 with
    | int i => cases r2 with
      | int j => exact hc pins s σ H _ us Q I rs ⟨i, j, rfl, rg.fin k (.int _) q⟩
      | _ => exact q.elim
    | str i => cases r2 with
      | str j => exact hc2 pins s σ H _ us Q I rs ⟨i, j, rfl, rg.fin k (.str _) q⟩
      | _ => exact q.elim
    | _ => cases r2 <;> exact q.elim
  · cases r1 <;> cases r2 <;> exact q.elim
theorem call_max2S (hc : X.calm = true) : CallR X (.builtin "max") (fun xs H Q => ∃ i j : Str, xs = [.str i, .str j] ∧ Q (.str (if i.cps.toList < j.cps.toList then j else i)) H) := by
  intro pins s σ H xs us Q I r h
  obtain ⟨i, j, rfl, q⟩ := h
  obtain ⟨u, w', rfl, ⟨t, rfl⟩, ⟨t', rfl⟩⟩ := vals2 r
  refine max_two_strs (I.ok.hd hc) fun h' tk k => ⟨_, H, I.kept k, ?_, q⟩
  by_cases hj : i.cps.toList < j.cps.toList
  · rw [if_pos hj, if_pos hj]; exact ⟨_, rfl⟩
  · rw [if_neg hj, if_neg hj]; exact ⟨_, rfl⟩
theorem call_min2S (hc : X.calm = true) : CallR X (.builtin "min") (fun xs H Q => ∃ i j : Str, xs = [.str i, .str j] ∧ Q (.str (if j.cps.toList < i.cps.toList then j else i)) H) := by
  intro pins s σ H xs us Q I r h
  obtain ⟨i, j, rfl, q⟩ := h
  obtain ⟨u, w', rfl, ⟨t, rfl⟩, ⟨t', rfl⟩⟩ := vals2 r
  refine min_two_strs (I.ok.hd hc) fun h' tk k => ⟨_, H, I.kept k, ?_, q⟩
  by_cases hj : j.cps.toList < i.cps.toList
  · rw [if_pos hj, if_pos hj]; exact ⟨_, rfl⟩
  · rw [if_neg hj, if_neg hj]; exact ⟨_, rfl⟩
theorem call_max2D (hc : X.calm = true) : CallR X (.builtin "max") (lRC X.K max2D) := call_two2D (call_max2 hc) (call_max2S hc)
theorem call_min2D (hc : X.calm = true) : CallR X (.builtin "min") (lRC X.K min2D) := call_two2D (call_min2 hc) (call_min2S hc)
def tupF : DRC := fun xs g Q => match xs with
  | [.tup ds] => Q (.tup ds) g
  | [.ref p] => ∃ ds, rdL g p ds ∧ Q (.tup ds) g
  | _ => False
theorem call_tupF : CallR X (.type "tuple") (lRC X.K tupF) := fun pins s σ H xs us Q I rs ⟨ds, g, Qd, l, rg, q, k⟩ => by
  rcases l with _ | ⟨r1, _ | ⟨r2, l⟩⟩
  · exact q.elim
  · cases r1 with
    | @tup a xs ds hs l => exact call_tuple_of pins s σ H _ us Q I rs ⟨a, xs, rfl, .inr ⟨tq hs, rg.fin k (.tup hs l) q⟩⟩
    | ref p =>
      obtain ⟨ds, h, q⟩ := q
      obtain ⟨xs, hs, l⟩ := rg.sq h
      exact call_tuple_of pins s σ H _ us Q I rs ⟨p, xs, rfl, .inl ⟨hs, fun n hn => rg.finU k hn l q⟩⟩
    | _ => exact q.elim
  · cases r1 <;> exact q.elim
def lstF : DRC := fun xs g Q => match xs with
  | [.klst ds] => ∀ p, g p = none → Q (.ref p) (gup g p (.lst ds))
  | [.tup ds] => ∀ p, g p = none → Q (.ref p) (gup g p (.lst ds))
  | [.ref p] => ∃ ds, rdL g p ds ∧ ∀ p, g p = none → Q (.ref p) (gup g p (.lst ds))
  | _ => False
theorem call_lstF : CallR X (.type "list") (lRC X.K lstF) := fun pins s σ H xs us Q I rs ⟨ds, g, Qd, l, rg, q, k⟩ => by
  rcases l with _ | ⟨r1, _ | ⟨r2, l⟩⟩
  · exact q.elim
  · cases r1 with
    | @tup a xs ds hs l => exact call_list_of pins s σ H _ us Q I rs ⟨a, xs, rfl, .inr (tq hs), fun n hn => rg.finL k hn l q⟩
    | @kl a xs ds hs l => exact call_list_of pins s σ H _ us Q I rs ⟨a, xs, rfl, .inl hs.sq, fun n hn => rg.finL k hn l q⟩
    | ref p =>
      obtain ⟨ds, h, q⟩ := q
      obtain ⟨xs, hs, l⟩ := rg.sq h
      exact call_list_of pins s σ H _ us Q I rs ⟨p, xs, rfl, .inl hs, fun n hn => rg.finL k hn l q⟩
    | _ => exact q.elim
  · cases r1 <;> exact q.elim
/-! ### isinstance(x, T), T a written built-in class -/
def tyD (g : GS) : D → String → Prop
  | .non, n => n = "NoneType"
  | .bl _, n => n = "bool"
  | .int _, n => n = "int"
  | .str _, n => n = "str"
  | .tup _, n => n = "tuple"
  | .klst _, n => n = "list"
  | .ref p, n => n = "list" ∧ ∃ ds, rdL g p ds
def dIsi (T : String) (ta : DTE) : DTE := fun e g Q => ta e g fun x g1 => ∃ n b, tyD g1 x n ∧ kitB n T = some b ∧ Q (.bl b) g1
theorem tyD_tyX {g : GS} (rg : RepG K H g) {v : V} {d : D} (r : RepD K H v d) {n : String} (h : tyD g d n) : TyX K H v (.type n) := by
  cases r with
  | non => cases h; exact .base .non
  | bl b => cases h; exact .base (.bl b)
  | int b => cases h; exact .base (.int b)
  | str b => cases h; exact .base (.str b)
  | ref p =>
    obtain ⟨rfl, ds, h⟩ := h
    rcases h with h | h
    · obtain ⟨xs, e, _⟩ := rg.lst h
      exact .base (.lst e)
    · obtain ⟨o, xs, e, _⟩ := rg.ro h
      exact .base (.frz e)
  | kl hs l =>
    cases h
    rcases hs with ⟨o, h⟩ | ⟨o, its, m, h1, h2, _⟩
    · exact .base (.frz h)
    · exact .kList h1 h2
  | tup hs l =>
    cases h
    exact .base (.tup hs)
theorem de_isi {p2 : Pos} {y : Str} (hg : Gl X "isinstance") (hm : X.mg "isinstance" = none) (ha : DE X a ta) (hg2 : Gl X y) (hm2 : X.mg y = none) (hv : bootBuiltins y = some (.type T)) (hn2 : y ≠ "__name__" := by decide) (hd2 : (y == ("__debug__" : Str)) = false := by decide) (hs1 : starEach [a, .Name y p2] X.env = (false, eval a X.env) :: starEach [.Name y p2] X.env := by rfl) (hs2 : starEach [.Name y p2] X.env = (false, eval (.Name y p2) X.env) :: starEach [] X.env := by rfl)
    (hpl : (backTo pos (starEach [.Name y p2] X.env)).any (·.1) = false := by rfl) : DE X (.Call (.Name "isinstance" p) [a, .Name y p2] [] pos) (dIsi T ta) :=
  ⟨peW (pe_callB call_isi hg hm (by decide +kernel) (pa_cons ha.pe (pa_cons (pe_bltn (v := .ty T) hg2 hm2 hv rfl hn2 hd2) pa_nil hs2) hs1) (by decide) (by decide) hs1 hpl) fun σ H Q ⟨e, g, Qd, re, rg, q, k⟩ =>
    ⟨e, g, _, re, rg, q, fun x d H1 g1 x1 rg1 r1 q1 => by
      obtain ⟨n, b, h1, h2, q1⟩ := q1
      exact ⟨x, .ty T, _, _, b, rfl, .ty T, tyD_tyX rg1 r1 h1, kit_ty h2, rg1.fin (k.mono x1) (.bl b) q1⟩⟩⟩
/-! ### methods of built-in types -/
abbrev DRM := D → List D → GS → DK → Prop
def lRM (K : PySem.W.Frag) (r : DRM) : V → List V → Hp → VK → Prop := fun x xs H Q => ∃ d ds g Qd, RepD K H x d ∧ RepL K H xs ds ∧ RepG K H g ∧ r d ds g Qd ∧ KD K H Qd Q
def rcv (T : String) (x : D) (g : GS) : Prop := match x with
  | .str _ => T = "str"
  | .ref p => T = "list" ∧ ∃ ds, rdL g p ds
  | _ => False
theorem rcv_ty {g : GS} (rg : RepG K H g) {v : V} {d : D} (r : RepD K H v d) {T : String} (h : rcv T d g) : tyV K T v H := by
  cases r with
  | str z => exact h
  | ref p =>
    obtain ⟨h1, ds, h⟩ := h
    obtain ⟨xs, hs, _⟩ := rg.sq h
    exact .inl ⟨h1, xs, hs⟩
  | _ => exact h.elim
def dBM (T : String) (r : DRM) (to : DTE) (t : DTA) : DTE := fun e g Q => to e g fun x g1 => rcv T x g1 ∧ t e g1 fun ys g2 => r x ys g2 Q
def dBM0 (T : String) (r : DRM) (to : DTE) : DTE := fun e g Q => to e g fun x g1 => rcv T x g1 ∧ r x [] g1 Q
variable {o : Expr} {to : DTE} {name : Str} {apos cpos : Pos} {rm : DRM}
theorem de_bm0 (pa : PlainAttrs T) (slot : Slot T name id) (hty : typeOf (.builtin id) = pure (.type "method_descriptor")) (hm : MtR X id (lRM X.K rm)) (ho : DE X o to)
    (hbase : attributeBase o name X.env (eval o X.env) = eval o X.env := by rfl) (hline : (apos.endLine == cpos.line) = true := by rfl) : DE X (.Call (.Attribute o name apos) [] [] cpos) (dBM0 T rm to) :=
  ⟨peW (pe_bm0 pa slot hty hm ho.pe hbase hline) fun σ H Q ⟨e, g, Qd, re, rg, q, k⟩ => ⟨e, g, _, re, rg, q, fun x d H1 g1 x1 rg1 r1 q1 =>
    ⟨rcv_ty rg1 r1 q1.1, d, [], g1, Qd, r1, .nil, rg1, q1.2, k.mono x1⟩⟩⟩
theorem de_bm (pa : PlainAttrs T) (slot : Slot T name id) (hty : typeOf (.builtin id) = pure (.type "method_descriptor")) (hm : MtR X id (lRM X.K rm)) (ho : DE X o to) (ha : DA X (e :: es) t)
    (hbase : attributeBase o name X.env (eval o X.env) = eval o X.env := by rfl)
    (hfew : ((backTo cpos (starEach (e :: es) X.env)).all (fun x => !x.1) && (backToKw cpos (keywordEach [] X.env)).all (fun x => x.1.isSome)
      && decide ((e :: es).length + ([] : List Keyword).length + (if ([] : List Keyword).isEmpty then 0 else 1) < 30)) = true := by rfl)
    (hline : (apos.endLine == cpos.line) = true := by rfl) (hs : starEach (e :: es) X.env = (false, eval e X.env) :: starEach es X.env := by rfl) (hplain : (backTo cpos (starEach es X.env)).any (·.1) = false := by rfl) :
    DE X (.Call (.Attribute o name apos) (e :: es) [] cpos) (dBM T rm to t) :=
  ⟨peW (pe_bm pa slot hty hm ho.pe ha.pa hbase hfew hline hs hplain) fun σ H Q ⟨e, g, Qd, re, rg, q, k⟩ => ⟨e, g, _, re, rg, q, fun x d H1 g1 x1 rg1 r1 q1 =>
    ⟨rcv_ty rg1 r1 q1.1, e, g1, _, re.mono x1, rg1, q1.2, fun vs ds H2 g2 x2 rg2 l2 q2 => ⟨d, ds, g2, Qd, r1.mono x2, l2, rg2, q2, k.mono (x1.trans x2)⟩⟩⟩⟩
def appD : DRM := fun x ys g Q => match x, ys with
  | .ref p, [y] => ∃ ds, g p = some (.lst ds) ∧ ds.length < sizeLine ∧ Q .non (gup g p (.lst (ds ++ [y])))
  | _, _ => False
theorem mt_appD : MtR X "list.append" (lRM X.K appD) := fun pins s σ H x xs v us Q I rx rs ⟨d, ds, g, Qd, r, l, rg, q, k⟩ => by
  cases r with
  | ref p => rcases l with _ | ⟨r1, _ | ⟨r2, l⟩⟩
             · exact q.elim
             · obtain ⟨ds, h, hz, q⟩ := q
               obtain ⟨xs, e, l⟩ := rg.lst h
               exact mt_append pins s σ H _ _ v us Q I rx rs ⟨p, xs, _, rfl, rfl, e, by rw [l.length]; exact hz, k _ _ _ _ (.lst e) (rg.setL e (l.app (.cons r1 .nil))) .non q⟩
             · exact q.elim
  | _ => cases l <;> exact q.elim
def extD : DRM := fun x ys g Q => match x, ys with
  | .ref p, [.ref b] => ∃ ds es, g p = some (.lst ds) ∧ g b = some (.lst es) ∧ ds.length + es.length ≤ sizeLine ∧ Q .non (gup g p (.lst (ds ++ es)))
  | _, _ => False
theorem mt_extD : MtR X "list.extend" (lRM X.K extD) := fun pins s σ H x xs v us Q I rx rs ⟨d, ds, g, Qd, r, l, rg, q, k⟩ => by
  cases r with
  | ref p => rcases l with _ | ⟨r1, _ | ⟨r2, l⟩⟩
             · exact q.elim
             · cases r1 with
               | ref b =>
                 obtain ⟨ds, es, h, h2, hz, q⟩ := q
                 obtain ⟨xs, e, l⟩ := rg.lst h
                 obtain ⟨ys, e2, l2⟩ := rg.lst h2
                 exact mt_extend pins s σ H _ _ v us Q I rx rs ⟨p, b, xs, ys, rfl, rfl, e, e2, by rw [l.length, l2.length]; exact hz, k _ _ _ _ (.lst e) (rg.setL e (l.app l2)) .non q⟩
               | _ => exact q.elim
             · cases r1 <;> exact q.elim
  | _ => exact q.elim
theorem RepL.dropLast {vs : List V} {ds : List D} (r : RepL K H vs ds) : RepL K H vs.dropLast ds.dropLast := by
  rw [List.dropLast_eq_take, List.dropLast_eq_take, r.length]
  exact r.take _
def popD : DRM := fun x ys g Q => match x, ys with
  | .ref p, [] => ∃ ds y, g p = some (.lst ds) ∧ ds[ds.length - 1]? = some y ∧ Q y (gup g p (.lst ds.dropLast))
  | .ref p, [.int i] => ∃ ds k y, g p = some (.lst ds) ∧ -(2 ^ 63) ≤ i ∧ i < 2 ^ 63 ∧ seqIndex? i ds.length = some k ∧ ds[k]? = some y ∧ Q y (gup g p (.lst (ds.eraseIdx k)))
  | _, _ => False
theorem mt_popD : MtR X "list.pop" (lRM X.K popD) := fun pins s σ H x xs v us Q I rx rs ⟨d, ds, g, Qd, r, l, rg, q, k⟩ => by
  cases r with
  | ref p => rcases l with _ | ⟨r1, _ | ⟨r2, l⟩⟩
             · obtain ⟨ds, y, h, h1, q⟩ := q
               obtain ⟨xs, e, l⟩ := rg.lst h
               obtain ⟨w, e1, r1⟩ := l.get h1
               exact mt_pop pins s σ H _ _ v us Q I rx rs ⟨p, xs, w, rfl, rfl, e, by rw [l.length]; exact e1, k _ _ _ _ (.lst e) (rg.setL e l.dropLast) (r1.mono (.lst e)) q⟩
             · cases r1 with
               | int i =>
                 obtain ⟨ds, j, y, h, b1, b2, hj, h1, q⟩ := q
                 obtain ⟨xs, e, l⟩ := rg.lst h
                 obtain ⟨w, e1, r1⟩ := l.get h1
                 exact mt_popAt pins s σ H _ _ v us Q I rx rs ⟨p, xs, i, j, w, rfl, rfl, e, b1, b2, by rw [l.length]; exact hj, e1, k _ _ _ _ (.lst e) (rg.setL e (l.erase j)) (r1.mono (.lst e)) q⟩
               | _ => exact q.elim
             · cases r1 <;> exact q.elim
  | _ => exact q.elim
def revD : DRM := fun x ys g Q => match x, ys with
  | .ref p, [] => ∃ ds, g p = some (.lst ds) ∧ Q .non (gup g p (.lst ds.reverse))
  | _, _ => False
theorem mt_revD : MtR X "list.reverse" (lRM X.K revD) := fun pins s σ H x xs v us Q I rx rs ⟨d, ds, g, Qd, r, l, rg, q, k⟩ => by
  cases r with
  | ref p => cases l with
    | nil =>
      obtain ⟨ds, h, q⟩ := q
      obtain ⟨xs, e, l⟩ := rg.lst h
      exact mt_reverse pins s σ H _ _ v us Q I rx rs ⟨p, xs, rfl, rfl, e, k _ _ _ _ (.lst e) (rg.setL e l.rev) .non q⟩
    | cons _ _ => exact q.elim
  | _ => exact q.elim
def joinD : DRM := fun x ys g Q => match x, ys with
  | .str a, [.tup ds] => ∃ zs : List Str, ds = zs.map D.str ∧ (zs.map (·.length)).sum + zs.length * a.length ≤ 16777216 ∧ Q (.str (Txt.join a zs)) g
  | .str a, [.ref p] => ∃ zs : List Str, rdL g p (zs.map D.str) ∧ (zs.map (·.length)).sum + zs.length * a.length ≤ 16777216 ∧ Q (.str (Txt.join a zs)) g
  | _, _ => False
theorem mt_joinD : MtR X "str.join" (lRM X.K joinD) := fun pins s σ H x xs v us Q I rx rs ⟨d, ds, g, Qd, r, l, rg, q, k⟩ => by
  cases r with
  | str a => rcases l with _ | ⟨r1, _ | ⟨r2, l⟩⟩
             · exact q.elim
             · cases r1 with
               | @tup b xs ds hs l =>
                 obtain ⟨zs, rfl, hz, q⟩ := q
                 have := l.strs zs
                 subst this
                 exact mt_join pins s σ H _ _ v us Q I rx rs ⟨a, b, zs, rfl, rfl, .inr (tq hs), hz, rg.fin k (.str _) q⟩
               | ref p =>
                 obtain ⟨zs, h, hz, q⟩ := q
                 obtain ⟨xs, hs, l⟩ := rg.sq h
                 have := l.strs zs
                 subst this
                 exact mt_join pins s σ H _ _ v us Q I rx rs ⟨a, p, zs, rfl, rfl, .inl hs, hz, rg.fin k (.str _) q⟩
               | _ => exact q.elim
             · cases r1 <;> exact q.elim
  | _ => exact q.elim
/-- a text's method without arguments -/
def str0D (C : Str → Prop) (f : Str → D) : DRM := fun x ys g Q => match x, ys with
  | .str a, [] => C a ∧ Q (f a) g
  | _, _ => False
theorem mt_str0 {C : Str → Prop} {f : Str → V} {f' : Str → D} (h : MtR X id (fun x xs H Q => ∃ a, x = .str a ∧ xs = [] ∧ C a ∧ Q (f a) H)) (r : ∀ H a, RepD X.K H (f a) (f' a)) : MtR X id (lRM X.K (str0D C f')) := fun pins s σ H x xs v us Q I rx rs ⟨d, ds, g, Qd, r1, l, rg, q, k⟩ => by
  cases r1 with
  | str a => cases l with
    | nil => exact h pins s σ H _ _ v us Q I rx rs ⟨a, rfl, rfl, q.1, rg.fin k (r _ _) q.2⟩
    | cons _ _ => exact q.elim
  | _ => exact q.elim
abbrev lowerD : DRM := str0D (fun a => a.length ≤ 5592405) fun a => .str (Txt.lower a)
theorem mt_lowerD : MtR X "str.lower" (lRM X.K lowerD) := mt_str0 mt_lower fun _ _ => .str _
abbrev upperD : DRM := str0D (fun a => a.length ≤ 5592405) fun a => .str (Txt.upper a)
theorem mt_upperD : MtR X "str.upper" (lRM X.K upperD) := mt_str0 mt_upper fun _ _ => .str _
/-- a text's method with one text -/
def str1D (f : Str → Str → D) : DRM := fun x ys g Q => match x, ys with
  | .str a, [.str b] => Q (f a b) g
  | _, _ => False
theorem mt_str1 {f : Str → Str → V} {f' : Str → Str → D} (h : MtR X id (fun x xs H Q => ∃ a b, x = .str a ∧ xs = [.str b] ∧ Q (f a b) H)) (r : ∀ H a b, RepD X.K H (f a b) (f' a b)) : MtR X id (lRM X.K (str1D f')) := fun pins s σ H x xs v us Q I rx rs ⟨d, ds, g, Qd, r1, l, rg, q, k⟩ => by
  cases r1 with
  | str a => rcases l with _ | ⟨r1, _ | ⟨r2, l⟩⟩
             · exact q.elim
             · cases r1 with
               | str b => exact h pins s σ H _ _ v us Q I rx rs ⟨a, b, rfl, rfl, rg.fin k (r _ _ _) q⟩
               | _ => exact q.elim
             · cases r1 <;> exact q.elim
  | _ => exact q.elim
abbrev startsD : DRM := str1D fun a b => .bl (Txt.startswith a b)
theorem mt_startsD : MtR X "str.startswith" (lRM X.K startsD) := mt_str1 mt_startswith fun _ _ _ => .bl _
abbrev endsD : DRM := str1D fun a b => .bl (Txt.endswith a b)
theorem mt_endsD : MtR X "str.endswith" (lRM X.K endsD) := mt_str1 mt_endswith fun _ _ _ => .bl _
abbrev findD : DRM := str1D fun a b => .int (Txt.find a b)
theorem mt_findD : MtR X "str.find" (lRM X.K findD) := mt_str1 mt_find fun _ _ _ => .int _
def splitD : DRM := fun x ys g Q => match x, ys with
  | .str a, [.str b] => (b.length == 0) = false ∧ a.length + 2 ≤ sizeLine ∧ ∀ p, g p = none → Q (.ref p) (gup g p (.lst ((Txt.split a b).map D.str)))
  | _, _ => False
theorem mt_splitD : MtR X "str.split" (lRM X.K splitD) := fun pins s σ H x xs v us Q I rx rs ⟨d, ds, g, Qd, r1, l, rg, q, k⟩ => by
  cases r1 with
  | str a => rcases l with _ | ⟨r1, _ | ⟨r2, l⟩⟩
             · exact q.elim
             · cases r1 with
               | str b => exact mt_split pins s σ H _ _ v us Q I rx rs ⟨a, b, rfl, rfl, q.1, q.2.1, fun n hn => rg.finL k hn (.ofStrs _) q.2.2⟩
               | _ => exact q.elim
             · cases r1 <;> exact q.elim
  | _ => exact q.elim
end
end DL

namespace DL
open PySem L2
section
variable {X : Cx} {K : PySem.W.Frag} {H H' : Hp} {σ : L2.St}
variable {a b c e : Expr} {es rest : List Expr} {ta tb tc te : DTE} {tA tB : DTT} {t : DTA} {pos : Pos}
/-! ### tests -/
def dAnd (t u : DTT) : DTT := fun e g Q => t e g fun c g1 => if c = true then u e g1 Q else Q false g1
def dOr (t u : DTT) : DTT := fun e g Q => t e g fun c g1 => if c = true then Q true g1 else u e g1 Q
def dNot (t : DTT) : DTT := fun e g Q => t e g fun c g1 => Q (!c) g1
theorem dw_and1 (ha : DT X a tA) : DW X (.BoolOp .And [a] pos) tA := ⟨pw_and1 ha.pt⟩
theorem dw_or1 (ha : DT X a tA) : DW X (.BoolOp .Or [a] pos) tA := ⟨pw_or1 ha.pt⟩
theorem DW.dt (h : DW X a tA) : DT X a tA := ⟨h.pw.pt⟩
theorem dw_and (ha : DT X a tA) (hb : DW X (.BoolOp .And (b :: rest) pos) tB) : DW X (.BoolOp .And (a :: b :: rest) pos) (dAnd tA tB) := ⟨pwW (pw_and ha.pt hb.pw) fun σ H Q ⟨e, g, Qd, re, rg, q, k⟩ =>
  ⟨e, g, _, re, rg, q, fun c H1 g1 x1 rg1 q1 => by
    cases c with
    | true => exact ⟨e, g1, Qd, re.mono x1, rg1, q1, fun b H2 g2 x2 => k b H2 g2 (x1.trans x2)⟩
    | false => exact k _ _ _ x1 rg1 q1⟩⟩
theorem dw_or (ha : DT X a tA) (hb : DW X (.BoolOp .Or (b :: rest) pos) tB) : DW X (.BoolOp .Or (a :: b :: rest) pos) (dOr tA tB) := ⟨pwW (pw_or ha.pt hb.pw) fun σ H Q ⟨e, g, Qd, re, rg, q, k⟩ =>
  ⟨e, g, _, re, rg, q, fun c H1 g1 x1 rg1 q1 => by
    cases c with
    | false => exact ⟨e, g1, Qd, re.mono x1, rg1, q1, fun b H2 g2 x2 => k b H2 g2 (x1.trans x2)⟩
    | true => exact k _ _ _ x1 rg1 q1⟩⟩
theorem dt_not (ha : DT X a tA) : DT X (.UnaryOp .Not a pos) (dNot tA) := ⟨ptW (pt_not ha.pt) fun σ H Q ⟨e, g, Qd, re, rg, q, k⟩ => ⟨e, g, _, re, rg, q, fun c H1 g1 x1 rg1 q1 => k _ _ _ x1 rg1 q1⟩⟩
/-- truth of a value -/
def truD (g : GS) (k : Bool) : D → Prop
  | .non => k = false
  | .bl b => k = b
  | .int i => k = (i != 0)
  | .str y => y.length ≤ sizeLine ∧ k = ((y.length : Int) != 0)
  | .tup ds => k = !ds.isEmpty
  | .klst ds => k = !ds.isEmpty
  | .ref p => ∃ ds, rdL g p ds ∧ k = !ds.isEmpty
def dTru (t : DTE) : DTT := fun e g Q => t e g fun d g1 => ∃ k, truD g1 k d ∧ Q k g1
theorem RepL.empty {vs : List V} {ds : List D} (r : RepL K H vs ds) : vs.isEmpty = ds.isEmpty := by cases r <;> rfl
theorem dt_tru (ha : DE X a ta) (he : ∀ whole, isTrue a X.env whole = (do let v ← whole; standAt a.pos; holding [v] (truthy v)) := by intro _; rfl) : DT X a (dTru ta) := ⟨ptW (pt_truth ha.pe he) fun σ H Q ⟨e, g, Qd, re, rg, q, k⟩ =>
  ⟨e, g, _, re, rg, q, fun v d H1 g1 x1 rg1 r1 q1 => by
    obtain ⟨b, h, q1⟩ := q1
    refine ⟨b, ?_, k _ _ _ x1 rg1 q1⟩
    cases r1 with
    | ref p =>
      obtain ⟨ds, h, e⟩ := h
      obtain ⟨xs, hs, l⟩ := rg1.sq h
      exact .inl ⟨xs, hs, by rw [l.empty]; exact e⟩
    | tup hs l => exact .inr (.inl ⟨_, tq hs, by rw [l.empty]; exact h⟩)
    | kl hs l => exact .inl ⟨_, hs.sq, by rw [l.empty]; exact h⟩
    | _ => exact h⟩⟩
/-- and, or, not as values (bools) -/
def dAndV (ta tb : DTE) : DTE := fun e g Q => ta e g fun x g1 => ∃ c, x = .bl c ∧ if c = true then tb e g1 Q else Q (.bl false) g1
def dOrV (ta tb : DTE) : DTE := fun e g Q => ta e g fun x g1 => ∃ c, x = .bl c ∧ if c = true then Q (.bl true) g1 else tb e g1 Q
def dNotV (ta : DTE) : DTE := fun e g Q => ta e g fun x g1 => ∃ c, x = .bl c ∧ Q (.bl (!c)) g1
theorem de_one {op} (h : DE X a ta) : DE X (.BoolOp op [a] pos) ta := ⟨pe_one h.pe⟩
theorem de_and (ha : DE X a ta) (hb : DE X (.BoolOp .And (b :: rest) pos) tb) : DE X (.BoolOp .And (a :: b :: rest) pos) (dAndV ta tb) := ⟨peW (pe_and ha.pe hb.pe) fun σ H Q ⟨e, g, Qd, re, rg, q, k⟩ =>
  ⟨e, g, _, re, rg, q, fun x d H1 g1 x1 rg1 r1 q1 => by
    obtain ⟨c, rfl, q1⟩ := q1
    cases r1
    refine ⟨c, rfl, ?_⟩
    cases c with
    | true => exact ⟨e, g1, Qd, re.mono x1, rg1, q1, k.mono x1⟩
    | false => exact k _ _ _ _ x1 rg1 (.bl _) q1⟩⟩
theorem de_or (ha : DE X a ta) (hb : DE X (.BoolOp .Or (b :: rest) pos) tb) : DE X (.BoolOp .Or (a :: b :: rest) pos) (dOrV ta tb) := ⟨peW (pe_or ha.pe hb.pe) fun σ H Q ⟨e, g, Qd, re, rg, q, k⟩ =>
  ⟨e, g, _, re, rg, q, fun x d H1 g1 x1 rg1 r1 q1 => by
    obtain ⟨c, rfl, q1⟩ := q1
    cases r1
    refine ⟨c, rfl, ?_⟩
    cases c with
    | false => exact ⟨e, g1, Qd, re.mono x1, rg1, q1, k.mono x1⟩
    | true => exact k _ _ _ _ x1 rg1 (.bl _) q1⟩⟩
theorem de_not (ha : DE X a ta) : DE X (.UnaryOp .Not a pos) (dNotV ta) := ⟨peW (pe_not ha.pe) fun σ H Q ⟨e, g, Qd, re, rg, q, k⟩ =>
  ⟨e, g, _, re, rg, q, fun x d H1 g1 x1 rg1 r1 q1 => by
    obtain ⟨c, rfl, q1⟩ := q1
    cases r1
    exact ⟨c, rfl, k _ _ _ _ x1 rg1 (.bl _) q1⟩⟩⟩
def dIfE (t : DTT) (ta tb : DTE) : DTE := fun e g Q => t e g fun c g1 => if c = true then ta e g1 Q else tb e g1 Q
theorem de_ifExp (hc : DT X c tA) (ha : DE X a ta) (hb : DE X b tb) : DE X (.IfExp c a b pos) (dIfE tA ta tb) := ⟨peW (pe_ifExp hc.pt ha.pe hb.pe) fun σ H Q ⟨e, g, Qd, re, rg, q, k⟩ =>
  ⟨e, g, _, re, rg, q, fun c H1 g1 x1 rg1 q1 => by
    cases c with
    | true => exact ⟨e, g1, Qd, re.mono x1, rg1, q1, k.mono x1⟩
    | false => exact ⟨e, g1, Qd, re.mono x1, rg1, q1, k.mono x1⟩⟩⟩
/-! ### calls of own defs -/
def dCall (sp : DSp) (dds : List D) (t : DTA) : DTE := fun e g Q => t e g fun ds g1 => sp (ds ++ dds) g1 Q
variable {x : Str} {p : Pos} {k : Nat} {f : Addr} {fd : FuncData} {ps : List Str} {sp : DSp} {dvs : List V} {dus : List Value} {dds : List D}
theorem lcall {σ : L2.St} {Q : VK} {E : XK} (hdd : ∀ H, RepL K H dvs dds) (h : lE K (dCall sp dds t) σ H Q) : tCall (lSp K sp) dvs E (lA K t) σ H Q := by
  obtain ⟨e, g, Qd, re, rg, q, k⟩ := h
  exact ⟨e, g, _, re, rg, q, fun vs ds H1 g1 x1 rg1 l1 q1 => ⟨_, g1, Qd, l1.app (hdd H1), rg1, q1, k.mono x1⟩⟩
theorem de_call (F : FnOk X.prog X.w X.K X.mg X.base CX0 k f fd ps (lSp X.K sp)) (hr : Room k X.A) (hg : Gl X x) (hm : X.mg x = some (.ref f)) (hk : PySem.W.keepIn X.K (.ref f) = true) (hb : Binds X.K fd ps dus) (hd : Vals dvs dus) (hdd : ∀ H, RepL X.K H dvs dds)
    (ha : DA X (e :: es) t) (hdb : (x == ("__debug__" : Str)) = false := by decide) (he : starEach (e :: es) X.env = (false, eval e X.env) :: starEach es X.env := by rfl) (hpl : (backTo pos (starEach es X.env)).any (·.1) = false := by rfl) :
    DE X (.Call (.Name x p) (e :: es) [] pos) (dCall sp dds t) := ⟨peW (pe_call F hr hg hm hk hb hd pass0 ha.pa hdb he hpl) fun _ _ _ h => lcall hdd h⟩
theorem de_call0 (F : FnOk X.prog X.w X.K X.mg X.base CX0 k f fd ps (lSp X.K sp)) (hr : Room k X.A) (hg : Gl X x) (hm : X.mg x = some (.ref f)) (hk : PySem.W.keepIn X.K (.ref f) = true) (hb : Binds X.K fd ps dus) (hd : Vals dvs dus) (hdd : ∀ H, RepL X.K H dvs dds)
    (hdb : (x == ("__debug__" : Str)) = false := by decide) : DE X (.Call (.Name x p) [] [] pos) (dCall sp dds dNil) := ⟨peW (pe_call0 F hr hg hm hk hb hd pass0 hdb) fun σ H Q h => by
  obtain ⟨e, g, Qd, re, rg, q, k⟩ := h
  exact ⟨_, g, Qd, RepL.app .nil (hdd H), rg, q, k⟩⟩
/-! ### statements -/
variable {st : Stmt} {sts : List Stmt} {T U : DTS}
/-- one after the other, some word between them -/
def dSeq (t u : DTS) : DTS := fun D e g => ∃ M : EV → GS → Prop, t { D with nx := M } e g ∧ ∀ e' g', M e' g' → u D e' g'
def dNext : DTS := fun D e g => D.nx e g
theorem dss_cons (h1 : DS X st T) (h2 : DSs X sts U) : DSs X (st :: sts) (dSeq T U) := ⟨pssW (pss_cons h1.ps h2.pss) fun D σ H ⟨e, g, Dd, re, rg, ⟨M, q, qm⟩, k1, k2, k3, k4⟩ =>
  ⟨e, g, _, re, rg, q, fun σ' H' e' g' x1 re1 rg1 q1 => ⟨e', g', Dd, re1, rg1, qm e' g' q1, k1.mono x1, k2.mono x1, k3.mono x1, k4.mono x1⟩, k2, k3, k4⟩⟩
theorem dss_one (h1 : DS X st T) : DSs X [st] T := ⟨pss_one h1.ps⟩
theorem KS.fin {Q : EV → GS → Prop} {Q' : L2.St → Hp → Prop} (k : KS K H Q Q') {e : EV} {g : GS} (re : RepE K H σ e) (rg : RepG K H g) (q : Q e g) : Q' σ H := k _ _ _ _ (.refl H) re rg q
theorem dss_nil : DSs X [] dNext := ⟨pssW pss_nil fun D σ H ⟨e, g, Dd, re, rg, q, k1, _⟩ => k1.fin re rg q⟩
theorem ds_pass : DS X (.Pass pos) dNext := ⟨psW ps_pass fun D σ H ⟨e, g, Dd, re, rg, q, k1, _⟩ => k1.fin re rg q⟩
def dBreak : DTS := fun D e g => D.bk e g
def dCont : DTS := fun D e g => D.ct e g
theorem ds_break : DS X (.Break pos) dBreak := ⟨psW ps_break fun D σ H ⟨e, g, Dd, re, rg, q, _, _, k3, _⟩ => k3.fin re rg q⟩
theorem ds_cont : DS X (.Continue pos) dCont := ⟨psW ps_continue fun D σ H ⟨e, g, Dd, re, rg, q, _, _, _, k4⟩ => k4.fin re rg q⟩
def dDrop (te : DTE) : DTS := fun D e g => te e g fun _ g1 => D.nx e g1
theorem ds_expr (he : DE X a te) (hs : swapsWith a none pos.line X.env = pure false := by rfl) : DS X (.Expr a pos) (dDrop te) := ⟨psW (ps_expr he.pe hs) fun D σ H ⟨e, g, Dd, re, rg, q, k1, _⟩ =>
  ⟨e, g, _, re, rg, q, fun v d H1 g1 x1 rg1 _ q1 => (k1.mono x1).fin (re.mono x1) rg1 q1⟩⟩
def dRet (te : DTE) : DTS := fun D e g => te e g D.rt
theorem ds_ret (he : DE X a te) : DS X (.Return (some a) pos) (dRet te) := ⟨psW (ps_ret he.pe) fun D σ H ⟨e, g, Dd, re, rg, q, _, k2, _⟩ => ⟨e, g, _, re, rg, q, k2⟩⟩
def dRetN : DTS := fun D _ g => D.rt .non g
theorem ds_retN : DS X (.Return none pos) dRetN := ⟨psW ps_retN fun D σ H ⟨e, g, Dd, re, rg, q, _, k2, _⟩ => rg.fin k2 .non q⟩
def dIf (c : DTT) (t u : DTS) : DTS := fun D e g => c e g fun b g1 => if b = true then t D e g1 else u D e g1
theorem ds_if {c : Expr} {s1 s2 : List Stmt} {tc : DTT} (hc : DT X c tc) (ha : DSs X s1 T) (hb : DSs X s2 U) : DS X (.If c s1 s2 pos) (dIf tc T U) := ⟨psW (ps_if hc.pt ha.pss hb.pss) fun D σ H ⟨e, g, Dd, re, rg, q, k1, k2, k3, k4⟩ =>
  ⟨e, g, _, re, rg, q, fun b H1 g1 x1 rg1 q1 => by
    cases b with
    | true => exact ⟨e, g1, Dd, re.mono x1, rg1, q1, k1.mono x1, k2.mono x1, k3.mono x1, k4.mono x1⟩
    | false => exact ⟨e, g1, Dd, re.mono x1, rg1, q1, k1.mono x1, k2.mono x1, k3.mono x1, k4.mono x1⟩⟩⟩
theorem ds_never : DS X st (fun _ _ _ => False) := ⟨psW ps_never fun D σ H ⟨_, _, _, _, _, q, _⟩ => q⟩
/-! ### targets -/
abbrev DTG := D → EV → GS → (EV → GS → Prop) → Prop
abbrev DTGs := List D → EV → GS → (EV → GS → Prop) → Prop
def lG (K : PySem.W.Frag) (T : DTG) : TG := fun v σ H Q => ∃ d e g Qd, RepD K H v d ∧ RepE K H σ e ∧ RepG K H g ∧ T d e g Qd ∧ KS K H Qd Q
def lGs (K : PySem.W.Frag) (T : DTGs) : TGs := fun vs σ H Q => ∃ ds e g Qd, RepL K H vs ds ∧ RepE K H σ e ∧ RepG K H g ∧ T ds e g Qd ∧ KS K H Qd Q
structure DG (X : Cx) (tg : Expr) (T : DTG) : Prop where
  pg : PG X tg (lG X.K T)
structure DGs (X : Cx) (tgs : List Expr) (T : DTGs) : Prop where
  pgs : PGs X tgs (lGs X.K T)
theorem pgW {e : Expr} {t t' : TG} (h : PG X e t) (w : ∀ v σ H Q, t' v σ H Q → t v σ H Q) : PG X e t' := ⟨fun pins s σ H v u Q I r q => h.run pins s σ H v u Q I r (w v σ H Q q)⟩
theorem pgsW {e : List Expr} {t t' : TGs} (h : PGs X e t) (w : ∀ v σ H Q, t' v σ H Q → t v σ H Q) : PGs X e t' := ⟨fun pins s σ H v u Q I r q => h.run pins s σ H v u Q I r (w v σ H Q q)⟩
def gNm (i : Nat) : DTG := fun d e g Q => Q (e.set i (some d)) g
theorem dg_name {i : Nat} (h : PG X a (gName i)) : DG X a (gNm i) := ⟨pgW h fun v σ H Q ⟨d, e, g, Qd, r, re, rg, q, k⟩ => k.fin (re.set r i) rg q⟩
def gsNil : DTGs := fun ds e g Q => ds = [] ∧ Q e g
def gsCons (t : DTG) (u : DTGs) : DTGs := fun ds e g Q => ∃ d r, ds = d :: r ∧ t d e g fun e1 g1 => u r e1 g1 Q
theorem dgs_nil : DGs X [] gsNil := ⟨pgsW pgs_nil fun vs σ H Q ⟨ds, e, g, Qd, l, re, rg, q, k⟩ => by
  obtain ⟨rfl, q⟩ := q
  cases l
  exact ⟨rfl, k.fin re rg q⟩⟩
theorem dgs_cons {tg : DTG} {tgs : DTGs} (h1 : DG X a tg) (h2 : DGs X es tgs) (hs : (assignEach (a :: es) X.env).map (·.2) = assign a X.env :: (assignEach es X.env).map (·.2) := by rfl) : DGs X (a :: es) (gsCons tg tgs) := ⟨pgsW (pgs_cons h1.pg h2.pgs hs) fun vs σ H Q ⟨ds, e, g, Qd, l, re, rg, q, k⟩ => by
  obtain ⟨d, r, rfl, q⟩ := q
  cases l with
  | cons r1 l => exact ⟨_, _, rfl, d, e, g, _, r1, re, rg, q, fun σ1 H1 e1 g1 x1 re1 rg1 q1 => ⟨_, e1, g1, _, l.mono x1, re1, rg1, q1, k.mono x1⟩⟩⟩
def gTp (n : Nat) (t : DTGs) : DTG := fun d e g Q => match d with
  | .tup ds => ds.length = n ∧ t ds e g Q
  | .ref p => ∃ ds, rdL g p ds ∧ ds.length = n ∧ t ds e g Q
  | _ => False
theorem pg_or {x : Expr} {t1 t2 : TG} (h1 : PG X x t1) (h2 : PG X x t2) : PG X x (fun v σ H Q => t1 v σ H Q ∨ t2 v σ H Q) := ⟨fun pins s σ H v u Q I r hw => hw.elim (h1.run pins s σ H v u Q I r) (h2.run pins s σ H v u Q I r)⟩
theorem dg_tup {j : Nat} {n : Nat} {tgs : DTGs} (hc : X.calm = true) (h : DGs X es tgs) (hn : (assignEach es X.env).length = n := by rfl) (hst : (assignEach es X.env).findIdx? (·.1) = none := by rfl) : DG X (.Tuple es j pos) (gTp n tgs) :=
  ⟨pgW (pg_or (pg_tup hc h.pgs hn hst) (pg_unl hc h.pgs hn hst)) fun v σ H Q ⟨d, e, g, Qd, r, re, rg, q, k⟩ => by
    cases r with
    | tup hs l => exact .inl ⟨_, _, rfl, tq hs, by rw [l.length]; exact q.1, _, e, g, Qd, l, re, rg, q.2, k⟩
    | ref p =>
      obtain ⟨ds, h, hl, q⟩ := q
      obtain ⟨xs, hs, l⟩ := rg.sq h
      exact .inr ⟨_, _, rfl, hs, by rw [l.length]; exact hl, _, e, g, Qd, l, re, rg, q, k⟩
    | _ => exact q.elim⟩
/-- o[i] = v, o a list -/
def setD (o i v : D) (g : GS) (Q : GS → Prop) : Prop := match o, i with
  | .ref p, .int k => ∃ ds j, g p = some (.lst ds) ∧ ixN ds.length k = some j ∧ Q (gup g p (.lst (ds.set j v)))
  | _, _ => False
def gSb (to ti : DTE) : DTG := fun v e g Q => to e g fun o g1 => ti e g1 fun i g2 => setD o i v g2 fun g3 => Q e g3
theorem dg_sub {o i : Expr} {to ti : DTE} (ho : DE X o to) (hi : DE X i ti)
    (hs : ∀ v, assign (.Subscript o i pos) X.env v = (do
      let ov ← holding [v] (eval o X.env)
      let iv ← holding [v, ov] (eval i X.env)
      standAt pos
      holding [v, ov, iv] (setItem ov iv v)
      release [v, ov, iv] []) := by intro _; rfl) : DG X (.Subscript o i pos) (gSb to ti) := ⟨pgW (pg_sub ho.pe hi.pe set_list hs) fun v σ H Q ⟨d, e, g, Qd, r, re, rg, q, k⟩ =>
  ⟨e, g, _, re, rg, q, fun ov od H1 g1 x1 rg1 r1 q1 => ⟨e, g1, _, re.mono x1, rg1, q1, fun iv id H2 g2 x2 rg2 r2 q2 => by
    cases r1 with
    | ref p => cases r2 with
      | int m =>
        obtain ⟨ds, j, h, hj, q2⟩ := q2
        obtain ⟨xs, e1, l⟩ := rg2.lst h
        exact ⟨p, xs, m, j, rfl, rfl, e1, by rw [l.length]; exact hj, k _ _ _ _ ((x1.trans x2).trans (.lst e1)) ((re.mono (x1.trans x2)).mono (.lst e1)) (rg2.setL e1 (l.set (r.mono (x1.trans x2)) j)) q2⟩
      | _ => exact q2.elim
    | _ => exact q2.elim⟩⟩⟩
def dAsg (te : DTE) (tg : DTG) : DTS := fun D e g => te e g fun d g1 => tg d e g1 D.nx
theorem ds_asg {tg : Expr} {G : DTG} (he : DE X a te) (hg : DG X tg G) (hs : swapsWithSole [tg] a pos.line X.env = pure false := by rfl) (hw : swappedStores [tg] a X.env = pure none := by rfl)
    (h1 : (assignEach [tg] X.env).map (·.2) = [assign tg X.env] := by rfl) : DS X (.Assign [tg] a pos) (dAsg te G) := ⟨psW (ps_asg he.pe hg.pg hs hw h1) fun D σ H ⟨e, g, Dd, re, rg, q, k1, _⟩ =>
  ⟨e, g, _, re, rg, q, fun v d H1 g1 x1 rg1 r1 q1 => ⟨d, e, g1, _, r1, re.mono x1, rg1, q1, k1.mono x1⟩⟩⟩
theorem ds_set {i : Nat} {pos' : Pos} (h : ∀ t : TE, PE X a t → PS X (.Assign [.Name x pos'] a pos) (tAsg t (gName i))) (he : DE X a te) : DS X (.Assign [.Name x pos'] a pos) (dAsg te (gNm i)) := ⟨psW (h _ he.pe) fun D σ H ⟨e, g, Dd, re, rg, q, k1, _⟩ =>
  ⟨e, g, _, re, rg, q, fun v d H1 g1 x1 rg1 r1 q1 => (k1.mono x1).fin ((re.mono x1).set r1 i) rg1 q1⟩⟩
/-- x += e -/
def dAug (i : Nat) (te : DTE) (r : DR2) : DTS := fun D e g => ∃ d, look e i = some d ∧ te e g fun y g1 => r d y g1 fun z g2 => D.nx (e.set i (some z)) g2
/-! ### while -/
def dWhile (c : DTT) (tb : DTS) : DTS := fun D e g => ∃ W : Nat → EV → GS → Prop, (∃ m, W m e g) ∧ ∀ m e g, W m e g →
  c e g fun b g1 => if b = true then ∃ N : EV → GS → Prop, (∀ e' g', N e' g' → ∃ m', m' < m ∧ W m' e' g') ∧ tb { D with nx := N, ct := N, bk := D.nx } e g1 else D.nx e g1
theorem ds_while {c : Expr} {body : List Stmt} {tc : DTT} (hp : PassesOwn (model X.prog X.w) X.A X.env X.xe) (hc : DT X c tc) (hb : DSs X body T) : DS X (.While c body [] pos) (dWhile tc T) := ⟨psW (ps_while hp hc.pt hb.pss) fun D σ H ⟨e, g, Dd, re, rg, q, k1, k2, k3, k4⟩ => by
  obtain ⟨W, ⟨m, w⟩, turn⟩ := q
  refine ⟨fun m σ' H' => ∃ e' g', Ext H H' ∧ RepE X.K H' σ' e' ∧ RepG X.K H' g' ∧ W m e' g', ⟨m, e, g, .refl H, re, rg, w⟩, fun m σ' H' ⟨e', g', x1, re1, rg1, w1⟩ => ?_⟩
  refine ⟨e', g', _, re1, rg1, turn m e' g' w1, fun b H2 g2 x2 rg2 q2 => ?_⟩
  cases b with
  | true =>
    obtain ⟨N, hN, q2⟩ := q2
    rw [if_pos rfl]
    have kn : KS X.K H2 N (fun σ' H' => ∃ e' g', Ext H H' ∧ RepE X.K H' σ' e' ∧ RepG X.K H' g' ∧ N e' g') := fun σ3 H3 e3 g3 x3 re3 rg3 n3 => ⟨e3, g3, (x1.trans x2).trans x3, re3, rg3, n3⟩
    refine ⟨fun σ' H' => ∃ e' g', Ext H H' ∧ RepE X.K H' σ' e' ∧ RepG X.K H' g' ∧ N e' g', fun σ3 H3 ⟨e3, g3, x3, re3, rg3, n3⟩ => ?_, e', g2, _, re1.mono x2, rg2, q2, kn, k2.mono (x1.trans x2), k1.mono (x1.trans x2), kn⟩
    obtain ⟨m', hm, w3⟩ := hN e3 g3 n3
    exact ⟨m', hm, e3, g3, x3, re3, rg3, w3⟩
  | false => exact (k1.mono (x1.trans x2)).fin (re1.mono x2) rg2 q2⟩
end
end DL

namespace DL
open PySem PySem.Spec PyProof.Rows L2
/-! ### what is walked -/
def ItOk (K : PySem.W.Frag) (H0 : Hp) (J : It) (ds : List D) (keep : GS → Prop) : Prop := ∀ (i : Nat) (H : Hp) (g : GS), Ext H0 H → RepG K H g → keep g → (i = ds.length → J.stop i H) ∧
  ∀ d, ds[i]? = some d → J.go i H ∧ ∀ x H', J.yld i H x H' → Ext H H' ∧ RepG K H' g ∧ RepD K H' x d
abbrev DTI := EV → GS → (List D → (GS → Prop) → GS → Prop) → Prop
def lI (K : PySem.W.Frag) (T : DTI) : TI := fun σ H R => ∃ e g Rd, RepE K H σ e ∧ RepG K H g ∧ T e g Rd ∧ ∀ ds keep J H' g', Ext H H' → RepG K H' g' → ItOk K H' J ds keep → Rd ds keep g' → R J H'
structure DI (X : Cx) (tg iter : Expr) (T : DTI) : Prop where
  pi : PI X tg iter (lI X.K T)
section
variable {X : Cx} {K : PySem.W.Frag} {H H' : Hp} {σ : L2.St}
variable {a b c e tg iter elt : Expr} {es rest : List Expr} {ta tb tc te : DTE} {tA tB : DTT} {t : DTA} {pos : Pos}
theorem piW {w w' : TI} (h : PI X tg iter w) (k : ∀ σ H R, w' σ H R → w σ H R) : PI X tg iter w' := ⟨fun pins s σ H R I q => h.run pins s σ H R I (k σ H R q)⟩
/-- over a list, a tuple, a text, by what comes: the generator picks -/
def iLs (ta : DTE) : DTI := fun e g R => ta e g fun x g1 => ∃ p ds, x = .ref p ∧ rdL g1 p ds ∧ R ds (fun g => rdL g p ds) g1
def iTp (ta : DTE) : DTI := fun e g R => ta e g fun x g1 => ∃ ds, x = .tup ds ∧ R ds (fun _ => True) g1
def iSt (ta : DTE) : DTI := fun e g R => ta e g fun x g1 => ∃ z, x = .str z ∧ R (z.cps.toList.map fun c => .str ⟨#[c]⟩) (fun _ => True) g1
theorem RepG.sq_inj {g : GS} (r : RepG K H g) {p : Addr} {ds : List D} (h : rdL g p ds) : ∃ xs, SqL K H p xs ∧ RepL K H xs ds := r.sq h
theorem itok_list {p : Addr} {ds : List D} : ItOk K H (Itl K p) ds fun g => rdL g p ds := fun i H1 g x rg hk => by
  obtain ⟨xs, hs, l⟩ := rg.sq hk
  refine ⟨fun e => ⟨xs, hs, by rw [l.length]; omega⟩, fun d hd => ?_⟩
  obtain ⟨v, hv, r⟩ := l.get hd
  refine ⟨⟨xs, v, hs, hv⟩, fun y H2 ⟨e, f⟩ => ?_⟩
  subst e
  have e2 := f xs hs
  rw [hv] at e2
  cases e2
  exact ⟨.refl _, rg, r⟩
theorem itok_tup {p : Addr} {xs : List V} {ds : List D} (hs : SqT K H p xs) (l : RepL K H xs ds) : ItOk K H (Itt K p) ds fun _ => True := fun i H1 g x rg _ => by
  refine ⟨fun e => ⟨xs, x.sqT hs, by rw [l.length]; omega⟩, fun d hd => ?_⟩
  obtain ⟨v, hv, r⟩ := l.get hd
  refine ⟨⟨xs, v, x.sqT hs, hv⟩, fun y H2 ⟨e, f⟩ => ?_⟩
  subst e
  have e2 := f xs (x.sqT hs)
  rw [hv] at e2
  cases e2
  exact ⟨.refl _, rg, r.mono x⟩
theorem itok_str {z : Str} : ItOk K H (Its z) (z.cps.toList.map fun c => .str ⟨#[c]⟩) fun _ => True := fun i H1 g x rg _ => by
  refine ⟨fun e => ?_, fun d hd => ?_⟩
  · rw [List.length_map, Array.length_toList] at e
    exact Nat.le_of_eq e.symm
  · rw [List.getElem?_map] at hd
    cases hc : z.cps.toList[i]? with
    | none => rw [hc] at hd; cases hd
    | some c =>
      rw [hc] at hd
      cases hd
      have hc' : z.cps[i]? = some c := by rw [← Array.getElem?_toList]; exact hc
      refine ⟨(Array.getElem?_eq_some_iff.mp hc').1, fun y H2 ⟨e, c', h1, h2⟩ => ?_⟩
      subst e
      subst h2
      rw [hc'] at h1
      cases h1
      exact ⟨.refl _, rg, .str _⟩
def ran (lo : Int) (n : Nat) : List D := (List.range n).map fun (i : Nat) => .int (lo + i)
theorem ran_len (lo : Int) (n : Nat) : (ran lo n).length = n := by rw [ran, List.length_map, List.length_range]
theorem ran_get {lo : Int} {n i : Nat} {d : D} (h : (ran lo n)[i]? = some d) : i < n ∧ d = .int (lo + i) := by
  have hi : i < n := by
    have := (List.getElem?_eq_some_iff.mp h).1
    rwa [ran_len] at this
  rw [ran, List.getElem?_map, List.getElem?_range hi] at h
  cases h
  exact ⟨hi, rfl⟩
theorem itok_ran {lo : Int} {n : Nat} : ItOk K H (Itr lo n) (ran lo n) fun _ => True := fun i H1 g x rg _ => by
  refine ⟨fun e => ?_, fun d hd => ?_⟩
  · rw [ran_len] at e
    exact Nat.le_of_eq e.symm
  · obtain ⟨hi, rfl⟩ := ran_get hd
    refine ⟨hi, fun y H2 ⟨e, f⟩ => ?_⟩
    subst e f
    exact ⟨.refl _, rg, .int _⟩
theorem di_list (h : DE X a ta) : DI X tg a (iLs ta) := ⟨piW (pi_list h.pe) fun σ H R ⟨e, g, Rd, re, rg, q, k⟩ => ⟨e, g, _, re, rg, q, fun v d H1 g1 x1 rg1 r1 q1 => by
  obtain ⟨p, ds, rfl, h1, q1⟩ := q1
  cases r1
  obtain ⟨xs, hs, l⟩ := rg1.sq h1
  exact ⟨p, rfl, ⟨xs, hs⟩, k _ _ _ _ _ x1 rg1 itok_list q1⟩⟩⟩
theorem di_tup (h : DE X a ta) : DI X tg a (iTp ta) := ⟨piW (pi_tup h.pe) fun σ H R ⟨e, g, Rd, re, rg, q, k⟩ => ⟨e, g, _, re, rg, q, fun v d H1 g1 x1 rg1 r1 q1 => by
  obtain ⟨ds, rfl, q1⟩ := q1
  cases r1 with
  | tup hs l => exact ⟨_, rfl, ⟨_, tq hs⟩, k _ _ _ _ _ x1 rg1 (itok_tup (tq hs) l) q1⟩⟩⟩
theorem di_str (h : DE X a ta) : DI X tg a (iSt ta) := ⟨piW (pi_str h.pe) fun σ H R ⟨e, g, Rd, re, rg, q, k⟩ => ⟨e, g, _, re, rg, q, fun v d H1 g1 x1 rg1 r1 q1 => by
  obtain ⟨z, rfl, q1⟩ := q1
  cases r1
  exact ⟨z, rfl, k _ _ _ _ _ x1 rg1 itok_str q1⟩⟩⟩
theorem PI.or {w w' : TI} (h : PI X tg a w) (h' : PI X tg a w') : PI X tg a (fun σ H R => w σ H R ∨ w' σ H R) := ⟨fun pins s σ H R I q => q.elim (h.run pins s σ H R I) (h'.run pins s σ H R I)⟩
theorem DI.or {w w' : DTI} (h : DI X tg a w) (h' : DI X tg a w') : DI X tg a (fun e g R => w e g R ∨ w' e g R) := ⟨piW (PI.or h.pi h'.pi) fun σ H R ⟨e, g, Rd, re, rg, q, k⟩ =>
  q.elim (fun q => .inl ⟨e, g, Rd, re, rg, q, k⟩) fun q => .inr ⟨e, g, Rd, re, rg, q, k⟩⟩
/-- any of the three -/
def iAny (ta : DTE) : DTI := fun e g R => iLs ta e g R ∨ iTp ta e g R ∨ iSt ta e g R
theorem di_any (h : DE X a ta) : DI X tg a (iAny ta) := (di_list h).or ((di_tup h).or (di_str h))
theorem PE.or {t t' : TE} (h : PE X a t) (h' : PE X a t') : PE X a (fun σ H R => t σ H R ∨ t' σ H R) := ⟨fun pins s σ H R I q => q.elim (h.run pins s σ H R I) (h'.run pins s σ H R I)⟩
theorem DE.or (h : DE X a ta) (h' : DE X a tb) : DE X a (fun e g R => ta e g R ∨ tb e g R) := ⟨peW (PE.or h.pe h'.pe) fun σ H R ⟨e, g, Rd, re, rg, q, k⟩ =>
  q.elim (fun q => .inl ⟨e, g, Rd, re, rg, q, k⟩) fun q => .inr ⟨e, g, Rd, re, rg, q, k⟩⟩
def iRa1 (ta : DTE) : DTI := fun e g R => ta e g fun x g1 => ∃ j : Int, x = .int j ∧ -(2 ^ 62) ≤ j ∧ j < 2 ^ 62 ∧ R (ran 0 j.toNat) (fun _ => True) g1
def iRa2 (ta tb : DTE) : DTI := fun e g R => ta e g fun x g1 => tb e g1 fun y g2 => ∃ i j : Int, x = .int i ∧ y = .int j ∧ (-(2 ^ 62) ≤ i ∧ i < 2 ^ 62 ∧ -(2 ^ 62) ≤ j ∧ j < 2 ^ 62) ∧ R (ran i (j - i).toNat) (fun _ => True) g2
theorem di_range1 {p : Pos} (hg : Gl X "range") (hm : X.mg "range" = none) (ha : DE X a ta) (hs : starEach [a] X.env = [(false, eval a X.env)] := by rfl) : DI X tg (.Call (.Name "range" p) [a] [] pos) (iRa1 ta) :=
  ⟨piW (pi_range1 hg hm (pa_cons ha.pe pa_nil hs) hs) fun σ H R ⟨e, g, Rd, re, rg, q, k⟩ => ⟨e, g, _, re, rg, q, fun v d H1 g1 x1 rg1 r1 q1 => by
    obtain ⟨j, rfl, b1, b2, q1⟩ := q1
    cases r1
    exact ⟨j, rfl, b1, b2, k _ _ _ _ _ x1 rg1 itok_ran q1⟩⟩⟩
theorem di_range2 {p : Pos} (hg : Gl X "range") (hm : X.mg "range" = none) (ha : DE X a ta) (hb : DE X b tb) (hs : starEach [a, b] X.env = [(false, eval a X.env), (false, eval b X.env)] := by rfl) (hs2 : starEach [b] X.env = [(false, eval b X.env)] := by rfl) : DI X tg (.Call (.Name "range" p) [a, b] [] pos) (iRa2 ta tb) :=
  ⟨piW (pi_range2 hg hm (pa_cons ha.pe (pa_cons hb.pe pa_nil hs2) (by rw [hs, hs2])) hs hs2) fun σ H R ⟨e, g, Rd, re, rg, q, k⟩ => ⟨e, g, _, re, rg, q, fun v d H1 g1 x1 rg1 r1 q1 => ⟨e, g1, _, re.mono x1, rg1, q1, fun v2 d2 H2 g2 x2 rg2 r2 q2 => by
    obtain ⟨i, j, rfl, rfl, hb, q2⟩ := q2
    cases r1
    cases r2
    exact ⟨i, j, rfl, hb, k _ _ _ _ _ (x1.trans x2) rg2 itok_ran q2⟩⟩⟩⟩
/-- reversed(list) -/
def iRev (ta : DTE) : DTI := fun e g R => ta e g fun x g1 => ∃ p ds, x = .ref p ∧ rdL g1 p ds ∧ R ds.reverse (fun g => rdL g p ds) g1
theorem itok_rev {p : Addr} {ds : List D} : ItOk K H (Itv K p ds.length) ds.reverse fun g => rdL g p ds := fun i H1 g x rg hk => by
  obtain ⟨xs, hs, l⟩ := rg.sq hk
  refine ⟨fun e => ?_, fun d hd => ?_⟩
  · rw [List.length_reverse] at e
    exact Nat.le_of_eq e.symm
  · have hi : i < ds.length := by
      have := (List.getElem?_eq_some_iff.mp hd).1
      rwa [List.length_reverse] at this
    rw [List.getElem?_reverse hi] at hd
    obtain ⟨v, hv, r⟩ := l.get hd
    refine ⟨⟨hi, xs, v, hs, hv⟩, fun y H2 ⟨e, f⟩ => ?_⟩
    subst e
    have e2 := f xs hs
    rw [hv] at e2
    cases e2
    exact ⟨.refl _, rg, r⟩
theorem di_rev {p : Pos} (hg : Gl X "reversed") (hm : X.mg "reversed" = none) (ha : DE X a ta) (hs : starEach [a] X.env = [(false, eval a X.env)] := by rfl) : DI X tg (.Call (.Name "reversed" p) [a] [] pos) (DL.iRev ta) :=
  ⟨piW (pi_reversed hg hm (pa_cons ha.pe pa_nil hs) hs) fun σ H R ⟨e, g, Rd, re, rg, q, k⟩ => ⟨e, g, _, re, rg, q, fun v d H1 g1 x1 rg1 r1 q1 => by
    obtain ⟨p, ds, rfl, h1, q1⟩ := q1
    cases r1
    obtain ⟨xs, hs, l⟩ := rg1.sq h1
    have := k _ _ _ _ _ x1 rg1 itok_rev q1
    rw [← l.length] at this
    exact ⟨p, xs, rfl, hs, this⟩⟩⟩
/-! ### for -/
def dFor (it : DTI) (tg : DTG) (tb : DTS) : DTS := fun D e g => it e g fun ds keep g1 => ∃ Iv : Nat → EV → GS → Prop, Iv 0 e g1 ∧ (∀ i e' g', i ≤ ds.length → Iv i e' g' → keep g') ∧
  (∀ i d e' g', ds[i]? = some d → Iv i e' g' → tg d e' g' fun e2 g2 => tb { D with nx := Iv (i + 1), ct := Iv (i + 1), bk := D.nx } e2 g2) ∧ ∀ e' g', Iv ds.length e' g' → D.nx e' g'
theorem ds_for {T : DTS} {I : DTI} {G : DTG} {body : List Stmt} (hp : PassesOwn (model X.prog X.w) X.A X.env X.xe) (hc : X.calm = true) (hi : DI X tg iter I) (hg : DG X tg G) (hb : DSs X body T)
    (hs : ∀ x, foldedSetIterable iter X.env x = pure x := by intro _; rfl) : DS X (.For tg iter body [] pos) (dFor I G T) := ⟨psW (ps_for hp hc hi.pi hg.pg hb.pss hs) fun D σ H ⟨e, g, Dd, re, rg, q, k1, k2, k3, k4⟩ => by
  refine ⟨e, g, _, re, rg, q, fun ds keep J H1 g1 x1 rg1 ok ⟨Iv, i0, hk, step, done⟩ => ?_⟩
  refine ⟨fun i m σ' H' => m = ds.length - i ∧ i ≤ ds.length ∧ ∃ e' g', Ext H1 H' ∧ RepE X.K H' σ' e' ∧ RepG X.K H' g' ∧ Iv i e' g', ⟨ds.length, by omega, Nat.zero_le _, e, g1, .refl _, re.mono x1, rg1, i0⟩, ?_⟩
  rintro i m σ' H' ⟨rfl, hi, e', g', x2, re2, rg2, iv⟩
  have o := ok i H' g' x2 rg2 (hk i e' g' hi iv)
  by_cases hlt : i < ds.length
  · refine .inr ?_
    have hd : ds[i]? = some ds[i] := List.getElem?_eq_getElem hlt
    obtain ⟨go, yl⟩ := o.2 _ hd
    refine ⟨go, fun σ' H' => ∃ e' g', Ext H1 H' ∧ RepE X.K H' σ' e' ∧ RepG X.K H' g' ∧ Iv (i + 1) e' g', fun σ3 H3 ⟨e3, g3, a1, a2, a3, a4⟩ => ⟨ds.length - (i + 1), by omega, rfl, hlt, e3, g3, a1, a2, a3, a4⟩, fun x H2 y => ?_⟩
    obtain ⟨x3, rg3, r3⟩ := yl x H2 y
    refine ⟨ds[i], e', g', _, r3, re2.mono x3, rg3, step i ds[i] e' g' hd iv, fun σ4 H4 e4 g4 x4 re4 rg4 q4 => ?_⟩
    have xx : Ext H H4 := ((x1.trans x2).trans x3).trans x4
    have kn : KS X.K H4 (Iv (i + 1)) (fun σ' H' => ∃ e' g', Ext H1 H' ∧ RepE X.K H' σ' e' ∧ RepG X.K H' g' ∧ Iv (i + 1) e' g') := fun σ5 H5 e5 g5 x5 re5 rg5 q5 => ⟨e5, g5, ((x2.trans x3).trans x4).trans x5, re5, rg5, q5⟩
    exact ⟨e4, g4, _, re4, rg4, q4, kn, k2.mono xx, k1.mono xx, kn⟩
  · have e0 : i = ds.length := by omega
    subst e0
    exact .inl ⟨o.1 rfl, (k1.mono (x1.trans x2)).fin re2 rg2 (done e' g' iv)⟩⟩
/-! ### list comprehensions: one name, one clause -/
structure DTs (X : Cx) (ifs : List Expr) (T : DTT) : Prop where
  pts : PTs X ifs (lT X.K T)
theorem ptsW {ifs : List Expr} {t t' : TT} (h : PTs X ifs t) (w : ∀ σ H Q, t' σ H Q → t σ H Q) : PTs X ifs t' := ⟨fun pins s σ H Q I q => h.run pins s σ H Q I (w σ H Q q)⟩
def dYes : DTT := fun _ g Q => Q true g
theorem dts_nil : DTs X [] dYes := ⟨ptsW pts_nil fun σ H Q ⟨e, g, Qd, re, rg, q, k⟩ => k _ _ _ (.refl H) rg q⟩
theorem dts_one {c : Expr} (h : DT X c tA) : DTs X [c] tA := ⟨pts_one h.pt⟩
def dLc (it : DTI) (j : Nat) (tt : DTT) (te : DTE) : DTE := fun e g Q => it e g fun ds keep g1 => ∀ p, g1 p = none → ∃ Iv : Nat → List D → GS → Prop, Iv 0 [] (gup g1 p (.lst [])) ∧ (∀ i acc g', i ≤ ds.length → Iv i acc g' → keep g') ∧
  (∀ i d acc g', ds[i]? = some d → Iv i acc g' → tt (e.set j (some d)) g' fun b g3 => if b = true then te (e.set j (some d)) g3 fun y g4 => g4 p = some (.lst acc) ∧ acc.length < sizeLine ∧ Iv (i + 1) (acc ++ [y]) (gup g4 p (.lst (acc ++ [y]))) else Iv (i + 1) acc g3) ∧
  ∀ acc g', Iv ds.length acc g' → Q (.ref p) g'
theorem lc_lift {I : DTI} {j : Nat} {σ : L2.St} {H : Hp} {Q : VK} (h : lE K (dLc I j tA te) σ H Q) : tLc (lI K I) (gName j) (lT K tA) (lE K te) [j] σ H Q := by
  obtain ⟨e, g, Qd, re, rg, q, k⟩ := h
  refine ⟨e, g, _, re, rg, q, fun ds keep J H1 g1 x1 rg1 ok f n hn => ?_⟩
  obtain ⟨Iv, i0, hk, step, done⟩ := f n (rg1.free hn)
  refine ⟨fun i m H' => m = ds.length - i ∧ i ≤ ds.length ∧ ∃ acc g', Ext H1 H' ∧ RepG K H' g' ∧ Iv i acc g', ⟨ds.length, by omega, Nat.zero_le _, [], _, .new hn, rg1.laidL hn .nil, i0⟩, ?_⟩
  rintro i m H' ⟨rfl, hi, acc, g', x2, rg2, iv⟩
  have o := ok i H' g' x2 rg2 (hk i acc g' hi iv)
  by_cases hlt : i < ds.length
  · refine .inr ?_
    have hd : ds[i]? = some ds[i] := List.getElem?_eq_getElem hlt
    obtain ⟨go, yl⟩ := o.2 _ hd
    refine ⟨go, fun H' => ∃ acc g', Ext H1 H' ∧ RepG K H' g' ∧ Iv (i + 1) acc g', fun H3 ⟨e3, g3, a1, a2, a3⟩ => ⟨ds.length - (i + 1), by omega, rfl, hlt, e3, g3, a1, a2, a3⟩, fun x H2 y => ?_⟩
    obtain ⟨x3, rg3, r3⟩ := yl x H2 y
    have re3 : RepE K H2 ((wipe σ [j]).set j (some x)) (e.set j (some ds[i])) := by
      have e0 : (wipe σ [j]).set j (some x) = σ.set j (some x) := by
        show (σ.set j none).set j (some x) = _
        rw [List.set_set]
      rw [e0]
      exact (re.mono ((x1.trans x2).trans x3)).set r3 j
    refine ⟨?_, _, _, _, re3, rg3, step i ds[i] acc g' hd iv, fun b H4 g4 x4 rg4 q4 => ?_⟩
    · show ((σ.set j none).set j (some x)).set j none = σ.set j none
      rw [List.set_set, List.set_set]
    · have xx : Ext H1 H4 := (x2.trans x3).trans x4
      cases b with
      | false => exact ⟨acc, g4, xx, rg4, q4⟩
      | true =>
        rw [if_pos rfl] at q4
        show lE K te _ H4 _
        refine ⟨_, _, _, re3.mono x4, rg4, q4, fun v d H5 g5 x5 rg5 r5 ⟨h1, h2, h3⟩ => ?_⟩
        obtain ⟨ys, e1, l⟩ := rg5.lst h1
        exact ⟨ys, e1, by rw [l.length]; exact h2, acc ++ [d], _, (xx.trans x5).trans (.lst e1), rg5.setL e1 (l.app (.cons r5 .nil)), h3⟩
  · have e0 : i = ds.length := by omega
    subst e0
    exact .inl ⟨o.1 rfl, k _ _ _ _ (x1.trans x2) rg2 (.ref n) (done acc g' iv)⟩
theorem de_lc {x : Str} {j : Nat} {ifs : List Expr} {scope : Scope} {I : DTI} (hc : X.calm = true) (hN : X.N.Nodup) (hi : DI X tg iter I) (ok : BlkOk X.N X.env.scope scope [(x, j)])
    (hg : ∀ (s : Shared) (H : Hp) (C : Addr) (cl : List (Str × Addr)) (fp : List Addr), PG (X.blk s H scope (compEnvC scope cl C X.env) fp) tg (gName j)) (ht : ∀ (s : Shared) (H : Hp) (C : Addr) (cl : List (Str × Addr)) (fp : List Addr), DTs (X.blk s H scope (compEnvC scope cl C X.env) fp) ifs tA)
    (he : ∀ (s : Shared) (H : Hp) (C : Addr) (cl : List (Str × Addr)) (fp : List Addr), DE (X.blk s H scope (compEnvC scope cl C X.env) fp) elt te) (hs : ∀ x, foldedSetIterable iter X.env x = pure x := by intro _; rfl) :
    DE X (.ListComp elt [⟨tg, iter, ifs, 0⟩] scope pos) (dLc I j tA te) :=
  ⟨peW (pe_lc (own := [(x, j)]) hc hN hi.pi ok hg (fun s H C cl fp => (ht s H C cl fp).pts) (fun s H C cl fp => (he s H C cl fp).pe) hs) fun _ _ _ h => lc_lift h⟩
theorem ds_setLc {x : Str} {j i : Nat} {y : Str} {py spos : Pos} {ifs : List Expr} {scope : Scope} {I : DTI} (hc : X.calm = true) (hN : X.N.Nodup) (hy : X.N[i]? = some y) (hyl : X.env.scope.names.lookup y = some .local)
    (hsw : swapsWith (.ListComp elt [⟨tg, iter, ifs, 0⟩] scope pos) (some (.Name y py)) spos.line X.env = pure true) (hi : DI X tg iter I) (ok : BlkOk X.N X.env.scope scope [(x, j)])
    (hg : ∀ (s : Shared) (H : Hp) (C : Addr) (cl : List (Str × Addr)) (fp : List Addr), PG (X.blk s H scope (compEnvC scope cl C X.env) fp) tg (gName j)) (ht : ∀ (s : Shared) (H : Hp) (C : Addr) (cl : List (Str × Addr)) (fp : List Addr), DTs (X.blk s H scope (compEnvC scope cl C X.env) fp) ifs tA)
    (he : ∀ (s : Shared) (H : Hp) (C : Addr) (cl : List (Str × Addr)) (fp : List Addr), DE (X.blk s H scope (compEnvC scope cl C X.env) fp) elt te) (hs : ∀ x, foldedSetIterable iter X.env x = pure x := by intro _; rfl) :
    DS X (.Assign [.Name y py] (.ListComp elt [⟨tg, iter, ifs, 0⟩] scope pos) spos) (dAsg (dLc I j tA te) (gNm i)) :=
  ⟨psW (ps_setLc (own := [(x, j)]) hc hN hy hyl hsw hi.pi ok hg (fun s H C cl fp => (ht s H C cl fp).pts) (fun s H C cl fp => (he s H C cl fp).pe) hs) fun D σ H ⟨e, g, Dd, re, rg, q, k1, _⟩ => by
    show tLc _ _ _ _ _ σ H fun v H1 => D.nx (σ.set i (some v)) H1
    exact lc_lift ⟨e, g, _, re, rg, q, fun v d H1 g1 x1 rg1 r1 q1 => (k1.mono x1).fin ((re.mono x1).set r1 i) rg1 q1⟩⟩
end
/-! ### a def -/
def dstart (N : List Str) (ds : List D) : EV := ds.map some ++ List.replicate (N.length - ds.length) none
theorem rep_start {K : PySem.W.Frag} {H : Hp} {N : List Str} {vs : List V} {ds : List D} (l : RepL K H vs ds) : RepE K H (L2.start N vs) (dstart N ds) := by
  refine ⟨?_, fun i d h => ?_⟩
  · unfold L2.start dstart
    rw [List.length_append, List.length_append, List.length_map, List.length_map, List.length_replicate, List.length_replicate, l.length]
  · unfold L2.start
    unfold dstart at h
    by_cases hi : i < ds.length
    · rw [List.getElem?_append_left (by rw [List.length_map]; exact hi), List.getElem?_map] at h
      rw [List.getElem?_append_left (by rw [List.length_map, l.length]; exact hi), List.getElem?_map]
      cases hd : ds[i]? with
      | none => rw [hd] at h; cases h
      | some x =>
        rw [hd] at h
        cases h
        obtain ⟨v, hv, r⟩ := l.get hd
        exact ⟨v, by rw [hv]; rfl, r⟩
    · rw [List.getElem?_append_right (by rw [List.length_map]; omega), List.getElem?_replicate] at h
      split at h <;> cases h
section
variable {P : Program} {w : World} {K : PySem.W.Frag} {mg : Str → Option Value} {base : Heap}
theorem okD {x qual : Str} {st : Stmt} {f : Addr} {fd : FuncData} {N ps : List Str} {k : Nat} {sp : DSp} (F : Fun K x qual st f fd) (S : FnScope N ps (defScope st)) (hl : ∀ ds g Q, sp ds g Q → ds.length = ps.length)
    {T : DTS} (hrd : ∀ ds g Q, sp ds g Q → T { nx := fun _ g => Q .non g, rt := Q } (dstart N ds) g)
    (hbody : ∀ (cdv : Value) (A : Around) (outer : List Env) (s : Shared) (H : Hp) (E : XK), Room k (A.deeper (envOfC qual (defScope st) s.heap.objs.size f cdv)) →
      DSs (cxOf CX0 P w K mg base N qual (defScope st) f cdv A outer s H E).nox (defBody st) T) : FnOk P w K mg base CX0 (k + 1) f fd ps (lSp K sp) := by
  refine F.ok S (fun vs H Q E h => ?_) (fun cdv A outer s H vs Q E hr h => ?_)
  · obtain ⟨ds, g, Qd, l, _, q, _⟩ := h
    rw [l.length]
    exact hl ds g Qd q
  · obtain ⟨ds, g, Qd, l, rg, q, kk⟩ := h
    refine ⟨_, (hbody cdv A outer s H E hr).pss, dstart N ds, g, _, rep_start l, rg, hrd ds g Qd q, fun σ' H' e' g' x1 _ rg1 q1 => kk _ _ H' g' x1 rg1 .non q1, kk, fun _ _ _ _ _ _ _ z => z.elim, fun _ _ _ _ _ _ _ z => z.elim⟩
end
end DL

namespace DL
open PySem PySem.Spec PyProof.Rows L2
theorem u65 {k : Nat} {A : Around} (r : Room k A) : A.units + 65 < cLine := by have := r.un; omega
/-! ### steps of a reading -/
section
variable {e : EV} {g : GS} {Q : DK} {D : DEnds} {T U : DTS} {ta tb tc te : DTE} {tA tB : DTT} {t : DTA} {i j : Nat} {d x y : DL.D} {QA : List DL.D → GS → Prop} {QB : Bool → GS → Prop} {QS : EV → GS → Prop} {QO : Option Int → GS → Prop}
theorem s_seq (h : T { D with nx := U D } e g) : dSeq T U D e g := ⟨U D, h, fun _ _ q => q⟩
theorem s_cut (M : EV → GS → Prop) (h : T { D with nx := M } e g) (k : ∀ e' g', M e' g' → U D e' g') : dSeq T U D e g := ⟨M, h, k⟩
theorem s_next (h : D.nx e g) : dNext D e g := h
theorem s_asg {tg : DTG} (h : te e g fun d g1 => tg d e g1 D.nx) : dAsg te tg D e g := h
theorem s_nm (h : QS (e.set i (some d)) g) : gNm i d e g QS := h
theorem s_var (h : ∃ d, look e i = some d ∧ Q d g) : dVar i e g Q := h
theorem s_c (h : Q d g) : dC d e g Q := h
theorem s_op {r : DR2} (h : ta e g fun x g1 => tb e g1 fun y g2 => r x y g2 Q) : dOp r ta tb e g Q := h
theorem s_un {r : DL.D → GS → DK → Prop} (h : ta e g fun x g1 => r x g1 Q) : dUn r ta e g Q := h
theorem s_nil (h : QA [] g) : dNil e g QA := h
theorem s_cons (h : ta e g fun x g1 => t e g1 fun xs g2 => QA (x :: xs) g2) : dCons ta t e g QA := h
theorem s_cb {r : DRC} (h : t e g fun xs g1 => r xs g1 Q) : dCB r t e g Q := h
theorem s_call {sp : DSp} {dds : List DL.D} (h : t e g fun ds g1 => sp (ds ++ dds) g1 Q) : dCall sp dds t e g Q := h
theorem s_tup (h : t e g fun xs g1 => xs.length ≤ sizeLine ∧ Q (.tup xs) g1) : dTup t e g Q := h
theorem s_lst (h : t e g fun xs g1 => xs.length ≤ sizeLine ∧ ∀ p, g1 p = none → Q (.ref p) (gup g1 p (.lst xs))) : dLst t e g Q := h
theorem s_bm {T : String} {r : DRM} (h : ta e g fun x g1 => rcv T x g1 ∧ t e g1 fun ys g2 => r x ys g2 Q) : dBM T r ta t e g Q := h
theorem s_bm0 {T : String} {r : DRM} (h : ta e g fun x g1 => rcv T x g1 ∧ r x [] g1 Q) : dBM0 T r ta e g Q := h
theorem s_drop (h : te e g fun _ g1 => D.nx e g1) : dDrop te D e g := h
theorem s_ret (h : te e g D.rt) : dRet te D e g := h
theorem s_retN (h : D.rt .non g) : dRetN D e g := h
theorem s_brk (h : D.bk e g) : dBreak D e g := h
theorem s_ct (h : D.ct e g) : dCont D e g := h
theorem s_if {c : DTT} (h : c e g fun b g1 => if b = true then T D e g1 else U D e g1) : dIf c T U D e g := h
theorem s_test (h : ta e g fun d g' => ∃ k, d = .bl k ∧ QB k g') : dTest ta e g QB := h
theorem s_and (h : tA e g fun c g1 => if c = true then tB e g1 QB else QB false g1) : dAnd tA tB e g QB := h
theorem s_or (h : tA e g fun c g1 => if c = true then QB true g1 else tB e g1 QB) : dOr tA tB e g QB := h
theorem s_not (h : tA e g fun c g1 => QB (!c) g1) : dNot tA e g QB := h
theorem s_tru (h : ta e g fun d g1 => ∃ k, truD g1 k d ∧ QB k g1) : dTru ta e g QB := h
theorem s_yes (h : QB true g) : dYes e g QB := h
theorem s_andV (h : ta e g fun x g1 => ∃ c, x = .bl c ∧ if c = true then tb e g1 Q else Q (.bl false) g1) : dAndV ta tb e g Q := h
theorem s_orV (h : ta e g fun x g1 => ∃ c, x = .bl c ∧ if c = true then Q (.bl true) g1 else tb e g1 Q) : dOrV ta tb e g Q := h
theorem s_notV (h : ta e g fun x g1 => ∃ c, x = .bl c ∧ Q (.bl (!c)) g1) : dNotV ta e g Q := h
theorem s_ifE (h : tA e g fun c g1 => if c = true then ta e g1 Q else tb e g1 Q) : dIfE tA ta tb e g Q := h
theorem s_isi {T : String} (h : ta e g fun x g1 => ∃ n b, tyD g1 x n ∧ kitB n T = some b ∧ Q (.bl b) g1) : dIsi T ta e g Q := h
theorem s_sl {l h' : DTO} (h : ta e g fun x g1 => l e g1 fun lo g2 => h' e g2 fun hi g3 => slD x lo hi g3 Q) : dSl ta l h' e g Q := h
theorem s_no (h : QO none g) : dNo e g QO := h
theorem s_part (h : ta e g fun x g1 => ∃ i, x = .int i ∧ QO (some i) g1) : dPart ta e g QO := h
theorem s_sb {v : DL.D} {to ti : DTE} (h : to e g fun o g1 => ti e g1 fun i g2 => setD o i v g2 fun g3 => QS e g3) : gSb to ti v e g QS := h
theorem s_gtp {n : Nat} {ds : List DL.D} {tgs : DTGs} (hn : ds.length = n) (h : tgs ds e g QS) : gTp n tgs (.tup ds) e g QS := ⟨hn, h⟩
theorem s_gtpL {n : Nat} {p : Addr} {ds : List DL.D} {tgs : DTGs} (hp : g p = some (.lst ds)) (hn : ds.length = n) (h : tgs ds e g QS) : gTp n tgs (.ref p) e g QS := ⟨ds, .inl hp, hn, h⟩
theorem s_gcons {r : List DL.D} {tg : DTG} {u : DTGs} (h : tg d e g fun e1 g1 => u r e1 g1 QS) : gsCons tg u (d :: r) e g QS := ⟨d, r, rfl, h⟩
theorem s_gnil (h : QS e g) : gsNil [] e g QS := ⟨rfl, h⟩
theorem s_chain {r r' : DR2} (h : ta e g fun x g1 => tb e g1 fun y g2 => r x y g2 fun z g3 => ∃ k, z = .bl k ∧ (if k = true then tc e g3 fun w g4 => r' y w g4 Q else Q (.bl false) g3)) : dChain r r' ta tb tc e g Q := h
theorem s_for {it : DTI} {tg : DTG} {tb : DTS} (h : it e g fun ds keep g1 => ∃ Iv : Nat → EV → GS → Prop, Iv 0 e g1 ∧ (∀ i e' g', i ≤ ds.length → Iv i e' g' → keep g') ∧
  (∀ i d e' g', ds[i]? = some d → Iv i e' g' → tg d e' g' fun e2 g2 => tb { D with nx := Iv (i + 1), ct := Iv (i + 1), bk := D.nx } e2 g2) ∧ ∀ e' g', Iv ds.length e' g' → D.nx e' g') : dFor it tg tb D e g := h
theorem s_lc {it : DTI} (h : it e g fun ds keep g1 => ∀ p, g1 p = none → ∃ Iv : Nat → List DL.D → GS → Prop, Iv 0 [] (gup g1 p (.lst [])) ∧ (∀ i acc g', i ≤ ds.length → Iv i acc g' → keep g') ∧
  (∀ i d acc g', ds[i]? = some d → Iv i acc g' → tA (e.set j (some d)) g' fun b g3 => if b = true then te (e.set j (some d)) g3 fun y g4 => g4 p = some (.lst acc) ∧ acc.length < sizeLine ∧ Iv (i + 1) (acc ++ [y]) (gup g4 p (.lst (acc ++ [y]))) else Iv (i + 1) acc g3) ∧
  ∀ acc g', Iv ds.length acc g' → Q (.ref p) g') : dLc it j tA te e g Q := h
theorem s_while {c : DTT} {tb : DTS} (W : Nat → EV → GS → Prop) (m : Nat) (h0 : W m e g) (h : ∀ m e g, W m e g →
  c e g fun b g1 => if b = true then ∃ N : EV → GS → Prop, (∀ e' g', N e' g' → ∃ m', m' < m ∧ W m' e' g') ∧ tb { D with nx := N, ct := N, bk := D.nx } e g1 else D.nx e g1) : dWhile c tb D e g := ⟨W, ⟨m, h0⟩, h⟩
section
variable {R : List DL.D → (GS → Prop) → GS → Prop}
theorem s_ra1 (h : ta e g fun x g1 => ∃ j : Int, x = .int j ∧ -(2 ^ 62) ≤ j ∧ j < 2 ^ 62 ∧ R (ran 0 j.toNat) (fun _ => True) g1) : iRa1 ta e g R := h
theorem s_ra2 (h : ta e g fun x g1 => tb e g1 fun y g2 => ∃ i j : Int, x = .int i ∧ y = .int j ∧ (-(2 ^ 62) ≤ i ∧ i < 2 ^ 62 ∧ -(2 ^ 62) ≤ j ∧ j < 2 ^ 62) ∧ R (ran i (j - i).toNat) (fun _ => True) g2) : iRa2 ta tb e g R := h
theorem s_rev (h : ta e g fun x g1 => ∃ p ds, x = .ref p ∧ rdL g1 p ds ∧ R ds.reverse (fun g => rdL g p ds) g1) : DL.iRev ta e g R := h
theorem s_anyL (h : ta e g fun x g1 => ∃ p ds, x = .ref p ∧ rdL g1 p ds ∧ R ds (fun g => rdL g p ds) g1) : iAny ta e g R := .inl h
theorem s_anyT (h : ta e g fun x g1 => ∃ ds, x = .tup ds ∧ R ds (fun _ => True) g1) : iAny ta e g R := .inr (.inl h)
theorem s_anyS (h : ta e g fun x g1 => ∃ z, x = .str z ∧ R (z.cps.toList.map fun c => .str ⟨#[c]⟩) (fun _ => True) g1) : iAny ta e g R := .inr (.inr h)
theorem x_ra1 {P : Int → Prop} {j : Int} (h1 : -4611686018427387904 ≤ j) (h2 : j < 4611686018427387904) (h : P j) : ∃ j' : Int, (DL.D.int j) = .int j' ∧ -(2 ^ 62) ≤ j' ∧ j' < 2 ^ 62 ∧ P j' := ⟨j, rfl, h1, h2, h⟩
theorem x_ra2 {P : Int → Int → Prop} {i j : Int} (h1 : -4611686018427387904 ≤ i) (h2 : i < 4611686018427387904) (h3 : -4611686018427387904 ≤ j) (h4 : j < 4611686018427387904) (h : P i j) : ∃ i' j' : Int, (DL.D.int i) = .int i' ∧ (DL.D.int j) = .int j' ∧ (-(2 ^ 62) ≤ i' ∧ i' < 2 ^ 62 ∧ -(2 ^ 62) ≤ j' ∧ j' < 2 ^ 62) ∧ P i' j' := ⟨i, j, rfl, rfl, ⟨h1, h2, h3, h4⟩, h⟩
theorem x_lst {P : Addr → List DL.D → Prop} {p : Addr} {ds : List DL.D} (hp : g p = some (.lst ds)) (h : P p ds) : ∃ p' ds', (DL.D.ref p) = .ref p' ∧ rdL g p' ds' ∧ P p' ds' := ⟨p, ds, rfl, .inl hp, h⟩
theorem x_lst' {P : Addr → List DL.D → Prop} {p : Addr} (h : ∃ ds, g p = some (.lst ds) ∧ P p ds) : ∃ p' ds', (DL.D.ref p) = .ref p' ∧ rdL g p' ds' ∧ P p' ds' := by
  obtain ⟨ds, a, c⟩ := h
  exact ⟨p, ds, rfl, .inl a, c⟩
theorem x_tp {P : List DL.D → Prop} {ds : List DL.D} (h : P ds) : ∃ ds', (DL.D.tup ds) = .tup ds' ∧ P ds' := ⟨ds, rfl, h⟩
theorem x_st {P : Str → Prop} {z : Str} (h : P z) : ∃ z', (DL.D.str z) = .str z' ∧ P z' := ⟨z, rfl, h⟩
end
/-! ### values -/
theorem x_bl {P : Bool → Prop} {b : Bool} (h : P b) : ∃ k, (DL.D.bl b) = .bl k ∧ P k := ⟨b, rfl, h⟩
theorem x_int {P : Int → Prop} {b : Int} (h : P b) : ∃ k, (DL.D.int b) = .int k ∧ P k := ⟨b, rfl, h⟩
theorem x_sz {xs : List DL.D} {P : Prop} (h : xs.length ≤ 16777216) (h2 : P) : xs.length ≤ sizeLine ∧ P := ⟨by rw [szl]; exact h, h2⟩
theorem x_part {b : Int} (h : QO (some b) g) : ∃ i, (DL.D.int b) = .int i ∧ QO (some i) g := ⟨b, rfl, h⟩
theorem x_tru {P : Bool → Prop} {b : Bool} (h : P b) : ∃ k, truD g k (.bl b) ∧ P k := ⟨b, rfl, h⟩
theorem v_addI {a b : Int} (h : Q (.int (a + b)) g) : addD (.int a) (.int b) g Q := h
theorem v_addS {a b : Str} (hz : a.length + b.length ≤ sizeLine) (h : Q (.str (a ++ b)) g) : addD (.str a) (.str b) g Q := ⟨hz, h⟩
theorem v_addT {a b : List DL.D} (hz : a.length + b.length ≤ sizeLine) (h : Q (.tup (a ++ b)) g) : addD (.tup a) (.tup b) g Q := ⟨hz, h⟩
theorem v_addL {p q : Addr} {a b : List DL.D} (h1 : g p = some (.lst a)) (h2 : g q = some (.lst b)) (hz : a.length + b.length ≤ sizeLine) (h : ∀ r, g r = none → Q (.ref r) (gup g r (.lst (a ++ b)))) : addD (.ref p) (.ref q) g Q := ⟨a, b, h1, h2, hz, h⟩
theorem v_sub {a b : Int} (h : Q (.int (a - b)) g) : subD (.int a) (.int b) g Q := ⟨trivial, h⟩
theorem v_mul {a b : Int} (hc : CMul a b) (h : Q (.int (a * b)) g) : mulD (.int a) (.int b) g Q := ⟨hc, h⟩
theorem v_mulR {a b : Int} (h1 : -18446744073709551616 < b) (h2 : b < 18446744073709551616) (h : Q (.int (a * b)) g) : mulD (.int a) (.int b) g Q := ⟨.inr ⟨h1, h2⟩, h⟩
theorem v_mulL {a b : Int} (h1 : -18446744073709551616 < a) (h2 : a < 18446744073709551616) (h : Q (.int (a * b)) g) : mulD (.int a) (.int b) g Q := ⟨.inl ⟨h1, h2⟩, h⟩
theorem v_mulT {xs : List DL.D} {k : Int} (h0 : xs ≠ []) (h1 : 0 ≤ k) (h2 : k ≤ 1000) (h3 : xs.length ≤ 1000) (h : Q (.tup (List.replicate k.toNat xs).flatten) g) : mulD (.tup xs) (.int k) g Q := ⟨h0, h1, h2, h3, h⟩
theorem v_mod {a b : Int} (hb : 0 < b) (h : Q (.int (a % b)) g) : modD (.int a) (.int b) g Q := ⟨by omega, by
  show Q (.int (a.fmod b)) g
  rw [Int.fmod_eq_emod_of_nonneg _ (by omega)]
  exact h⟩
theorem v_div {a b : Int} (hb : 0 < b) (hb2 : b < 1073741824) (h : Q (.int (a / b)) g) : fdivD (.int a) (.int b) g Q := ⟨⟨by omega, by omega⟩, by
  show Q (.int (a.fdiv b)) g
  rw [Int.fdiv_eq_ediv_of_nonneg _ (by omega)]
  exact h⟩
theorem v_and {a b : Int} (h : Q (.int (Builtin.bitAnd a b)) g) : andD (.int a) (.int b) g Q := ⟨trivial, h⟩
theorem v_pow {a b : Int} (hc : CPow a b) (h : Q (.int (a ^ b.toNat)) g) : powD (.int a) (.int b) g Q := ⟨hc, h⟩
theorem v_shl {a b : Int} (hc : CPow a b) (h : Q (.int (a * 2 ^ b.toNat)) g) : shlD (.int a) (.int b) g Q := ⟨hc, h⟩
theorem v_neg {a : Int} (h : Q (.int (-a)) g) : negD (.int a) g Q := h
theorem v_ltI {a b : Int} (h : Q (.bl (decide (a < b))) g) : ltD (.int a) (.int b) g Q := h
theorem v_leI {a b : Int} (h : Q (.bl (decide (a ≤ b))) g) : leD (.int a) (.int b) g Q := h
theorem v_gtI {a b : Int} (h : Q (.bl (decide (b < a))) g) : gtD (.int a) (.int b) g Q := h
theorem v_geI {a b : Int} (h : Q (.bl (decide (b ≤ a))) g) : geD (.int a) (.int b) g Q := h
theorem v_eqI {a b : Int} (h : Q (.bl (decide (a = b))) g) : eqD (.int a) (.int b) g Q := h
theorem v_eqS {a b : Str} (h : Q (.bl (decide (a = b))) g) : eqD (.str a) (.str b) g Q := h
theorem v_eqB {a b : Bool} (h : Q (.bl (decide (a = b))) g) : eqD (.bl a) (.bl b) g Q := h
theorem v_neI {a b : Int} (h : Q (.bl (!decide (a = b))) g) : neD (.int a) (.int b) g Q := h
theorem v_neS {a b : Str} (h : Q (.bl (!decide (a = b))) g) : neD (.str a) (.str b) g Q := h
theorem v_inS {a b : Str} (h : Q (.bl (inStr a b)) g) : inD (.str a) (.str b) g Q := h
theorem v_in1 {c : Nat} {b : Str} (h : Q (.bl (decide (c ∈ b.cps.toList))) g) : inD (.str ⟨#[c]⟩) (.str b) g Q := by
  show Q (.bl (inStr ⟨#[c]⟩ b)) g
  rw [inStr_one]
  exact h
theorem v_ixT {ds : List DL.D} {i : Int} (ha : atI ds i = some d) (h : Q d g) : ixD (.tup ds) (.int i) g Q := ⟨d, ha, h⟩
theorem v_ixL {ds : List DL.D} {p : Addr} {i : Int} (hp : g p = some (.lst ds)) (ha : atI ds i = some d) (h : Q d g) : ixD (.ref p) (.int i) g Q := ⟨ds, d, .inl hp, ha, h⟩
theorem v_ixR {ds : List DL.D} {p : Addr} {i : Int} (hp : g p = some (.ro ds)) (ha : atI ds i = some d) (h : Q d g) : ixD (.ref p) (.int i) g Q := ⟨ds, d, .inr hp, ha, h⟩
theorem v_ixS {z : Str} {i : Int} {c : Nat} (hz : z.length ≤ sizeLine) (ha : atI z.cps.toList i = some c) (h : Q (.str ⟨#[c]⟩) g) : ixD (.str z) (.int i) g Q := ⟨hz, c, ha, h⟩
theorem v_ixL' {p : Addr} {i : Int} (h : ∃ ds, g p = some (.lst ds) ∧ ∃ d, atI ds i = some d ∧ Q d g) : ixD (.ref p) (.int i) g Q := by
  obtain ⟨ds, a, d, b, c⟩ := h
  exact v_ixL a b c
theorem v_ixT' {ds : List DL.D} {i : Int} (h : ∃ d, atI ds i = some d ∧ Q d g) : ixD (.tup ds) (.int i) g Q := h
theorem v_lenL' {p : Addr} (h : ∃ ds, g p = some (.lst ds) ∧ Q (.int (ds.length : Nat)) g) : lenD [.ref p] g Q := by
  obtain ⟨ds, a, c⟩ := h
  exact ⟨ds, .inl a, c⟩
theorem v_tupL' {p : Addr} (h : ∃ ds, g p = some (.lst ds) ∧ Q (.tup ds) g) : tupF [.ref p] g Q := by
  obtain ⟨ds, a, c⟩ := h
  exact ⟨ds, .inl a, c⟩
theorem v_int {i : Int} (h : Q (.int i) g) : intF [.int i] g Q := h
theorem v_intB {b : Bool} (h : Q (.int (if b then 1 else 0)) g) : intF [.bl b] g Q := h
theorem v_abs {i : Int} (h : Q (.int (if i < 0 then -i else i)) g) : absD [.int i] g Q := ⟨trivial, h⟩
theorem v_str {i : Int} (hz : i.natAbs.log2 < 1920) (h : Q (.str (toString i)) g) : strF [.int i] g Q := ⟨hz, h⟩
theorem v_lenS {z : Str} (hz : z.length ≤ sizeLine) (h : Q (.int (z.length : Nat)) g) : lenD [.str z] g Q := ⟨hz, h⟩
theorem v_lenT {ds : List DL.D} (h : Q (.int (ds.length : Nat)) g) : lenD [.tup ds] g Q := h
theorem v_lenL {ds : List DL.D} {p : Addr} (hp : g p = some (.lst ds)) (h : Q (.int (ds.length : Nat)) g) : lenD [.ref p] g Q := ⟨ds, .inl hp, h⟩
theorem v_lenR {ds : List DL.D} {p : Addr} (hp : g p = some (.ro ds)) (h : Q (.int (ds.length : Nat)) g) : lenD [.ref p] g Q := ⟨ds, .inr hp, h⟩
theorem v_ixK {ds : List DL.D} {i : Int} (ha : atI ds i = some d) (h : Q d g) : ixD (.klst ds) (.int i) g Q := ⟨d, ha, h⟩
theorem v_lenK {ds : List DL.D} (h : Q (.int (ds.length : Nat)) g) : lenD [.klst ds] g Q := h
theorem v_lstK {ds : List DL.D} (h : ∀ p, g p = none → Q (.ref p) (gup g p (.lst ds))) : lstF [.klst ds] g Q := h
theorem v_tupT {ds : List DL.D} (h : Q (.tup ds) g) : tupF [.tup ds] g Q := h
theorem v_tupL {ds : List DL.D} {p : Addr} (hp : g p = some (.lst ds)) (h : Q (.tup ds) g) : tupF [.ref p] g Q := ⟨ds, .inl hp, h⟩
theorem v_lstT {ds : List DL.D} (h : ∀ p, g p = none → Q (.ref p) (gup g p (.lst ds))) : lstF [.tup ds] g Q := h
theorem v_lstL {ds : List DL.D} {p : Addr} (hp : g p = some (.lst ds)) (h : ∀ p, g p = none → Q (.ref p) (gup g p (.lst ds))) : lstF [.ref p] g Q := ⟨ds, .inl hp, h⟩
theorem v_lstR {ds : List DL.D} {p : Addr} (hp : g p = some (.ro ds)) (h : ∀ p, g p = none → Q (.ref p) (gup g p (.lst ds))) : lstF [.ref p] g Q := ⟨ds, .inr hp, h⟩
theorem v_app {p : Addr} {ds : List DL.D} (hp : g p = some (.lst ds)) (hz : ds.length < sizeLine) (h : Q .non (gup g p (.lst (ds ++ [y])))) : rcv "list" (.ref p) g ∧ appD (.ref p) [y] g Q := ⟨⟨rfl, ds, .inl hp⟩, ds, hp, hz, h⟩
theorem v_app' {p : Addr} {ds : List DL.D} (hp : g p = some (.lst ds)) (hz : ds.length < sizeLine) (h : Q .non (gup g p (.lst (ds ++ [y])))) : appD (.ref p) [y] g Q := ⟨ds, hp, hz, h⟩
theorem v_rcvL {p : Addr} {ds : List DL.D} {P : Prop} (hp : g p = some (.lst ds)) (h : P) : rcv "list" (.ref p) g ∧ P := ⟨⟨rfl, ds, .inl hp⟩, h⟩
theorem v_rcvS {z : Str} {P : Prop} (h : P) : rcv "str" (.str z) g ∧ P := ⟨rfl, h⟩
theorem v_set {p : Addr} {k : Int} {ds : List DL.D} {j : Nat} {v : DL.D} {R : GS → Prop} (hp : g p = some (.lst ds)) (hj : ixN ds.length k = some j) (h : R (gup g p (.lst (ds.set j v)))) : setD (.ref p) (.int k) v g R := ⟨ds, j, hp, hj, h⟩
theorem v_isN (h : Q (.bl true) g) : isND .non .non g Q := ⟨rfl, h⟩
theorem iteD {P A B : Prop} [Decidable P] (h1 : P → A) (h2 : ¬ P → B) : if decide P = true then A else B := by
  by_cases h : P
  · rw [if_pos (decide_eq_true h)]; exact h1 h
  · rw [if_neg (by simpa using h)]; exact h2 h
theorem iteN {P A B : Prop} [Decidable P] (h1 : ¬ P → A) (h2 : P → B) : if (!decide P) = true then A else B := by
  by_cases h : P
  · rw [if_neg (by simpa using h)]; exact h2 h
  · rw [if_pos (by simpa using h)]; exact h1 h
theorem iteB {b : Bool} {A B : Prop} (h1 : b = true → A) (h2 : b = false → B) : if b = true then A else B := by
  cases b with
  | true => exact h1 rfl
  | false => exact h2 rfl
theorem iteNB {b : Bool} {A B : Prop} (h1 : b = false → A) (h2 : b = true → B) : if (!b) = true then A else B := by
  cases b with
  | true => exact h2 rfl
  | false => exact h1 rfl
end
theorem atI_ex {α : Type} {xs : List α} {i : Int} (h0 : 0 ≤ i) (h : i < xs.length) : ∃ x, x ∈ xs ∧ atI xs i = some x := by
  have hl : i.toNat < xs.length := by omega
  refine ⟨xs[i.toNat], List.getElem_mem hl, ?_⟩
  have e := L2.atI_nat (xs := xs) (j := i.toNat) (List.getElem?_eq_getElem hl)
  have e0 : ((i.toNat : Nat) : Int) = i := by omega
  rw [e0] at e
  exact e
theorem atI_map {α β : Type} {f : α → β} {xs : List α} {i : Int} {x : α} (h : atI xs i = some x) : atI (xs.map f) i = some (f x) := by
  unfold atI at h ⊢
  rw [List.length_map]
  cases q : ixN xs.length i with
  | none => rw [q] at h; cases h
  | some j =>
    rw [q] at h
    have h' : xs[j]? = some x := h
    show (xs.map f)[j]? = some (f x)
    rw [List.getElem?_map, h']
    rfl
theorem atI_at {α : Type} {xs : List α} {i : Nat} {x : α} (h : xs[i]? = some x) : atI xs ((0 : Int) + (i : Int)) = some x := by
  rw [Int.zero_add]
  exact L2.atI_nat h
/-! ### what a reading may change -/
def Up (S : List Addr) (g g' : GS) : Prop := (∀ l o, l ∉ S → g l = some o → g' l = some o) ∧ ∀ l, g l ≠ none → g' l ≠ none
section
variable {S : List Addr} {g g' g'' : GS} {p l : Addr} {o : MO}
theorem Up.refl : Up S g g := ⟨fun _ _ _ h => h, fun _ h => h⟩
theorem Up.trans (a : Up S g g') (b : Up S g' g'') : Up S g g'' := ⟨fun l o n h => b.1 l o n (a.1 l o n h), fun l h => b.2 l (a.2 l h)⟩
theorem gup_some {m : MO} (h : g p ≠ none) (l : Addr) : gup g l m p ≠ none := by
  unfold gup
  split
  · exact fun z => by cases z
  · exact h
theorem Up.new (h : g p = none) : Up S g (gup g p o) := ⟨fun l m n e => by rw [gup_ne (fun z => by rw [z, h] at e; cases e)]; exact e, fun l e => gup_some e p⟩
theorem Up.mut (a : Up S g g') (h : g p = none) : Up S g (gup g' p o) := ⟨fun l m n e => by rw [gup_ne (fun z => by rw [z, h] at e; cases e)]; exact a.1 l m n e, fun l e => gup_some (a.2 l e) p⟩
theorem Up.ins (a : Up S g g') (h : p ∈ S) : Up S g (gup g' p o) := ⟨fun l m n e => by rw [gup_ne (fun z => n (by rw [z]; exact h))]; exact a.1 l m n e, fun l e => gup_some (a.2 l e) p⟩
theorem Up.sub {S' : List Addr} (a : Up S g g') (h : ∀ x ∈ S, x ∈ S') : Up S' g g' := ⟨fun l o n e => a.1 l o (fun z => n (h l z)) e, a.2⟩
theorem Up.of0 (a : Up [] g g') : Up S g g' := a.sub fun _ z => nomatch z
theorem Up.fresh (a : Up S g g') (h : g' p = none) : g p = none := by
  cases q : g p with
  | none => rfl
  | some o => exact absurd h (a.2 p (by rw [q]; exact fun z => by cases z))
theorem ne_fresh {q : Addr} (h : g p = none) (h' : g q = some o) : p ≠ q := fun z => by rw [z, h'] at h; cases h
theorem Up.get0 (a : Up [] g g') (h : g l = some o) : g' l = some o := a.1 l o (fun z => nomatch z) h
theorem Up.get1 {q : Addr} (a : Up [q] g g') (n : l ≠ q) (h : g l = some o) : g' l = some o := a.1 l o (fun z => n (List.mem_singleton.mp z)) h
end
theorem bAnd_nn {x y : Int} (hx : 0 ≤ x) (hy : 0 ≤ y) : 0 ≤ Builtin.bitAnd x y := by
  rw [PyProof.Rows.bitAnd_pp hx hy]
  exact Int.natCast_nonneg _
theorem mask_nn (k : Nat) : (0 : Int) ≤ 1 * 2 ^ k - 1 := by
  have h : ∀ k : Nat, (0 : Int) < 2 ^ k := fun k => by
    induction k with
    | zero => decide
    | succ k ih => rw [Int.pow_succ]; omega
  have := h k
  omega
/-! ### the laws' source of draws -/
structure SI where
  L : Addr
  L0 : Addr
  ns : List Int
def Src (s : SI) (g : GS) (m : Nat) : Prop := g s.L0 = some (.lst (s.ns.map D.int)) ∧ (s.L0 ≠ s.L ∧ s.ns.length ≤ 63) ∧ ∃ c big seed n : Int, g s.L = some (.lst [.ref s.L0, .int c, .int big, .int seed, .int n]) ∧ 0 ≤ c ∧ 0 ≤ big ∧ 0 ≤ seed ∧ seed < 2147483647 ∧ 0 ≤ n ∧ n ≤ m
def Go (s : SI) (g g' : GS) (m : Nat) : Prop := Up [s.L] g g' ∧ Src s g' m
section
variable {s : SI} {g g' g'' : GS} {m m' : Nat} {p l : Addr} {o : MO}
theorem Src.up (h : Src s g m) (u : Up [] g g') : Src s g' m := by
  obtain ⟨h1, h2, c, big, seed, n, h3, h4⟩ := h
  exact ⟨u.get0 h1, h2, c, big, seed, n, u.get0 h3, h4⟩
theorem Src.mut (h : Src s g m) (n1 : p ≠ s.L) (n2 : p ≠ s.L0) : Src s (gup g p o) m := by
  obtain ⟨h1, h2, c, big, seed, n, h3, h4⟩ := h
  exact ⟨by rw [gup_ne n2.symm]; exact h1, h2, c, big, seed, n, by rw [gup_ne n1.symm]; exact h3, h4⟩
theorem Src.neL (h : Src s g m) (f : g p = none) : p ≠ s.L := by
  obtain ⟨_, _, _, _, _, _, h3, _⟩ := h
  exact ne_fresh f h3
theorem Src.neL0 (h : Src s g m) (f : g p = none) : p ≠ s.L0 := ne_fresh f h.1
theorem Src.le (h : Src s g m) (k : m ≤ m') : Src s g m' := by
  obtain ⟨h1, h2, c, big, seed, n, h3, h4, h5, h6, h7, h8, h9⟩ := h
  exact ⟨h1, h2, c, big, seed, n, h3, h4, h5, h6, h7, h8, by omega⟩
theorem Go.start (h : Src s g m) : Go s g g m := ⟨.refl, h⟩
theorem Go.new (h : Go s g g' m) (f : g' p = none) : Go s g (gup g' p o) m := ⟨h.1.trans (.new f), h.2.up (.new f)⟩
theorem Go.mut (h : Go s g g' m) (f : g p = none) (h0 : Src s g m') : Go s g (gup g' p o) m := ⟨h.1.mut f, h.2.mut (h0.neL f) (h0.neL0 f)⟩
theorem Go.trans (h : Go s g g' m) (k : Go s g' g'' m') : Go s g g'' m' := ⟨h.1.trans k.1, k.2⟩
theorem Go.get (h : Go s g g' m) (n : l ≠ s.L) (e : g l = some o) : g' l = some o := h.1.get1 n e
theorem Go.le (h : Go s g g' m) (k : m ≤ m') : Go s g g' m' := ⟨h.1, h.2.le k⟩
theorem Go.up (h : Go s g g' m) (u : Up [] g' g'') : Go s g g'' m := ⟨h.1.trans u.of0, h.2.up u⟩
end
end DL

namespace DL
open PySem PySem.Spec PyProof.Rows L2
open TL (tl)
/-! ### texts -/
theorem lenS_le {s : Str} {n : Nat} (h : (tl s).length ≤ n) (hn : n ≤ 16777216) : s.length ≤ sizeLine := by
  rw [szl, TL.len_tl]; omega
theorem len2_le {s t : Str} {n : Nat} (h : (tl s).length + (tl t).length ≤ n) (hn : n ≤ 16777216) : s.length + t.length ≤ sizeLine := by
  rw [szl, TL.len_tl, TL.len_tl]; omega
theorem tl_one (c : Nat) : tl ⟨#[c]⟩ = [c] := rfl
theorem eqP_str (a b : Str) : eqP (.str a) (.str b) = decide (a = b) := by
  unfold eqP
  rw [pd, pd, PyData.eqv, Bool.beq_eq_decide_eq]
theorem eqP_int (a b : Int) : eqP (.int a) (.int b) = decide (a = b) := by
  unfold eqP
  rw [pd, pd, PyData.eqv, Bool.beq_eq_decide_eq]
theorem any_strs (t : Str) : ∀ us : List Str, ((us.map D.str).any fun z => eqP z (.str t)) = decide (t ∈ us)
  | [] => by simp
  | u :: us => by
    rw [List.map_cons, List.any_cons, any_strs t us, eqP_str]
    by_cases h : u = t
    · subst h; simp
    · have h' : ¬ t = u := fun z => h z.symm
      simp [h, h']
theorem any_ints (t : Int) : ∀ us : List Int, ((us.map D.int).any fun z => eqP z (.int t)) = decide (t ∈ us)
  | [] => by simp
  | u :: us => by
    rw [List.map_cons, List.any_cons, any_ints t us, eqP_int]
    by_cases h : u = t
    · subst h; simp
    · have h' : ¬ t = u := fun z => h z.symm
      simp [h, h']
theorem scal_strs (us : List Str) : (us.map D.str).all scalD = true := by simp [scalD]
theorem scal_ints (us : List Int) : (us.map D.int).all scalD = true := by simp [scalD]
section
variable {g : GS} {Q : DK} {p : Addr}
theorem v_inLS {t : Str} {us : List Str} (hp : g p = some (.lst (us.map D.str))) (h : Q (.bl (decide (t ∈ us))) g) : inD (.str t) (.ref p) g Q :=
  ⟨_, .inl hp, .inl ⟨rfl, scal_strs us⟩, by rw [any_strs]; exact h⟩
theorem v_notInLS {t : Str} {us : List Str} (hp : g p = some (.lst (us.map D.str))) (h : Q (.bl (!decide (t ∈ us))) g) : notInD (.str t) (.ref p) g Q := v_inLS hp h
theorem v_inTS {t : Str} {us : List Str} (h : Q (.bl (decide (t ∈ us))) g) : inD (.str t) (.tup (us.map D.str)) g Q := ⟨.inl ⟨rfl, scal_strs us⟩, by rw [any_strs]; exact h⟩
theorem v_notInTS {t : Str} {us : List Str} (h : Q (.bl (!decide (t ∈ us))) g) : notInD (.str t) (.tup (us.map D.str)) g Q := v_inTS h
theorem v_inLI {t : Int} {us : List Int} (hp : g p = some (.lst (us.map D.int))) (h : Q (.bl (decide (t ∈ us))) g) : inD (.int t) (.ref p) g Q :=
  ⟨_, .inl hp, .inl ⟨rfl, scal_ints us⟩, by rw [any_ints]; exact h⟩
theorem v_notInLI {t : Int} {us : List Int} (hp : g p = some (.lst (us.map D.int))) (h : Q (.bl (!decide (t ∈ us))) g) : notInD (.int t) (.ref p) g Q := v_inLI hp h
theorem v_inTI {t : Int} {us : List Int} (h : Q (.bl (decide (t ∈ us))) g) : inD (.int t) (.tup (us.map D.int)) g Q := ⟨.inl ⟨rfl, scal_ints us⟩, by rw [any_ints]; exact h⟩
end
theorem logOk {i : Int} (h : -18446744073709551616 < i ∧ i < 18446744073709551616) : i.natAbs.log2 < 1920 := by
  by_cases e : i.natAbs = 0
  · rw [e]; decide
  · rw [Nat.log2_lt e]
    exact Nat.lt_of_lt_of_le (show i.natAbs < 2 ^ 64 by omega) (Nat.pow_le_pow_right (by decide) (by decide))
theorem tl_toString (k : Nat) : tl (Str.ofString (toString ((k : Nat) : Int))) = TL.numL k := TL.tl_num k
/-- distinct ones within a list -/
theorem nodup_len {α : Type} [DecidableEq α] : ∀ (l m : List α), l.Nodup → (∀ x ∈ l, x ∈ m) → l.length ≤ m.length
  | [], m, _, _ => Nat.zero_le _
  | x :: l, m, h, hs => by
    have hx : x ∈ m := hs x List.mem_cons_self
    rw [List.nodup_cons] at h
    have := nodup_len l (m.erase x) h.2 fun y hy => by
      have ne : y ≠ x := fun e => h.1 (e ▸ hy)
      exact (List.mem_erase_of_ne ne).mpr (hs y (List.mem_cons_of_mem _ hy))
    rw [List.length_erase_of_mem hx] at this
    have pos := List.length_pos_of_mem hx
    rw [List.length_cons]
    omega
theorem nodup_map_on {α β : Type} (f : α → β) : ∀ (l : List α), l.Nodup → (∀ x ∈ l, ∀ y ∈ l, f x = f y → x = y) → (l.map f).Nodup
  | [], _, _ => List.nodup_nil
  | x :: l, h, hi => by
    rw [List.nodup_cons] at h
    rw [List.map_cons, List.nodup_cons]
    refine ⟨fun hm => ?_, nodup_map_on f l h.2 fun a ha b hb => hi a (List.mem_cons_of_mem _ ha) b (List.mem_cons_of_mem _ hb)⟩
    obtain ⟨y, hy, e⟩ := List.mem_map.mp hm
    exact h.1 (hi x List.mem_cons_self y (List.mem_cons_of_mem _ hy) e.symm ▸ hy)
theorem Src.neStr {s : SI} {g : GS} {m : Nat} {U : Addr} {us : List Str} (h : Src s g m) (hU : g U = some (.lst (us.map D.str))) : U ≠ s.L := by
  obtain ⟨_, _, c, big, seed, n, h3, _⟩ := h
  rintro rfl
  rw [h3] at hU
  cases us with
  | nil => cases hU
  | cons u us => cases hU
/-! ### names -/
def low (c : Nat) : Prop := 97 ≤ c ∧ c ≤ 122
def dig (c : Nat) : Prop := 48 ≤ c ∧ c ≤ 57
instance (c : Nat) : Decidable (low c) := inferInstanceAs (Decidable (_ ∧ _))
instance (c : Nat) : Decidable (dig c) := inferInstanceAs (Decidable (_ ∧ _))
/-- a letter, then letters and digits, at most 1 + n of them -/
def NameL (n : Nat) (l : List Nat) : Prop := ∃ c r, l = c :: r ∧ low c ∧ (∀ x ∈ r, low x ∨ dig x) ∧ r.length ≤ n
abbrev NameOk (s : Str) : Prop := NameL 6 (tl s)
theorem NameL.app {n m : Nat} {l l2 : List Nat} (h : NameL n l) (h2 : ∀ x ∈ l2, low x ∨ dig x) (hl : l2.length ≤ m) : NameL (n + m) (l ++ l2) := by
  obtain ⟨c, r, rfl, hc, hr, hn⟩ := h
  refine ⟨c, r ++ l2, rfl, hc, fun x hx => ?_, by rw [List.length_append]; omega⟩
  rcases List.mem_append.mp hx with hx | hx
  · exact hr x hx
  · exact h2 x hx
theorem NameL.mono {n m : Nat} {l : List Nat} (h : NameL n l) (hm : n ≤ m) : NameL m l := by
  obtain ⟨c, r, rfl, hc, hr, hn⟩ := h
  exact ⟨c, r, rfl, hc, hr, by omega⟩
theorem NameL.len {n : Nat} {l : List Nat} (h : NameL n l) : l.length ≤ n + 1 := by
  obtain ⟨c, r, rfl, hc, hr, hn⟩ := h
  rw [List.length_cons]; omega
theorem NameL.all {n : Nat} {l : List Nat} (h : NameL n l) : ∀ x ∈ l, low x ∨ dig x := by
  obtain ⟨c, r, rfl, hc, hr, hn⟩ := h
  intro x hx
  rcases List.mem_cons.mp hx with rfl | hx
  · exact .inl hc
  · exact hr x hx
theorem NameL.ne {n : Nat} {l : List Nat} (h : NameL n l) : l ≠ [] := by
  obtain ⟨c, r, rfl, _⟩ := h
  simp
theorem numL_dig {k : Nat} : ∀ x ∈ TL.numL k, low x ∨ dig x := fun x hx => .inr (TL.numL_digits k x hx)
end DL

namespace DL
open PySem PySem.Spec PyProof.Rows L2
open TL (tl)
section
variable {X : Cx} {id : String}
/-- s.index(t), t stands in s -/
def indexD : DRM := fun x ys g Q => match x, ys with
  | .str a, [.str b] => ∃ (i : Nat) (rest : List Nat), Builtin.Str.occurrences a b 0 a.length 1 = i :: rest ∧ Q (.int (i : Nat)) g
  | _, _ => False
theorem mt_indexD : MtR X "str.index" (lRM X.K indexD) := fun pins s σ H x xs v us Q I rx rs ⟨d, ds, g, Qd, r1, l, rg, q, k⟩ => by
  cases r1 with
  | str a => rcases l with _ | ⟨r1, _ | ⟨r2, l⟩⟩
             · exact q.elim
             · cases r1 with
               | str b =>
                 obtain ⟨i, rest, h, q⟩ := q
                 exact mt_sindex pins s σ H _ _ v us Q I rx rs ⟨a, b, i, rest, rfl, rfl, h, rg.fin k (.int _) q⟩
               | _ => exact q.elim
             · cases r1 <;> exact q.elim
  | _ => exact q.elim
end
/-! ### texts made of signs -/
def mk (l : List Nat) : Str := ⟨l.toArray⟩
theorem tl_mk (l : List Nat) : tl (mk l) = l := rfl
theorem mk_tl (s : Str) : mk (tl s) = s := TL.mk_tl s
theorem mk_inj {a b : List Nat} (h : mk a = mk b) : a = b := by
  have := congrArg tl h
  rwa [tl_mk, tl_mk] at this
theorem mk_app (a b : List Nat) : mk a ++ mk b = mk (a ++ b) := TL.ext_tl (by rw [TL.tl_append, tl_mk, tl_mk, tl_mk])
theorem app_mk (s : Str) (b : List Nat) : s ++ mk b = mk (tl s ++ b) := TL.ext_tl (by rw [TL.tl_append, tl_mk, tl_mk])
theorem mk_one (c : Nat) : (⟨#[c]⟩ : Str) = mk [c] := rfl
theorem joinL_nil : ∀ ps : List (List Nat), TL.joinL [] ps = ps.flatten
  | [] => rfl
  | [p] => by simp [TL.joinL]
  | p :: q :: r => by
    show p ++ ([] ++ TL.joinL [] (q :: r)) = _
    rw [List.nil_append, joinL_nil (q :: r), List.flatten_cons (l := p)]
theorem tl_empty : tl (("" : Str)) = [] := by decide +kernel
theorem join_empty (zs : List Str) : tl (Txt.join "" zs) = (zs.map tl).flatten := by
  rw [TL.join_eq, TL.tl_join, tl_empty, joinL_nil]
/-- signs, each a text -/
def ones (cs : List Nat) : List Str := cs.map fun c => mk [c]
theorem ones_len (cs : List Nat) : ((ones cs).map (·.length)).sum = cs.length := by
  induction cs with
  | nil => rfl
  | cons c cs ih =>
    show (mk [c]).length + ((ones cs).map (·.length)).sum = _
    rw [ih, List.length_cons]
    show 1 + cs.length = _
    omega
theorem ones_join (cs : List Nat) : Txt.join "" (ones cs) = mk cs := TL.ext_tl (by
  rw [join_empty, tl_mk]
  induction cs with
  | nil => rfl
  | cons c cs ih =>
    show (tl (mk [c]) :: (ones cs).map tl).flatten = _
    rw [List.flatten_cons, ih]
    rfl)
theorem ones_get {cs : List Nat} {i : Nat} {c : Nat} (h : cs[i]? = some c) : ((ones cs).map D.str)[i]? = some (.str (mk [c])) := by
  rw [ones, List.getElem?_map, List.getElem?_map, h]
  rfl
/-- the signs of a text, walked -/
theorem walk_get {z : Str} {i : Nat} {d : D} (h : (z.cps.toList.map fun c => D.str ⟨#[c]⟩)[i]? = some d) : ∃ c, (tl z)[i]? = some c ∧ d = .str (mk [c]) := by
  rw [List.getElem?_map] at h
  show ∃ c, z.cps.toList[i]? = some c ∧ _
  cases hc : z.cps.toList[i]? with
  | none => rw [hc] at h; cases h
  | some c =>
    rw [hc] at h
    cases h
    exact ⟨c, rfl, rfl⟩
section
variable {g : GS} {Q : DK} {p : Addr}
theorem v_in1' {c : Nat} {b : Str} (h : Q (.bl (decide (c ∈ tl b))) g) : inD (.str (mk [c])) (.str b) g Q := v_in1 h
theorem v_joinOnes {cs : List Nat} (hp : g p = some (.lst ((ones cs).map D.str))) (hz : cs.length ≤ 16777216) (h : Q (.str (mk cs)) g) : joinD (.str "") [.ref p] g Q :=
  ⟨ones cs, .inl hp, by
    rw [ones_len]
    have : (("" : Str)).length = 0 := by decide +kernel
    rw [this]; omega, by rw [ones_join]; exact h⟩
end
theorem lower_mk {l : List Nat} (h : ∀ c ∈ l, c < 128) : Txt.lower (mk l) = mk (l.map lo1) := by
  rw [lower_ascii (x := mk l) h]
  exact TL.ext_tl (by simp [mk])
theorem upper_mk {l : List Nat} (h : ∀ c ∈ l, c < 128) : Txt.upper (mk l) = mk (l.map up1) := by
  rw [upper_ascii (x := mk l) h]
  exact TL.ext_tl (by simp [mk])
section
variable {g : GS} {Q : DK}
theorem v_lowerM {l : List Nat} (h1 : ∀ c ∈ l, c < 128) (hz : l.length ≤ 5000000) (h : Q (.str (mk (l.map lo1))) g) : lowerD (.str (mk l)) [] g Q := by
  refine ⟨by show (mk l).length ≤ _; rw [TL.len_tl, tl_mk]; omega, ?_⟩
  show Q (.str (Txt.lower (mk l))) g
  rw [lower_mk h1]
  exact h
theorem v_upperM {l : List Nat} (h1 : ∀ c ∈ l, c < 128) (hz : l.length ≤ 5000000) (h : Q (.str (mk (l.map up1))) g) : upperD (.str (mk l)) [] g Q := by
  refine ⟨by show (mk l).length ≤ _; rw [TL.len_tl, tl_mk]; omega, ?_⟩
  show Q (.str (Txt.upper (mk l))) g
  rw [upper_mk h1]
  exact h
theorem v_addM {a b : List Nat} (hz : a.length + b.length ≤ 16777216) (h : Q (.str (mk (a ++ b))) g) : addD (.str (mk a)) (.str (mk b)) g Q := by
  refine v_addS (by rw [szl, TL.len_tl, TL.len_tl, tl_mk, tl_mk]; exact hz) ?_
  rw [mk_app]; exact h
theorem v_lenM {a : List Nat} (hz : a.length ≤ 16777216) (h : Q (.int (a.length : Nat)) g) : lenD [.str (mk a)] g Q := by
  refine v_lenS (by rw [szl, TL.len_tl, tl_mk]; exact hz) ?_
  rw [TL.len_tl, tl_mk]; exact h
theorem v_eqM {a b : List Nat} (h : Q (.bl (decide (a = b))) g) : eqD (.str (mk a)) (.str (mk b)) g Q := by
  refine v_eqS ?_
  have : decide (mk a = mk b) = decide (a = b) := by
    by_cases h : a = b
    · subst h; simp
    · simp only [h, decide_false, decide_eq_false_iff_not]; exact fun z => h (mk_inj z)
  rw [this]; exact h
theorem v_neM {a b : List Nat} (h : Q (.bl (!decide (a = b))) g) : neD (.str (mk a)) (.str (mk b)) g Q := v_eqM (Q := notV Q) h
end
/-- a loop that folds -/
theorem fold_iv {α S : Type} {ds : List DL.D} {keep : GS → Prop} {tg : DTG} {tb : DTS} {D : DEnds} {e : EV} {g1 : GS} (l : List α) (td : α → DL.D) (hl : ds = l.map td) (emb : S → EV → GS → Prop) (f : S → α → S) (s0 : S) (h0 : emb s0 e g1) (hk : ∀ s e g, emb s e g → keep g)
    (step : ∀ done a rest s e' g', l = done ++ a :: rest → s = done.foldl f s0 → emb s e' g' → tg (td a) e' g' fun e2 g2 => tb { D with nx := emb (f s a), ct := emb (f s a), bk := D.nx } e2 g2) (hd : ∀ e' g', emb (l.foldl f s0) e' g' → D.nx e' g') :
    ∃ Iv : Nat → EV → GS → Prop, Iv 0 e g1 ∧ (∀ i e' g', i ≤ ds.length → Iv i e' g' → keep g') ∧ (∀ i d e' g', ds[i]? = some d → Iv i e' g' → tg d e' g' fun e2 g2 => tb { D with nx := Iv (i + 1), ct := Iv (i + 1), bk := D.nx } e2 g2) ∧ ∀ e' g', Iv ds.length e' g' → D.nx e' g' := by
  subst hl
  refine ⟨fun i e g => emb ((l.take i).foldl f s0) e g, h0, fun _ _ _ _ h => hk _ _ _ h, fun i d e' g' hd' h => ?_, fun e' g' h => hd e' g' ?_⟩
  · rw [List.getElem?_map] at hd'
    cases hc : l[i]? with
    | none => rw [hc] at hd'; cases hd'
    | some a =>
      rw [hc] at hd'
      cases hd'
      have hi := (List.getElem?_eq_some_iff.mp hc).1
      have e1 : l = l.take i ++ a :: l.drop (i + 1) := by
        have := List.take_append_drop i l
        rw [List.drop_eq_getElem_cons hi] at this
        rw [(List.getElem?_eq_some_iff.mp hc).2] at this
        exact this.symm
      have := step (l.take i) a _ _ e' g' e1 rfl h
      have e2 : (l.take (i + 1)).foldl f s0 = f ((l.take i).foldl f s0) a := by
        rw [List.take_add_one, hc, List.foldl_append]; rfl
      simp only [e2]
      exact this
  · rw [List.length_map, List.take_of_length_le (Nat.le_refl _)] at h
    exact h
theorem empty_mk : ("" : Str) = mk [] := by decide +kernel
theorem foldl_snoc {α β : Type} (f : β → α → β) (b : β) (l : List α) {i : Nat} {x : α} (h : l[i]? = some x) : (l.take (i + 1)).foldl f b = f ((l.take i).foldl f b) x := by
  rw [List.take_add_one, h, List.foldl_append]
  rfl
/-- the end: the law's promise at the script -/
theorem fin_of {sp : DSp} (h : ∀ (ns : List Int) (g : GS), ns.length ≤ 63 → (∀ a, g a = none) → sp [.klst (ns.map D.int)] g fun d _ => d = .bl true) (K : PySem.W.Frag) (H : Hp) (a : Addr) (ns : List Int) (hn : ns.length ≤ 63) (hO : Only H) (hS : SqL K H a (ns.map V.int)) :
    lSp K sp [.ref a] H (fun v _ => v = .bl true) fun _ _ _ => False := by
  have hF : SqF K H a (ns.map V.int) := by
    rcases hS with (h | h) | h
    · rcases hO a with z | ⟨o, xs, z⟩ <;> rw [z] at h <;> cases h
    · exact .inl h
    · exact .inr h
  refine ⟨[.klst (ns.map D.int)], fun _ => none, fun d _ => d = .bl true, .cons (.kl hF (.ofInts ns)) .nil, (fun _ _ z => nomatch z), h ns _ hn fun _ => rfl, fun v d H' g' _ _ r e => ?_⟩
  subst e
  cases r
  rfl
theorem tl_lit (s : String) : tl (Str.ofString s) = s.toList.map Char.toNat := TL.tl_ofString s
end DL

namespace DL
open PySem PySem.Spec PyProof.Rows L2
/-! ### dicts: keys ints and texts -/
def kD : Key → D
  | .inl i => .int i
  | .inr s => .str s
section
variable {κ : Type} [DecidableEq κ]
def getD (kvs : List (κ × D)) (k : κ) : Option D := (kvs.find? fun kv => decide (kv.1 = k)).map (·.2)
def putD (kvs : List (κ × D)) (k : κ) (v : D) : List (κ × D) :=
  if (kvs.any fun kv => decide (kv.1 = k)) = true then kvs.map (fun kv => if kv.1 = k then (kv.1, v) else kv) else kvs ++ [(k, v)]
def delD (kvs : List (κ × D)) (k : κ) : List (κ × D) := kvs.filter fun kv => decide (kv.1 ≠ k)
def mergeD (kvs more : List (Key × D)) : List (Key × D) := more.foldl (fun acc kv => putD acc kv.1 kv.2) kvs
end
section
variable {κ : Type} [DecidableEq κ] {K : PySem.W.Frag} {H H' : Hp}
theorem RepD.kD {v : V} {k : Key} (r : RepD K H v (DL.kD k)) : v = kV k := by
  cases k <;> (cases r; rfl)
theorem repK (k : Key) : RepD K H (kV k) (DL.kD k) := by
  cases k with
  | inl i => exact .int i
  | inr s => exact .str s
theorem RepKV.get : ∀ {vs : List (κ × V)} {kvs : List (κ × D)} {k : κ}, RepKV K H vs kvs → (getD kvs k = none ∧ valV vs k = none) ∨ ∃ d v, getD kvs k = some d ∧ valV vs k = some v ∧ RepD K H v d
  | _, _, k, .nil => .inl ⟨rfl, rfl⟩
  | (a, v) :: vs, (b, d) :: kvs, k, .cons h t => by
    obtain ⟨h1, h2⟩ := h
    dsimp only at h1 h2
    subst h1
    by_cases e : a = k
    · subst e
      refine .inr ⟨d, v, ?_, ?_, h2⟩ <;> simp [getD, valV]
    · have ih := RepKV.get (k := k) t
      have e1 : getD ((a, d) :: kvs) k = getD kvs k := by simp [getD, List.find?_cons, e]
      have e2 : valV ((a, v) :: vs) k = valV vs k := by simp [valV, List.find?_cons, e]
      rw [e1, e2]
      exact ih
theorem RepKV.any : ∀ {vs : List (κ × V)} {kvs : List (κ × D)} (k : κ), RepKV K H vs kvs → (vs.any fun kv => decide (kv.1 = k)) = (kvs.any fun kv => decide (kv.1 = k))
  | _, _, k, .nil => rfl
  | (a, v) :: vs, (b, d) :: kvs, k, .cons h t => by
    obtain ⟨h1, _⟩ := h
    dsimp only at h1
    subst h1
    rw [List.any_cons, List.any_cons, RepKV.any k t]
theorem RepKV.repl {k : κ} {y : V} {d : D} (r : RepD K H y d) : ∀ {vs : List (κ × V)} {kvs : List (κ × D)}, RepKV K H vs kvs → RepKV K H (vs.map fun kv => if kv.1 = k then (kv.1, y) else kv) (kvs.map fun kv => if kv.1 = k then (kv.1, d) else kv)
  | _, _, .nil => .nil
  | (a, v) :: vs, (b, e) :: kvs, .cons h t => by
    obtain ⟨h1, h2⟩ := h
    dsimp only at h1 h2
    subst h1
    refine .cons ?_ (RepKV.repl r t)
    by_cases e : a = k
    · simp only [e, if_true]; exact ⟨trivial, r⟩
    · simp only [e, if_false]; exact ⟨trivial, h2⟩
theorem RepKV.snoc {k : κ} {y : V} {d : D} (r : RepD K H y d) : ∀ {vs : List (κ × V)} {kvs : List (κ × D)}, RepKV K H vs kvs → RepKV K H (vs ++ [(k, y)]) (kvs ++ [(k, d)])
  | _, _, .nil => .cons ⟨rfl, r⟩ .nil
  | _ :: _, _ :: _, .cons h t => .cons h (RepKV.snoc r t)
theorem RepKV.put {vs : List (κ × V)} {kvs : List (κ × D)} (t : RepKV K H vs kvs) (k : κ) {y : V} {d : D} (r : RepD K H y d) : RepKV K H (putK vs k y) (putD kvs k d) := by
  unfold putK putD
  rw [t.any k]
  split
  · exact t.repl r
  · exact t.snoc r
theorem RepKV.del (k : κ) : ∀ {vs : List (κ × V)} {kvs : List (κ × D)}, RepKV K H vs kvs → RepKV K H (dropK vs k) (delD kvs k)
  | _, _, .nil => .nil
  | (a, v) :: vs, (b, e) :: kvs, .cons h t => by
    obtain ⟨h1, h2⟩ := h
    dsimp only at h1 h2
    subst h1
    unfold dropK delD
    rw [List.filter_cons, List.filter_cons]
    by_cases e : a = k
    · simp only [e, ne_eq, not_true_eq_false, decide_false, Bool.false_eq_true, if_false]; exact RepKV.del k t
    · simp only [ne_eq, e, not_false_eq_true, decide_true, if_true]; exact .cons ⟨rfl, h2⟩ (RepKV.del k t)
theorem RepKV.length {vs : List (κ × V)} {kvs : List (κ × D)} (t : RepKV K H vs kvs) : vs.length = kvs.length := PySem.Paired.length t
theorem RepKV.merge : ∀ {ws : List (Key × V)} {ms : List (Key × D)} {vs : List (Key × V)} {kvs : List (Key × D)}, RepKV K H ws ms → RepKV K H vs kvs → RepKV K H (mergeK vs ws) (mergeD kvs ms)
  | _, _, _, _, .nil, t => t
  | (a, v) :: ws, (b, e) :: ms, vs, kvs, .cons h t, u => by
    obtain ⟨h1, h2⟩ := h
    dsimp only at h1 h2
    subst h1
    have := RepKV.merge (ws := ws) (ms := ms) t (u.put a h2)
    exact this
theorem RepKV.keys : ∀ {vs : List (κ × V)} {kvs : List (κ × D)}, RepKV K H vs kvs → vs.map (·.1) = kvs.map (·.1)
  | _, _, .nil => rfl
  | _ :: _, _ :: _, .cons h t => by rw [List.map_cons, List.map_cons, h.1, RepKV.keys t]
theorem RepG.dct {g : GS} (r : RepG K H g) {p : Addr} {kvs : List (Key × D)} (h : g p = some (.dct kvs)) : ∃ vs, H p = some (.dK vs) ∧ RepKV K H vs kvs := r p _ h
theorem RepG.laidD {g : GS} (r : RepG K H g) {n : Addr} (hn : H n = none) {vs : List (Key × V)} {kvs : List (Key × D)} (l : RepKV K H vs kvs) : RepG K (L2.upd H n (.dK vs)) (gup g n (.dct kvs)) :=
  r.upd (m := .dct kvs) (.new hn) (show ∃ _, _ ∧ _ from ⟨_, upd_same, l.mono (.new hn)⟩)
theorem RepG.setK {g : GS} (r : RepG K H g) {n : Addr} {ys : List (Key × V)} (hn : H n = some (.dK ys)) {vs : List (Key × V)} {kvs : List (Key × D)} (l : RepKV K H vs kvs) : RepG K (L2.upd H n (.dK vs)) (gup g n (.dct kvs)) :=
  r.upd (m := .dct kvs) (.dk hn) (show ∃ _, _ ∧ _ from ⟨_, upd_same, l.mono (.dk hn)⟩)
end
section
variable {X : Cx} {K : PySem.W.Frag} {H H' : Hp} {σ : L2.St} {o i e f value : Expr} {td ty tv tx : DTE} {pos pos' apos cpos : Pos}
def dDNew : DTE := fun _ g Q => ∀ p, g p = none → Q (.ref p) (gup g p (.dct []))
theorem de_dnew : DE X (.Dict [] [] pos) dDNew := ⟨peW pe_dnewK fun σ H Q ⟨e, g, Qd, re, rg, q, k⟩ p hp => k _ _ _ _ (.new hp) (rg.laidD hp .nil) (.ref p) (q p (rg.free hp))⟩
def dPairs : List (DTE × DTE) → EV → GS → (List (D × D) → GS → Prop) → Prop
  | [], _, g, Q => Q [] g
  | (tk, tv) :: r, e, g, Q => tk e g fun x g1 => tv e g1 fun y g2 => dPairs r e g2 fun ps g3 => Q ((x, y) :: ps) g3
/-- a written dict: the pairs, keys ints and texts -/
def dDisp (trs : List (DTE × DTE)) : DTE := fun e g Q => ∀ p, g p = none → dPairs trs e (gup g p (.dct [])) fun ps g2 => g2 p = some (.dct []) ∧ ∃ kvs : List (Key × D), ps = kvs.map (fun kv => (kD kv.1, kv.2)) ∧ kvs.length ≤ 15 ∧ Q (.ref p) (gup g2 p (.dct (mergeD [] kvs)))
structure DPs (X : Cx) (pos : Pos) (keys : List (Option Expr)) (values : List Expr) (trs : List (DTE × DTE)) : Prop where
  pps : PPs X pos keys values (trs.map fun t => (lE X.K t.1, lE X.K t.2))
theorem dps_nil : DPs X pos [] [] [] := ⟨pps_nil⟩
theorem dps_cons {k v : Expr} {ks : List (Option Expr)} {vs : List Expr} {tk tv : DTE} {trs : List (DTE × DTE)} (hk : DE X k tk) (hv : DE X v tv) (hr : DPs X pos ks vs trs) : DPs X pos (some k :: ks) (v :: vs) ((tk, tv) :: trs) := ⟨pps_cons hk.pe hv.pe hr.pps⟩
def RepPs (K : PySem.W.Frag) (H : Hp) : List (V × V) → List (D × D) → Prop := Paired fun p q => RepD K H p.1 q.1 ∧ RepD K H p.2 q.2
theorem lpairs : ∀ (trs : List (DTE × DTE)) {σ : L2.St} {e : EV} {H : Hp} {g : GS} {Qd : List (D × D) → GS → Prop} {Q : List (V × V) → Hp → Prop}, RepE K H σ e → RepG K H g → dPairs trs e g Qd → (∀ vs ds H' g', Ext H H' → RepG K H' g' → RepPs K H' vs ds → Qd ds g' → Q vs H') → tPairs (trs.map fun t => (lE K t.1, lE K t.2)) σ H Q
  | [], _, _, H, g, _, _, re, rg, q, k => k [] [] H g (.refl H) rg .nil q
  | (tk, tv) :: r, σ, e, H, g, Qd, Q, re, rg, q, k => ⟨e, g, _, re, rg, q, fun x dx H1 g1 x1 rg1 r1 q1 => ⟨e, g1, _, re.mono x1, rg1, q1, fun y dy H2 g2 x2 rg2 r2 q2 =>
      lpairs r (re.mono (x1.trans x2)) rg2 q2 fun vs ds H3 g3 x3 rg3 l3 q3 => k _ _ H3 g3 ((x1.trans x2).trans x3) rg3 (.cons ⟨r1.mono (x2.trans x3), r2.mono x3⟩ l3) q3⟩⟩
theorem reps_keys : ∀ {ps : List (V × V)} (kvs : List (Key × D)), RepPs K H ps (kvs.map fun kv => (kD kv.1, kv.2)) → ∃ vs : List (Key × V), ps = vs.map (fun kv => (kV kv.1, kv.2)) ∧ RepKV K H vs kvs
  | _, [], .nil => ⟨[], rfl, .nil⟩
  | (a, v) :: ps, (k, d) :: kvs, .cons h t => by
    obtain ⟨vs, e, r⟩ := reps_keys kvs t
    have e1 := RepD.kD h.1
    dsimp only at e1
    subst e1
    exact ⟨(k, v) :: vs, by rw [e]; rfl, .cons ⟨rfl, h.2⟩ r⟩
theorem de_disp {keys : List (Option Expr)} {values : List Expr} {trs : List (DTE × DTE)} (h : DPs X pos keys values trs) (hall : keys.all (·.isSome) = true) (hl : keys.length = values.length) (h0 : keys ≠ []) (h15 : keys.length ≤ 15) : DE X (.Dict keys values pos) (dDisp trs) :=
  ⟨peW (pe_disp h.pps hall hl h0 h15) fun σ H Q ⟨e, g, Qd, re, rg, q, k⟩ p hp => lpairs trs (re.mono (.new hp)) (rg.laidD hp .nil) (q p (rg.free hp)) fun vs ds H2 g2 x2 rg2 l2 q2 => by
    obtain ⟨h1, kvs, rfl, hz, q2⟩ := q2
    obtain ⟨us, e1, r⟩ := rg2.dct h1
    cases r
    obtain ⟨ws, rfl, rw'⟩ := reps_keys kvs l2
    exact ⟨e1, ws, rfl, by rw [rw'.length]; exact hz, k _ _ _ _ ((Ext.trans (.new hp) x2).trans (.dk e1)) (rg2.setK e1 (rw'.merge .nil)) (.ref p) q2⟩⟩
/-- d[k], k in d .. -/
def dDGet (td ty : DTE) : DTE := fun e g Q => td e g fun x g1 => ty e g1 fun y g2 => ∃ p kvs k v, x = .ref p ∧ g2 p = some (.dct kvs) ∧ y = kD k ∧ getD kvs k = some v ∧ Q v g2
def dDIn (ty td : DTE) : DTE := fun e g Q => ty e g fun y g1 => td e g1 fun x g2 => ∃ p kvs k, x = .ref p ∧ g2 p = some (.dct kvs) ∧ y = kD k ∧ Q (.bl (getD kvs k).isSome) g2
def dDNotIn (ty td : DTE) : DTE := fun e g Q => ty e g fun y g1 => td e g1 fun x g2 => ∃ p kvs k, x = .ref p ∧ g2 p = some (.dct kvs) ∧ y = kD k ∧ Q (.bl (!(getD kvs k).isSome)) g2
theorem de_dget (hu : X.A.units + 1 < cLine) (ho : DE X o td) (hi : DE X i ty) (hs : NoSl i) : DE X (.Subscript o i pos) (dDGet td ty) := ⟨peW (pe_dget hu ho.pe hi.pe hs) fun σ H Q ⟨e, g, Qd, re, rg, q, k⟩ =>
  ⟨e, g, _, re, rg, q, fun x dx H1 g1 x1 rg1 r1 q1 => ⟨e, g1, _, re.mono x1, rg1, q1, fun y dy H2 g2 x2 rg2 r2 q2 => by
    obtain ⟨p, kvs, kk, v, rfl, h, rfl, hv, q2⟩ := q2
    cases r1
    have := r2.kD
    subst this
    obtain ⟨vs, e1, r⟩ := rg2.dct h
    rcases r.get (k := kk) with ⟨z, _⟩ | ⟨d, w, e2, e3, r3⟩
    · rw [z] at hv; cases hv
    · rw [hv] at e2
      cases e2
      exact ⟨p, w, rfl, by rw [← e3]; exact .k e1, k _ _ _ _ (x1.trans x2) rg2 r3 q2⟩⟩⟩⟩
theorem ldin {neg : Bool} {Q : VK} {y x : V} {dx dy : D} {H2 : Hp} {g2 : GS} {Qd : DK} (r1 : RepD K H2 y dy) (r2 : RepD K H2 x dx) (rg2 : RepG K H2 g2) (k : KD K H2 Qd Q) (q : ∃ p kvs kk, dx = .ref p ∧ g2 p = some (.dct kvs) ∧ dy = kD kk ∧ Qd (.bl (if neg then !(getD kvs kk).isSome else (getD kvs kk).isSome)) g2) : ∃ a o, x = .ref a ∧ DGet H2 a y o ∧ Q (.bl (if neg then !o.isSome else o.isSome)) H2 := by
  obtain ⟨p, kvs, kk, rfl, h, rfl, q⟩ := q
  cases r2
  have := r1.kD
  subst this
  obtain ⟨vs, e1, r⟩ := rg2.dct h
  refine ⟨p, valV vs kk, rfl, .k e1, ?_⟩
  have e : (valV vs kk).isSome = (getD kvs kk).isSome := by
    rcases r.get (k := kk) with ⟨z, z2⟩ | ⟨d, w, e2, e3, r3⟩
    · rw [z, z2]; rfl
    · rw [e2, e3]; rfl
  rw [e]
  exact rg2.fin k (.bl _) q
theorem de_din (hu : X.A.units + 1 < cLine) (hi : DE X i ty) (ho : DE X o td) (hm : behindInMarks .In o = false) : DE X (.Compare i [.In] [o] pos) (dDIn ty td) := ⟨peW (pe_cmp (pc_din hu hi.pe ho.pe) hm) fun σ H Q ⟨e, g, Qd, re, rg, q, k⟩ =>
  ⟨e, g, _, re, rg, q, fun y dy H1 g1 x1 rg1 r1 q1 => ⟨e, g1, _, re.mono x1, rg1, q1, fun x dx H2 g2 x2 rg2 r2 q2 => ldin (neg := false) (r1.mono x2) r2 rg2 (k.mono (x1.trans x2)) q2⟩⟩⟩
theorem de_dnotin (hu : X.A.units + 1 < cLine) (hi : DE X i ty) (ho : DE X o td) (hm : behindInMarks .NotIn o = false) : DE X (.Compare i [.NotIn] [o] pos) (dDNotIn ty td) := ⟨peW (pe_cmp (pc_dnotin hu hi.pe ho.pe) hm) fun σ H Q ⟨e, g, Qd, re, rg, q, k⟩ =>
  ⟨e, g, _, re, rg, q, fun y dy H1 g1 x1 rg1 r1 q1 => ⟨e, g1, _, re.mono x1, rg1, q1, fun x dx H2 g2 x2 rg2 r2 q2 => ldin (neg := true) (r1.mono x2) r2 rg2 (k.mono (x1.trans x2)) q2⟩⟩⟩
theorem tB_lift {t : DTE} {T : TE} {Q : Bool → Hp → Prop} (w : ∀ σ H Q, lE K t σ H Q → T σ H Q) (h : lT K (dTest t) σ H Q) : tB T σ H Q := w _ _ _ (by
  obtain ⟨e, g, Qd, re, rg, q, k⟩ := h
  refine ⟨e, g, _, re, rg, q, fun x d H1 g1 x1 rg1 rx q1 => ?_⟩
  obtain ⟨b, rfl, q1⟩ := q1
  cases rx
  exact ⟨b, rfl, k _ _ _ x1 rg1 q1⟩)
theorem dt_din (hu : X.A.units + 1 < cLine) (hi : DE X i ty) (ho : DE X o td) (hm : behindInMarks .In o = false) : DT X (.Compare i [.In] [o] pos) (dTest (dDIn ty td)) := ⟨ptW (pt_cmp (pc_din hu hi.pe ho.pe) hm) fun σ H Q h => tB_lift (fun σ H Q ⟨e, g, Qd, re, rg, q, k⟩ =>
  ⟨e, g, _, re, rg, q, fun y dy H1 g1 x1 rg1 r1 q1 => ⟨e, g1, _, re.mono x1, rg1, q1, fun x dx H2 g2 x2 rg2 r2 q2 => ldin (neg := false) (r1.mono x2) r2 rg2 (k.mono (x1.trans x2)) q2⟩⟩) h⟩
theorem dt_dnotin (hu : X.A.units + 1 < cLine) (hi : DE X i ty) (ho : DE X o td) (hm : behindInMarks .NotIn o = false) : DT X (.Compare i [.NotIn] [o] pos) (dTest (dDNotIn ty td)) := ⟨ptW (pt_cmp (pc_dnotin hu hi.pe ho.pe) hm) fun σ H Q h => tB_lift (fun σ H Q ⟨e, g, Qd, re, rg, q, k⟩ =>
  ⟨e, g, _, re, rg, q, fun y dy H1 g1 x1 rg1 r1 q1 => ⟨e, g1, _, re.mono x1, rg1, q1, fun x dx H2 g2 x2 rg2 r2 q2 => ldin (neg := true) (r1.mono x2) r2 rg2 (k.mono (x1.trans x2)) q2⟩⟩) h⟩
/-- d[k] = v; del d[k] -/
def dDPut (td ty tv : DTE) : DTS := fun D e g => tv e g fun v g1 => td e g1 fun x g2 => ty e g2 fun y g3 => ∃ p kvs k, x = .ref p ∧ g3 p = some (.dct kvs) ∧ y = kD k ∧ kvs.length < sizeLine ∧ D.nx e (gup g3 p (.dct (putD kvs k v)))
theorem ds_dput (hu : X.A.units + 1 < cLine) (ho : DE X o td) (hi : DE X i ty) (hv : DE X value tv) (hs : swapsWith value (some (.Subscript o i pos')) pos.line X.env = pure false := by rfl) : DS X (.Assign [.Subscript o i pos'] value pos) (dDPut td ty tv) := ⟨psW (ps_dput hu ho.pe hi.pe hv.pe hs) fun D σ H ⟨e, g, Dd, re, rg, q, k1, _⟩ =>
  ⟨e, g, _, re, rg, q, fun v dv H1 g1 x1 rg1 rv q1 => ⟨e, g1, _, re.mono x1, rg1, q1, fun x dx H2 g2 x2 rg2 rx q2 => ⟨e, g2, _, re.mono (x1.trans x2), rg2, q2, fun y dy H3 g3 x3 rg3 ry q3 => by
    obtain ⟨p, kvs, k, rfl, h, rfl, hz, q3⟩ := q3
    cases rx
    have := ry.kD
    subst this
    obtain ⟨vs, e1, r⟩ := rg3.dct h
    have xx : Ext H (upd H3 p (.dK (putK vs k v))) := ((x1.trans x2).trans x3).trans (.dk e1)
    exact ⟨p, _, rfl, .k e1 (by rw [r.length]; exact hz), (k1.mono xx).fin (re.mono xx) (rg3.setK e1 (r.put k (rv.mono (x2.trans x3)))) q3⟩⟩⟩⟩⟩
def dDDel (td ty : DTE) : DTS := fun D e g => td e g fun x g2 => ty e g2 fun y g3 => ∃ p kvs k, x = .ref p ∧ g3 p = some (.dct kvs) ∧ y = kD k ∧ (getD kvs k).isSome = true ∧ D.nx e (gup g3 p (.dct (delD kvs k)))
theorem ds_ddel (ho : DE X o td) (hi : DE X i ty) : DS X (.Delete [.Subscript o i pos'] pos) (dDDel td ty) := ⟨psW (ps_ddel ho.pe hi.pe) fun D σ H ⟨e, g, Dd, re, rg, q, k1, _⟩ =>
  ⟨e, g, _, re, rg, q, fun x dx H2 g2 x2 rg2 rx q2 => ⟨e, g2, _, re.mono x2, rg2, q2, fun y dy H3 g3 x3 rg3 ry q3 => by
    obtain ⟨p, kvs, k, rfl, h, rfl, hz, q3⟩ := q3
    cases rx
    have := ry.kD
    subst this
    obtain ⟨vs, e1, r⟩ := rg3.dct h
    have xx : Ext H (upd H3 p (.dK (dropK vs k))) := (x2.trans x3).trans (.dk e1)
    refine ⟨p, vs, k, rfl, e1, rfl, ?_, (k1.mono xx).fin (re.mono xx) (rg3.setK e1 (r.del k)) q3⟩
    rcases r.get (k := k) with ⟨z, z2⟩ | ⟨d, w, e2, e3, r3⟩
    · rw [z] at hz; cases hz
    · rw [e3]; rfl⟩⟩⟩
/-- d.get(k), d.get(k, x), d.pop(k), d.pop(k, x) -/
def dDGet1 (td ty : DTE) : DTE := fun e g Q => td e g fun x g1 => ∃ p, x = .ref p ∧ (∃ kvs, g1 p = some (.dct kvs)) ∧ ty e g1 fun y g2 => ∃ kvs k, g2 p = some (.dct kvs) ∧ y = kD k ∧ Q ((getD kvs k).getD .non) g2
def dDGet2 (td ty tx : DTE) : DTE := fun e g Q => td e g fun x g1 => ∃ p, x = .ref p ∧ (∃ kvs, g1 p = some (.dct kvs)) ∧ ty e g1 fun y g2 => tx e g2 fun z g3 => ∃ kvs k, g3 p = some (.dct kvs) ∧ y = kD k ∧ Q ((getD kvs k).getD z) g3
def dDPop1 (td ty : DTE) : DTE := fun e g Q => td e g fun x g1 => ∃ p, x = .ref p ∧ (∃ kvs, g1 p = some (.dct kvs)) ∧ ty e g1 fun y g2 => ∃ kvs k v, g2 p = some (.dct kvs) ∧ y = kD k ∧ getD kvs k = some v ∧ Q v (gup g2 p (.dct (delD kvs k)))
theorem RepKV.getD1 {κ : Type} [DecidableEq κ] {vs : List (κ × V)} {kvs : List (κ × D)} (r : RepKV K H vs kvs) (k : κ) {z : V} {dz : D} (h : RepD K H z dz) : RepD K H ((valV vs k).getD z) ((getD kvs k).getD dz) := by
  rcases r.get (k := k) with ⟨z1, z2⟩ | ⟨d, w, e2, e3, r3⟩
  · rw [z1, z2]; exact h
  · rw [e2, e3]; exact r3
theorem de_dget1 (hu : X.A.units + 1 < cLine) (ho : DE X o td) (hi : DE X e ty) (m : M1 X o "get" apos e cpos := by exact ⟨rfl, rfl, rfl, rfl⟩) : DE X (.Call (.Attribute o "get" apos) [e] [] cpos) (dDGet1 td ty) := ⟨peW (pe_dget1 hu ho.pe hi.pe m) fun σ H Q ⟨e, g, Qd, re, rg, q, k⟩ =>
  ⟨e, g, _, re, rg, q, fun x dx H1 g1 x1 rg1 r1 q1 => by
    obtain ⟨p, rfl, ⟨kvs, h⟩, q1⟩ := q1
    cases r1
    obtain ⟨vs, e1, _⟩ := rg1.dct h
    refine ⟨p, rfl, .inl ⟨vs, .inl e1⟩, e, g1, _, re.mono x1, rg1, q1, fun y dy H2 g2 x2 rg2 r2 q2 => ?_⟩
    obtain ⟨kvs, k', h, rfl, q2⟩ := q2
    have := r2.kD
    subst this
    obtain ⟨vs, e1, r⟩ := rg2.dct h
    exact ⟨_, .k e1, k _ _ _ _ (x1.trans x2) rg2 (r.getD1 k' .non) q2⟩⟩⟩
theorem de_dget2 (hu : X.A.units + 1 < cLine) (ho : DE X o td) (hi : DE X e ty) (hx : DE X f tx) (m : M2 X o "get" apos e f cpos := by exact ⟨rfl, rfl, rfl, rfl⟩) : DE X (.Call (.Attribute o "get" apos) [e, f] [] cpos) (dDGet2 td ty tx) := ⟨peW (pe_dget2 hu ho.pe hi.pe hx.pe m) fun σ H Q ⟨e, g, Qd, re, rg, q, k⟩ =>
  ⟨e, g, _, re, rg, q, fun x dx H1 g1 x1 rg1 r1 q1 => by
    obtain ⟨p, rfl, ⟨kvs, h⟩, q1⟩ := q1
    cases r1
    obtain ⟨vs, e1, _⟩ := rg1.dct h
    refine ⟨p, rfl, .inl ⟨vs, .inl e1⟩, e, g1, _, re.mono x1, rg1, q1, fun y dy H2 g2 x2 rg2 r2 q2 => ⟨e, g2, _, re.mono (x1.trans x2), rg2, q2, fun z dz H3 g3 x3 rg3 r3 q3 => ?_⟩⟩
    obtain ⟨kvs, k', h, rfl, q3⟩ := q3
    have := r2.kD
    subst this
    obtain ⟨vs, e1, r⟩ := rg3.dct h
    exact ⟨_, .k e1, k _ _ _ _ ((x1.trans x2).trans x3) rg3 (r.getD1 k' r3) q3⟩⟩⟩
theorem de_dpop1 (ho : DE X o td) (hi : DE X e ty) (m : M1 X o "pop" apos e cpos := by exact ⟨rfl, rfl, rfl, rfl⟩) : DE X (.Call (.Attribute o "pop" apos) [e] [] cpos) (dDPop1 td ty) := ⟨peW (pe_dpop1 ho.pe hi.pe m) fun σ H Q ⟨e, g, Qd, re, rg, q, k⟩ =>
  ⟨e, g, _, re, rg, q, fun x dx H1 g1 x1 rg1 r1 q1 => by
    obtain ⟨p, rfl, ⟨kvs, h⟩, q1⟩ := q1
    cases r1
    obtain ⟨vs, e1, _⟩ := rg1.dct h
    refine ⟨p, rfl, .inl ⟨vs, .inl e1⟩, e, g1, _, re.mono x1, rg1, q1, fun y dy H2 g2 x2 rg2 r2 q2 => ?_⟩
    obtain ⟨kvs, k', v, h, rfl, hv, q2⟩ := q2
    have := r2.kD
    subst this
    obtain ⟨vs, e1, r⟩ := rg2.dct h
    rcases r.get (k := k') with ⟨z, _⟩ | ⟨d, w, e2, e3, r3⟩
    · rw [z] at hv; cases hv
    · rw [hv] at e2
      cases e2
      exact ⟨vs, k', w, e1, rfl, e3, k _ _ _ _ ((x1.trans x2).trans (.dk e1)) (rg2.setK e1 (r.del k')) (r3.mono (.dk e1)) q2⟩⟩⟩
end
section
variable {e : EV} {g : GS} {Q : DK} {D : DEnds} {td ty tv tx : DTE}
theorem s_dnew (h : ∀ p, g p = none → Q (.ref p) (gup g p (.dct []))) : dDNew e g Q := h
theorem s_dget (h : td e g fun x g1 => ty e g1 fun y g2 => ∃ p kvs k v, x = .ref p ∧ g2 p = some (.dct kvs) ∧ y = kD k ∧ getD kvs k = some v ∧ Q v g2) : dDGet td ty e g Q := h
theorem s_din (h : ty e g fun y g1 => td e g1 fun x g2 => ∃ p kvs k, x = .ref p ∧ g2 p = some (.dct kvs) ∧ y = kD k ∧ Q (.bl (getD kvs k).isSome) g2) : dDIn ty td e g Q := h
theorem s_dnotin (h : ty e g fun y g1 => td e g1 fun x g2 => ∃ p kvs k, x = .ref p ∧ g2 p = some (.dct kvs) ∧ y = kD k ∧ Q (.bl (!(getD kvs k).isSome)) g2) : dDNotIn ty td e g Q := h
theorem s_dput (h : tv e g fun v g1 => td e g1 fun x g2 => ty e g2 fun y g3 => ∃ p kvs k, x = .ref p ∧ g3 p = some (.dct kvs) ∧ y = kD k ∧ kvs.length < sizeLine ∧ D.nx e (gup g3 p (.dct (putD kvs k v)))) : dDPut td ty tv D e g := h
theorem s_ddel (h : td e g fun x g2 => ty e g2 fun y g3 => ∃ p kvs k, x = .ref p ∧ g3 p = some (.dct kvs) ∧ y = kD k ∧ (getD kvs k).isSome = true ∧ D.nx e (gup g3 p (.dct (delD kvs k)))) : dDDel td ty D e g := h
theorem s_dget1 (h : td e g fun x g1 => ∃ p, x = .ref p ∧ (∃ kvs, g1 p = some (.dct kvs)) ∧ ty e g1 fun y g2 => ∃ kvs k, g2 p = some (.dct kvs) ∧ y = kD k ∧ Q ((getD kvs k).getD .non) g2) : dDGet1 td ty e g Q := h
theorem s_dget2 (h : td e g fun x g1 => ∃ p, x = .ref p ∧ (∃ kvs, g1 p = some (.dct kvs)) ∧ ty e g1 fun y g2 => tx e g2 fun z g3 => ∃ kvs k, g3 p = some (.dct kvs) ∧ y = kD k ∧ Q ((getD kvs k).getD z) g3) : dDGet2 td ty tx e g Q := h
theorem s_dpop1 (h : td e g fun x g1 => ∃ p, x = .ref p ∧ (∃ kvs, g1 p = some (.dct kvs)) ∧ ty e g1 fun y g2 => ∃ kvs k v, g2 p = some (.dct kvs) ∧ y = kD k ∧ getD kvs k = some v ∧ Q v (gup g2 p (.dct (delD kvs k)))) : dDPop1 td ty e g Q := h
theorem s_disp {trs : List (DTE × DTE)} (h : ∀ p, g p = none → dPairs trs e (gup g p (.dct [])) fun ps g2 => g2 p = some (.dct []) ∧ ∃ kvs : List (Key × DL.D), ps = kvs.map (fun kv => (kD kv.1, kv.2)) ∧ kvs.length ≤ 15 ∧ Q (.ref p) (gup g2 p (.dct (mergeD [] kvs)))) : dDisp trs e g Q := h
end
/-! ### what a dict has -/
section
variable {κ : Type} [DecidableEq κ]
theorem getD_nil (k : κ) : getD ([] : List (κ × D)) k = none := rfl
theorem getD_put (kvs : List (κ × D)) (k j : κ) (v : D) : getD (putD kvs k v) j = if j = k then some v else getD kvs j := by
  have any_get : ∀ kvs : List (κ × D), (kvs.any fun kv => decide (kv.1 = k)) = (getD kvs k).isSome := fun kvs => by
    induction kvs with
    | nil => rfl
    | cons p r ih =>
      rw [List.any_cons, ih]
      by_cases e : p.1 = k <;> simp [getD, List.find?_cons, e]
  unfold putD
  by_cases h : (kvs.any fun kv => decide (kv.1 = k)) = true
  · rw [if_pos h]
    rw [any_get] at h
    clear any_get
    induction kvs with
    | nil => cases h
    | cons p r ih =>
      by_cases e : p.1 = k
      · by_cases ej : j = k
        · subst ej; simp [getD, List.find?_cons, e]
        · have ej' : ¬ k = j := fun z => ej z.symm
          rw [if_neg ej]
          have e2 : getD (p :: r) j = getD r j := by simp [getD, List.find?_cons, e, ej']
          rw [List.map_cons, e2]
          have e3 : ∀ l : List (κ × D), getD (l.map fun kv => if kv.1 = k then (kv.1, v) else kv) j = getD l j := fun l => by
            induction l with
            | nil => rfl
            | cons q l ih =>
              rw [List.map_cons]
              by_cases eq : q.1 = k
              · have : ¬ q.1 = j := fun z => ej (by rw [← z, eq])
                simp only [eq, if_true]
                simp only [getD, List.find?_cons, ej', decide_false] at ih ⊢
                rw [show decide (q.1 = j) = false from decide_eq_false this]
                exact ih
              · simp only [eq, if_false]
                by_cases ek : q.1 = j
                · simp [getD, List.find?_cons, ek]
                · simp only [getD, List.find?_cons, ek, decide_false] at ih ⊢
                  exact ih
          simp only [e, if_true]
          have e4 := e3 r
          simp only [getD, List.find?_cons, ej', decide_false] at e4 ⊢
          exact e4
      · have h' : (getD r k).isSome = true := by
          simp only [getD, List.find?_cons, e, decide_false] at h
          exact h
        have ih := ih h'
        rw [List.map_cons]
        simp only [e, if_false]
        by_cases ej : p.1 = j
        · have : ¬ j = k := fun z => e (by rw [ej, z])
          simp [getD, List.find?_cons, ej, this]
        · have e2 : ∀ l, getD (p :: l) j = getD l j := fun l => by simp [getD, List.find?_cons, ej]
          rw [e2, e2]
          exact ih
  · rw [if_neg h]
    rw [any_get] at h
    have hn : getD kvs k = none := by
      cases q : getD kvs k with
      | none => rfl
      | some x => rw [q] at h; exact absurd rfl h
    clear any_get h
    induction kvs with
    | nil =>
      by_cases e : j = k
      · subst e; simp [getD]
      · have e' : ¬ k = j := fun z => e z.symm
        simp [getD, List.find?_cons, e, e']
    | cons p r ih =>
      have e : ¬ p.1 = k := fun z => by simp [getD, List.find?_cons, z] at hn
      have hn' : getD r k = none := by
        simp only [getD, List.find?_cons, e, decide_false] at hn
        exact hn
      have ih := ih hn'
      rw [List.cons_append]
      by_cases ej : p.1 = j
      · have : ¬ j = k := fun z => e (by rw [ej, z])
        simp [getD, List.find?_cons, ej, this]
      · have e2 : ∀ l, getD (p :: l) j = getD l j := fun l => by simp [getD, List.find?_cons, ej]
        rw [e2, e2]
        exact ih
theorem getD_del (kvs : List (κ × D)) (k j : κ) : getD (delD kvs k) j = if j = k then none else getD kvs j := by
  induction kvs with
  | nil => simp [getD, delD]
  | cons p r ih =>
    unfold delD
    rw [List.filter_cons]
    by_cases e : p.1 = k
    · simp only [ne_eq, e, not_true_eq_false, decide_false, Bool.false_eq_true, if_false]
      have ih' : getD (r.filter fun kv => decide (¬ kv.1 = k)) j = _ := ih
      rw [ih']
      by_cases ej : j = k
      · rw [if_pos ej, if_pos ej]
      · have : ¬ k = j := fun z => ej z.symm
        rw [if_neg ej, if_neg ej]
        simp [getD, List.find?_cons, e, this]
    · simp only [ne_eq, e, not_false_eq_true, decide_true, if_true]
      have ih' : getD (r.filter fun kv => decide (¬ kv.1 = k)) j = _ := ih
      by_cases ej : p.1 = j
      · have : ¬ j = k := fun z => e (by rw [ej, z])
        simp [getD, List.find?_cons, ej, this]
      · have e2 : ∀ l, getD (p :: l) j = getD l j := fun l => by simp [getD, List.find?_cons, ej]
        rw [e2, e2, ih']
theorem putD_len (kvs : List (κ × D)) (k : κ) (v : D) : (putD kvs k v).length ≤ kvs.length + 1 := by
  unfold putD
  split
  · rw [List.length_map]; omega
  · rw [List.length_append]; simp
theorem delD_len (kvs : List (κ × D)) (k : κ) : (delD kvs k).length ≤ kvs.length := List.length_filter_le _ _
end
end DL

namespace DL
open PySem PySem.Spec PyProof.Rows L2
open TL (tl)
/-! ### slices -/
theorem sIx_to (n : Nat) (k : Int) (h : 0 ≤ k) (d : Nat) : HT.sIx n d (some k) = min k.toNat n := by
  have e := HT.sIx_nat n d k.toNat
  rwa [show ((k.toNat : Nat) : Int) = k by omega] at e
theorem cutD_to {xs : List D} {k : Int} (h : 0 ≤ k) : cutD xs none (some k) = xs.take k.toNat := by
  unfold cutD
  rw [sIx_to _ _ h, HT.sIx_none, List.drop_zero, Nat.sub_zero]
  by_cases hk : k.toNat ≤ xs.length
  · rw [Nat.min_eq_left hk]
  · rw [Nat.min_eq_right (by omega), List.take_of_length_le (Nat.le_refl _), List.take_of_length_le (by omega)]
theorem cutD_from {xs : List D} {k : Int} (h : 0 ≤ k) : cutD xs (some k) none = xs.drop k.toNat := by
  unfold cutD
  rw [sIx_to _ _ h, HT.sIx_none]
  by_cases hk : k.toNat ≤ xs.length
  · rw [Nat.min_eq_left hk, List.take_of_length_le (by rw [List.length_drop]; omega)]
  · rw [Nat.min_eq_right (by omega), List.drop_of_length_le (Nat.le_refl _), List.drop_of_length_le (by omega)]
    simp
theorem cutD_mid {xs : List D} {j k : Int} (h : 0 ≤ j) (h2 : 0 ≤ k) : cutD xs (some j) (some k) = (xs.take k.toNat).drop j.toNat := by
  unfold cutD
  rw [sIx_to _ _ h, sIx_to _ _ h2, List.drop_take]
  by_cases hj : j.toNat ≤ xs.length
  · rw [Nat.min_eq_left hj]
    by_cases hk : k.toNat ≤ xs.length
    · rw [Nat.min_eq_left hk]
    · rw [Nat.min_eq_right (by omega), List.take_of_length_le (by rw [List.length_drop]; omega), List.take_of_length_le (by rw [List.length_drop]; omega)]
  · rw [Nat.min_eq_right (a := j.toNat) (by omega), List.drop_of_length_le (Nat.le_refl _), List.drop_of_length_le (i := j.toNat) (by omega)]
    simp
theorem cutS_mk (l : List Nat) (lo hi : Option Int) : cutS (mk l) lo hi = mk ((l.drop (HT.sIx l.length 0 lo)).take (HT.sIx l.length l.length hi - HT.sIx l.length 0 lo)) := by
  unfold cutS
  have : (mk l).length = l.length := by rw [TL.len_tl, tl_mk]
  rw [this]
  rfl
theorem cutS_to {l : List Nat} {k : Int} (h : 0 ≤ k) : cutS (mk l) none (some k) = mk (l.take k.toNat) := by
  rw [cutS_mk, sIx_to _ _ h, HT.sIx_none, List.drop_zero, Nat.sub_zero]
  by_cases hk : k.toNat ≤ l.length
  · rw [Nat.min_eq_left hk]
  · rw [Nat.min_eq_right (by omega), List.take_of_length_le (Nat.le_refl _), List.take_of_length_le (by omega)]
theorem cutS_from {l : List Nat} {k : Int} (h : 0 ≤ k) : cutS (mk l) (some k) none = mk (l.drop k.toNat) := by
  rw [cutS_mk, sIx_to _ _ h, HT.sIx_none]
  by_cases hk : k.toNat ≤ l.length
  · rw [Nat.min_eq_left hk, List.take_of_length_le (by rw [List.length_drop]; omega)]
  · rw [Nat.min_eq_right (by omega), List.drop_of_length_le (Nat.le_refl _), List.drop_of_length_le (by omega)]
    simp
theorem cutS_mid {l : List Nat} {j k : Int} (h : 0 ≤ j) (h2 : 0 ≤ k) : cutS (mk l) (some j) (some k) = mk ((l.take k.toNat).drop j.toNat) := by
  rw [cutS_mk, sIx_to _ _ h, sIx_to _ _ h2, List.drop_take]
  by_cases hj : j.toNat ≤ l.length
  · rw [Nat.min_eq_left hj]
    by_cases hk : k.toNat ≤ l.length
    · rw [Nat.min_eq_left hk]
    · rw [Nat.min_eq_right (by omega), List.take_of_length_le (by rw [List.length_drop]; omega), List.take_of_length_le (by rw [List.length_drop]; omega)]
  · rw [Nat.min_eq_right (a := j.toNat) (by omega), List.drop_of_length_le (Nat.le_refl _), List.drop_of_length_le (i := j.toNat) (by omega)]
    simp
section
variable {g : GS} {Q : DK} {l : List Nat} {xs : List D} {j k : Int} {p : Addr}
theorem v_slTo (h0 : 0 ≤ k) (hz : l.length ≤ 16777216) (h : Q (.str (mk (l.take k.toNat))) g) : slD (.str (mk l)) none (some k) g Q := ⟨by rw [szl, TL.len_tl, tl_mk]; exact hz, by rw [cutS_to h0]; exact h⟩
theorem v_slFrom (h0 : 0 ≤ k) (hz : l.length ≤ 16777216) (h : Q (.str (mk (l.drop k.toNat))) g) : slD (.str (mk l)) (some k) none g Q := ⟨by rw [szl, TL.len_tl, tl_mk]; exact hz, by rw [cutS_from h0]; exact h⟩
theorem v_slMid (h1 : 0 ≤ j) (h0 : 0 ≤ k) (hz : l.length ≤ 16777216) (h : Q (.str (mk ((l.take k.toNat).drop j.toNat))) g) : slD (.str (mk l)) (some j) (some k) g Q := ⟨by rw [szl, TL.len_tl, tl_mk]; exact hz, by rw [cutS_mid h1 h0]; exact h⟩
theorem v_slToT (h0 : 0 ≤ k) (h : Q (.tup (xs.take k.toNat)) g) : slD (.tup xs) none (some k) g Q := by
  show Q (.tup (cutD xs none (some k))) g
  rw [cutD_to h0]; exact h
theorem v_slFromT (h0 : 0 ≤ k) (h : Q (.tup (xs.drop k.toNat)) g) : slD (.tup xs) (some k) none g Q := by
  show Q (.tup (cutD xs (some k) none)) g
  rw [cutD_from h0]; exact h
theorem v_slToL (hp : g p = some (.lst xs)) (h0 : 0 ≤ k) (h : ∀ r, g r = none → Q (.ref r) (gup g r (.lst (xs.take k.toNat)))) : slD (.ref p) none (some k) g Q := ⟨xs, .inl hp, by rw [cutD_to h0]; exact h⟩
theorem v_slFromL (hp : g p = some (.lst xs)) (h0 : 0 ≤ k) (h : ∀ r, g r = none → Q (.ref r) (gup g r (.lst (xs.drop k.toNat)))) : slD (.ref p) (some k) none g Q := ⟨xs, .inl hp, by rw [cutD_from h0]; exact h⟩
theorem v_ixM {i : Int} {c : Nat} (hz : l.length ≤ 16777216) (ha : atI l i = some c) (h : Q (.str (mk [c])) g) : ixD (.str (mk l)) (.int i) g Q := v_ixS (by rw [szl, TL.len_tl, tl_mk]; exact hz) ha h
theorem v_upper {a b : Str} (hz : a.length ≤ 5592405) (e : Txt.upper a = b) (h : Q (.str b) g) : upperD (.str a) [] g Q := by
  subst e
  exact ⟨hz, h⟩
theorem v_lower {a b : Str} (hz : a.length ≤ 5592405) (e : Txt.lower a = b) (h : Q (.str b) g) : lowerD (.str a) [] g Q := by
  subst e
  exact ⟨hz, h⟩
theorem v_ord {c : Nat} (h : Q (.int (c : Nat)) g) : ordD [.str (mk [c])] g Q := ⟨rfl, h⟩
theorem rep_len (l : List Nat) : ∀ n : Nat, ((List.replicate n l).flatten).length = n * l.length
  | 0 => by simp
  | n + 1 => by rw [List.replicate_succ, List.flatten_cons, List.length_append, rep_len l n, Nat.add_mul]; omega
theorem rep_mem {l : List Nat} {n c : Nat} (h : c ∈ (List.replicate n l).flatten) : c ∈ l := by
  rw [List.mem_flatten] at h
  obtain ⟨x, hx, hc⟩ := h
  rwa [List.eq_of_mem_replicate hx] at hc
theorem v_mulX {n : Int} (h1 : 0 ≤ n) (h2 : n ≤ 100000) (hz : l.length * n.toNat ≤ 16777216) (h : ∀ r : List Nat, r.length = l.length * n.toNat → (∀ c ∈ r, c ∈ l) → Q (.str (mk r)) g) : mulD (.str (mk l)) (.int n) g Q :=
  ⟨h1, h2, by rw [TL.len_tl, tl_mk]; exact hz, h _ (by rw [rep_len, Nat.mul_comm]; rfl) fun c hc => rep_mem hc⟩
theorem v_mulM {n : Int} (h1 : 0 ≤ n) (h2 : n ≤ 100000) (hz : l.length * n.toNat ≤ 16777216) (h : Q (.str (mk (List.replicate n.toNat l).flatten)) g) : mulD (.str (mk l)) (.int n) g Q :=
  ⟨h1, h2, by rw [TL.len_tl, tl_mk]; exact hz, h⟩
end
theorem atI_val {α : Type} {xs : List α} {i : Int} {x : α} (h : atI xs i = some x) (h0 : 0 ≤ i) : xs[i.toNat]? = some x := by
  unfold atI ixN at h
  rw [if_pos h0] at h
  split at h
  · exact h
  · cases h
theorem atI_ofNat {α : Type} {xs : List α} {i : Int} {x : α} (h : xs[i.toNat]? = some x) (h0 : 0 ≤ i) : atI xs i = some x := by
  have e := L2.atI_nat h
  have e0 : ((i.toNat : Nat) : Int) = i := by omega
  rwa [e0] at e
theorem Src.neInt {s : SI} {g : GS} {m : Nat} {U : Addr} {us : List Int} (h : Src s g m) (hU : g U = some (.lst (us.map D.int))) : U ≠ s.L := by
  obtain ⟨_, _, c, big, seed, n, h3, _⟩ := h
  rintro rfl
  rw [h3] at hU
  cases us with
  | nil => cases hU
  | cons u us => cases hU
/-- rows of a text -/
def rowsD (R : List (List Nat)) : List D := R.map fun r => .str (mk r)
/-- a list comprehension over a range whose elements draw -/
theorem lc_go {s : SI} {g0 g : GS} {m0 m : Nat} {lo : Int} {n : Nat} {e : EV} {j : Nat} {te : DTE} {R : Addr → GS → Prop} (P : Nat → D → Prop) (cost : Nat) (hS : Src s g0 m0) (G : Go s g0 g m) (hn : n ≤ 16777216)
    (step : ∀ (i : Nat) g' Q', i < n → Go s g0 g' (m + cost * i) → (∀ d g'', P i d → Go s g' g'' (m + cost * i + cost) → Q' d g'') → te (e.set j (some (.int (lo + i)))) g' Q')
    (q : ∀ (acc : List D) p g', acc.length = n → (∀ (i : Nat) (d : D), acc[i]? = some d → P i d) → Go s g0 g' (m + cost * n) → g0 p = none → g' p = some (.lst acc) → R p g') :
    ∀ p, g p = none → ∃ Iv : Nat → List D → GS → Prop, Iv 0 [] (gup g p (.lst [])) ∧ (∀ i acc g', i ≤ (ran lo n).length → Iv i acc g' → True) ∧
      (∀ i d acc g', (ran lo n)[i]? = some d → Iv i acc g' → dYes (e.set j (some d)) g' fun b g3 => if b = true then te (e.set j (some d)) g3 fun y g4 => g4 p = some (.lst acc) ∧ acc.length < sizeLine ∧ Iv (i + 1) (acc ++ [y]) (gup g4 p (.lst (acc ++ [y]))) else Iv (i + 1) acc g3) ∧
      ∀ acc g', Iv (ran lo n).length acc g' → R p g' := by
  intro p hp
  have hp0 : g0 p = none := G.1.fresh hp
  refine ⟨fun i acc g' => acc.length = i ∧ (∀ (k : Nat) (d : D), acc[k]? = some d → P k d) ∧ Go s g0 g' (m + cost * i) ∧ g' p = some (.lst acc), ⟨rfl, (fun k d h => by simp at h), by simpa using G.new hp, gup_same⟩, fun _ _ _ _ _ => trivial, fun i d acc g' hd ⟨hl, hP, G', hg⟩ => ?_, fun acc g' ⟨hl, hP, G', hg⟩ => ?_⟩
  · obtain ⟨hi, rfl⟩ := ran_get hd
    show te _ g' _
    refine step i g' _ hi G' fun d g'' hd G2 => ?_
    refine ⟨G2.get (hS.neL hp0) hg, by rw [szl]; omega, by rw [List.length_append, hl]; rfl, fun k x hk => ?_, ?_, gup_same⟩
    · by_cases hkl : k < acc.length
      · rw [List.getElem?_append_left hkl] at hk
        exact hP k x hk
      · rw [List.getElem?_append_right (by omega)] at hk
        have : k - acc.length = 0 := by
          have := (List.getElem?_eq_some_iff.mp hk).1
          simp at this; omega
        rw [this] at hk
        cases hk
        have : k = i := by omega
        subst this
        exact hd
    · have e1 : m + cost * i + cost = m + cost * (i + 1) := by rw [Nat.mul_add]; omega
      rw [← e1]
      exact (G'.trans G2).mut hp0 hS
  · rw [ran_len] at hl G'
    exact q acc p g' hl hP G' hp0 hg
theorem ones_of {S : List Nat} : ∀ {acc : List D}, (∀ d ∈ acc, ∃ c, c ∈ S ∧ d = .str (mk [c])) → ∃ l : List Nat, acc = (ones l).map D.str ∧ (∀ c ∈ l, c ∈ S) ∧ l.length = acc.length
  | [], _ => ⟨[], rfl, (fun c h => nomatch h), rfl⟩
  | d :: acc, h => by
    obtain ⟨c, hc, rfl⟩ := h d List.mem_cons_self
    obtain ⟨l, rfl, hl, e⟩ := ones_of (acc := acc) fun x hx => h x (List.mem_cons_of_mem _ hx)
    refine ⟨c :: l, rfl, fun x hx => ?_, by rw [List.length_cons, List.length_cons, e]⟩
    rcases List.mem_cons.mp hx with rfl | hx
    · exact hc
    · exact hl x hx
theorem all_of_get {P : D → Prop} {acc : List D} (h : ∀ (i : Nat) (d : D), acc[i]? = some d → P d) : ∀ d ∈ acc, P d := fun d hd => by
  obtain ⟨i, hi⟩ := List.mem_iff_getElem?.mp hd
  exact h i d hi
end DL

namespace DL
open PySem PySem.Spec PyProof.Rows L2
/-- rows joined -/
theorem rowsD_strs (R : List (List Nat)) : rowsD R = (R.map mk).map D.str := by unfold rowsD; rw [List.map_map]; rfl
theorem rows_len (R : List (List Nat)) : ((R.map mk).map (·.length)).sum = R.flatten.length := by
  induction R with
  | nil => rfl
  | cons r R ih =>
    show (mk r).length + ((R.map mk).map (·.length)).sum = _
    rw [ih, List.flatten_cons, List.length_append, TL.len_tl, tl_mk]
theorem rows_join (R : List (List Nat)) : Txt.join "" (R.map mk) = mk R.flatten := TL.ext_tl (by
  rw [join_empty, tl_mk, List.map_map]
  congr 1
  induction R with
  | nil => rfl
  | cons r R ih => rw [List.map_cons, ih]; rfl)
section
variable {g : GS} {Q : DK} {p : Addr}
theorem v_joinRT {R : List (List Nat)} (hz : R.flatten.length ≤ 16777216) (h : Q (.str (mk R.flatten)) g) : joinD (.str "") [.tup (rowsD R)] g Q :=
  ⟨R.map mk, rowsD_strs R, by
    rw [rows_len]
    have : (("" : Str)).length = 0 := by decide +kernel
    rw [this]; omega, by rw [rows_join]; exact h⟩
theorem v_joinRL {R : List (List Nat)} (hp : g p = some (.lst (rowsD R))) (hz : R.flatten.length ≤ 16777216) (h : Q (.str (mk R.flatten)) g) : joinD (.str "") [.ref p] g Q :=
  ⟨R.map mk, by rw [← rowsD_strs]; exact .inl hp, by
    rw [rows_len]
    have : (("" : Str)).length = 0 := by decide +kernel
    rw [this]; omega, by rw [rows_join]; exact h⟩
theorem v_min2 {i j : Int} (h : Q (.int (if j < i then j else i)) g) : min2D [.int i, .int j] g Q := h
theorem v_max2 {i j : Int} (h : Q (.int (if j > i then j else i)) g) : max2D [.int i, .int j] g Q := h
end
theorem bl_mk : (" " : Str) = mk [32] := by decide +kernel
theorem mk1_eq {c : Nat} : mk [c] = (" " : Str) ↔ c = 32 := by
  rw [bl_mk]
  exact ⟨fun h => by have := mk_inj h; injection this, fun h => by rw [h]⟩
end DL

namespace DL
open PySem L2
/-! ### any, all of a list of bools -/
section
variable {X : Cx} {K : PySem.W.Frag} {H : Hp}
theorem RepL.bls : ∀ {vs : List V} (bs : List Bool), RepL K H vs (bs.map D.bl) → vs = bs.map V.bl
  | _, [], .nil => rfl
  | _, b :: bs, .cons h t => by
    cases h
    rw [List.map_cons, RepL.bls bs t]
def boolsD (f : List Bool → Bool) : DRC := fun xs g Q => match xs with
  | [.ref p] => ∃ bs : List Bool, rdL g p (bs.map D.bl) ∧ Q (.bl (f bs)) g
  | _ => False
theorem call_bools {id : String} {f : List Bool → Bool} (h : CallR X (.builtin id) (fun vs H Q => ∃ (a : Addr) (bs : List Bool), vs = [V.ref a] ∧ SqL X.K H a (bs.map V.bl) ∧ Q (.bl (f bs)) H)) : CallR X (.builtin id) (lRC X.K (boolsD f)) := fun pins s σ H xs us Q I rs ⟨ds, g, Qd, l, rg, q, k⟩ => by
  rcases l with _ | ⟨r1, _ | ⟨r2, l⟩⟩
  · exact q.elim
  · cases r1 with
    | ref p =>
      obtain ⟨bs, hp, q⟩ := q
      obtain ⟨xs, hs, l⟩ := rg.sq hp
      have := l.bls bs
      subst this
      exact h pins s σ H _ us Q I rs ⟨p, bs, rfl, hs, rg.fin k (.bl _) q⟩
    | _ => exact q.elim
  · cases r1 <;> exact q.elim
abbrev allD : DRC := boolsD fun bs => bs.all id
abbrev anyD : DRC := boolsD fun bs => bs.any id
theorem call_allD (hc : X.calm = true) : CallR X (.builtin "all") (lRC X.K allD) := call_bools (cr_all hc)
theorem call_anyD (hc : X.calm = true) : CallR X (.builtin "any") (lRC X.K anyD) := call_bools (cr_any hc)
variable {g : GS} {Q : DK} {p : Addr}
theorem v_all {bs : List Bool} (hp : g p = some (.lst (bs.map D.bl))) (h : Q (.bl (bs.all id)) g) : allD [.ref p] g Q := ⟨bs, .inl hp, h⟩
theorem v_any {bs : List Bool} (hp : g p = some (.lst (bs.map D.bl))) (h : Q (.bl (bs.any id)) g) : anyD [.ref p] g Q := ⟨bs, .inl hp, h⟩
end
end DL

namespace DL
open PySem PySem.Spec PyProof.Rows L2
/-! ### signs -/
theorem in_letters {c : Nat} : c ∈ TL.tl ("abcdefghijklmnopqrstuvwxyz" : Str) ↔ low c := by
  have e : TL.tl ("abcdefghijklmnopqrstuvwxyz" : Str) = (List.range 26).map (· + 97) := by decide +kernel
  rw [e, List.mem_map]
  unfold low
  constructor
  · rintro ⟨a, ha, rfl⟩; have := List.mem_range.mp ha; omega
  · intro h; exact ⟨c - 97, List.mem_range.mpr (by omega), by omega⟩
theorem in_digits {c : Nat} : c ∈ TL.tl ("0123456789" : Str) ↔ dig c := by
  have e : TL.tl ("0123456789" : Str) = (List.range 10).map (· + 48) := by decide +kernel
  rw [e, List.mem_map]
  unfold dig
  constructor
  · rintro ⟨a, ha, rfl⟩; have := List.mem_range.mp ha; omega
  · intro h; exact ⟨c - 48, List.mem_range.mpr (by omega), by omega⟩
theorem empty_iff {l : List Nat} : mk l = ("" : Str) ↔ l = [] := by
  rw [empty_mk]
  exact ⟨fun h => mk_inj h, fun h => by rw [h]⟩
/-! ### comprehensions without draws -/
theorem lc_map {α : Type} {ds : List D} {keep : GS → Prop} {e : EV} {j : Nat} {te : DTE} {R : Addr → GS → Prop} {g : GS} (l : List α) (td f : α → D) (hl : ds = l.map td) (hk : ∀ g', Up [] g g' → keep g') (hn : l.length ≤ 16777216)
    (step : ∀ (i : Nat) (a : α) g' Q', l[i]? = some a → Up [] g g' → (∀ g'', Up [] g' g'' → Q' (f a) g'') → te (e.set j (some (td a))) g' Q')
    (q : ∀ p g', g p = none → Up [] g g' → g' p = some (.lst (l.map f)) → R p g') :
    ∀ p, g p = none → ∃ Iv : Nat → List D → GS → Prop, Iv 0 [] (gup g p (.lst [])) ∧ (∀ i acc g', i ≤ ds.length → Iv i acc g' → keep g') ∧
      (∀ i d acc g', ds[i]? = some d → Iv i acc g' → dYes (e.set j (some d)) g' fun b g3 => if b = true then te (e.set j (some d)) g3 fun y g4 => g4 p = some (.lst acc) ∧ acc.length < sizeLine ∧ Iv (i + 1) (acc ++ [y]) (gup g4 p (.lst (acc ++ [y]))) else Iv (i + 1) acc g3) ∧
      ∀ acc g', Iv ds.length acc g' → R p g' := by
  intro p hp
  subst hl
  refine ⟨fun i acc g' => acc = (l.take i).map f ∧ Up [] g g' ∧ g' p = some (.lst acc), ⟨rfl, .new hp, gup_same⟩, fun i acc g' _ h => hk g' h.2.1, fun i d acc g' hd ⟨ha, U, hg⟩ => ?_, fun acc g' ⟨ha, U, hg⟩ => ?_⟩
  · rw [List.getElem?_map] at hd
    cases hli : l[i]? with
    | none => rw [hli] at hd; cases hd
    | some a =>
      rw [hli] at hd
      cases hd
      show te _ g' _
      refine step i a g' _ hli U fun g'' U2 => ?_
      have hi := (List.getElem?_eq_some_iff.mp hli).1
      refine ⟨U2.get0 hg, ?_, ?_, (U.trans U2).mut hp, gup_same⟩
      · rw [szl, ha, List.length_map, List.length_take]; omega
      · rw [ha, List.take_add_one, hli, List.map_append]; rfl
  · rw [List.length_map, List.take_length] at ha
    subst ha
    exact q p g' hp U hg
theorem lc_filt {α : Type} {ds : List D} {keep : GS → Prop} {e : EV} {j : Nat} {tA : DTT} {te : DTE} {R : Addr → GS → Prop} {g : GS} (l : List α) (td f : α → D) (b : α → Bool) (hl : ds = l.map td) (hk : ∀ g', Up [] g g' → keep g') (hn : l.length ≤ 16777216)
    (stepB : ∀ (i : Nat) (a : α) g' (Q' : Bool → GS → Prop), l[i]? = some a → Up [] g g' → (∀ g'', Up [] g' g'' → Q' (b a) g'') → tA (e.set j (some (td a))) g' Q')
    (step : ∀ (i : Nat) (a : α) g' Q', l[i]? = some a → b a = true → Up [] g g' → (∀ g'', Up [] g' g'' → Q' (f a) g'') → te (e.set j (some (td a))) g' Q')
    (q : ∀ p g', g p = none → Up [] g g' → g' p = some (.lst ((l.filter b).map f)) → R p g') :
    ∀ p, g p = none → ∃ Iv : Nat → List D → GS → Prop, Iv 0 [] (gup g p (.lst [])) ∧ (∀ i acc g', i ≤ ds.length → Iv i acc g' → keep g') ∧
      (∀ i d acc g', ds[i]? = some d → Iv i acc g' → tA (e.set j (some d)) g' fun b g3 => if b = true then te (e.set j (some d)) g3 fun y g4 => g4 p = some (.lst acc) ∧ acc.length < sizeLine ∧ Iv (i + 1) (acc ++ [y]) (gup g4 p (.lst (acc ++ [y]))) else Iv (i + 1) acc g3) ∧
      ∀ acc g', Iv ds.length acc g' → R p g' := by
  intro p hp
  subst hl
  refine ⟨fun i acc g' => acc = ((l.take i).filter b).map f ∧ Up [] g g' ∧ g' p = some (.lst acc), ⟨rfl, .new hp, gup_same⟩, fun i acc g' _ h => hk g' h.2.1, fun i d acc g' hd ⟨ha, U, hg⟩ => ?_, fun acc g' ⟨ha, U, hg⟩ => ?_⟩
  · rw [List.getElem?_map] at hd
    cases hli : l[i]? with
    | none => rw [hli] at hd; cases hd
    | some a =>
      rw [hli] at hd
      cases hd
      have hi := (List.getElem?_eq_some_iff.mp hli).1
      have e1 : l.take (i + 1) = l.take i ++ [a] := by rw [List.take_add_one, hli]; rfl
      refine stepB i a g' _ hli U fun g'' U1 => ?_
      cases hb : b a with
      | false =>
        refine (if_neg (by decide)).mpr ?_
        refine ⟨?_, U.trans U1, U1.get0 hg⟩
        rw [ha, e1, List.filter_append, show [a].filter b = [] by simp [hb], List.append_nil]
      | true =>
        refine (if_pos rfl).mpr ?_
        refine step i a g'' _ hli hb (U.trans U1) fun g3 U2 => ?_
        refine ⟨U2.get0 (U1.get0 hg), ?_, ?_, ((U.trans U1).trans U2).mut hp, gup_same⟩
        · rw [szl, ha, List.length_map]
          have := List.length_filter_le b (l.take i)
          rw [List.length_take] at this
          omega
        · rw [ha, e1, List.filter_append, show [a].filter b = [a] by simp [hb], List.map_append]; rfl
  · rw [List.length_map, List.take_length] at ha
    subst ha
    exact q p g' hp U hg
/-! ### texts cut -/
section
variable {g : GS} {Q : DK}
theorem v_nin1 {c : Nat} {b : Str} (h : Q (.bl (!decide (c ∈ TL.tl b))) g) : notInD (.str (mk [c])) (.str b) g Q := v_in1' (Q := notV Q) h
theorem v_split {a b : Str} (hb : (b.length == 0) = false) (ha : a.length ≤ 16777214) (h : ∀ p, g p = none → Q (.ref p) (gup g p (.lst ((Txt.split a b).map D.str)))) : splitD (.str a) [.str b] g Q := ⟨hb, by rw [szl]; omega, h⟩
end
theorem joinL_le (y : List Nat) : ∀ (ps : List (List Nat)), ∀ p ∈ ps, p.length ≤ (TL.joinL y ps).length
  | [], p, h => (nomatch h)
  | [q], p, h => by rw [List.mem_singleton.mp h]; exact Nat.le_refl _
  | q :: r :: ps, p, h => by
    show p.length ≤ (q ++ (y ++ TL.joinL y (r :: ps))).length
    rw [List.length_append, List.length_append]
    rcases List.mem_cons.mp h with rfl | h
    · omega
    · have := joinL_le y (r :: ps) p h; omega
theorem split_le {x y p : Str} (h : p ∈ Txt.split x y) : p.length ≤ x.length := by
  have e := congrArg TL.tl (PySem.StrLaws.join_split x y)
  rw [TL.tl_join] at e
  have := joinL_le (TL.tl y) _ _ (List.mem_map_of_mem (f := TL.tl) h)
  rw [e] at this
  rw [TL.len_tl, TL.len_tl]
  exact this
end DL

namespace DL
open PySem PySem.Spec PyProof.Rows L2
open TL (tl)
/-! ### names, addresses, boards, ids -/
def plainB : List Nat → Bool
  | [] => false
  | c :: r => decide (low c) && (c :: r).all fun c => decide (low c) || decide (dig c)
def nameB (l : List Nat) : Bool := decide (l.length ≤ 8) && plainB l
def digsB (l : List Nat) : Bool := l.all fun c => decide (dig c)
def numB (l : List Nat) : Bool := !l.isEmpty && digsB l && (l == [48] || l.head? != some 48)
def addrL : List Str → Bool
  | [a, b] => nameB (tl a) && nameB (tl b)
  | _ => false
def addrB (z : Str) : Bool := addrL (Txt.split z "@")
theorem addrL_ne {S : List Str} (h : S.length ≠ 2) : addrL S = false := by
  match S, h with
  | [], _ => rfl
  | [_], _ => rfl
  | [_, _], h => exact absurd rfl h
  | _ :: _ :: _ :: _, _ => rfl
def boardB (z : Str) : Bool := decide ((tl z).length ≤ 600) && (Txt.split z ".").all fun w => plainB (tl w)
/-- a number ahead of an id -/
def inumB (l : List Nat) : Bool := !l.isEmpty && digsB l && decide (l.length ≤ 6) && l.head? != some 48
def identL : List Str → D
  | [a, b] => if nameB (tl b) && inumB (tl a) then .tup [.str b, .int ((intText? a).getD 0)] else .non
  | _ => .non
def identD (z : Str) : D := identL (Txt.split z "@")
theorem identL_ne {S : List Str} (h : S.length ≠ 2) : identL S = .non := by
  match S, h with
  | [], _ => rfl
  | [_], _ => rfl
  | [_, _], h => exact absurd rfl h
  | _ :: _ :: _ :: _, _ => rfl
theorem at_len : (("@" : Str).length == 0) = false := by decide +kernel
theorem dot_len : (("." : Str).length == 0) = false := by decide +kernel
theorem int_digs {a : Str} (h : digsB (tl a) = true) (h0 : tl a ≠ []) (hl : (tl a).length ≤ 600) : intText? a = some ((intText? a).getD 0) := by
  have := PySem.intText_digits (x := a) (fun c hc => by
    have := List.all_eq_true.mp h c hc
    exact of_decide_eq_true this) h0 (by rw [TL.len_tl]; omega)
  rw [this]
  rfl
theorem plainB_cons {c : Nat} {r : List Nat} : plainB (c :: r) = (decide (low c) && (c :: r).all fun c => decide (low c) || decide (dig c)) := rfl
theorem NameOk.plain {z : Str} (h : NameOk z) : nameB (tl z) = true := by
  obtain ⟨c, r, e, hc, hr, hl⟩ := h
  unfold nameB
  rw [e, plainB_cons, Bool.and_eq_true, Bool.and_eq_true]
  refine ⟨decide_eq_true (by rw [List.length_cons]; omega), decide_eq_true hc, List.all_eq_true.mpr fun x hx => ?_⟩
  rw [Bool.or_eq_true]
  rcases List.mem_cons.mp hx with rfl | hx
  · exact .inl (decide_eq_true hc)
  · rcases hr x hx with h | h
    · exact .inl (decide_eq_true h)
    · exact .inr (decide_eq_true h)
theorem plainB_chars {l : List Nat} (h : plainB l = true) : ∀ c ∈ l, low c ∨ dig c := fun c hc => by
  cases l with
  | nil => cases hc
  | cons d r =>
    rw [plainB_cons, Bool.and_eq_true] at h
    have := List.all_eq_true.mp h.2 c hc
    rw [Bool.or_eq_true] at this
    exact this.elim (fun z => .inl (of_decide_eq_true z)) (fun z => .inr (of_decide_eq_true z))
theorem numL_head : ∀ m : Nat, 1 ≤ m → (TL.numL m).head? ≠ some 48 := fun m => by
  induction m using Nat.strongRecOn with
  | _ m ih =>
    intro h
    by_cases h10 : m < 10
    · rw [TL.numL_lt h10]
      intro z
      have : 48 + m = 48 := Option.some.inj z
      omega
    · rw [TL.numL_step (by omega)]
      have := ih (m / 10) (by omega) (by omega)
      cases hn : TL.numL (m / 10) with
      | nil => exact absurd hn (TL.numL_ne _)
      | cons c r => rw [hn] at this; exact this
/-- the text of an id is read back -/
theorem ident_back {n : Int} {nm : Str} (h1 : 1 ≤ n) (h2 : n ≤ 999999) (hn : nameB (tl nm) = true) : identD (Str.ofString (toString n) ++ ("@" : Str) ++ nm) = .tup [.str nm, .int n] := by
  obtain ⟨m, rfl⟩ := Int.eq_ofNat_of_zero_le (a := n) (by omega)
  have hp : plainB (tl nm) = true := by
    unfold nameB at hn
    rw [Bool.and_eq_true] at hn
    exact hn.2
  have h3 := TL.tl_num m
  have h4 := TL.numL_digits m
  have hs : Txt.split (Str.ofString (toString ((m : Nat) : Int)) ++ ("@" : Str) ++ nm) ("@" : Str) = [Str.ofString (toString ((m : Nat) : Int)), nm] := by
    have e : Txt.join ("@" : Str) [Str.ofString (toString ((m : Nat) : Int)), nm] = Str.ofString (toString ((m : Nat) : Int)) ++ ("@" : Str) ++ nm := TL.ext_tl (by
      rw [TL.join_eq, TL.tl_join, TL.tl_append, TL.tl_append, List.append_assoc]
      rfl)
    rw [← e]
    refine TL.split_join (s := 64) (S := []) (by decide +kernel) (by decide +kernel) (by simp) fun p hp' => ?_
    rcases List.mem_cons.mp hp' with rfl | hp'
    · rw [h3]; intro hm; have := h4 _ hm; unfold dig at *; omega
    · rw [List.mem_singleton.mp hp']
      intro hm
      have := plainB_chars hp 64 hm
      unfold low dig at this
      omega
  unfold identD
  rw [hs]
  have hlen : (TL.numL m).length ≤ 6 := TL.numL_len (k := 6) (by omega) (by omega)
  have hi : inumB (tl (Str.ofString (toString ((m : Nat) : Int)))) = true := by
    rw [h3]
    unfold inumB digsB
    rw [Bool.and_eq_true, Bool.and_eq_true, Bool.and_eq_true]
    refine ⟨⟨⟨?_, List.all_eq_true.mpr fun c hc => decide_eq_true (h4 c hc)⟩, decide_eq_true hlen⟩, ?_⟩
    · cases hm : TL.numL m with
      | nil => exact absurd hm (TL.numL_ne _)
      | cons _ _ => rfl
    · exact bne_iff_ne.mpr (numL_head m (by omega))
  show (if (nameB (tl nm) && inumB (tl (Str.ofString (toString ((m : Nat) : Int))))) = true then _ else _) = _
  rw [hn, hi]
  show D.tup [.str nm, .int ((intText? (Str.ofString (toString ((m : Nat) : Int)))).getD 0)] = _
  rw [PySem.W.KIN.num_reads (by omega) (by omega)]
  rfl
end DL

namespace DL
open PySem PySem.Spec PyProof.Rows L2
/-- a list comprehension over things at hand whose elements draw -/
theorem lc_goL {α : Type} {s : SI} {g0 g : GS} {m0 m : Nat} {ds : List D} {keep : GS → Prop} {e : EV} {j : Nat} {te : DTE} {R : Addr → GS → Prop} (l : List α) (td : α → D) (hl : ds = l.map td) (P : Nat → D → Prop) (cost : Nat) (hS : Src s g0 m0) (G : Go s g0 g m) (hn : l.length ≤ 16777216)
    (hk : ∀ i g', Go s g0 g' (m + cost * i) → Go s g g' (m + cost * i) → keep g')
    (step : ∀ (i : Nat) (a : α) g' Q', l[i]? = some a → Go s g0 g' (m + cost * i) → (∀ d g'', P i d → Go s g' g'' (m + cost * i + cost) → Q' d g'') → te (e.set j (some (td a))) g' Q')
    (q : ∀ (acc : List D) p g', acc.length = l.length → (∀ (i : Nat) (d : D), acc[i]? = some d → P i d) → Go s g0 g' (m + cost * l.length) → Go s g g' (m + cost * l.length) → g p = none → g' p = some (.lst acc) → R p g') :
    ∀ p, g p = none → ∃ Iv : Nat → List D → GS → Prop, Iv 0 [] (gup g p (.lst [])) ∧ (∀ i acc g', i ≤ ds.length → Iv i acc g' → keep g') ∧
      (∀ i d acc g', ds[i]? = some d → Iv i acc g' → dYes (e.set j (some d)) g' fun b g3 => if b = true then te (e.set j (some d)) g3 fun y g4 => g4 p = some (.lst acc) ∧ acc.length < sizeLine ∧ Iv (i + 1) (acc ++ [y]) (gup g4 p (.lst (acc ++ [y]))) else Iv (i + 1) acc g3) ∧
      ∀ acc g', Iv ds.length acc g' → R p g' := by
  intro p hp
  subst hl
  have hp0 : g0 p = none := G.1.fresh hp
  have hS1 : Src s g m := G.2
  refine ⟨fun i acc g' => acc.length = i ∧ (∀ (k : Nat) (d : D), acc[k]? = some d → P k d) ∧ Go s g0 g' (m + cost * i) ∧ Go s g g' (m + cost * i) ∧ g' p = some (.lst acc), ⟨rfl, (fun k d h => by simp at h), by simpa using G.new hp, by simpa using (Go.start hS1).new hp, gup_same⟩, fun i acc g' _ h => hk i g' h.2.2.1 h.2.2.2.1, fun i d acc g' hd ⟨hl, hP, G', G2', hg⟩ => ?_, fun acc g' ⟨hl, hP, G', G2', hg⟩ => ?_⟩
  · rw [List.getElem?_map] at hd
    cases hli : l[i]? with
    | none => rw [hli] at hd; cases hd
    | some a =>
      rw [hli] at hd
      cases hd
      have hi := (List.getElem?_eq_some_iff.mp hli).1
      show te _ g' _
      refine step i a g' _ hli G' fun d g'' hd G2 => ?_
      have e1 : m + cost * i + cost = m + cost * (i + 1) := by rw [Nat.mul_add]; omega
      refine ⟨G2.get (hS.neL hp0) hg, by rw [szl]; omega, by rw [List.length_append, hl]; rfl, fun k x hk => ?_, ?_, ?_, gup_same⟩
      · by_cases hkl : k < acc.length
        · rw [List.getElem?_append_left hkl] at hk
          exact hP k x hk
        · rw [List.getElem?_append_right (by omega)] at hk
          have : k - acc.length = 0 := by
            have := (List.getElem?_eq_some_iff.mp hk).1
            simp at this; omega
          rw [this] at hk
          cases hk
          have : k = i := by omega
          subst this
          exact hd
      · rw [← e1]
        exact (G'.trans G2).mut hp0 hS
      · rw [← e1]
        exact (G2'.trans G2).mut hp hS1
  · rw [List.length_map] at hl G' G2'
    exact q acc p g' hl hP G' G2' hp hg
/-! ### joined texts -/
theorem joinL_bd (y : List Nat) (B : Nat) : ∀ (ps : List (List Nat)), (∀ p ∈ ps, p.length ≤ B) → (TL.joinL y ps).length ≤ ps.length * (B + y.length)
  | [], _ => Nat.zero_le _
  | [q], h => by
    have := h q (List.mem_singleton.mpr rfl)
    show q.length ≤ 1 * _
    omega
  | q :: r :: ps, h => by
    have h1 := h q List.mem_cons_self
    have ih := joinL_bd y B (r :: ps) fun p hp => h p (List.mem_cons_of_mem _ hp)
    show (q ++ (y ++ TL.joinL y (r :: ps))).length ≤ _
    rw [List.length_append, List.length_append, List.length_cons, Nat.add_mul]
    omega
theorem joinL_mem (y : List Nat) : ∀ (ps : List (List Nat)) (c : Nat), c ∈ TL.joinL y ps → c ∈ y ∨ ∃ p ∈ ps, c ∈ p
  | [], c, h => (nomatch h)
  | [q], c, h => .inr ⟨q, List.mem_singleton.mpr rfl, h⟩
  | q :: r :: ps, c, h => by
    have h : c ∈ q ++ (y ++ TL.joinL y (r :: ps)) := h
    rcases List.mem_append.mp h with h | h
    · exact .inr ⟨q, List.mem_cons_self, h⟩
    · rcases List.mem_append.mp h with h | h
      · exact .inl h
      · rcases joinL_mem y (r :: ps) c h with h | ⟨p, hp, h⟩
        · exact .inl h
        · exact .inr ⟨p, List.mem_cons_of_mem _ hp, h⟩
theorem sum_bd (B : Nat) : ∀ (zs : List Str), (∀ z ∈ zs, (TL.tl z).length ≤ B) → (zs.map (·.length)).sum ≤ zs.length * B
  | [], _ => Nat.zero_le _
  | z :: zs, h => by
    have h1 := h z List.mem_cons_self
    have ih := sum_bd B zs fun p hp => h p (List.mem_cons_of_mem _ hp)
    rw [List.map_cons, List.sum_cons, List.length_cons, Nat.add_mul, TL.len_tl]
    omega
theorem join_bd {y : Str} {B : Nat} {zs : List Str} (h : ∀ z ∈ zs, (TL.tl z).length ≤ B) : (TL.tl (Txt.join y zs)).length ≤ zs.length * (B + (TL.tl y).length) := by
  rw [TL.join_eq, TL.tl_join]
  have := joinL_bd (TL.tl y) B (zs.map TL.tl) fun p hp => by
    obtain ⟨z, hz, rfl⟩ := List.mem_map.mp hp
    exact h z hz
  rwa [List.length_map] at this
section
variable {g : GS} {Q : DK} {p : Addr}
theorem v_joinL {y : Str} {zs : List Str} {B : Nat} (hp : g p = some (.lst (zs.map D.str))) (hB : ∀ z ∈ zs, (TL.tl z).length ≤ B) (hz : zs.length * (B + (TL.tl y).length) ≤ 16777216)
    (h : (TL.tl (Txt.join y zs)).length ≤ zs.length * (B + (TL.tl y).length) → Q (.str (Txt.join y zs)) g) : joinD (.str y) [.ref p] g Q :=
  ⟨zs, .inl hp, by have := sum_bd B zs hB; rw [Nat.mul_add] at hz; rw [TL.len_tl y]; omega, h (join_bd hB)⟩
theorem v_joinT {y : Str} {zs : List Str} {B : Nat} (hB : ∀ z ∈ zs, (TL.tl z).length ≤ B) (hz : zs.length * (B + (TL.tl y).length) ≤ 16777216)
    (h : (TL.tl (Txt.join y zs)).length ≤ zs.length * (B + (TL.tl y).length) → Q (.str (Txt.join y zs)) g) : joinD (.str y) [.tup (zs.map D.str)] g Q :=
  ⟨zs, rfl, by have := sum_bd B zs hB; rw [Nat.mul_add] at hz; rw [TL.len_tl y]; omega, h (join_bd hB)⟩
end
theorem strs_of {P : Str → Prop} : ∀ {acc : List D}, (∀ d ∈ acc, ∃ z, d = .str z ∧ P z) → ∃ as : List Str, acc = as.map D.str ∧ ∀ z ∈ as, P z
  | [], _ => ⟨[], rfl, fun z hz => nomatch hz⟩
  | d :: acc, h => by
    obtain ⟨as, rfl, ha⟩ := strs_of (acc := acc) fun x hx => h x (List.mem_cons_of_mem _ hx)
    obtain ⟨z, rfl, hz⟩ := h d List.mem_cons_self
    exact ⟨z :: as, rfl, fun y hy => (List.mem_cons.mp hy).elim (fun e => by rw [e]; exact hz) (ha y)⟩
theorem num_mk {v : Int} (h : 0 ≤ v) : Str.ofString (toString v) = mk (TL.numL v.toNat) := by
  obtain ⟨m, rfl⟩ := Int.eq_ofNat_of_zero_le h
  rw [← TL.tl_num, mk_tl]
  rfl
end DL

namespace DL
open PySem PySem.Spec PyProof.Rows L2
open TL (tl)
/-! ### globs -/
def starC (g : List Nat) (R : Nat → Bool) : Nat → Bool
  | 0 => R 0
  | p + 1 => R (p + 1) || (g[p]? == some 42 && starC g R p)
def baseA (g : List Nat) (c : Nat) (S : Nat → Bool) : Nat → Bool
  | 0 => false
  | p + 1 => (S (p + 1) && g[p]? == some 42) || (S p && (g[p]? == some 63 || g[p]? == some c))
theorem baseA_succ (g : List Nat) (c : Nat) (S : Nat → Bool) (p : Nat) : baseA g c S (p + 1) = ((S (p + 1) && g[p]? == some 42) || (S p && (g[p]? == some 63 || g[p]? == some c))) := rfl
def stepA (g : List Nat) (S : Nat → Bool) (c : Nat) : Nat → Bool := starC g (baseA g c S)
def startA (g : List Nat) : Nat → Bool := starC g fun p => p == 0
def standA (g b : List Nat) : Nat → Bool := b.foldl (stepA g) (startA g)
def fitsB (g b : List Nat) : Bool := standA g b g.length
/-- the places, ascending -/
def plsL (g : List Nat) (S : Nat → Bool) : List Nat := (List.range (g.length + 1)).filter S
/-- the law's own -/
def baseB (g : List Nat) (c : Nat) (S : Nat → Bool) : Nat → Bool := fun p =>
  (S p && g[p]? == some 42) || match p with
  | 0 => false
  | p + 1 => S p && (g[p]? == some 63 || g[p]? == some c)
theorem baseB_succ (g : List Nat) (c : Nat) (S : Nat → Bool) (p : Nat) : baseB g c S (p + 1) = ((S (p + 1) && g[p + 1]? == some 42) || (S p && (g[p]? == some 63 || g[p]? == some c))) := rfl
def stepB (g : List Nat) (S : Nat → Bool) (c : Nat) : Nat → Bool := starC g (baseB g c S)
theorem star_of {g : List Nat} {R : Nat → Bool} {p : Nat} (h : R p = true) : starC g R p = true := by
  cases p with
  | zero => exact h
  | succ p => unfold starC; rw [h]; rfl
theorem star_next {g : List Nat} {R : Nat → Bool} {p : Nat} (h : starC g R p = true) (hg : g[p]? = some 42) : starC g R (p + 1) = true := by
  unfold starC; rw [h, hg]; simp
theorem star_cases {g : List Nat} {R : Nat → Bool} {p : Nat} (h : starC g R p = true) : R p = true ∨ ∃ q, p = q + 1 ∧ g[q]? = some 42 ∧ starC g R q = true := by
  cases p with
  | zero => exact .inl h
  | succ p =>
    unfold starC at h
    rw [Bool.or_eq_true, Bool.and_eq_true] at h
    rcases h with h | ⟨h1, h2⟩
    · exact .inl h
    · exact .inr ⟨p, rfl, eq_of_beq h1, h2⟩
structure Twin (g : List Nat) (A B : Nat → Bool) : Prop where
  sub : ∀ p, A p = true → B p = true
  back : ∀ p, A (p + 1) = true → g[p]? = some 42 → B p = true
  sup : ∀ p, B p = true → A p = true ∨ (g[p]? = some 42 ∧ A (p + 1) = true)
  clo : ∀ p, A p = true → g[p]? = some 42 → A (p + 1) = true
theorem twin_start (g : List Nat) : Twin g (startA g) (startA g) where
  sub p h := h
  back p h hg := by
    rcases star_cases h with h | ⟨q, e, _, h⟩
    · simp at h
    · cases e; exact h
  sup p h := .inl h
  clo p h hg := star_next h hg
theorem base_or {a b c : Bool} (h : (a || (b && c)) = true) : a = true ∨ (b = true ∧ c = true) := by
  rw [Bool.or_eq_true, Bool.and_eq_true] at h; exact h
theorem twin_step {g : List Nat} {A B : Nat → Bool} (T : Twin g A B) (c : Nat) : Twin g (stepA g A c) (stepB g B c) := by
  have b1 : ∀ k, B k = true → g[k]? = some 42 → stepB g B c k = true := fun k h hg => star_of (by unfold baseB; rw [h, hg]; simp)
  have b2 : ∀ k, B k = true → (g[k]? = some 63 ∨ g[k]? = some c) → stepB g B c (k + 1) = true := fun k h hg => star_of (by
    rw [baseB_succ, h]
    rcases hg with hg | hg <;> rw [hg] <;> simp)
  have a1 : ∀ k, A (k + 1) = true → g[k]? = some 42 → stepA g A c (k + 1) = true := fun k h hg => star_of (by rw [baseA_succ, h, hg]; simp)
  have a2 : ∀ k, A k = true → (g[k]? = some 63 ∨ g[k]? = some c) → stepA g A c (k + 1) = true := fun k h hg => star_of (by
    rw [baseA_succ, h]
    rcases hg with hg | hg <;> rw [hg] <;> simp)
  have ca : ∀ p, baseA g c A p = true → ∃ k, p = k + 1 ∧ ((A (k + 1) = true ∧ g[k]? = some 42) ∨ (A k = true ∧ (g[k]? = some 63 ∨ g[k]? = some c))) := fun p h => by
    cases p with
    | zero => cases h
    | succ k =>
      refine ⟨k, rfl, ?_⟩
      rw [baseA_succ] at h
      simp only [Bool.or_eq_true, Bool.and_eq_true, beq_iff_eq] at h
      exact h
  have cb : ∀ p, baseB g c B p = true → (B p = true ∧ g[p]? = some 42) ∨ ∃ k, p = k + 1 ∧ B k = true ∧ (g[k]? = some 63 ∨ g[k]? = some c) := fun p h => by
    unfold baseB at h
    rw [Bool.or_eq_true] at h
    rcases h with h | h
    · simp only [Bool.and_eq_true, beq_iff_eq] at h; exact .inl h
    · cases p with
      | zero => cases h
      | succ k =>
        simp only [Bool.or_eq_true, Bool.and_eq_true, beq_iff_eq] at h
        exact .inr ⟨k, rfl, h⟩
  have sub : ∀ p, stepA g A c p = true → stepB g B c p = true := fun p => by
    induction p with
    | zero =>
      intro h
      rcases star_cases h with h | ⟨q, e, _⟩
      · obtain ⟨k, e, _⟩ := ca _ h; cases e
      · cases e
    | succ p ih =>
      intro h
      rcases star_cases h with h | ⟨q, e, hg, h⟩
      · obtain ⟨k, e, h⟩ := ca _ h
        cases e
        rcases h with ⟨h, hg⟩ | ⟨h, hg⟩
        · exact star_next (b1 _ (T.back _ h hg) hg) hg
        · exact b2 _ (T.sub _ h) hg
      · cases e
        exact star_next (ih h) hg
  refine ⟨sub, fun p h hg => ?_, fun p => ?_, fun p h hg => star_next h hg⟩
  · rcases star_cases h with h | ⟨q, e, hg', h⟩
    · obtain ⟨k, e, h⟩ := ca _ h
      cases e
      rcases h with ⟨h, _⟩ | ⟨h, _⟩
      · exact b1 _ (T.back _ h hg) hg
      · exact b1 _ (T.sub _ h) hg
    · cases e
      exact sub _ h
  · induction p with
    | zero =>
      intro h
      rcases star_cases h with h | ⟨q, e, _⟩
      · rcases cb _ h with ⟨h, hg⟩ | ⟨k, e, _⟩
        · refine .inr ⟨hg, a1 _ ?_ hg⟩
          rcases T.sup _ h with h | h
          · exact T.clo _ h hg
          · exact h.2
        · cases e
      · cases e
    | succ p ih =>
      intro h
      rcases star_cases h with h | ⟨q, e, hg, h⟩
      · rcases cb _ h with ⟨h, hg⟩ | ⟨k, e, h, hg⟩
        · refine .inr ⟨hg, a1 _ ?_ hg⟩
          rcases T.sup _ h with h | h
          · exact T.clo _ h hg
          · exact h.2
        · cases e
          rcases T.sup _ h with h | ⟨hs, h⟩
          · exact .inl (a2 _ h hg)
          · exact .inl (a1 _ h hs)
      · cases e
        rcases ih h with h | ⟨_, h⟩
        · exact .inl (star_next h hg)
        · exact .inl h
theorem twin_fold (g : List Nat) : ∀ (b : List Nat) (A B : Nat → Bool), Twin g A B → Twin g (b.foldl (stepA g) A) (b.foldl (stepB g) B)
  | [], _, _, T => T
  | c :: b, _, _, T => twin_fold g b _ _ (twin_step T c)
/-- the law's own answer -/
theorem fits_law (g b : List Nat) : (b.foldl (stepB g) (startA g)) g.length = fitsB g b := by
  have T := twin_fold g b _ _ (twin_start g)
  cases h : fitsB g b with
  | true => exact T.sub _ h
  | false =>
    cases h2 : (b.foldl (stepB g) (startA g)) g.length with
    | false => rfl
    | true =>
      rcases T.sup _ h2 with h3 | ⟨h3, _⟩
      · have h : (b.foldl (stepA g) (startA g)) g.length = false := h
        rw [h] at h3; cases h3
      · rw [List.getElem?_eq_none (Nat.le_refl _)] at h3; cases h3
theorem fits_star (b : List Nat) : fitsB [42] b = true := by
  have : ∀ (b : List Nat) (S : Nat → Bool), S 1 = true → (b.foldl (stepA [42]) S) 1 = true := fun b => by
    induction b with
    | nil => exact fun S h => h
    | cons c b ih => exact fun S h => ih _ (star_of (p := 1) (by rw [show (1 : Nat) = 0 + 1 from rfl, baseA_succ, h]; rfl))
  exact this b _ rfl
theorem snocInd {α : Type} {P : List α → Prop} (h0 : P []) (h1 : ∀ l a, P l → P (l ++ [a])) (l : List α) : P l := by
  have : ∀ l : List α, P l.reverse := fun l => by
    induction l with
    | nil => exact h0
    | cons a l ih => rw [List.reverse_cons]; exact h1 _ _ ih
  have := this l.reverse
  rwa [List.reverse_reverse] at this
theorem fits_plain {g : List Nat} (h1 : 42 ∉ g) (h2 : 63 ∉ g) (b : List Nat) : fitsB g b = decide (g = b) := by
  have n42 : ∀ p, g[p]? ≠ some 42 := fun p e => h1 (List.mem_of_getElem? e)
  have n63 : ∀ p, g[p]? ≠ some 63 := fun p e => h2 (List.mem_of_getElem? e)
  have st : ∀ R p, starC g R p = R p := fun R p => by
    cases p with
    | zero => rfl
    | succ p => unfold starC; rw [beq_eq_false_iff_ne.mpr (n42 p), Bool.false_and, Bool.or_false]
  have key : ∀ b p, standA g b p = true ↔ (p = b.length ∧ p ≤ g.length ∧ g.take p = b) ∨ (b = [] ∧ p = 0) := fun b => by
    induction b using snocInd with
    | h0 =>
      intro p
      show startA g p = true ↔ _
      unfold startA
      rw [st]
      rw [beq_iff_eq]
      constructor
      · intro e; exact .inr ⟨rfl, e⟩
      · rintro (⟨e, _⟩ | ⟨_, e⟩) <;> exact e
    | h1 l c ih =>
      intro p
      have e : standA g (l ++ [c]) p = baseA g c (standA g l) p := by
        unfold standA
        rw [List.foldl_append]
        exact st _ _
      rw [e]
      cases p with
      | zero =>
        unfold baseA
        constructor
        · intro z; cases z
        · rintro (⟨e, _⟩ | ⟨e, _⟩)
          · simp at e
          · simp at e
      | succ p =>
        rw [baseA_succ, beq_eq_false_iff_ne.mpr (n42 p), beq_eq_false_iff_ne.mpr (n63 p)]
        simp only [Bool.and_false, Bool.false_or, Bool.and_eq_true, beq_iff_eq, ih]
        constructor
        · rintro ⟨h, hc⟩
          have hp := (List.getElem?_eq_some_iff.mp hc).1
          left
          have ht : g.take (p + 1) = g.take p ++ [c] := by rw [List.take_add_one, hc]; rfl
          rcases h with ⟨e1, e2, e3⟩ | ⟨rfl, rfl⟩
          · exact ⟨by rw [List.length_append, List.length_singleton, e1], hp, by rw [ht, e3]⟩
          · exact ⟨rfl, hp, by rw [ht]; rfl⟩
        · rintro (⟨e1, e2, e3⟩ | ⟨e, _⟩)
          · have hl : p = l.length := by rw [List.length_append, List.length_singleton] at e1; omega
            have hp : p < g.length := by omega
            rw [List.take_add_one, List.getElem?_eq_getElem hp] at e3
            have e4 := List.append_inj e3 (by rw [List.length_take, ← hl]; omega)
            refine ⟨.inl ⟨hl, by omega, e4.1⟩, ?_⟩
            rw [List.getElem?_eq_getElem hp]
            have := e4.2
            simpa using this
          · simp at e
  by_cases h : g = b
  · rw [decide_eq_true h]
    exact (key b g.length).mpr (.inl ⟨by rw [h], Nat.le_refl _, by rw [List.take_length]; exact h⟩)
  · rw [decide_eq_false h]
    cases hf : fitsB g b with
    | false => rfl
    | true =>
      exfalso
      rcases (key b g.length).mp hf with ⟨e1, _, e3⟩ | ⟨e1, e2⟩
      · rw [List.take_length] at e3; exact h e3
      · rw [e1] at h; exact h (List.length_eq_zero_iff.mp e2)
/-- no place, no further one -/
theorem step_none {g : List Nat} {S : Nat → Bool} {n c : Nat} (h : ∀ p, p ≤ n → S p = false) : ∀ p, p ≤ n → stepA g S c p = false := fun p => by
  induction p with
  | zero => intro _; rfl
  | succ p ih =>
    intro hp
    unfold stepA starC
    have e : baseA g c S (p + 1) = false := by rw [baseA_succ, h _ hp, h p (by omega)]; simp
    rw [e]
    have := ih (by omega)
    unfold stepA at this
    rw [this]; simp
theorem fold_none {g : List Nat} {n : Nat} : ∀ (b : List Nat) {S : Nat → Bool}, (∀ p, p ≤ n → S p = false) → ∀ p, p ≤ n → (b.foldl (stepA g) S) p = false
  | [], _, h => h
  | c :: b, _, h => fold_none b (step_none h)
end DL

namespace DL
open PySem PySem.Spec PyProof.Rows L2
open TL (tl)
theorem ran0 {n i : Nat} {d : D} (h : (ran 0 n)[i]? = some d) : i < n ∧ d = .int (i : Int) := by
  obtain ⟨h1, h2⟩ := ran_get h
  exact ⟨h1, by rw [h2, Int.zero_add]⟩
def plI (L : List Nat) : List Int := L.map fun (k : Nat) => (k : Int)
def plD (L : List Nat) : List D := (plI L).map D.int
theorem plD_len (L : List Nat) : (plD L).length = L.length := by unfold plD plI; rw [List.length_map, List.length_map]
theorem plD_snoc (L : List Nat) (k : Nat) : plD (L ++ [k]) = plD L ++ [.int (k : Nat)] := by unfold plD plI; rw [List.map_append, List.map_append]; rfl
theorem plI_mem {L : List Nat} {k : Nat} : ((k : Int) ∈ plI L) ↔ k ∈ L := by
  unfold plI
  rw [List.mem_map]
  exact ⟨fun ⟨a, h, e⟩ => by rw [← show a = k by omega]; exact h, fun h => ⟨k, h, rfl⟩⟩
theorem star_mk : ("*" : Str) = mk [42] := by decide +kernel
theorem ques_mk : ("?" : Str) = mk [63] := by decide +kernel
theorem excl_mk : ("!" : Str) = mk [33] := by decide +kernel
theorem comma_mk : ("," : Str) = mk [44] := by decide +kernel
theorem mk_sing {a b : Nat} : mk [a] = mk [b] ↔ a = b := ⟨fun h => by have := mk_inj h; injection this, fun h => by rw [h]⟩
theorem starC_congr {g : List Nat} {R R' : Nat → Bool} {n : Nat} (h : ∀ p, p ≤ n → R p = R' p) : ∀ p, p ≤ n → starC g R p = starC g R' p := fun p => by
  induction p with
  | zero => exact h 0
  | succ p ih =>
    intro hp
    unfold starC
    rw [h _ hp, ih (by omega)]
theorem plsL_congr {g : List Nat} {S S' : Nat → Bool} (h : ∀ p, p ≤ g.length → S p = S' p) : plsL g S = plsL g S' := by
  unfold plsL
  exact List.filter_congr fun p hp => h p (by have := List.mem_range.mp hp; omega)
theorem plsL_mem {g : List Nat} {S : Nat → Bool} {p : Nat} : p ∈ plsL g S ↔ p ≤ g.length ∧ S p = true := by
  unfold plsL
  rw [List.mem_filter, List.mem_range]
  exact ⟨fun h => ⟨by omega, h.2⟩, fun h => ⟨by omega, h.2⟩⟩
theorem plsL_len (g : List Nat) (S : Nat → Bool) : (plsL g S).length ≤ g.length + 1 := by
  unfold plsL
  have := List.length_filter_le S (List.range (g.length + 1))
  rwa [List.length_range] at this
theorem filt_snoc (S : Nat → Bool) (i : Nat) : (List.range (i + 1)).filter S = (List.range i).filter S ++ (if S i = true then [i] else []) := by
  rw [List.range_succ, List.filter_append]
  congr 1
  cases h : S i <;> simp [h]
theorem starC_step (g : List Nat) (R : Nat → Bool) (p : Nat) : starC g R (p + 1) = (R (p + 1) || (g[p]? == some 42 && starC g R p)) := rfl
/-- which items a pattern lets -/
def lstep (b : List Nat) (acc : Bool) : List Nat → Bool
  | [] => acc
  | c :: r => if c = 33 then (if fitsB r b = true then false else acc) else if fitsB (c :: r) b = true then true else acc
theorem lstep_cons (b : List Nat) (acc : Bool) (c : Nat) (r : List Nat) : lstep b acc (c :: r) = if c = 33 then (if fitsB r b = true then false else acc) else if fitsB (c :: r) b = true then true else acc := rfl
def letsB (p b : Str) : Bool := ((Txt.split p ",").map tl).foldl (lstep (tl b)) false
def PatOk (p : Str) : Prop := (tl p).length ≤ 1000 ∧ ∀ x ∈ Txt.split p ",", tl x ≠ []
theorem comma_len : (("," : Str).length == 0) = false := by decide +kernel
/-- an item has its say, or leaves all as it is -/
theorem lstep_cases (b it : List Nat) : (∃ v, ∀ acc, lstep b acc it = v) ∨ ∀ acc, lstep b acc it = acc := by
  cases it with
  | nil => exact .inr fun _ => rfl
  | cons c r =>
    by_cases hc : c = 33
    · by_cases hf : fitsB r b = true
      · exact .inl ⟨false, fun acc => by rw [lstep_cons, if_pos hc, if_pos hf]⟩
      · exact .inr fun acc => by rw [lstep_cons, if_pos hc, if_neg hf]
    · by_cases hf : fitsB (c :: r) b = true
      · exact .inl ⟨true, fun acc => by rw [lstep_cons, if_neg hc, if_pos hf]⟩
      · exact .inr fun acc => by rw [lstep_cons, if_neg hc, if_neg hf]
end DL

namespace DL
open PySem PySem.Spec PyProof.Rows L2
open TL (tl)
section
variable {g : GS} {Q : DK} {l : List Nat} {p : Addr}
theorem v_slAny {lo hi : Option Int} (hz : l.length ≤ 16777216) (h : ∀ r : List Nat, (∀ c ∈ r, c ∈ l) → r.length ≤ l.length → Q (.str (mk r)) g) : slD (.str (mk l)) lo hi g Q :=
  ⟨by rw [szl, TL.len_tl, tl_mk]; exact hz, by
    rw [cutS_mk]
    exact h _ (fun c hc => List.mem_of_mem_drop (List.mem_of_mem_take hc)) (by rw [List.length_take, List.length_drop]; omega)⟩
theorem v_pop {ds : List D} {y : D} (hp : g p = some (.lst ds)) (hy : ds[ds.length - 1]? = some y) (h : Q y (gup g p (.lst ds.dropLast))) : popD (.ref p) [] g Q := ⟨ds, y, hp, hy, h⟩
theorem v_popAt {ds : List D} {y : D} {i : Int} (hp : g p = some (.lst ds)) (h0 : 0 ≤ i) (hn : ds.length ≤ 16777216) (hy : ds[i.toNat]? = some y) (h : Q y (gup g p (.lst (ds.eraseIdx i.toNat)))) : popD (.ref p) [.int i] g Q := by
  have hi := (List.getElem?_eq_some_iff.mp hy).1
  refine ⟨ds, i.toNat, y, hp, by omega, by omega, ?_, hy, h⟩
  unfold seqIndex?
  rw [if_neg (by omega : ¬ i < 0)]
  have e : (decide (0 ≤ i) && decide (i < (ds.length : Int))) = true := by rw [decide_eq_true h0, decide_eq_true (by omega)]; rfl
  exact if_pos e
end
/-! ### boards, globs, patterns that are drawn -/
structure BoardOk (z : Str) : Prop where
  ok : boardB z = true
  len : (tl z).length ≤ 60
  chr : ∀ c ∈ tl z, low c ∨ dig c ∨ c = 46
  ne : tl z ≠ []
theorem joinL_ne (y : List Nat) : ∀ (ps : List (List Nat)), ps ≠ [] → (∀ p ∈ ps, p ≠ []) → TL.joinL y ps ≠ []
  | [], h, _ => absurd rfl h
  | [q], _, h => h q (List.mem_singleton.mpr rfl)
  | q :: r :: ps, _, h => by
    show q ++ (y ++ TL.joinL y (r :: ps)) ≠ []
    have := h q List.mem_cons_self
    intro z
    exact this (List.append_eq_nil_iff.mp z).1
theorem NameOk.chars {z : Str} (h : NameOk z) : ∀ c ∈ tl z, low c ∨ dig c := by
  have := h.plain
  unfold nameB at this
  rw [Bool.and_eq_true] at this
  exact plainB_chars this.2
theorem NameOk.plainT {z : Str} (h : NameOk z) : plainB (tl z) = true := by
  have := h.plain
  unfold nameB at this
  rw [Bool.and_eq_true] at this
  exact this.2
theorem NameOk.ne {z : Str} (h : NameOk z) : tl z ≠ [] := fun e => by
  have := h.plainT
  rw [e] at this; cases this
theorem board_ok {ws : List Str} (h : ∀ w ∈ ws, NameOk w) (h0 : ws ≠ []) (hn : ws.length ≤ 6) : BoardOk (Txt.join "." ws) := by
  have hl := join_bd (y := ("." : Str)) (B := 8) (zs := ws) fun w hw => by have := (h w hw).len; omega
  have hd : (tl ("." : Str)).length = 1 := by decide +kernel
  rw [hd] at hl
  have hl : (tl (Txt.join "." ws)).length ≤ 54 := Nat.le_trans hl (Nat.mul_le_mul_right 9 hn)
  have hs : Txt.split (Txt.join "." ws) "." = ws := TL.split_join (s := 46) (S := []) (by decide +kernel) (by decide +kernel) h0 fun w hw hm => by
    have := (h w hw).chars 46 hm
    unfold low dig at this
    omega
  refine ⟨?_, by omega, fun c hc => ?_, ?_⟩
  · unfold boardB
    rw [hs, decide_eq_true (by omega : (tl (Txt.join "." ws)).length ≤ 600), Bool.true_and]
    exact List.all_eq_true.mpr fun w hw => (h w hw).plainT
  · rw [TL.join_eq, TL.tl_join] at hc
    rcases joinL_mem _ _ c hc with hc | ⟨p, hp, hc⟩
    · have e : tl ("." : Str) = [46] := by decide +kernel
      rw [e] at hc
      exact .inr (.inr (List.mem_singleton.mp hc))
    · obtain ⟨w, hw, rfl⟩ := List.mem_map.mp hp
      exact ((h w hw).chars c hc).elim .inl fun z => .inr (.inl z)
  · rw [TL.join_eq, TL.tl_join]
    refine joinL_ne _ _ (fun e => h0 (List.map_eq_nil_iff.mp e)) fun p hp => ?_
    obtain ⟨w, hw, rfl⟩ := List.mem_map.mp hp
    exact (h w hw).ne
structure GlobOk (z : Str) : Prop where
  ne : tl z ≠ []
  len : (tl z).length ≤ 70
  chr : ∀ c ∈ tl z, low c ∨ dig c ∨ c = 46 ∨ c = 42 ∨ c = 63
structure ItemOk (z : Str) : Prop where
  ne : tl z ≠ []
  len : (tl z).length ≤ 80
  chr : ∀ c ∈ tl z, c ≠ 44
theorem pat_ok {is : List Str} (h : ∀ w ∈ is, ItemOk w) (h0 : is ≠ []) (hn : is.length ≤ 10) : PatOk (Txt.join "," is) ∧ Txt.split (Txt.join "," is) "," = is := by
  have hl := join_bd (y := ("," : Str)) (B := 80) (zs := is) fun w hw => (h w hw).len
  have hd : (tl ("," : Str)).length = 1 := by decide +kernel
  rw [hd] at hl
  have hl : (tl (Txt.join "," is)).length ≤ 810 := Nat.le_trans hl (Nat.mul_le_mul_right 81 hn)
  have hs : Txt.split (Txt.join "," is) "," = is := TL.split_join (s := 44) (S := []) (by decide +kernel) (by decide +kernel) h0 fun w hw hm => (h w hw).chr 44 hm rfl
  exact ⟨⟨by omega, fun x hx => by rw [hs] at hx; exact (h x hx).ne⟩, hs⟩
theorem pat_star : PatOk "*" := by
  have e : Txt.join "," [("*" : Str)] = "*" := by decide +kernel
  have e2 : tl ("*" : Str) = [42] := by decide +kernel
  rw [← e]
  exact (pat_ok (is := ["*"]) (fun w hw => by
    rw [List.mem_singleton.mp hw]
    exact ⟨by rw [e2]; simp, by rw [e2]; simp, fun c hc => by rw [e2] at hc; rw [List.mem_singleton.mp hc]; decide⟩) (by simp) (by simp)).1
end DL

namespace DL
open PySem PySem.Spec PyProof.Rows L2
open TL (tl)
/-! ### the law's row of spots -/
def blD (n : Nat) (S : Nat → Bool) : List D := (List.range (n + 1)).map fun p => .bl (S p)
theorem blD_len (n : Nat) (S : Nat → Bool) : (blD n S).length = n + 1 := by unfold blD; rw [List.length_map, List.length_range]
theorem blD_get {n : Nat} {S : Nat → Bool} {p : Nat} (h : p ≤ n) : (blD n S)[p]? = some (.bl (S p)) := by
  unfold blD
  rw [List.getElem?_map, List.getElem?_range (by omega)]
  rfl
theorem blD_congr {n : Nat} {S T : Nat → Bool} (h : ∀ p, p ≤ n → S p = T p) : blD n S = blD n T := by
  unfold blD
  exact List.map_congr_left fun p hp => by rw [h p (by have := List.mem_range.mp hp; omega)]
theorem blD_set {n : Nat} {S T : Nat → Bool} {k : Nat} (h : ∀ p, p ≤ n → T p = (S p || decide (p = k))) : (blD n S).set k (.bl true) = blD n T := by
  refine List.ext_getElem? fun i => ?_
  by_cases hi : i ≤ n
  · rw [blD_get hi, List.getElem?_set, h i hi]
    by_cases hk : k = i
    · subst hk
      rw [if_pos rfl, if_pos (by rw [blD_len]; omega)]; simp
    · rw [if_neg hk, blD_get hi]
      have : ¬ i = k := fun z => hk z.symm
      simp [this]
  · rw [List.getElem?_eq_none (by rw [List.length_set, blD_len]; omega), List.getElem?_eq_none (by rw [blD_len]; omega)]
theorem blD_false (n : Nat) : (List.replicate (n + 1) [D.bl false]).flatten = blD n fun _ => false := by
  unfold blD
  induction n with
  | zero => rfl
  | succ n ih => rw [List.range_succ, List.map_append, ← ih, List.replicate_succ', List.flatten_append]; rfl
theorem blD_start (n : Nat) : [D.bl true] ++ (List.replicate n [D.bl false]).flatten = blD n fun p => p == 0 := by
  unfold blD
  induction n with
  | zero => rfl
  | succ n ih => rw [List.range_succ, List.map_append, ← ih, List.replicate_succ', List.flatten_append, List.append_assoc]; rfl
theorem v_rep {g : GS} {Q : DK} {p : Addr} {xs : List D} {k : Int} (hp : g p = some (.lst xs)) (h0 : 0 ≤ k) (hz : xs.length * k.toNat ≤ 16777216) (h1 : k ≤ 16777216) (h : ∀ r, g r = none → Q (.ref r) (gup g r (.lst (List.replicate k.toNat xs).flatten))) : mulD (.ref p) (.int k) g Q :=
  ⟨xs, hp, by omega, by omega, by rw [szl]; exact hz, h⟩
theorem perm_erase {α : Type} : ∀ (l : List α) (i : Nat) (h : i < l.length), (l[i] :: l.eraseIdx i).Perm l
  | a :: r, 0, _ => List.Perm.refl _
  | a :: r, i + 1, h => by
    have hr : i < r.length := by simpa using h
    have ih := perm_erase r i hr
    exact (List.Perm.swap a r[i] (r.eraseIdx i)).trans (List.Perm.cons a ih)
theorem ixN_at {n k : Nat} {i : Int} (h : i = (k : Int)) (hk : k < n) : ixN n i = some k := by
  subst h
  unfold ixN
  rw [if_pos (by omega), if_pos (by omega)]
  congr 1
theorem starTo_end {g : List Nat} {R : Nat → Bool} {k p : Nat} (h : p ≤ k) : (if p ≤ k then starC g R p else R p) = starC g R p := if_pos h
def starTo (g : List Nat) (R : Nat → Bool) (k p : Nat) : Bool := if p ≤ k then starC g R p else R p
theorem starTo_0 (g : List Nat) (R : Nat → Bool) (p : Nat) : starTo g R 0 p = R p := by
  unfold starTo
  by_cases h : p ≤ 0
  · rw [if_pos h]
    have : p = 0 := by omega
    subst this; rfl
  · rw [if_neg h]
theorem starTo_self (g : List Nat) (R : Nat → Bool) (k : Nat) : starTo g R k k = starC g R k := if_pos (Nat.le_refl _)
theorem starTo_yes {g : List Nat} {R : Nat → Bool} {k : Nat} (h1 : starC g R k = true) (h2 : g[k]? = some 42) (p : Nat) : starTo g R (k + 1) p = (starTo g R k p || decide (p = k + 1)) := by
  unfold starTo
  by_cases h : p ≤ k
  · rw [if_pos h, if_pos (by omega), decide_eq_false (by omega), Bool.or_false]
  · by_cases e : p = k + 1
    · subst e
      rw [if_pos (Nat.le_refl _), decide_eq_true rfl, Bool.or_true, starC_step, h1, h2]; simp
    · rw [if_neg h, if_neg (by omega), decide_eq_false e, Bool.or_false]
theorem starTo_no {g : List Nat} {R : Nat → Bool} {k : Nat} (h1 : ¬ (starC g R k = true ∧ g[k]? = some 42)) (p : Nat) : starTo g R (k + 1) p = starTo g R k p := by
  unfold starTo
  by_cases h : p ≤ k
  · rw [if_pos h, if_pos (by omega)]
  · by_cases e : p = k + 1
    · subst e
      rw [if_pos (Nat.le_refl _), if_neg h, starC_step]
      have : (g[k]? == some 42 && starC g R k) = false := by
        cases h3 : (g[k]? == some 42 && starC g R k) with
        | false => rfl
        | true =>
          rw [Bool.and_eq_true] at h3
          exact absurd ⟨h3.2, eq_of_beq h3.1⟩ h1
      rw [this, Bool.or_false]
    · rw [if_neg h, if_neg (by omega)]
def bOn (g : List Nat) (c : Nat) (S : Nat → Bool) (k p : Nat) : Bool := (decide (p < k) && (S p && g[p]? == some 42)) || match p with
  | 0 => false
  | p + 1 => decide (p < k) && (S p && (g[p]? == some 63 || g[p]? == some c))
theorem bOn_succ (g : List Nat) (c : Nat) (S : Nat → Bool) (k p : Nat) : bOn g c S k (p + 1) = ((decide (p + 1 < k) && (S (p + 1) && g[p + 1]? == some 42)) || (decide (p < k) && (S p && (g[p]? == some 63 || g[p]? == some c)))) := rfl
theorem bOn_zero (g : List Nat) (c : Nat) (S : Nat → Bool) (k : Nat) : bOn g c S k 0 = (decide (0 < k) && (S 0 && g[0]? == some 42)) := by
  show (_ || false) = _
  rw [Bool.or_false]
theorem bOn_0 (g : List Nat) (c : Nat) (S : Nat → Bool) (p : Nat) : bOn g c S 0 p = false := by
  cases p with
  | zero => rw [bOn_zero]; rfl
  | succ p => rw [bOn_succ]; rfl
theorem bOn_end (g : List Nat) (c : Nat) (S : Nat → Bool) (p : Nat) : bOn g c S g.length p = baseB g c S p := by
  have e : ∀ p x, (decide (p < g.length) && (S p && g[p]? == some x)) = (S p && g[p]? == some x) := fun p x => by
    by_cases h : p < g.length
    · rw [decide_eq_true h, Bool.true_and]
    · rw [List.getElem?_eq_none (by omega)]; simp
  have e2 : ∀ p, (decide (p < g.length) && (S p && (g[p]? == some 63 || g[p]? == some c))) = (S p && (g[p]? == some 63 || g[p]? == some c)) := fun p => by
    by_cases h : p < g.length
    · rw [decide_eq_true h, Bool.true_and]
    · rw [List.getElem?_eq_none (by omega)]; simp
  cases p with
  | zero =>
    rw [bOn_zero, e]
    show _ = ((S 0 && g[0]? == some 42) || false)
    rw [Bool.or_false]
  | succ p => rw [bOn_succ, e, e2]; rfl
theorem bOn_step {g : List Nat} {c : Nat} {S : Nat → Bool} {k : Nat} {c1 c2 : Bool} (h1 : c1 = (S k && g[k]? == some 42)) (h2 : c2 = (S k && (g[k]? == some 63 || g[k]? == some c))) (p : Nat) :
    bOn g c S (k + 1) p = ((bOn g c S k p || (c1 && decide (p = k))) || (c2 && decide (p = k + 1))) := by
  subst h1 h2
  have d : ∀ p, decide (p < k + 1) = (decide (p < k) || decide (p = k)) := fun p => by
    by_cases a : p < k
    · rw [decide_eq_true a, decide_eq_true (by omega)]; rfl
    · by_cases b : p = k
      · rw [decide_eq_true b, decide_eq_true (by omega)]; simp
      · rw [decide_eq_false a, decide_eq_false b, decide_eq_false (by omega)]; rfl
  cases p with
  | zero =>
    rw [bOn_zero, bOn_zero, d, decide_eq_false (by omega : ¬ 0 = k + 1), Bool.and_false, Bool.or_false]
    by_cases e : 0 = k
    · subst e; simp
    · simp [e]
  | succ p =>
    rw [bOn_succ, bOn_succ, d, d]
    have e3 : decide (p + 1 = k + 1) = decide (p = k) := decide_eq_decide.mpr (by omega)
    rw [e3]
    by_cases e1 : p + 1 = k
    · subst e1
      have e2 : ¬ p = p + 1 := by omega
      simp [e2]
      exact Bool.or_comm _ _
    · by_cases e2 : p = k
      · subst e2; simp [e1]
      · simp [e1, e2]
end DL

namespace DL
open PySem L2
open PySem.W (alike dataLt AllAlike Sortable dataLe sortVals dataKind EachIs sorting_copy_old)
/-! ### sorted of data -/
def leP (a b : D) : Bool := dataLe false pd a b
def srtOk (ds : List D) : Prop := pures ds = true ∧ deps ds ≤ 60 ∧ AllAlike (ds.map pd) ∧ Sortable (ds.map pd)
def sortedD : DRC := fun xs g Q => match xs with
  | [.ref p] => ∃ ds, rdL g p ds ∧ srtOk ds ∧ ∀ r, g r = none → Q (.ref r) (gup g r (.lst (ds.mergeSort leP)))
  | _ => False
theorem pds_map (ds : List D) : pds ds = ds.map pd := by
  induction ds with
  | nil => rfl
  | cons d ds ih => rw [pds, ih]; rfl
section
variable {X : Cx} {K : PySem.W.Frag} {H : Hp}
theorem pures_mem : ∀ {ds : List D}, pures ds = true → ∀ d ∈ ds, pure? d = true
  | d :: ds, h, x, hx => by
    rw [pures, Bool.and_eq_true] at h
    rcases List.mem_cons.mp hx with rfl | hx
    · exact h.1
    · exact pures_mem h.2 x hx
theorem deps_mem : ∀ {ds : List D} {n : Nat}, deps ds ≤ n → ∀ d ∈ ds, dep d ≤ n
  | d :: ds, n, h, x, hx => by
    rw [deps] at h
    rcases List.mem_cons.mp hx with rfl | hx
    · omega
    · exact deps_mem (by omega) x hx
/-- a list of values stands for the data -/
def StD (K : PySem.W.Frag) (H : Hp) (u : Value) (d : D) : Prop := ∃ v, RepD K H v d ∧ RelV v u
theorem std_of : ∀ {vs : List V} {us : List Value} {ds : List D}, RepL K H vs ds → Vals vs us → EachIs (StD K H) us ds
  | _, _, _, .nil, .nil => .nil
  | _, _, _, .cons r l, .cons v t => .cons ⟨_, r, v⟩ (std_of l t)
theorem of_std : ∀ {us : List Value} {ds : List D}, EachIs (StD K H) us ds → ∃ vs, RepL K H vs ds ∧ Vals vs us
  | _, _, .nil => ⟨[], .nil, .nil⟩
  | _, _, .cons ⟨v, r, q⟩ t => by
    obtain ⟨vs, l, w⟩ := of_std t
    exact ⟨v :: vs, .cons r l, .cons q w⟩
theorem each_and {α β : Type} {R S : α → β → Prop} : ∀ {as : List α} {bs : List β}, EachIs R as bs → (∀ a b, b ∈ bs → R a b → S a b) → EachIs S as bs
  | _, _, .nil, _ => .nil
  | _, _, .cons h t, k => .cons (k _ _ List.mem_cons_self h) (each_and t fun a b hb => k a b (List.mem_cons_of_mem _ hb))
theorem each_mapD {α : Type} {R : α → PyData → Prop} : ∀ {as : List α} {bs : List D}, EachIs (fun a b => R a (pd b)) as bs → EachIs R as (bs.map pd)
  | _, _, .nil => .nil
  | _, _, .cons h t => .cons h (each_mapD t)
theorem call_sortedD (hu : X.A.units + 65 < cLine) : CallR X (.builtin "sorted") (lRC X.K sortedD) := fun pins s σ H xs us Q I rs ⟨ds, g, Qd, l, rg, q, k⟩ => by
  rcases l with _ | ⟨r1, _ | ⟨r2, l⟩⟩
  · exact q.elim
  · cases r1 with
    | ref p =>
      obtain ⟨ds, hp, ⟨hpu, hdp, hal, hsk⟩, q⟩ := q
      obtain ⟨vs, hs, l⟩ := rg.sq hp
      obtain ⟨its, rv, hl, hz⟩ := I.list hs
      rw [Vals.ref1 rs]
      have hlen := rv.length
      have e0 := std_of l rv
      have er : EachIs (fun u d => ∃ as, Reads s.heap u (pd d) as) its ds := each_and e0 fun u d hd ⟨v, r, w⟩ => Dp.reads I (pd d) v u (r.dp (pures_mem hpu d hd)) w
      have er2 : EachIs (fun u d => ∃ as, Reads (PySem.W.sortingHeap (PySem.W.copyHeap s.heap its) (s.heap.objs.size + 1) its) u (pd d) as) its ds := each_and er fun u d _ ⟨as, r⟩ => ⟨as, PyProof.Rows.Reads.keeps (fun b o e => sorting_copy_old e) r⟩
      have S := PySem.W.SortsAt.data (prog := X.prog) (w := X.w) (A := X.A.in1.in1) (s := { s with heap := PySem.W.sortingHeap (PySem.W.copyHeap s.heap its) (s.heap.objs.size + 1) its }) (each_mapD er2) hal hsk (fun d hd => by
        obtain ⟨d', hd', rfl⟩ := List.mem_map.mp hd
        have h1 := pd_dep d'
        have h2 := deps_mem hdp d' hd'
        show X.A.units + 1 + 1 + _ < _
        omega)
      have out := PySem.W.sortVals_data (R := StD X.K H) (enc := pd) false e0 er2 hal
      obtain ⟨vs', l', w'⟩ := of_std out
      refine PySem.W.sorted_vals hl.isList S (by rw [← hlen]; exact hz) ?_
      obtain ⟨ep, he'⟩ := PyProof.Rows.sortedAll_at s.heap its (sortVals (dataKind (PySem.W.sortingHeap (PySem.W.copyHeap s.heap its) (s.heap.objs.size + 1) its) (ds.map pd)) false its its).toArray
      have hl2 : vs'.length = its.length := by rw [w'.length]; exact PySem.W.sortVals_length false rfl
      have hz2 : vs'.length ≤ sizeLine := by rw [hl2, ← hlen]; exact hz
      exact ⟨.ref _, upd H (s.heap.objs.size + 1) (.lst vs'), I.laid (t' := s.toks) (fun _ _ => PyProof.Rows.sortedAll_old) (Nat.le_succ _) ⟨hz2, _, ep, w', he'⟩, rfl, rg.finL k (I.hok.fresh (Nat.le_succ _)) l' q⟩
    | _ => exact q.elim
  · cases r1 <;> exact q.elim
end
end DL

namespace DL
open PySem PySem.Spec PyProof.Rows L2
open TL (tl)
/-! ### books -/
structure SiteR where
  name : Str
  off : Int
  mem : Int
  term : Int
  lot : Str
abbrev SiteR.d (s : SiteR) : D := .tup [.str "site", .str s.name, .int s.off, .int s.mem, .int s.term, .str s.lot]
structure FeedR where
  giver : Str
  taker : Str
  pat : Str
  hops : Int
  size : Int
abbrev FeedR.d (f : FeedR) : D := .tup [.str "feed", .str f.giver, .str f.taker, .str f.pat, .int f.hops, .int f.size]
structure StwR where
  pat : Str
  addr : Str
  pol : D
abbrev StwR.d (s : StwR) : D := .tup [.str "steward", .str s.pat, .str s.addr, s.pol]
abbrev lineD (p : Str × Str) : D := .tup [.str p.1, .str p.2]
structure BookR where
  window : Int
  w1 : Int
  w2 : Int
  sites : List SiteR
  lines : List (Str × Str)
  feeds : List FeedR
  stws : List StwR
  lists : List D
abbrev BookR.ds (b : BookR) : List D := [.str "book", .int b.window, .tup [.int b.w1, .int b.w2], .tup (b.sites.map SiteR.d), .tup (b.lines.map lineD), .tup (b.feeds.map FeedR.d), .tup (b.stws.map StwR.d), .tup b.lists]
/-- the steward of a board -/
def stewardOf (ss : List StwR) (b : Str) : Option Str := (ss.find? fun s => letsB s.pat b).map StwR.addr
def optD : Option Str → D
  | none => .non
  | some z => .str z
def dOf {α : Type} (f : α → D) : Option α → D
  | none => .non
  | some a => f a
def siteOf (ss : List SiteR) (n : Str) : Option SiteR := ss.find? fun s => decide (s.name = n)
def feedOf (fs : List FeedR) (a b : Str) : Option FeedR := fs.find? fun f => decide (f.giver = a) && decide (f.taker = b)
def polOf (ss : List StwR) (z : Str) : Option StwR := ss.find? fun s => decide (s.addr = z)
/-- the seals needed -/
def needStep (ss : List StwR) (acc : List Str) (b : Str) : List Str := match stewardOf ss b with
  | none => acc
  | some a => if a ∈ acc then acc else acc ++ [a]
def needed (ss : List StwR) (bs : List Str) : List Str := bs.foldl (needStep ss) []
theorem needed_len (ss : List StwR) : ∀ (bs : List Str) (acc : List Str), (bs.foldl (needStep ss) acc).length ≤ acc.length + bs.length
  | [], acc => Nat.le_refl _
  | b :: bs, acc => by
    rw [List.foldl_cons, List.length_cons]
    have := needed_len ss bs (needStep ss acc b)
    have h2 : (needStep ss acc b).length ≤ acc.length + 1 := by
      unfold needStep
      split
      · omega
      · split
        · omega
        · rw [List.length_append]; exact Nat.le_refl _
    omega
theorem find_first {α : Type} {l : List α} {i : Nat} {x : α} {p : α → Bool} (hi : l[i]? = some x) (h : ∀ y ∈ l.take i, p y = false) (hx : p x = true) : l.find? p = some x := by
  have hl := (List.getElem?_eq_some_iff.mp hi)
  have e := List.take_append_drop i l
  rw [List.drop_eq_getElem_cons hl.1, hl.2] at e
  rw [← e, List.find?_append, List.find?_eq_none.mpr fun y hy => by rw [h y hy]; decide, List.find?_cons_of_pos hx]
  rfl
/-- what is right about a book that is drawn -/
structure SiteOk (s : SiteR) : Prop where
  name : NameOk s.name
  lot : PatOk s.lot
structure FeedOkR (f : FeedR) : Prop where
  giver : NameOk f.giver
  taker : NameOk f.taker
  pat : PatOk f.pat
  hops : 1 ≤ f.hops ∧ f.hops ≤ 9
  size : 1 ≤ f.size ∧ f.size ≤ 99
structure StwOk (s : StwR) : Prop where
  pat : PatOk s.pat
  addr : (tl s.addr).length ≤ 100 ∧ tl s.addr ≠ []
structure BookOk (b : BookR) : Prop where
  sites : ∀ s ∈ b.sites, SiteOk s
  ns : b.sites.length ≤ 100
  nf : b.feeds.length ≤ 1000
  nl : b.lines.length ≤ 1000
  nd : (b.sites.map (·.name)).Nodup
  lines : ∀ p ∈ b.lines, (∃ s ∈ b.sites, s.name = p.1) ∧ ∃ s ∈ b.sites, s.name = p.2
  feeds : ∀ f ∈ b.feeds, FeedOkR f ∧ (∃ s ∈ b.sites, s.name = f.giver) ∧ ∃ s ∈ b.sites, s.name = f.taker
  win : 0 ≤ b.window ∧ b.window ≤ 100
  waits : 1 ≤ b.w1 ∧ b.w1 ≤ b.w2 ∧ b.w2 ≤ 100
end DL

namespace DL
open PySem L2
/-! ### sum, max, min of a list of ints -/
section
variable {X : Cx} {K : PySem.W.Frag} {H : Hp}
def intsD (r : List Int → DK → GS → Prop) : DRC := fun xs g Q => match xs with
  | [.ref p] => ∃ ns : List Int, rdL g p (ns.map D.int) ∧ r ns Q g
  | _ => False
abbrev sumD : DRC := intsD fun ns Q g => Q (.int ns.sum) g
abbrev maxLD : DRC := intsD fun ns Q g => 0 < ns.length ∧ ∀ m, m ∈ ns → (∀ y, y ∈ ns → y ≤ m) → Q (.int m) g
abbrev minID : DRC := intsD fun ns Q g => 0 < ns.length ∧ ∀ m, m ∈ ns → (∀ y, y ∈ ns → m ≤ y) → Q (.int m) g
theorem call_ints {f : Value} {r : List Int → DK → GS → Prop} (h : ∀ {pins : List (Addr × Obj)} {s : Shared} {σ : L2.St} {H : Hp} {us : List Value} {Q : VK} {g : GS} {Qd : DK} {p : Addr} {ns : List Int}, Inv X pins σ H s → Vals [V.ref p] us → SqL X.K H p (ns.map V.int) → RepG X.K H g → KD X.K H Qd Q → r ns Qd g → wpAny (model X.prog X.w) X.A (call f us) (EP X pins σ Q) X.xe s) : CallR X f (lRC X.K (intsD r)) := fun pins s σ H xs us Q I rs ⟨ds, g, Qd, l, rg, q, k⟩ => by
  rcases l with _ | ⟨r1, _ | ⟨r2, l⟩⟩
  · exact q.elim
  · cases r1 with
    | ref p =>
      obtain ⟨ns, hp, q⟩ := q
      obtain ⟨xs, hs, l⟩ := rg.sq hp
      have := l.ints ns
      subst this
      exact h I rs hs rg k q
    | _ => exact q.elim
  · cases r1 <;> exact q.elim
theorem call_sumD (hc : X.calm = true) : CallR X (.builtin "sum") (lRC X.K sumD) := call_ints fun I rs hs rg k q => cr_sum hc _ _ _ _ _ _ _ I rs ⟨_, _, rfl, hs, rg.fin k (.int _) q⟩
theorem call_maxLD (hc : X.calm = true) : CallR X (.builtin "max") (lRC X.K maxLD) := call_ints fun I rs hs rg k q => cr_max hc _ _ _ _ _ _ _ I rs ⟨_, _, rfl, hs, q.1, fun m h1 h2 => rg.fin k (.int _) (q.2 m h1 h2)⟩
theorem call_minID (hc : X.calm = true) : CallR X (.builtin "min") (lRC X.K minID) := call_ints fun I rs hs rg k q => cr_min hc _ _ _ _ _ _ _ I rs ⟨_, _, rfl, hs, q.1, fun m h1 h2 => rg.fin k (.int _) (q.2 m h1 h2)⟩
def minSD : DRC := fun xs g Q => match xs with
  | [.ref p] => ∃ ss : List Str, rdL g p (ss.map D.str) ∧ ss ≠ [] ∧ ∀ m, m ∈ ss → (∀ y, y ∈ ss → ¬ y.cps.toList < m.cps.toList) → Q (.str m) g
  | _ => False
open PySem.W (dataLt AllAlike minD) in
theorem minD_strs : ∀ (ss : List Str) (x : Str), ∃ m : Str, minD (.str x) (ss.map PyData.str) = .str m ∧ m ∈ x :: ss ∧ ∀ y ∈ x :: ss, ¬ y.cps.toList < m.cps.toList
  | [], x => ⟨x, rfl, List.mem_cons_self, fun y hy => by rw [List.mem_singleton.mp hy]; exact List.lt_irrefl _⟩
  | y :: ss, x => by
    have e : minD (.str x) ((y :: ss).map PyData.str) = minD (if y.cps.toList < x.cps.toList then .str y else .str x) (ss.map PyData.str) := by
      unfold minD
      rw [List.map_cons, List.foldl_cons, PySem.W.dataLt_str]
      by_cases h : y.cps.toList < x.cps.toList
      · rw [if_pos h, if_pos (decide_eq_true h)]
      · rw [if_neg h, if_neg (by rw [decide_eq_false h]; decide)]
    rw [e]
    by_cases h : y.cps.toList < x.cps.toList
    · rw [if_pos h]
      obtain ⟨m, h1, h2, h3⟩ := minD_strs ss y
      refine ⟨m, h1, List.mem_cons_of_mem _ h2, fun z hz => ?_⟩
      rcases List.mem_cons.mp hz with rfl | hz
      · exact fun hlt => h3 y List.mem_cons_self (List.lt_trans h hlt)
      · exact h3 z hz
    · rw [if_neg h]
      obtain ⟨m, h1, h2, h3⟩ := minD_strs ss x
      refine ⟨m, h1, ?_, fun z hz => ?_⟩
      · rcases List.mem_cons.mp h2 with rfl | h2
        · exact List.mem_cons_self
        · exact List.mem_cons_of_mem _ (List.mem_cons_of_mem _ h2)
      · rcases List.mem_cons.mp hz with rfl | hz
        · exact h3 z List.mem_cons_self
        · rcases List.mem_cons.mp hz with rfl | hz
          · intro hlt
            have h5 := List.not_lt.mp h
            have h6 := List.not_lt.mp (h3 x List.mem_cons_self)
            exact absurd hlt (List.not_lt.mpr (List.le_trans h6 h5))
          · exact h3 z (List.mem_cons_of_mem _ hz)
open PyProof.Rows in
theorem call_minSD (hc : X.calm = true) (hu : X.A.units + 65 < cLine) : CallR X (.builtin "min") (lRC X.K minSD) := fun pins s σ H xs us Q I rs ⟨ds, g, Qd, l, rg, q, k⟩ => by
  rcases l with _ | ⟨r1, _ | ⟨r2, l⟩⟩
  · exact q.elim
  · cases r1 with
    | ref p =>
      obtain ⟨ss, hp, h0, q⟩ := q
      obtain ⟨xs, hs, l⟩ := rg.sq hp
      have := l.strs ss
      subst this
      obtain ⟨its, rv, hl, hz⟩ := I.list hs
      rw [Vals.ref1 rs]
      obtain ⟨x, t, rfl⟩ : ∃ x t, ss = x :: t := by
        cases ss with
        | nil => exact absurd rfl h0
        | cons x t => exact ⟨x, t, rfl⟩
      have hra : ∀ {vs : List Str} {us : List Value}, Vals (vs.map V.str) us → ReadsAll s.heap us (vs.map PyData.str) [] := fun {vs} => by
        induction vs with
        | nil => intro us h; cases h; exact .nil
        | cons a vs ih =>
          intro us h
          rw [List.map_cons] at h
          cases h with
          | cons h1 h2 =>
            obtain ⟨tk, rfl⟩ := h1
            exact .cons (.str a tk) (ih h2)
      obtain ⟨m, e1, e2, e3⟩ := minD_strs t x
      have hal : PySem.W.AlikeAll ((x :: t).map PyData.str) := ⟨fun d hd d' hd' => by
        obtain ⟨y, _, rfl⟩ := List.mem_map.mp hd
        obtain ⟨z, _, rfl⟩ := List.mem_map.mp hd'
        rfl, fun d hd => by
        obtain ⟨y, _, rfl⟩ := List.mem_map.mp hd
        exact fun z => by cases z⟩
      have hdp : PyData.depthAll ((x :: t).map PyData.str) = 0 := by
        generalize x :: t = l
        induction l with
        | nil => rfl
        | cons a l ih => rw [List.map_cons, PyData.depthAll, ih]; rfl
      refine PySem.W.min_list_data (x := .str x) (xs := t.map .str) (I.ok.hd hc) hl.isList (hra (vs := x :: t) rv) hal (by
        show X.A.units + 1 + PyData.depthAll ((x :: t).map PyData.str) < cLine
        rw [hdp]; omega) fun i v h' tk bs hi hr hk => ?_
      rw [e1] at hr
      cases hr
      exact ⟨.str m, H, I.kept hk, ⟨_, rfl⟩, rg.fin k (.str m) (q m e2 e3)⟩
    | _ => exact q.elim
  · cases r1 <;> exact q.elim
abbrev minLD : DRC := fun xs g Q => minID xs g Q ∨ minSD xs g Q
theorem call_minLD (hc : X.calm = true) (hu : X.A.units + 65 < cLine) : CallR X (.builtin "min") (lRC X.K minLD) := fun pins s σ H xs us Q I rs ⟨ds, g, Qd, l, rg, q, k⟩ => q.elim (fun q => call_minID hc pins s σ H xs us Q I rs ⟨ds, g, Qd, l, rg, q, k⟩) fun q => call_minSD hc hu pins s σ H xs us Q I rs ⟨ds, g, Qd, l, rg, q, k⟩
theorem v_minLS {g : GS} {Q : DK} {p : Addr} {ss : List Str} (hp : g p = some (.lst (ss.map D.str))) (h0 : ss ≠ []) (h : ∀ m, m ∈ ss → (∀ y, y ∈ ss → ¬ y.cps.toList < m.cps.toList) → Q (.str m) g) : minLD [.ref p] g Q := .inr ⟨ss, .inl hp, h0, h⟩
end
end DL

namespace DL
open PySem PySem.Spec PyProof.Rows L2
open TL (tl)
theorem set_same {e : EV} {j : Nat} : ∃ x, e = e.set j x := ⟨(e[j]?).getD none, by
  apply List.ext_getElem?
  intro i
  rw [List.getElem?_set]
  by_cases h : j = i
  · subst h
    rw [if_pos rfl]
    by_cases hl : j < e.length
    · rw [if_pos hl, List.getElem?_eq_getElem hl]; rfl
    · rw [if_neg hl, List.getElem?_eq_none (by omega)]
  · rw [if_neg h]⟩
theorem set_set {e : EV} {j : Nat} {x y : Option D} : (e.set j x).set j y = e.set j y := List.set_set ..
/-- a loop that stops at the first that has p -/
theorem find_iv {α : Type} {ds : List DL.D} {keep : GS → Prop} {tb : DTS} {D : DEnds} {e : EV} {g1 : GS} {j : Nat} (R : GS → Prop) (l : List α) (td : α → DL.D) (p : α → Bool) (hl : ds = l.map td) (h0 : R g1) (hk : ∀ g', R g' → keep g')
    (step : ∀ (i : Nat) (a : α) (x : Option DL.D) (W : EV → GS → Prop) g', l[i]? = some a → R g' → (p a = true → l.find? p = some a) → (p a = false → ∀ g'', R g'' → W ((e.set j x).set j (some (td a))) g'') →
      tb { D with nx := W, ct := W, bk := D.nx } ((e.set j x).set j (some (td a))) g')
    (fin : ∀ x g', R g' → l.find? p = none → D.nx (e.set j x) g') :
    ∃ Iv : Nat → EV → GS → Prop, Iv 0 e g1 ∧ (∀ i e' g', i ≤ ds.length → Iv i e' g' → keep g') ∧ (∀ i d e' g', ds[i]? = some d → Iv i e' g' → gNm j d e' g' fun e2 g2 => tb { D with nx := Iv (i + 1), ct := Iv (i + 1), bk := D.nx } e2 g2) ∧ ∀ e' g', Iv ds.length e' g' → D.nx e' g' := by
  subst hl
  refine ⟨fun i e' g' => R g' ∧ (∀ y ∈ l.take i, p y = false) ∧ ∃ x, e' = e.set j x, ⟨h0, (fun y h => nomatch h), set_same⟩, fun i e' g' _ h => hk g' h.1, ?_, ?_⟩
  · rintro i d e' g' hd ⟨U, hA, x, rfl⟩
    rw [List.getElem?_map] at hd
    cases hi : l[i]? with
    | none => rw [hi] at hd; cases hd
    | some a =>
      rw [hi] at hd
      cases hd
      refine step i a x _ g' hi U (fun h => find_first hi hA h) fun h g'' U2 => ⟨U2, fun y hy => ?_, ?_⟩
      · rw [List.take_add_one, hi] at hy
        rcases List.mem_append.mp hy with hy | hy
        · exact hA y hy
        · rw [List.mem_singleton.mp hy]; exact h
      · exact ⟨_, set_set⟩
  · rintro e' g' ⟨U, hA, x, rfl⟩
    rw [List.length_map, List.take_length] at hA
    exact fin x g' U (List.find?_eq_none.mpr fun y hy => by rw [hA y hy]; decide)
theorem dOf_some {α : Type} (f : α → D) (a : α) : dOf f (some a) = f a := rfl
theorem dOf_none {α : Type} (f : α → D) : dOf f none = .non := rfl
theorem atI_zero {α : Type} {x : α} {r : List α} : atI (x :: r) 0 = some x := atI_ofNat rfl (by omega)
theorem v_ixT0 {g : GS} {Q : DK} {x : D} {r : List D} (h : Q x g) : ixD (.tup (x :: r)) (.int 0) g Q := v_ixT atI_zero h
/-! ### sorted texts -/
open PySem.W (dataLt AllAlike Sortable dataLe alike keyToks)
theorem leP_str (a b : Str) : leP (.str a) (.str b) = !decide (b.cps.toList < a.cps.toList) := by
  show (!dataLt (.str b) (.str a)) = _
  rw [PySem.W.dataLt_str]
theorem leP_trans (a b c : D) (h1 : leP a b = true) (h2 : leP b c = true) : leP a c = true := (PySem.W.sortLe_total (PyProof.Rows.listOrd PyProof.Rows.itemOrd) false fun b => keyToks (pd b)).trans a b c h1 h2
theorem leP_total (a b : D) : (leP a b || leP b a) = true := by
  rcases (PySem.W.sortLe_total (PyProof.Rows.listOrd PyProof.Rows.itemOrd) false fun b => keyToks (pd b)).total a b with h | h
  · have h : leP a b = true := h
    rw [h, Bool.true_or]
  · have h : leP b a = true := h
    rw [h, Bool.or_true]
theorem leP_key {a b : D} (h1 : leP a b = true) (h2 : leP b a = true) : keyToks (pd a) = keyToks (pd b) := by
  have h1 : (!dataLt (pd b) (pd a)) = true := h1
  have h2 : (!dataLt (pd a) (pd b)) = true := h2
  rw [Bool.not_eq_true'] at h1 h2
  exact (PyProof.Rows.listOrd PyProof.Rows.itemOrd).total _ _ h2 h1
theorem sortD_perm {as bs : List D} (hp : as.Perm bs) (hinj : ∀ a ∈ as, ∀ b ∈ as, keyToks (pd a) = keyToks (pd b) → a = b) : as.mergeSort leP = bs.mergeSort leP := by
  have p1 := List.mergeSort_perm as leP
  have p2 := List.mergeSort_perm bs leP
  refine List.Perm.eq_of_pairwise (le := fun a b => leP a b = true) ?_ (List.pairwise_mergeSort leP_trans leP_total as) (List.pairwise_mergeSort leP_trans leP_total bs) (p1.trans (hp.trans p2.symm))
  intro a b ha hb h1 h2
  exact hinj a (p1.mem_iff.mp ha) b (hp.mem_iff.mpr (p2.mem_iff.mp hb)) (leP_key h1 h2)
theorem key_str {a b : Str} (h : keyToks (pd (.str a)) = keyToks (pd (.str b))) : a = b := by
  have h : [(Sum.inr a.cps.toList : Int ⊕ List Nat)] = [.inr b.cps.toList] := h
  injection h with h
  injection h with h
  exact PySem.W.str_of_cps h
/-- texts in their order -/
def sortS (ss : List Str) : List D := (ss.map D.str).mergeSort leP
theorem sortS_perm {as bs : List Str} (h : as.Perm bs) : sortS as = sortS bs := sortD_perm (List.Perm.map _ h) fun a ha b hb e => by
  obtain ⟨x, _, rfl⟩ := List.mem_map.mp ha
  obtain ⟨y, _, rfl⟩ := List.mem_map.mp hb
  rw [key_str e]
theorem sortS_mem {ss : List Str} {d : D} (h : d ∈ sortS ss) : ∃ z ∈ ss, d = .str z := by
  obtain ⟨z, h1, h2⟩ := List.mem_map.mp ((List.mergeSort_perm _ leP).mem_iff.mp h)
  exact ⟨z, h1, h2.symm⟩
theorem sortS_strs (ss : List Str) : ∃ zs : List Str, sortS ss = zs.map D.str ∧ zs.Perm ss := by
  obtain ⟨zs, h1, h2⟩ := strs_of (P := fun z => z ∈ ss) (acc := sortS ss) fun d hd => by
    obtain ⟨z, hz, e⟩ := sortS_mem hd
    exact ⟨z, e, hz⟩
  refine ⟨zs, h1, ?_⟩
  have := List.mergeSort_perm (ss.map D.str) leP
  have e : (ss.map D.str).mergeSort leP = zs.map D.str := h1
  rw [e] at this
  have h3 := List.Perm.map (fun d => match d with | .str z => z | _ => "") this
  rw [List.map_map, List.map_map] at h3
  have e2 : ∀ l : List Str, l.map ((fun d : D => match d with | .str z => z | _ => "") ∘ D.str) = l := fun l => by
    induction l with
    | nil => rfl
    | cons a l ih => rw [List.map_cons, ih]; rfl
  rw [e2, e2] at h3
  exact h3
abbrev sOk (z : Str) : Prop := PyData.strOk z = true
theorem sOk_of {z : Str} (h : ∀ c ∈ tl z, c < 1114112) : sOk z := by
  show z.cps.all (fun c => decide (c < 0x110000)) = true
  rw [Array.all_eq_true']
  intro c hc
  exact decide_eq_true (h c (Array.mem_toList_iff.mpr hc))
theorem NameOk.sOk {z : Str} (h : NameOk z) : DL.sOk z := sOk_of fun c hc => by
  have := h.chars c hc
  unfold low dig at this
  omega
theorem pures_strs : ∀ {ss : List Str}, (∀ z ∈ ss, sOk z) → pures (ss.map D.str) = true
  | [], _ => rfl
  | a :: l, h => by
    rw [List.map_cons, pures, pures_strs fun z hz => h z (List.mem_cons_of_mem _ hz), Bool.and_true]
    rw [pure?]
    exact h a List.mem_cons_self
theorem deps_strs (ss : List Str) : deps (ss.map D.str) = 0 := by
  induction ss with
  | nil => rfl
  | cons a l ih => rw [List.map_cons, deps, ih]; rfl
theorem srt_strs {ss : List Str} (h : ∀ z ∈ ss, sOk z) : srtOk (ss.map D.str) := by
  refine ⟨pures_strs h, by rw [deps_strs]; omega, ?_, ?_⟩
  · intro d hd d' hd'
    rw [List.map_map] at hd hd'
    obtain ⟨x, _, rfl⟩ := List.mem_map.mp hd
    obtain ⟨y, _, rfl⟩ := List.mem_map.mp hd'
    rfl
  · refine .inr fun d hd => ?_
    rw [List.map_map] at hd
    obtain ⟨x, _, rfl⟩ := List.mem_map.mp hd
    exact ⟨(fun z => by cases z), fun _ z => by cases z⟩
section
variable {g : GS} {Q : DK} {p : Addr}
theorem v_sortS {ss : List Str} (hp : g p = some (.lst (ss.map D.str))) (hs : ∀ z ∈ ss, sOk z) (h : ∀ r, g r = none → Q (.ref r) (gup g r (.lst (sortS ss)))) : sortedD [.ref p] g Q :=
  ⟨_, .inl hp, srt_strs hs, h⟩
theorem v_max2S {i j : Str} (h : Q (.str (if i.cps.toList < j.cps.toList then j else i)) g) : max2D [.str i, .str j] g Q := h
theorem v_min2S {i j : Str} (h : Q (.str (if j.cps.toList < i.cps.toList then j else i)) g) : min2D [.str i, .str j] g Q := h
theorem v_maxL {p : Addr} {ns : List Int} (hp : g p = some (.lst (ns.map D.int))) (h0 : ns ≠ []) (h : ∀ m, m ∈ ns → (∀ y, y ∈ ns → y ≤ m) → Q (.int m) g) : maxLD [.ref p] g Q := ⟨ns, .inl hp, List.length_pos_iff.mpr h0, h⟩
theorem v_sumL {p : Addr} {ns : List Int} (hp : g p = some (.lst (ns.map D.int))) (h : Q (.int ns.sum) g) : sumD [.ref p] g Q := ⟨ns, .inl hp, h⟩
end
theorem find_nodup {α : Type} {f : α → Str} {l : List α} (hn : (l.map f).Nodup) {t : α} (ht : t ∈ l) : (l.find? fun x => decide (f x = f t)) = some t := by
  induction l with
  | nil => cases ht
  | cons a l ih =>
    rw [List.map_cons, List.nodup_cons] at hn
    by_cases h : f a = f t
    · rw [List.find?_cons_of_pos (by simpa using h)]
      rcases List.mem_cons.mp ht with e | h2
      · rw [e]
      · exact absurd (by rw [h]; exact List.mem_map_of_mem h2) hn.1
    · rw [List.find?_cons_of_neg (by simpa using h)]
      rcases List.mem_cons.mp ht with e | h2
      · exact absurd (by rw [e]) h
      · exact ih hn.2 h2
/-! ### lines of a book -/
theorem perm_map_inv {α β : Type} {f : α → β} : ∀ {ys xs : List β}, ys.Perm xs → ∀ l : List α, xs = l.map f → ∃ l' : List α, ys = l'.map f ∧ l'.Perm l := fun h => by
  induction h with
  | nil => intro l e; exact ⟨[], rfl, by rw [List.map_eq_nil_iff.mp e.symm]⟩
  | cons x p ih =>
    intro l e
    cases l with
    | nil => cases e
    | cons a l =>
      rw [List.map_cons] at e
      injection e with e1 e2
      obtain ⟨l', h1, h2⟩ := ih l e2
      exact ⟨a :: l', by rw [List.map_cons, e1, h1], h2.cons a⟩
  | swap x y l0 =>
    intro l e
    match l, e with
    | a :: b :: l, e =>
      rw [List.map_cons, List.map_cons] at e
      injection e with e1 e2
      injection e2 with e2 e3
      exact ⟨b :: a :: l, by rw [List.map_cons, List.map_cons, e1, e2, e3], List.Perm.swap ..⟩
  | trans p1 p2 ih1 ih2 =>
    intro l e
    obtain ⟨l2, h1, h2⟩ := ih2 l e
    obtain ⟨l3, h3, h4⟩ := ih1 l2 h1
    exact ⟨l3, h3, h4.trans h2⟩
def nbStep (n : Str) (acc : List Str) (p : Str × Str) : List Str := if p.2 = n then (if p.1 = n then acc ++ [p.2] else acc) ++ [p.1] else if p.1 = n then acc ++ [p.2] else acc
def nbrs (ls : List (Str × Str)) (n : Str) : List Str := ls.foldl (nbStep n) []
def near (ls : List (Str × Str)) (n : Str) : List Str := (ls.filter fun p => decide (p.1 = n)).map (·.2) ++ (ls.filter fun p => decide (p.2 = n)).map (·.1)
theorem nb_len (n : Str) : ∀ (ls : List (Str × Str)) (acc : List Str), (ls.foldl (nbStep n) acc).length ≤ acc.length + 2 * ls.length
  | [], acc => Nat.le_refl _
  | p :: ls, acc => by
    rw [List.foldl_cons, List.length_cons]
    have := nb_len n ls (nbStep n acc p)
    have h2 : (nbStep n acc p).length ≤ acc.length + 2 := by
      unfold nbStep
      split <;> split <;> simp
    omega
theorem nb_mem (n : Str) {P : Str → Prop} : ∀ (ls : List (Str × Str)) (acc : List Str), (∀ p ∈ ls, P p.1 ∧ P p.2) → (∀ z ∈ acc, P z) → ∀ z ∈ ls.foldl (nbStep n) acc, P z
  | [], acc, _, ha => ha
  | p :: ls, acc, h, ha => by
    rw [List.foldl_cons]
    refine nb_mem n ls _ (fun q hq => h q (List.mem_cons_of_mem _ hq)) fun z hz => ?_
    have h1 := h p List.mem_cons_self
    unfold nbStep at hz
    have app : ∀ {l : List Str} {x : Str}, (∀ y ∈ l, P y) → P x → ∀ y ∈ l ++ [x], P y := fun hl hx y hy => by
      rcases List.mem_append.mp hy with hy | hy
      · exact hl y hy
      · rw [List.mem_singleton.mp hy]; exact hx
    have in1 : ∀ y ∈ (if p.1 = n then acc ++ [p.2] else acc), P y := fun y hy => by
      by_cases h2 : p.1 = n
      · rw [if_pos h2] at hy; exact app ha h1.2 y hy
      · rw [if_neg h2] at hy; exact ha y hy
    by_cases h2 : p.2 = n
    · rw [if_pos h2] at hz
      exact app in1 h1.1 z hz
    · rw [if_neg h2] at hz
      exact in1 z hz
theorem near_mem {ls : List (Str × Str)} {n : Str} {P : Str → Prop} (h : ∀ p ∈ ls, P p.1 ∧ P p.2) : ∀ z ∈ near ls n, P z := fun z hz => by
  unfold near at hz
  rcases List.mem_append.mp hz with hz | hz
  · obtain ⟨p, hp, rfl⟩ := List.mem_map.mp hz
    exact (h p (List.mem_filter.mp hp).1).2
  · obtain ⟨p, hp, rfl⟩ := List.mem_map.mp hz
    exact (h p (List.mem_filter.mp hp).1).1
theorem near_perm (n : Str) : ∀ (ls : List (Str × Str)) (acc : List Str), (ls.foldl (nbStep n) acc).Perm (acc ++ near ls n)
  | [], acc => by
    rw [show near [] n = [] from rfl, List.append_nil]
    exact List.Perm.refl _
  | p :: ls, acc => by
    rw [List.foldl_cons]
    refine (near_perm n ls (nbStep n acc p)).trans ?_
    rw [List.perm_iff_count]
    intro a
    unfold nbStep near
    by_cases h1 : p.1 = n
    · by_cases h2 : p.2 = n
      · rw [if_pos h2, if_pos h1, List.filter_cons_of_pos (by simpa using h1), List.filter_cons_of_pos (by simpa using h2)]
        simp only [List.count_append, List.map_cons, List.count_cons, List.count_nil]
        omega
      · rw [if_neg h2, if_pos h1, List.filter_cons_of_pos (by simpa using h1), List.filter_cons_of_neg (by simpa using h2)]
        simp only [List.count_append, List.map_cons, List.count_cons, List.count_nil]
        omega
    · by_cases h2 : p.2 = n
      · rw [if_pos h2, if_neg h1, List.filter_cons_of_neg (by simpa using h1), List.filter_cons_of_pos (by simpa using h2)]
        simp only [List.count_append, List.map_cons, List.count_cons, List.count_nil]
        omega
      · rw [if_neg h2, if_neg h1, List.filter_cons_of_neg (by simpa using h1), List.filter_cons_of_neg (by simpa using h2)]
theorem sort_near (ls : List (Str × Str)) (n : Str) : sortS (nbrs ls n) = sortS (near ls n) := sortS_perm (by
  have := near_perm n ls []
  rwa [List.nil_append] at this)
theorem fine_line {a b : Str} (ha : sOk a) (hb : sOk b) : fine (.tup [.str a, .str b]) := ⟨by simp only [pure?, pures]; rw [ha, hb]; rfl, by simp [dep, deps]⟩
theorem pures_lines : ∀ {ps : List (Str × Str)}, (∀ p ∈ ps, sOk p.1 ∧ sOk p.2) → pures (ps.map lineD) = true
  | [], _ => rfl
  | a :: l, h => by
    have h1 := h a List.mem_cons_self
    rw [List.map_cons, pures, pures_lines fun z hz => h z (List.mem_cons_of_mem _ hz), Bool.and_true]
    exact (fine_line h1.1 h1.2).1
theorem deps_lines (ps : List (Str × Str)) : deps (ps.map lineD) ≤ 60 := by
  induction ps with
  | nil => rw [List.map_nil, deps]; omega
  | cons a l ih =>
    rw [List.map_cons, deps]
    have e : dep (lineD a) ≤ 60 := by
      show dep (.tup [.str a.1, .str a.2]) ≤ 60
      simp only [dep, deps]
      omega
    omega
theorem srt_lines {ps : List (Str × Str)} (h : ∀ p ∈ ps, sOk p.1 ∧ sOk p.2) : srtOk (ps.map lineD) := by
  refine ⟨pures_lines h, deps_lines ps, ?_, .inl ?_⟩
  · intro d hd d' hd'
    rw [List.map_map] at hd hd'
    obtain ⟨x, _, rfl⟩ := List.mem_map.mp hd
    obtain ⟨y, _, rfl⟩ := List.mem_map.mp hd'
    rfl
  · intro d hd
    rw [List.map_map] at hd
    obtain ⟨x, _, rfl⟩ := List.mem_map.mp hd
    exact ⟨_, _, rfl⟩
section
variable {g : GS} {Q : DK} {p : Addr}
theorem v_sortLines {ps : List (Str × Str)} (hp : g p = some (.lst (ps.map lineD))) (hs : ∀ p ∈ ps, sOk p.1 ∧ sOk p.2) (h : ∀ r (qs : List (Str × Str)), qs.Perm ps → g r = none → Q (.ref r) (gup g r (.lst (qs.map lineD)))) : sortedD [.ref p] g Q :=
  ⟨_, .inl hp, srt_lines hs, fun r hr => by
    obtain ⟨qs, h1, h2⟩ := perm_map_inv (List.mergeSort_perm (ps.map lineD) leP) ps rfl
    rw [h1]
    exact h r qs h2 hr⟩
theorem v_notInLd {xs ds : List D} (hp : g p = some (.lst ds)) (hx : fine (.tup xs)) (h1 : pures ds = true) (h2 : deps ds ≤ 60) (h : Q (.bl (!(ds.any fun z => eqP z (.tup xs)))) g) : notInD (.tup xs) (.ref p) g Q :=
  ⟨ds, .inl hp, .inr ⟨hx, h1, h2⟩, h⟩
theorem v_inLd {xs ds : List D} (hp : g p = some (.lst ds)) (hx : fine (.tup xs)) (h1 : pures ds = true) (h2 : deps ds ≤ 60) (h : Q (.bl (ds.any fun z => eqP z (.tup xs))) g) : inD (.tup xs) (.ref p) g Q :=
  ⟨ds, .inl hp, .inr ⟨hx, h1, h2⟩, h⟩
end
theorem ite_mem {α : Type} {c : Prop} [Decidable c] {l : List α} {x y : α} (hx : x ∈ l) (hy : y ∈ l) : (if c then x else y) ∈ l := by
  by_cases h : c
  · rw [if_pos h]; exact hx
  · rw [if_neg h]; exact hy
theorem ite_of {α : Type} {c : Prop} [Decidable c] {P : α → Prop} {x y : α} (hx : P x) (hy : P y) : P (if c then y else x) := by
  by_cases h : c
  · rw [if_pos h]; exact hy
  · rw [if_neg h]; exact hx
theorem at_strs {ns : List Str} {v : Int} (h0 : 0 ≤ v) (h : v < ns.length) : ∃ z, z ∈ ns ∧ ns[v.toNat]? = some z ∧ atI (ns.map D.str) v = some (.str z) := by
  have hl : v.toNat < ns.length := by omega
  exact ⟨ns[v.toNat], List.getElem_mem hl, List.getElem?_eq_getElem hl, atI_ofNat (by rw [List.getElem?_map, List.getElem?_eq_getElem hl]; rfl) h0⟩
/-! ### addresses -/
theorem addr_cut {a h : List Nat} (ha : 64 ∉ a) : (a ++ 64 :: h).takeWhile (fun c => c ≠ 64) = a := by
  induction a with
  | nil => rfl
  | cons c a ih =>
    have h1 : c ≠ 64 := fun e => ha (by rw [e]; exact List.mem_cons_self)
    rw [List.cons_append, List.takeWhile_cons_of_pos (by simpa using h1), ih fun h => ha (List.mem_cons_of_mem _ h)]
theorem addr_inj {a b h k : Str} (ha : NameOk a) (hb : NameOk b) (e : a ++ ("@" : Str) ++ h = b ++ ("@" : Str) ++ k) : a = b := by
  have e2 := congrArg tl e
  rw [TL.tl_append, TL.tl_append, TL.tl_append, TL.tl_append] at e2
  have e3 : tl ("@" : Str) = [64] := by decide +kernel
  rw [e3, List.append_assoc, List.append_assoc, List.singleton_append, List.singleton_append] at e2
  have no : ∀ {z : Str}, NameOk z → 64 ∉ tl z := fun hz hm => by
    have := hz.chars 64 hm
    unfold low dig at this
    omega
  have e4 := congrArg (List.takeWhile fun c => decide (c ≠ 64)) e2
  rw [addr_cut (no ha), addr_cut (no hb)] at e4
  exact TL.ext_tl e4
end DL

namespace DL
open PySem PySem.Spec PyProof.Rows L2
open TL (tl)
/-! ### notices, policies, letters -/
abbrev numS (n : Int) : Str := Str.ofString (toString n)
def idT (z : Str) (n : Int) : Str := numS n ++ ("@" : Str) ++ z
theorem num_len {n : Int} (h0 : 0 ≤ n) (h : n < 1000000000000) : (tl (numS n)).length ≤ 12 := by
  unfold numS
  rw [num_mk h0, tl_mk]
  exact TL.numL_len (by omega) (by omega)
structure NtR where
  name : Str
  num : Int
  author : Str
  date : Int
  boards : List Str
  subj : Str
  refs : List D
  kw : Str
  krest : List D
  seals : List Str
  body : D
abbrev NtR.id (n : NtR) : D := .tup [.str n.name, .int n.num]
abbrev NtR.kind (n : NtR) : D := .tup (.str n.kw :: n.krest)
abbrev NtR.ds (n : NtR) : List D := [.str "notice", n.id, .str n.author, .int n.date, .tup (n.boards.map D.str), .str n.subj, .tup n.refs, n.kind, .tup (n.seals.map D.str), n.body]
structure NtB (n : NtR) : Prop where
  name : (tl n.name).length ≤ 100
  num : 0 ≤ n.num ∧ n.num < 1000000000
  seals : n.seals.length ≤ 1000
  boards : n.boards.length ≤ 1000
  bl : ∀ z ∈ n.boards, (tl z).length ≤ 1000000
/-- seals that are lacking -/
def sealsLeft (ss : List StwR) (n : NtR) : List Str := if n.kw = "strike" then [] else (needed ss n.boards).filter fun a => !decide (a ∈ n.seals)
def subKey (n : NtR) (k : Int) : Str := ("s:" : Str) ++ idT n.name n.num ++ (":" : Str) ++ numS n.seals.length ++ (":" : Str) ++ numS k
def subLet (n : NtR) (a : D) (seen : List D) : D := .tup [.str "letter", .str (subKey n seen.length), a, .tup [.str "submit", .tup n.ds, a, .tup seen]]
def subOut (ss : List StwR) (n : NtR) : D := match sealsLeft ss n with
  | [] => .non
  | a :: _ => subLet n (.str a) []
section
variable {g : GS} {Q : DK}
theorem v_addB {a b : Str} (hz : (tl a).length + (tl b).length ≤ 16777216) (h : (tl (a ++ b)).length = (tl a).length + (tl b).length → Q (.str (a ++ b)) g) : addD (.str a) (.str b) g Q :=
  v_addS (len2_le hz (Nat.le_refl _)) (h (by rw [TL.tl_append, List.length_append]))
end
theorem idT_len {z : Str} {n : Int} (h0 : 0 ≤ n) (h : n < 1000000000000) : (tl (idT z n)).length ≤ (tl z).length + 13 := by
  unfold idT
  rw [TL.tl_append, TL.tl_append, List.length_append, List.length_append]
  have := num_len h0 h
  have e : (tl ("@" : Str)).length = 1 := by decide +kernel
  omega
theorem sc_len : (tl ("s:" : Str)).length = 2 ∧ (tl ("n:" : Str)).length = 2 ∧ (tl ("c:" : Str)).length = 2 ∧ (tl (":" : Str)).length = 1 := ⟨by decide +kernel, by decide +kernel, by decide +kernel, by decide +kernel⟩
theorem ints_of {P : Int → Prop} : ∀ {acc : List D}, (∀ d ∈ acc, ∃ z, d = .int z ∧ P z) → ∃ as : List Int, acc = as.map D.int ∧ ∀ z ∈ as, P z
  | [], _ => ⟨[], rfl, fun z hz => nomatch hz⟩
  | d :: acc, h => by
    obtain ⟨as, rfl, ha⟩ := ints_of (acc := acc) fun x hx => h x (List.mem_cons_of_mem _ hx)
    obtain ⟨z, rfl, hz⟩ := h d List.mem_cons_self
    exact ⟨z :: as, rfl, fun y hy => (List.mem_cons.mp hy).elim (fun e => by rw [e]; exact hz) (ha y)⟩
/-! policies that are drawn -/
inductive BasR where
  | board (p : Str) | frm (a b : Str) | word (w : Str) | over (n : Int) | sealed (a : Str) | any | answer | replace
def BasR.d : BasR → D
  | .board p => .tup [.str "board", .str p]
  | .frm a b => .tup [.str "from", .str a, .str b]
  | .word w => .tup [.str "word", .str w]
  | .over n => .tup [.str "over", .int n]
  | .sealed a => .tup [.str "sealed", .str a]
  | .any => .tup [.str "any"]
  | .answer => .tup [.str "answer"]
  | .replace => .tup [.str "replace"]
inductive TstR where
  | bas (b : BasR) | two (o : Str) (a b : BasR)
def TstR.d : TstR → D
  | .bas b => b.d
  | .two o a b => .tup [.str o, .tup [.str "not", a.d], b.d]
inductive VerR where
  | pass | hold | refuse (w : Str) | send (a : Str)
def VerR.d : VerR → D
  | .pass => .tup [.str "pass"]
  | .hold => .tup [.str "hold"]
  | .refuse w => .tup [.str "refuse", .str w]
  | .send a => .tup [.str "send", .str a]
abbrev RulR := TstR × VerR
def rulD (r : RulR) : D := .tup [r.1.d, r.2.d]
/-- words us, names of sites ns, addresses as -/
def BasOk (us ns as : List Str) : BasR → Prop
  | .board p => PatOk p
  | .frm a b => (a = "*" ∨ a = "ann" ∨ a = "b2") ∧ (b = "*" ∨ b ∈ ns)
  | .word w => w ∈ us
  | .over n => 0 ≤ n ∧ n < 5
  | .sealed a => a ∈ as
  | _ => True
def TstOk (us ns as : List Str) : TstR → Prop
  | .bas b => BasOk us ns as b
  | .two o a b => (o = "and" ∨ o = "or") ∧ BasOk us ns as a ∧ BasOk us ns as b
def VerOk (us as : List Str) : VerR → Prop
  | .refuse w => w ∈ us
  | .send a => a ∈ as
  | _ => True
def RulOk (us ns as : List Str) (r : RulR) : Prop := TstOk us ns as r.1 ∧ VerOk us as r.2
/-- bodies that are drawn -/
inductive BodR where
  | data (ns : List Int) | parts (r : Str) | rows (rs : List Str)
def BodR.d : BodR → D
  | .data ns => .tup [.str "data", .str "pairs", .tup (ns.map D.int)]
  | .parts r => .tup [.str "parts", .tup [.tup [.str "text", .str "plain", .tup [.str r]], .tup [.str "text", .str "plain", .tup []]]]
  | .rows rs => .tup [.str "text", .str "plain", .tup (rs.map D.str)]
end DL

namespace DL
open PySem PySem.Spec PyProof.Rows L2
open TL (tl)
/-! ### ways over lines -/
def adjB (ls : List (Str × Str)) (y z : Str) : Bool := ls.any fun p => (decide (p.1 = y) && decide (p.2 = z)) || (decide (p.2 = y) && decide (p.1 = z))
theorem adj_mem {ls : List (Str × Str)} {y z : Str} : adjB ls y z = true ↔ ∃ p ∈ ls, (p.1 = y ∧ p.2 = z) ∨ (p.2 = y ∧ p.1 = z) := by
  unfold adjB
  rw [List.any_eq_true]
  simp
theorem near_adj {ls : List (Str × Str)} {n z : Str} : z ∈ near ls n ↔ adjB ls n z = true := by
  rw [adj_mem]
  unfold near
  rw [List.mem_append, List.mem_map, List.mem_map]
  constructor
  · rintro (⟨p, hp, rfl⟩ | ⟨p, hp, rfl⟩)
    · exact ⟨p, (List.mem_filter.mp hp).1, .inl ⟨of_decide_eq_true (List.mem_filter.mp hp).2, rfl⟩⟩
    · exact ⟨p, (List.mem_filter.mp hp).1, .inr ⟨of_decide_eq_true (List.mem_filter.mp hp).2, rfl⟩⟩
  · rintro ⟨p, hp, ⟨h1, h2⟩ | ⟨h1, h2⟩⟩
    · exact .inl ⟨p, List.mem_filter.mpr ⟨hp, decide_eq_true h1⟩, h2⟩
    · exact .inr ⟨p, List.mem_filter.mpr ⟨hp, decide_eq_true h1⟩, h2⟩
theorem nbrs_adj {ls : List (Str × Str)} {n z : Str} : z ∈ nbrs ls n ↔ adjB ls n z = true := by
  have := near_perm n ls []
  rw [List.nil_append] at this
  rw [← near_adj]
  exact this.mem_iff
/-- the table behind t steps from a -/
def tb (ls : List (Str × Str)) (a : Str) : Nat → Str → Option Nat
  | 0, z => if z = a then some 0 else none
  | t + 1, z => match tb ls a t z with
    | some d => some d
    | none => if (ls.any fun p => (decide (tb ls a t p.1 = some t) && decide (p.2 = z)) || (decide (tb ls a t p.2 = some t) && decide (p.1 = z))) = true then some (t + 1) else none
section
variable {ls : List (Str × Str)} {a : Str}
theorem tb_new {t : Nat} {z : Str} : (ls.any fun p => (decide (tb ls a t p.1 = some t) && decide (p.2 = z)) || (decide (tb ls a t p.2 = some t) && decide (p.1 = z))) = true ↔ ∃ y, tb ls a t y = some t ∧ adjB ls y z = true := by
  rw [List.any_eq_true]
  constructor
  · rintro ⟨p, hp, h⟩
    rw [Bool.or_eq_true, Bool.and_eq_true, Bool.and_eq_true, decide_eq_true_iff, decide_eq_true_iff, decide_eq_true_iff, decide_eq_true_iff] at h
    rcases h with ⟨h1, h2⟩ | ⟨h1, h2⟩
    · exact ⟨p.1, h1, adj_mem.mpr ⟨p, hp, .inl ⟨rfl, h2⟩⟩⟩
    · exact ⟨p.2, h1, adj_mem.mpr ⟨p, hp, .inr ⟨rfl, h2⟩⟩⟩
  · rintro ⟨y, h1, h2⟩
    obtain ⟨p, hp, ⟨h3, h4⟩ | ⟨h3, h4⟩⟩ := adj_mem.mp h2
    · exact ⟨p, hp, by rw [h3, h1, h4]; simp⟩
    · exact ⟨p, hp, by rw [h3, h1, h4]; simp⟩
theorem tb_keep {t d : Nat} {z : Str} (h : tb ls a t z = some d) : tb ls a (t + 1) z = some d := by
  rw [tb, h]
theorem tb_none {t : Nat} {z : Str} (h : tb ls a t z = none) : tb ls a (t + 1) z = if (ls.any fun p => (decide (tb ls a t p.1 = some t) && decide (p.2 = z)) || (decide (tb ls a t p.2 = some t) && decide (p.1 = z))) = true then some (t + 1) else none := by
  rw [tb, h]
theorem tb_le : ∀ {t d : Nat} {z : Str}, tb ls a t z = some d → d ≤ t
  | 0, d, z, h => by
    rw [tb] at h
    split at h
    · cases h; omega
    · cases h
  | t + 1, d, z, h => by
    cases e : tb ls a t z with
    | some d2 =>
      rw [tb_keep e] at h
      cases h
      have := tb_le e
      omega
    | none =>
      rw [tb_none e] at h
      split at h
      · cases h; omega
      · cases h
/-- level t+1 comes from level t -/
theorem tb_pre {t : Nat} {z : Str} (h : tb ls a (t + 1) z = some (t + 1)) : tb ls a t z = none ∧ ∃ y, tb ls a t y = some t ∧ adjB ls y z = true := by
  cases e : tb ls a t z with
  | some d2 =>
    rw [tb_keep e] at h
    cases h
    have := tb_le e
    omega
  | none =>
    rw [tb_none e] at h
    split at h
    · exact ⟨rfl, tb_new.mp (by assumption)⟩
    · cases h
theorem tb_stab {t : Nat} (h : ∀ z, tb ls a t z ≠ some t) : ∀ k z, tb ls a (t + k) z = tb ls a t z ∧ tb ls a (t + k) z ≠ some (t + k)
  | 0, z => ⟨rfl, h z⟩
  | k + 1, z => by
    have ih := tb_stab h k
    have e : tb ls a (t + k + 1) z = tb ls a (t + k) z := by
      cases e : tb ls a (t + k) z with
      | some d => exact tb_keep e
      | none =>
        rw [tb_none e, if_neg]
        intro hn
        obtain ⟨y, hy, _⟩ := tb_new.mp hn
        exact (ih y).2 hy
    have e2 : tb ls a (t + (k + 1)) z = tb ls a (t + k) z := e
    refine ⟨e2.trans (ih z).1, fun h2 => ?_⟩
    rw [e2] at h2
    have := tb_le h2
    omega
/-- distinct names, one for each level -/
theorem tb_names {N : List Str} (ha : a ∈ N) (hl : ∀ p ∈ ls, p.1 ∈ N ∧ p.2 ∈ N) : ∀ (t : Nat) (z : Str), tb ls a t z = some t → ∃ ys : List Str, ys.length = t + 1 ∧ ys.Nodup ∧ (∀ y ∈ ys, y ∈ N) ∧ ∀ y ∈ ys, tb ls a t y ≠ none
  | 0, z, h => ⟨[a], rfl, by simp, fun y hy => by rw [List.mem_singleton.mp hy]; exact ha, fun y hy => by rw [List.mem_singleton.mp hy, tb, if_pos rfl]; simp⟩
  | t + 1, z, h => by
    obtain ⟨h0, y, h1, h2⟩ := tb_pre h
    obtain ⟨ys, e1, e2, e3, e4⟩ := tb_names ha hl t y h1
    refine ⟨z :: ys, by rw [List.length_cons, e1], List.nodup_cons.mpr ⟨fun hz => e4 z hz h0, e2⟩, fun x hx => ?_, fun x hx => ?_⟩
    · rcases List.mem_cons.mp hx with rfl | hx
      · obtain ⟨p, hp, ⟨_, h4⟩ | ⟨_, h4⟩⟩ := adj_mem.mp h2
        · rw [← h4]; exact (hl p hp).2
        · rw [← h4]; exact (hl p hp).1
      · exact e3 x hx
    · rcases List.mem_cons.mp hx with rfl | hx
      · rw [h]; simp
      · cases e : tb ls a t x with
        | none => exact absurd e (e4 x hx)
        | some d => rw [tb_keep e]; simp
theorem tb_bound {N : List Str} (ha : a ∈ N) (hl : ∀ p ∈ ls, p.1 ∈ N ∧ p.2 ∈ N) {t : Nat} {z : Str} (h : tb ls a t z = some t) : t + 1 ≤ N.length := by
  obtain ⟨ys, e1, e2, e3, _⟩ := tb_names ha hl t z h
  rw [← e1]
  exact nodup_len ys N e2 e3
/-- the table that stands -/
theorem tb_last {N : List Str} (ha : a ∈ N) (hl : ∀ p ∈ ls, p.1 ∈ N ∧ p.2 ∈ N) {t : Nat} (h : ∀ z, tb ls a t z ≠ some t) (z : Str) : tb ls a t z = tb ls a (N.length - 1) z := by
  have hpos : 0 < N.length := List.length_pos_iff.mpr fun e => by rw [e] at ha; cases ha
  have hN : ∀ z, tb ls a N.length z ≠ some N.length := fun z hz => by
    have := tb_bound ha hl hz
    omega
  have e0 : tb ls a N.length z = tb ls a (N.length - 1) z := by
    have e : N.length = N.length - 1 + 1 := by omega
    cases e1 : tb ls a (N.length - 1) z with
    | some d => rw [e]; exact tb_keep e1
    | none =>
      cases e2 : tb ls a N.length z with
      | none => rfl
      | some d =>
        have e3 := e2
        rw [e, tb_none e1] at e3
        split at e3
        · cases e3
          exact absurd e2 (by rw [← e]; exact hN z)
        · cases e3
  by_cases hle : t ≤ N.length
  · have := (tb_stab h (N.length - t) z).1
    rw [Nat.add_sub_cancel' hle] at this
    rw [← this, e0]
  · have := (tb_stab hN (t - N.length) z).1
    rw [Nat.add_sub_cancel' (by omega)] at this
    rw [this, e0]
end
/-- the way to z from a, with n names -/
def dst (ls : List (Str × Str)) (a : Str) (n : Nat) (z : Str) : Option Nat := tb ls a (n - 1) z
structure Net (ls : List (Str × Str)) (N : List Str) : Prop where
  ends : ∀ p ∈ ls, p.1 ∈ N ∧ p.2 ∈ N
  ok : ∀ z ∈ N, sOk z
  nl : ls.length ≤ 100000
  nn : N.length ≤ 1000
section
variable {ls : List (Str × Str)} {a : Str} {N : List Str}
theorem dst_stand (ha : a ∈ N) (hN : Net ls N) : ∀ k z, N.length - 1 ≤ k → tb ls a k z = dst ls a N.length z := fun k z hk => by
  have hpos : 0 < N.length := List.length_pos_iff.mpr fun e => by rw [e] at ha; cases ha
  by_cases e : k = N.length - 1
  · rw [e]; rfl
  · exact tb_last ha hN.ends (fun z hz => by have := tb_bound ha hN.ends hz; omega) z
theorem dst_in (ha : a ∈ N) (hN : Net ls N) {z : Str} {d : Nat} (h : dst ls a N.length z = some d) : z ∈ N := by
  unfold dst at h
  generalize N.length - 1 = t at h
  induction t generalizing d with
  | zero =>
    rw [tb] at h
    split at h
    · subst_vars; exact ha
    · cases h
  | succ t ih =>
    cases e : tb ls a t z with
    | some d2 => exact ih e
    | none =>
      rw [tb_none e] at h
      split at h
      · next hn =>
        obtain ⟨y, _, h2⟩ := tb_new.mp hn
        obtain ⟨p, hp, ⟨_, h4⟩ | ⟨_, h4⟩⟩ := adj_mem.mp h2
        · rw [← h4]; exact (hN.ends p hp).2
        · rw [← h4]; exact (hN.ends p hp).1
      · cases h
theorem dst_self (ha : a ∈ N) (hN : Net ls N) : dst ls a N.length a = some 0 := by
  unfold dst
  generalize N.length - 1 = t
  induction t with
  | zero => rw [tb, if_pos rfl]
  | succ t ih => exact tb_keep ih
theorem dst_zero (ha : a ∈ N) (hN : Net ls N) {z : Str} (h : dst ls a N.length z = some 0) : z = a := by
  unfold dst at h
  generalize N.length - 1 = t at h
  induction t with
  | zero =>
    rw [tb] at h
    split at h
    · assumption
    · cases h
  | succ t ih =>
    cases e : tb ls a t z with
    | some d2 => rw [tb_keep e] at h; cases h; exact ih e
    | none =>
      rw [tb_none e] at h
      split at h
      · cases h
      · cases h
/-- levels of a final table: each is reached at its own step -/
theorem tb_own : ∀ {t d : Nat} {z : Str}, tb ls a t z = some d → tb ls a d z = some d
  | 0, d, z, h => by
    have := tb_le h
    have e : d = 0 := by omega
    subst e
    exact h
  | t + 1, d, z, h => by
    cases e : tb ls a t z with
    | some d2 =>
      rw [tb_keep e] at h
      cases h
      exact tb_own e
    | none =>
      have h2 := h
      rw [tb_none e] at h
      split at h
      · cases h; exact h2
      · cases h
theorem tb_mono {t k d : Nat} {z : Str} (h : tb ls a t z = some d) : tb ls a (t + k) z = some d := by
  induction k with
  | zero => exact h
  | succ k ih => exact tb_keep ih
theorem dst_pre (ha : a ∈ N) (hN : Net ls N) {z : Str} {d : Nat} (h : dst ls a N.length z = some (d + 1)) : ∃ y, dst ls a N.length y = some d ∧ adjB ls z y = true := by
  obtain ⟨_, y, h1, h2⟩ := tb_pre (tb_own h)
  have hle := tb_le h
  refine ⟨y, ?_, ?_⟩
  · have := tb_mono (k := N.length - 1 - d) h1
    rwa [Nat.add_sub_cancel' (by omega)] at this
  · obtain ⟨p, hp, ⟨h3, h4⟩ | ⟨h3, h4⟩⟩ := adj_mem.mp h2
    · exact adj_mem.mpr ⟨p, hp, .inr ⟨h4, h3⟩⟩
    · exact adj_mem.mpr ⟨p, hp, .inl ⟨h4, h3⟩⟩
/-- who is beside a found one is found -/
theorem dst_closed (ha : a ∈ N) (hN : Net ls N) {y z : Str} (h : dst ls a N.length y ≠ none) (hz : adjB ls y z = true) : dst ls a N.length z ≠ none := fun e => by
  cases e1 : dst ls a N.length y with
  | none => exact h e1
  | some d =>
    have h1 := tb_own e1
    have e2 : tb ls a (d + 1) z ≠ none := fun e3 => by
      cases e4 : tb ls a d z with
      | some k => rw [tb_keep e4] at e3; cases e3
      | none =>
        rw [tb_none e4, if_pos (tb_new.mpr ⟨y, h1, hz⟩)] at e3
        cases e3
    cases e5 : tb ls a (d + 1) z with
    | none => exact e2 e5
    | some k =>
      have := tb_mono (k := N.length - 1) e5
      have e6 := dst_stand ha hN (d + 1 + (N.length - 1)) z (by omega)
      rw [this, e] at e6
      cases e6
end
/-! ways back -/
theorem adj_symm {ls : List (Str × Str)} {y z : Str} (h : adjB ls y z = true) : adjB ls z y = true := by
  obtain ⟨p, hp, ⟨h3, h4⟩ | ⟨h3, h4⟩⟩ := adj_mem.mp h
  · exact adj_mem.mpr ⟨p, hp, .inr ⟨h4, h3⟩⟩
  · exact adj_mem.mpr ⟨p, hp, .inl ⟨h4, h3⟩⟩
inductive Wk (ls : List (Str × Str)) (x : Str) : Nat → Str → Prop
  | nil : Wk ls x 0 x
  | snoc {n : Nat} {y z : Str} : Wk ls x n y → adjB ls y z = true → Wk ls x (n + 1) z
theorem Wk.cons {ls : List (Str × Str)} {x y : Str} (h : adjB ls x y = true) : ∀ {n : Nat} {z : Str}, Wk ls y n z → Wk ls x (n + 1) z
  | _, _, .nil => .snoc .nil h
  | _, _, .snoc w a => .snoc (Wk.cons h w) a
theorem Wk.rev {ls : List (Str × Str)} {x : Str} : ∀ {n : Nat} {z : Str}, Wk ls x n z → Wk ls z n x
  | _, _, .nil => .nil
  | _, _, .snoc w a => Wk.cons (adj_symm a) w.rev
theorem wk_of {ls : List (Str × Str)} {a : Str} : ∀ {d : Nat} {z : Str}, tb ls a d z = some d → Wk ls a d z
  | 0, z, h => by
    rw [tb] at h
    split at h
    · subst_vars; exact .nil
    · cases h
  | d + 1, z, h => by
    obtain ⟨_, y, h1, h2⟩ := tb_pre h
    exact .snoc (wk_of h1) h2
theorem of_wk {ls : List (Str × Str)} {a : Str} : ∀ {n : Nat} {z : Str}, Wk ls a n z → ∃ d, d ≤ n ∧ tb ls a n z = some d
  | _, _, .nil => ⟨0, Nat.le_refl _, by rw [tb, if_pos rfl]⟩
  | n + 1, z, .snoc (y := y) w ha => by
    obtain ⟨d, hd, e⟩ := of_wk w
    have h1 := tb_own e
    have h2 : ∃ k, tb ls a (d + 1) z = some k := by
      cases e4 : tb ls a d z with
      | some k => exact ⟨k, tb_keep e4⟩
      | none => exact ⟨_, by rw [tb_none e4, if_pos (tb_new.mpr ⟨y, h1, ha⟩)]⟩
    obtain ⟨k, hk⟩ := h2
    have := tb_le hk
    refine ⟨k, by omega, ?_⟩
    have := tb_mono (k := n - d) hk
    rwa [show d + 1 + (n - d) = n + 1 by omega] at this
theorem dst_symm {ls : List (Str × Str)} {N : List Str} {x y : Str} (hx : x ∈ N) (hy : y ∈ N) (hN : Net ls N) : dst ls x N.length y = dst ls y N.length x := by
  have one : ∀ {x y : Str}, x ∈ N → y ∈ N → ∀ d, dst ls x N.length y = some d → ∃ d', d' ≤ d ∧ dst ls y N.length x = some d' := fun {x y} hx hy d h => by
    obtain ⟨d', h1, h2⟩ := of_wk (wk_of (tb_own h)).rev
    refine ⟨d', h1, ?_⟩
    have := tb_mono (k := N.length - 1) h2
    rw [dst_stand hy hN _ _ (by omega)] at this
    exact this
  cases e : dst ls x N.length y with
  | some d =>
    obtain ⟨d', h1, h2⟩ := one hx hy d e
    obtain ⟨d2, h3, h4⟩ := one hy hx d' h2
    rw [e] at h4
    cases h4
    rw [h2]
    congr 1
    omega
  | none =>
    cases e2 : dst ls y N.length x with
    | none => rfl
    | some d =>
      obtain ⟨d', _, h2⟩ := one hy hx d e2
      rw [e] at h2
      cases h2
/-- one nearer -/
def nxB (ls : List (Str × Str)) (go : Str) (n : Nat) (h z : Str) : Bool := match dst ls go n h with
  | some (d + 1) => decide (dst ls go n z = some d)
  | _ => false
/-! a step of the law's own spread -/
def mS (ls : List (Str × Str)) (a : Str) (t : Nat) (S : Str → Bool) (z : Str) : Option Nat := match tb ls a t z with
  | some d => some d
  | none => if S z = true then some (t + 1) else none
theorem mS_old {ls : List (Str × Str)} {a : Str} {t : Nat} {S : Str → Bool} {z : Str} {d : Nat} (h : tb ls a t z = some d) : mS ls a t S z = some d := by
  unfold mS; rw [h]
theorem mS_new {ls : List (Str × Str)} {a : Str} {t : Nat} {S : Str → Bool} {z : Str} (h : tb ls a t z = none) : mS ls a t S z = if S z = true then some (t + 1) else none := by
  unfold mS; rw [h]
theorem mS_lvl {ls : List (Str × Str)} {a : Str} {t : Nat} {S : Str → Bool} {z : Str} : mS ls a t S z = some t ↔ tb ls a t z = some t := by
  cases h : tb ls a t z with
  | some d => rw [mS_old h]
  | none =>
    rw [mS_new h]
    by_cases hs : S z = true
    · rw [if_pos hs]; simp
    · rw [if_neg hs]
/-! dictionaries of ways -/
def Rp (kvs : List (L2.Key × D)) (f : Str → Option Nat) : Prop := ∀ z, getD kvs (.inr z) = (f z).map fun (d : Nat) => D.int d
theorem Rp.put {kvs : List (L2.Key × D)} {f f' : Str → Option Nat} (h : Rp kvs f) (z : Str) (k : Nat) (he : ∀ y, f' y = if y = z then some k else f y) : Rp (putD kvs (.inr z) (.int k)) f' := fun y => by
  rw [getD_put, he y]
  by_cases e : y = z
  · rw [if_pos e, if_pos (by rw [e])]; rfl
  · rw [if_neg e, if_neg (fun e2 => e (by injection e2)), h y]
def midT (ls : List (Str × Str)) (a : Str) (t : Nat) (fur : List Str) (z : Str) : Option Nat := match tb ls a t z with
  | some d => some d
  | none => if z ∈ fur then some (t + 1) else none
theorem mS_tb (ls : List (Str × Str)) (a : Str) (t : Nat) : mS ls a t (fun z => ls.any fun p => (decide (tb ls a t p.1 = some t) && decide (p.2 = z)) || (decide (tb ls a t p.2 = some t) && decide (p.1 = z))) = tb ls a (t + 1) := funext fun z => by
  cases h : tb ls a t z with
  | some d => rw [mS_old h, tb_keep h]
  | none => rw [mS_new h, tb_none h]
theorem mS_zero (ls : List (Str × Str)) (a : Str) (t : Nat) : mS ls a t (fun _ => false) = tb ls a t := funext fun z => by
  cases h : tb ls a t z with
  | some d => rw [mS_old h]
  | none => rw [mS_new h]; rfl
/-- one look of the spread: from x to y -/
theorem mS_look {ls : List (Str × Str)} {a : Str} {t : Nat} {S S' : Str → Bool} {x y : Str} {kvs : List (L2.Key × D)} (hR : Rp kvs (mS ls a t S)) (hS : ∀ z, S' z = (S z || (decide (tb ls a t x = some t) && decide (y = z)))) :
    (tb ls a t x = some t ∧ mS ls a t S y = none → Rp (putD kvs (.inr y) (.int ((t + 1 : Nat) : Int))) (mS ls a t S')) ∧ (¬ (tb ls a t x = some t ∧ mS ls a t S y = none) → Rp kvs (mS ls a t S')) := by
  constructor
  · rintro ⟨h1, h2⟩
    have hy : tb ls a t y = none := by
      cases h : tb ls a t y with
      | some d => rw [mS_old h] at h2; cases h2
      | none => rfl
    refine Rp.put hR y (t + 1) fun z => ?_
    by_cases hz : z = y
    · subst hz
      rw [if_pos rfl, mS_new hy, hS, h1]
      simp
    · rw [if_neg hz]
      cases h : tb ls a t z with
      | some d => rw [mS_old h, mS_old h]
      | none =>
        rw [mS_new h, mS_new h, hS, decide_eq_false (p := y = z) (fun e => hz e.symm), Bool.and_false, Bool.or_false]
  · intro hn z
    rw [hR z]
    congr 1
    cases h : tb ls a t z with
    | some d => rw [mS_old h, mS_old h]
    | none =>
      rw [mS_new h, mS_new h, hS]
      by_cases hx : tb ls a t x = some t
      · by_cases hy : y = z
        · subst hy
          have h2 : mS ls a t S y ≠ none := fun e => hn ⟨hx, e⟩
          rw [mS_new h] at h2
          by_cases hs : S y = true
          · rw [hs]; rfl
          · rw [if_neg hs] at h2; exact absurd rfl h2
        · rw [decide_eq_false hy, Bool.and_false, Bool.or_false]
      · rw [decide_eq_false hx, Bool.false_and, Bool.or_false]
theorem midT_nil (ls : List (Str × Str)) (a : Str) (t : Nat) : midT ls a t [] = tb ls a t := funext fun z => by
  unfold midT
  split
  · next h => rw [h]
  · next h => rw [h]; rfl
theorem midT_old {ls : List (Str × Str)} {a : Str} {t : Nat} {fur : List Str} {z : Str} {d : Nat} (h : tb ls a t z = some d) : midT ls a t fur z = some d := by
  unfold midT; rw [h]
theorem midT_new {ls : List (Str × Str)} {a : Str} {t : Nat} {fur : List Str} {z : Str} (h : tb ls a t z = none) : midT ls a t fur z = if z ∈ fur then some (t + 1) else none := by
  unfold midT; rw [h]
/-- when all from the edge is done, the table is that of the next step -/
theorem midT_end {ls : List (Str × Str)} {a : Str} {t : Nat} {fur : List Str} (h1 : ∀ z ∈ fur, tb ls a t z = none ∧ ∃ y, tb ls a t y = some t ∧ adjB ls y z = true) (h2 : ∀ y, tb ls a t y = some t → ∀ z, adjB ls y z = true → tb ls a t z ≠ none ∨ z ∈ fur) :
    midT ls a t fur = tb ls a (t + 1) ∧ ∀ z, z ∈ fur ↔ tb ls a (t + 1) z = some (t + 1) := by
  have key : ∀ z, tb ls a t z = none → (z ∈ fur ↔ ∃ y, tb ls a t y = some t ∧ adjB ls y z = true) := fun z hz =>
    ⟨fun h => (h1 z h).2, fun ⟨y, hy, ha⟩ => (h2 y hy z ha).resolve_left fun hn => hn hz⟩
  have e : ∀ z, midT ls a t fur z = tb ls a (t + 1) z := fun z => by
    cases hz : tb ls a t z with
    | some d => rw [midT_old hz, tb_keep hz]
    | none =>
      rw [midT_new hz, tb_none hz]
      by_cases hm : z ∈ fur
      · rw [if_pos hm, if_pos (tb_new.mpr ((key z hz).mp hm))]
      · rw [if_neg hm, if_neg fun h => hm ((key z hz).mpr (tb_new.mp h))]
  refine ⟨funext e, fun z => ⟨fun hm => ?_, fun h => ?_⟩⟩
  · rw [← e z, midT_new (h1 z hm).1, if_pos hm]
  · obtain ⟨h3, h4⟩ := tb_pre h
    exact (key z h3).mpr h4
/-! the least of some texts -/
def IsMin (l : List Str) : Option Str → Prop
  | none => l = []
  | some m => m ∈ l ∧ ∀ y ∈ l, ¬ y.cps.toList < m.cps.toList
theorem isMin_unique {l l' : List Str} {o o' : Option Str} (hl : ∀ z, z ∈ l ↔ z ∈ l') (h : IsMin l o) (h' : IsMin l' o') : o = o' := by
  cases o with
  | none => cases o' with
    | none => rfl
    | some m =>
      have := (hl m).mpr h'.1
      rw [h] at this
      cases this
  | some m => cases o' with
    | none =>
      have := (hl m).mp h.1
      rw [h'] at this
      cases this
    | some k =>
      have h1 := h.2 k ((hl k).mpr h'.1)
      have h2 := h'.2 m ((hl m).mp h.1)
      have e : m.cps.toList = k.cps.toList := List.le_antisymm (List.not_lt.mp h1) (List.not_lt.mp h2)
      rw [TL.ext_tl e]
end DL

namespace DL
open PySem PySem.Spec PyProof.Rows L2
open TL (tl)
/-! ### sorted of a dictionary -/
def sortI (ks : List Int) : List D := (ks.map D.int).mergeSort leP
theorem leP_int (a b : Int) : leP (.int a) (.int b) = decide (a ≤ b) := by
  show (!PySem.W.dataLt (.int b) (.int a)) = _
  rw [PySem.W.dataLt_int]
  by_cases h : b < a
  · rw [decide_eq_true h, decide_eq_false (by omega)]; rfl
  · rw [decide_eq_false h, decide_eq_true (by omega)]; rfl
theorem sortI_perm {as bs : List Int} (h : as.Perm bs) : sortI as = sortI bs := sortD_perm (List.Perm.map _ h) fun a ha b hb e => by
  obtain ⟨x, _, rfl⟩ := List.mem_map.mp ha
  obtain ⟨y, _, rfl⟩ := List.mem_map.mp hb
  have h : [(Sum.inl x : Int ⊕ List Nat)] = [.inl y] := e
  injection h with h
  injection h with h
  rw [h]
theorem sortI_of {ys : List Int} (h : ys.Pairwise (· ≤ ·)) : sortI ys = ys.map D.int := by
  unfold sortI
  refine List.mergeSort_of_pairwise ?_
  rw [List.pairwise_map]
  exact h.imp fun {a b} hab => by rw [leP_int]; exact decide_eq_true hab
theorem rising_pw : ∀ {ys : List Str} {x : Str}, risingS x ys = true → (x :: ys).Pairwise fun a b => leP (.str a) (.str b) = true
  | [], x, _ => List.pairwise_singleton ..
  | y :: ys, x, h => by
    rw [risingS, Bool.and_eq_true] at h
    have ih := rising_pw h.2
    refine List.pairwise_cons.mpr ⟨fun z hz => ?_, ih⟩
    have h1 : leP (.str x) (.str y) = true := by
      rw [leP_str, ← ltCps_eq]
      exact h.1
    rcases List.mem_cons.mp hz with rfl | hz
    · exact h1
    · exact leP_trans _ _ _ h1 ((List.pairwise_cons.mp ih).1 z hz)
theorem sortedS_pw : ∀ {ys : List Str}, sortedS ys = true → ys.Pairwise fun a b => leP (.str a) (.str b) = true
  | [], _ => .nil
  | x :: ys, h => rising_pw h
theorem sortS_of {ys : List Str} (h : ys.Pairwise fun a b => leP (.str a) (.str b) = true) : sortS ys = ys.map D.str := by
  unfold sortS
  refine List.mergeSort_of_pairwise ?_
  rw [List.pairwise_map]
  exact h
section
variable {X : Cx} {K : PySem.W.Frag} {H : Hp}
def sortedKD : DRC := fun xs g Q => match xs with
  | [.ref p] => ∃ kvs, g p = some (.dct kvs) ∧ ((∃ ks : List Str, kvs.map (·.1) = ks.map Sum.inr ∧ ks.length < 64 ∧ ∀ r, g r = none → Q (.ref r) (gup g r (.lst (sortS ks)))) ∨
      ∃ ks : List Int, kvs.map (·.1) = ks.map Sum.inl ∧ ks.length < 64 ∧ ∀ r, g r = none → Q (.ref r) (gup g r (.lst (sortI ks))))
  | _ => False
theorem call_sortedKD (hc : X.calm = true) : CallR X (.builtin "sorted") (lRC X.K sortedKD) := fun pins s σ H xs us Q I rs ⟨ds, g, Qd, l, rg, q, k⟩ => by
  rcases l with _ | ⟨r1, _ | ⟨r2, l⟩⟩
  · exact q.elim
  · cases r1 with
    | ref p =>
      obtain ⟨kvs, hp, q⟩ := q
      obtain ⟨vs, hH, rk⟩ := rg.dct hp
      have ek := rk.keys
      rcases q with ⟨ks, e, h64, q⟩ | ⟨ks, e, h64, q⟩
      · refine L2.call_sortedD hc pins s σ H _ us Q I rs ⟨p, vs, ks, rfl, .inl hH, by rw [ek, e], h64, fun ys r hy hs hr => ?_⟩
        have e2 : ys.map D.str = sortS ks := by rw [← sortS_of (sortedS_pw hs), sortS_perm hy]
        refine rg.finL k hr (ds := sortS ks) ?_ q
        rw [← e2]
        exact RepL.ofStrs ys
      · refine L2.call_sortedDI hc pins s σ H _ us Q I rs ⟨p, vs, ks, rfl, .inl hH, by rw [ek, e], h64, fun ys r hy hs hr => ?_⟩
        have e2 : ys.map D.int = sortI ks := by rw [← sortI_of hs, sortI_perm hy]
        refine rg.finL k hr (ds := sortI ks) ?_ q
        rw [← e2]
        exact RepL.ofInts ys
    | _ => exact q.elim
  · cases r1 <;> exact q.elim
end
end DL

namespace DL
open PySem PySem.Spec PyProof.Rows L2
open TL (tl)
/-! ### lists of members -/
structure ListR where
  addr : Str
  board : Option Str
  mem : List Str
abbrev ListR.d (l : ListR) : D := .tup [.str "list", .str l.addr, optD l.board, .tup (l.mem.map D.str)]
def listAt (ls : List ListR) (z : Str) : Option ListR := ls.find? fun l => decide (l.addr = z)
def homeOf (z : Str) : Str := match Txt.split z "@" with
  | [_, b] => b
  | _ => ""
structure AddrS (z : Str) : Prop where
  two : ∃ a, Txt.split z "@" = [a, homeOf z]
  len : (tl z).length ≤ 1000
  ok : sOk z
structure PartS (z : Str) : Prop where
  chr : ∀ c ∈ tl z, c ≠ 64 ∧ c < 1114112
  len : (tl z).length ≤ 20
theorem NameOk.part {z : Str} (h : NameOk z) : PartS z := ⟨fun c hc => by
  have := h.chars c hc
  unfold low dig at this
  omega, by have := h.len; omega⟩
theorem addrS_mk {p h : Str} (hp : PartS p) (hh : PartS h) : AddrS (p ++ ("@" : Str) ++ h) ∧ homeOf (p ++ ("@" : Str) ++ h) = h := by
  have e1 : tl ("@" : Str) = [64] := by decide +kernel
  have e : p ++ ("@" : Str) ++ h = Txt.join "@" [p, h] := TL.ext_tl (by
    rw [TL.join_eq, TL.tl_join, TL.tl_append, TL.tl_append]
    show _ = tl p ++ (tl ("@" : Str) ++ tl h)
    rw [List.append_assoc])
  have hs : Txt.split (p ++ ("@" : Str) ++ h) "@" = [p, h] := by
    rw [e]
    exact TL.split_join (s := 64) (S := []) (by decide +kernel) (by decide +kernel) (by simp) fun w hw hm => by
      simp only [List.mem_cons, List.not_mem_nil, or_false] at hw
      rcases hw with rfl | rfl
      · exact (hp.chr 64 hm).1 rfl
      · exact (hh.chr 64 hm).1 rfl
  have hhome : homeOf (p ++ ("@" : Str) ++ h) = h := by
    unfold homeOf
    rw [hs]
  have l1 := hp.len
  have l2 := hh.len
  refine ⟨⟨⟨p, by rw [hhome]; exact hs⟩, ?_, sOk_of fun c hc => ?_⟩, hhome⟩
  · rw [TL.tl_append, TL.tl_append, List.length_append, List.length_append, e1, List.length_singleton]
    omega
  · rw [TL.tl_append, TL.tl_append, e1] at hc
    rcases List.mem_append.mp hc with hc | hc
    · rcases List.mem_append.mp hc with hc | hc
      · exact (hp.chr c hc).2
      · rw [List.mem_singleton.mp hc]; omega
    · exact (hh.chr c hc).2
/-- keys of a dictionary -/
theorem getD_some (kvs : List (L2.Key × D)) (k : L2.Key) : (getD kvs k).isSome = true ↔ k ∈ kvs.map (·.1) := by
  unfold getD
  rw [Option.isSome_map, List.find?_isSome, List.mem_map]
  constructor
  · rintro ⟨x, hx, e⟩
    exact ⟨x, hx, of_decide_eq_true e⟩
  · rintro ⟨x, hx, e⟩
    exact ⟨x, hx, decide_eq_true e⟩
theorem putD_any (kvs : List (L2.Key × D)) (k : L2.Key) : (kvs.any fun kv => decide (kv.1 = k)) = true ↔ k ∈ kvs.map (·.1) := by
  rw [List.any_eq_true, List.mem_map]
  constructor
  · rintro ⟨x, hx, e⟩
    exact ⟨x, hx, of_decide_eq_true e⟩
  · rintro ⟨x, hx, e⟩
    exact ⟨x, hx, decide_eq_true e⟩
theorem putD_old {kvs : List (L2.Key × D)} {k : L2.Key} (h : k ∈ kvs.map (·.1)) (v : D) : (putD kvs k v).map (·.1) = kvs.map (·.1) := by
  unfold putD
  rw [if_pos ((putD_any kvs k).mpr h), List.map_map]
  apply List.map_congr_left
  intro a _
  show (if a.1 = k then (a.1, v) else a).1 = a.1
  split <;> rfl
theorem putD_add {kvs : List (L2.Key × D)} {k : L2.Key} (h : k ∉ kvs.map (·.1)) (v : D) : (putD kvs k v).map (·.1) = kvs.map (·.1) ++ [k] := by
  unfold putD
  rw [if_neg fun e => h ((putD_any kvs k).mp e), List.map_append]
  rfl
abbrev Ky (kvs : List (L2.Key × D)) (ms : List Str) : Prop := kvs.map (·.1) = ms.map Sum.inr
theorem inr_mem {ms : List Str} {z : Str} : (Sum.inr z : L2.Key) ∈ ms.map (Sum.inr : Str → L2.Key) ↔ z ∈ ms := by
  rw [List.mem_map]
  constructor
  · rintro ⟨x, hx, e⟩
    injection e with e
    rw [← e]; exact hx
  · intro h
    exact ⟨z, h, rfl⟩
theorem Ky.has {kvs : List (L2.Key × D)} {ms : List Str} (h : Ky kvs ms) (z : Str) : (getD kvs (.inr z)).isSome = decide (z ∈ ms) := by
  have e := getD_some kvs (.inr z)
  have h : kvs.map (·.1) = ms.map Sum.inr := h
  rw [h] at e
  have e2 := e.trans inr_mem
  by_cases hz : z ∈ ms
  · rw [decide_eq_true hz]; exact e2.mpr hz
  · rw [decide_eq_false hz]
    exact Bool.eq_false_iff.mpr fun h => hz (e2.mp h)
theorem Ky.put_old {kvs : List (L2.Key × D)} {ms : List Str} (h : Ky kvs ms) {z : Str} (hz : z ∈ ms) (v : D) : Ky (putD kvs (.inr z) v) ms := by
  have h : kvs.map (·.1) = ms.map Sum.inr := h
  show (putD kvs (.inr z) v).map (·.1) = _
  rw [putD_old (by rw [h]; exact inr_mem.mpr hz), h]
theorem Ky.put_new {kvs : List (L2.Key × D)} {ms : List Str} (h : Ky kvs ms) {z : Str} (hz : z ∉ ms) (v : D) : Ky (putD kvs (.inr z) v) (ms ++ [z]) := by
  have h : kvs.map (·.1) = ms.map Sum.inr := h
  show (putD kvs (.inr z) v).map (·.1) = _
  rw [putD_add (by rw [h]; exact fun e => hz (inr_mem.mp e)), h, List.map_append]
  rfl
theorem Ky.len {kvs : List (L2.Key × D)} {ms : List Str} (h : Ky kvs ms) : kvs.length = ms.length := by
  have := congrArg List.length h
  rwa [List.length_map, List.length_map] at this
/-! who is met -/
section
variable (L : List ListR) (nb : Str → Str → Bool) (a : Str)
inductive Rch : Str → Prop
  | base : Rch a
  | step {l : ListR} {m : Str} : Rch l.addr → l ∈ L → m ∈ l.mem → nb l.addr m = true → m ∈ L.map ListR.addr → Rch m
def Ppl (m : Str) : Prop := ∃ l ∈ L, Rch L nb a l.addr ∧ m ∈ l.mem ∧ nb l.addr m = true ∧ m ∉ L.map ListR.addr
/-- list x is done: its near members are met or told -/
def Done (ms ps : List Str) (l : ListR) : Prop := ∀ m ∈ l.mem, nb l.addr m = true → (m ∈ L.map ListR.addr → m ∈ ms) ∧ (m ∉ L.map ListR.addr → m ∈ ps)
end
variable {L : List ListR} {nb : Str → Str → Bool} {a : Str}
theorem Done.mono {ms ms' ps ps' : List Str} {l : ListR} (h : Done L nb ms ps l) (h1 : ∀ x ∈ ms, x ∈ ms') (h2 : ∀ x ∈ ps, x ∈ ps') : Done L nb ms' ps' l := fun m hm hn => ⟨fun e => h1 _ ((h m hm hn).1 e), fun e => h2 _ ((h m hm hn).2 e)⟩
theorem ppl_of {ms ps : List Str} (ha : a ∈ ms) (hd : ∀ l ∈ L, l.addr ∈ ms → Done L nb ms ps l) (hp : ∀ p ∈ ps, Ppl L nb a p) : ∀ m, m ∈ ps ↔ Ppl L nb a m := fun m => by
  have hr : ∀ x, Rch L nb a x → x ∈ ms := fun x h => by
    induction h with
    | base => exact ha
    | step h1 h2 h3 h4 h5 ih => exact (hd _ h2 ih _ h3 h4).1 h5
  exact ⟨hp m, fun ⟨l, h1, h2, h3, h4, h5⟩ => (hd l h1 (hr _ h2) m h3 h4).2 h5⟩
theorem nodup_perm {as bs : List Str} (h1 : as.Nodup) (h2 : bs.Nodup) (h : ∀ m, m ∈ as ↔ m ∈ bs) : as.Perm bs := by
  rw [List.perm_iff_count]
  intro x
  rw [h1.count, h2.count]
  by_cases hx : x ∈ as
  · rw [if_pos hx, if_pos ((h x).mp hx)]
  · rw [if_neg hx, if_neg fun e => hx ((h x).mpr e)]
end DL

namespace DL
open PySem PySem.Spec PyProof.Rows L2
/-! ### instances of own classes -/
def putFd (f : Str) (v : D) : List (Str × D) → List (Str × D)
  | [] => [(f, v)]
  | (g, x) :: r => if g = f then (g, v) :: r else (g, x) :: putFd f v r
theorem lookup_putFd (f g : Str) (v : D) : ∀ fs : List (Str × D), (putFd f v fs).lookup g = if g = f then some v else fs.lookup g
  | [] => by
    show List.lookup g [(f, v)] = _
    by_cases h : g = f
    · have hb : (g == f) = true := beq_iff_eq.mpr h
      rw [if_pos h, List.lookup_cons, hb]
    · have hb : (g == f) = false := beq_eq_false_iff_ne.mpr h
      rw [if_neg h, List.lookup_cons, hb]
  | (k, x) :: r => by
    show List.lookup g (if k = f then (k, v) :: r else (k, x) :: putFd f v r) = _
    by_cases hk : k = f
    · rw [if_pos hk, List.lookup_cons, List.lookup_cons]
      by_cases h : g = f
      · have hb : (g == k) = true := beq_iff_eq.mpr (by rw [h, hk])
        rw [if_pos h, hb]
      · have hb : (g == k) = false := beq_eq_false_iff_ne.mpr (by rw [hk]; exact h)
        rw [if_neg h, hb]
    · rw [if_neg hk, List.lookup_cons, List.lookup_cons, lookup_putFd f g v r]
      by_cases h : g = f
      · have hb : (g == k) = false := beq_eq_false_iff_ne.mpr (by rw [h]; exact fun e => hk e.symm)
        rw [if_pos h, if_pos h, hb]
      · rw [if_neg h, if_neg h]
section
variable {X : Cx} {K : PySem.W.Frag} {H : Hp}
theorem RepF.look {f : Str} : ∀ {vs : List (Str × V)} {fs : List (Str × D)} {d : D}, RepF K H vs fs → fs.lookup f = some d → ∃ v, vs.lookup f = some v ∧ RepD K H v d
  | _, _, _, .nil, h => by cases h
  | _, _, d, .cons (a := (k, x)) (b := (k2, y)) (l₁ := vs) (l₂ := fs) h t, hl => by
    obtain ⟨e, r⟩ := h
    have e : k = k2 := e
    subst e
    rw [List.lookup_cons] at hl
    by_cases hb : (f == k) = true
    · rw [hb] at hl
      cases hl
      exact ⟨x, by rw [List.lookup_cons, hb], r⟩
    · have hb : (f == k) = false := by simpa using hb
      rw [hb] at hl
      obtain ⟨v, h1, h2⟩ := RepF.look t hl
      exact ⟨v, by rw [List.lookup_cons, hb]; exact h1, h2⟩
theorem RepF.look0 {f : Str} : ∀ {vs : List (Str × V)} {fs : List (Str × D)}, RepF K H vs fs → fs.lookup f = none → vs.lookup f = none
  | _, _, .nil, _ => rfl
  | _, _, .cons (a := (k, x)) (b := (k2, y)) (l₁ := vs) (l₂ := fs) h t, hl => by
    obtain ⟨e, r⟩ := h
    have e : k = k2 := e
    subst e
    rw [List.lookup_cons] at hl ⊢
    by_cases hb : (f == k) = true
    · rw [hb] at hl
      cases hl
    · have hb : (f == k) = false := by simpa using hb
      rw [hb] at hl ⊢
      exact RepF.look0 t hl
theorem RepF.put {f : Str} {v : V} {d : D} (r : RepD K H v d) : ∀ {vs : List (Str × V)} {fs : List (Str × D)}, RepF K H vs fs → RepF K H (putF f v vs) (putFd f d fs)
  | _, _, .nil => .cons ⟨rfl, r⟩ .nil
  | _, _, .cons (a := (k, x)) (b := (k2, y)) (l₁ := vs) (l₂ := fs) h t => by
    obtain ⟨e, r2⟩ := h
    have e : k = k2 := e
    subst e
    show RepF K H (if k = f then (k, v) :: vs else (k, x) :: putF f v vs) (if k = f then (k, d) :: fs else (k, y) :: putFd f d fs)
    by_cases hk : k = f
    · rw [if_pos hk, if_pos hk]
      exact .cons ⟨rfl, r⟩ t
    · rw [if_neg hk, if_neg hk]
      exact .cons ⟨rfl, r2⟩ (RepF.put r t)
theorem RepF.len {vs : List (Str × V)} {fs : List (Str × D)} (r : RepF K H vs fs) : vs.length = fs.length := PySem.Paired.length r
variable {o value e : Expr} {es : List Expr} {to tv : DTE} {t : DTA} {pos pos' apos p0 : Pos} {n f m x : Str} {k : Nat} {fa pa : Addr} {fd : FuncData} {ps : List Str} {sp : DSp}
/-- o.f -/
def dFld (n f : Str) (to : DTE) : DTE := fun e g Q => to e g fun x g1 => ∃ a fs d, x = .ref a ∧ g1 a = some (.ins n fs) ∧ fs.lookup f = some d ∧ Q d g1
theorem de_fld (c : Cls X.K (clsA X.K n)) (na : NoAttr X.K (clsA X.K n) f) (ho : DE X o to) (hb : attributeBase o f X.env (eval o X.env) = eval o X.env := by rfl) : DE X (.Attribute o f pos) (dFld n f to) := ⟨peW (pe_fld ho.pe hb) fun σ H Q ⟨e, g, Qd, re, rg, q, k⟩ =>
  ⟨e, g, _, re, rg, q, fun v d H1 g1 x1 rg1 r q1 => by
    obtain ⟨a, fs, d2, rfl, hg, hl, q2⟩ := q1
    cases r
    obtain ⟨dx, vs, hH, rf⟩ := rg1.ins hg
    obtain ⟨v2, hl2, r2⟩ := RepF.look rf hl
    exact ⟨a, _, dx, vs, v2, rfl, hH, c, na, hl2, rg1.fin (k.mono x1) r2 q2⟩⟩⟩
theorem RepG.setF {g : GS} (r : RepG K H g) {a : Addr} {dx : Addr} {ys : List (Str × V)} (hn : H a = some (.ins (clsA K n) dx ys)) {vs : List (Str × V)} {fs : List (Str × D)} (l : RepF K H vs fs) : RepG K (L2.upd H a (.ins (clsA K n) dx vs)) (gup g a (.ins n fs)) :=
  r.upd (.ins hn) ⟨dx, vs, upd_same .., RepF.mono (.ins hn) l⟩
/-- o.f = value -/
def dSFld (n f : Str) (to tv : DTE) : DTS := fun D e g => tv e g fun v g1 => to e g1 fun x g2 => ∃ a fs, x = .ref a ∧ g2 a = some (.ins n fs) ∧ fs.length < 1000 ∧ D.nx e (gup g2 a (.ins n (putFd f v fs)))
theorem ds_fld (c : Cls X.K (clsA X.K n)) (na : NoAttr X.K (clsA X.K n) f) (ho : DE X o to) (hv : DE X value tv) (hs : swapsWith value (some (.Attribute o f pos')) pos.line X.env = pure false := by rfl) : DS X (.Assign [.Attribute o f pos'] value pos) (dSFld n f to tv) := ⟨psW (ps_fld ho.pe hv.pe hs) fun D σ H ⟨e, g, Dd, re, rg, q, k1, _⟩ =>
  ⟨e, g, _, re, rg, q, fun v dv H1 g1 x1 rg1 rv q1 => ⟨e, g1, _, re.mono x1, rg1, q1, fun x dx H2 g2 x2 rg2 rx q2 => by
    obtain ⟨a, fs, rfl, hg, hz, q3⟩ := q2
    cases rx
    obtain ⟨dx, vs, hH, rf⟩ := rg2.ins hg
    have xx : Ext H (upd H2 a (.ins (clsA X.K n) dx (putF f v vs))) := (x1.trans x2).trans (.ins hH)
    exact ⟨a, _, dx, vs, rfl, hH, c, na, by rw [RepF.len rf]; exact hz, (k1.mono xx).fin (re.mono xx) (RepG.setF rg2 hH (RepF.put (rv.mono x2) rf)) q3⟩⟩⟩⟩
/-- o.m(..) -/
def dMeth (n m : Str) (sp : DSp) (to : DTE) (t : DTA) : DTE := fun e g Q => to e g fun x g1 => ∃ a fs, x = .ref a ∧ g1 a = some (.ins n fs) ∧ fs.lookup m = none ∧ t e g1 fun ds g2 => sp (x :: ds) g2 Q
theorem lmeth {σ : L2.St} {Q : VK} {E : XK} (h : lE K (dMeth n m sp to t) σ H Q) : tMeth (clsA K n) m (lSp K sp) [] E (lE K to) (lA K t) σ H Q := by
  obtain ⟨e, g, Qd, re, rg, q, k⟩ := h
  refine ⟨e, g, _, re, rg, q, fun v d H1 g1 x1 rg1 r q1 => ?_⟩
  obtain ⟨a, fs, rfl, hg, hl, q2⟩ := q1
  cases r
  obtain ⟨dx, vs, hH, rf⟩ := rg1.ins hg
  refine ⟨a, dx, vs, rfl, hH, RepF.look0 rf hl, e, g1, _, re.mono x1, rg1, q2, fun us ds H2 g2 x2 rg2 l2 q3 => ?_⟩
  exact ⟨_, g2, Qd, .cons (.ref a) (by rw [List.append_nil]; exact l2), rg2, q3, k.mono (x1.trans x2)⟩
theorem de_meth {pl : Sem Bool} (c : Cls X.K (clsA X.K n)) (hm : Meth X.K (clsA X.K n) m fa) (F : FnOk X.prog X.w X.K X.mg X.base CX0 k fa fd ps (lSp X.K sp)) (hr : Room k X.A) (hb : Binds X.K fd ps []) (ho : DE X o to) (ha : DA X (e :: es) t)
    (hst : starEach (e :: es) X.env = (false, eval e X.env) :: starEach es X.env := by rfl) (hpl : (backTo pos (starEach es X.env)).any (·.1) = false := by rfl)
    (ht : eval (.Call (.Attribute o m apos) (e :: es) [] pos) X.env = (do
      let ov ← eval o X.env
      standAt apos.atName
      let (f, first) ← holding [ov] (getMethod ov m pl)
      callWith pos f first (backTo pos (starEach (e :: es) X.env)) (backToKw pos (keywordEach [] X.env))) := by rfl) :
    DE X (.Call (.Attribute o m apos) (e :: es) [] pos) (dMeth n m sp to t) := ⟨peW (pe_meth ho.pe c hm F hr hb .nil pass0 ha.pa hst hpl ht) fun _ _ _ h => lmeth h⟩
theorem de_meth0 {pl : Sem Bool} (c : Cls X.K (clsA X.K n)) (hm : Meth X.K (clsA X.K n) m fa) (F : FnOk X.prog X.w X.K X.mg X.base CX0 k fa fd ps (lSp X.K sp)) (hr : Room k X.A) (hb : Binds X.K fd ps []) (ho : DE X o to)
    (ht : eval (.Call (.Attribute o m apos) [] [] pos) X.env = (do
      let ov ← eval o X.env
      standAt apos.atName
      let (f, first) ← holding [ov] (getMethod ov m pl)
      callWith pos f first (backTo pos (starEach [] X.env)) (backToKw pos (keywordEach [] X.env))) := by rfl) :
    DE X (.Call (.Attribute o m apos) [] [] pos) (dMeth n m sp to dNil) := ⟨peW (pe_meth0 ho.pe c hm F hr hb .nil pass0 ht) fun σ H Q h => by
  obtain ⟨e, g, Qd, re, rg, q, k⟩ := h
  refine ⟨e, g, _, re, rg, q, fun v d H1 g1 x1 rg1 r q1 => ?_⟩
  obtain ⟨a, fs, rfl, hg, hl, q2⟩ := q1
  cases r
  obtain ⟨dx, vs, hH, rf⟩ := rg1.ins hg
  exact ⟨a, dx, vs, rfl, hH, RepF.look0 rf hl, _, g1, Qd, .cons (.ref a) .nil, rg1, q2, k.mono x1⟩⟩
/-- C(..) -/
def dMake (n : Str) (sp : DSp) (t : DTA) : DTE := fun e g Q => t e g fun ds g1 => ∀ a, g1 a = none → sp (.ref a :: ds) (gup g1 a (.ins n [])) fun d g2 => d = .non ∧ Q (.ref a) g2
theorem de_make (M : Mk X.K (clsA X.K n) fa) (F : FnOk X.prog X.w X.K X.mg X.base CX0 k fa fd ps (lSp X.K sp)) (hr : Room (k + 1) X.A) (hg : Gl X x) (hm : X.mg x = some (.ref (clsA X.K n))) (hb : Binds X.K fd ps []) (ha : DA X (e :: es) t)
    (hdb : (x == ("__debug__" : Str)) = false := by decide) (he : starEach (e :: es) X.env = (false, eval e X.env) :: starEach es X.env := by rfl) (hpl : (backTo pos (starEach es X.env)).any (·.1) = false := by rfl) :
    DE X (.Call (.Name x p0) (e :: es) [] pos) (dMake n sp t) := ⟨peW (pe_make M F hr hg hm hb .nil pass0 ha.pa hdb he hpl) fun σ H Q h => by
  obtain ⟨e, g, Qd, re, rg, q, k⟩ := h
  refine ⟨e, g, _, re, rg, q, fun us ds H1 g1 x1 rg1 l1 q1 => fun a dx ha hdx hne => ?_⟩
  have rg2 := rg1.hid (o := .own a) hdx
  have ha2 : upd H1 dx (.own a) a = none := by rw [upd_ne (Ne.symm hne)]; exact ha
  have xx : Ext H1 (upd (upd H1 dx (.own a)) a (.ins (clsA X.K n) dx [])) := (Ext.new hdx).trans (.new ha2)
  have rg3 : RepG X.K (upd (upd H1 dx (.own a)) a (.ins (clsA X.K n) dx [])) (gup g1 a (.ins n [])) := rg2.upd (.new ha2) ⟨dx, [], upd_same .., .nil⟩
  refine ⟨_, _, _, .cons (.ref a) (by rw [List.append_nil]; exact RepL.mono xx l1), rg3, q1 a (rg1.free ha), fun v d H4 g4 x4 rg4 r4 q4 => ?_⟩
  obtain ⟨rfl, q4⟩ := q4
  cases r4
  exact ⟨rfl, rg4.fin (k.mono ((x1.trans xx).trans x4)) (.ref a) q4⟩⟩
/-- o.f, a property -/
def dProp (n : Str) (sp : DSp) (to : DTE) : DTE := fun e g Q => to e g fun x g1 => ∃ a fs, x = .ref a ∧ g1 a = some (.ins n fs) ∧ sp [x] g1 Q
theorem de_prop (c : Cls X.K (clsA X.K n)) (hp : PropOf X.K (clsA X.K n) f pa fa) (F : FnOk X.prog X.w X.K X.mg X.base CX0 k fa fd ps (lSp X.K sp)) (hr : Room (k + 1) X.A) (hb : Binds X.K fd ps []) (ho : DE X o to) (hab : attributeBase o f X.env (eval o X.env) = eval o X.env := by rfl) : DE X (.Attribute o f pos) (dProp n sp to) := ⟨peW (pe_prop ho.pe c hp F hr hb .nil pass0 hab) fun σ H Q h => by
  obtain ⟨e, g, Qd, re, rg, q, k⟩ := h
  refine ⟨e, g, _, re, rg, q, fun v d H1 g1 x1 rg1 r q1 => ?_⟩
  obtain ⟨a, fs, rfl, hg, q2⟩ := q1
  cases r
  obtain ⟨dx, vs, hH, rf⟩ := rg1.ins hg
  exact ⟨a, dx, vs, rfl, hH, _, g1, Qd, .cons (.ref a) .nil, rg1, q2, k.mono x1⟩⟩
/-- list(range(a, b)), list(range(b)) -/
def dLRg2 (ta tb : DTE) : DTE := fun e g Q => ta e g fun x g1 => tb e g1 fun y g2 => ∃ i j, x = .int i ∧ y = .int j ∧ RgOk i j ∧ ∀ p, g2 p = none → Q (.ref p) (gup g2 p (.lst (ran i (j - i).toNat)))
def dLRg1 (tb : DTE) : DTE := fun e g Q => tb e g fun y g2 => ∃ j, y = .int j ∧ RgOk 0 j ∧ ∀ p, g2 p = none → Q (.ref p) (gup g2 p (.lst (ran 0 j.toNat)))
theorem rep_rg (H : Hp) (i j : Int) : RepL K H (rgV i j) (ran i (j - i).toNat) := by
  have e1 : rgV i j = ((List.range (j - i).toNat).map fun (k : Nat) => i + (k : Int)).map V.int := by
    unfold rgV
    rw [List.map_map]; rfl
  have e2 : ran i (j - i).toNat = ((List.range (j - i).toNat).map fun (k : Nat) => i + (k : Int)).map D.int := by
    unfold ran
    rw [List.map_map]; rfl
  rw [e1, e2]
  exact RepL.ofInts _
theorem de_lrg2 {a b : Expr} {ta tb : DTE} {p1 p2 : Pos} (hc : X.calm = true) (hg : Gl X "list") (hm : X.mg "list" = none) (hg2 : Gl X "range") (hm2 : X.mg "range" = none) (ha : DE X a ta) (hb : DE X b tb)
    (na : starEach [a, b] X.env = (false, eval a X.env) :: starEach [b] X.env := by rfl) (nb : starEach [b] X.env = (false, eval b X.env) :: starEach [] X.env := by rfl) (hp : (backTo p2 (starEach [b] X.env)).any (·.1) = false := by rfl)
    (nc : starEach [.Call (.Name "range" p1) [a, b] [] p2] X.env = (false, eval (.Call (.Name "range" p1) [a, b] [] p2) X.env) :: starEach [] X.env := by rfl) : DE X (.Call (.Name "list" p0) [.Call (.Name "range" p1) [a, b] [] p2] [] pos) (dLRg2 ta tb) :=
  ⟨peW (pe_listRg hc hg hm (prg_2 hg2 hm2 ha.pe hb.pe na nb hp) nc) fun σ H Q ⟨e, g, Qd, re, rg, q, k⟩ =>
    ⟨e, g, _, re, rg, q, fun v d H1 g1 x1 rg1 r1 q1 => ⟨e, g1, _, re.mono x1, rg1, q1, fun v2 d2 H2 g2 x2 rg2 r2 ⟨i, j, e1, e2, hk, q2⟩ => by
      subst e1; subst e2
      cases r1; cases r2
      exact ⟨i, j, rfl, rfl, hk, fun n hn => rg2.finL (k.mono (x1.trans x2)) hn (rep_rg _ i j) q2⟩⟩⟩⟩
end
section
variable {e : EV} {g : GS} {Q : DK} {to tv ta tb : DTE} {t : DTA} {n f m : Str} {sp : DSp} {D : DEnds}
theorem s_fld (h : to e g fun x g1 => ∃ a fs d, x = .ref a ∧ g1 a = some (.ins n fs) ∧ fs.lookup f = some d ∧ Q d g1) : dFld n f to e g Q := h
theorem s_sfld (h : tv e g fun v g1 => to e g1 fun x g2 => ∃ a fs, x = .ref a ∧ g2 a = some (.ins n fs) ∧ fs.length < 1000 ∧ D.nx e (gup g2 a (.ins n (putFd f v fs)))) : dSFld n f to tv D e g := h
theorem s_meth (h : to e g fun x g1 => ∃ a fs, x = .ref a ∧ g1 a = some (.ins n fs) ∧ fs.lookup m = none ∧ t e g1 fun ds g2 => sp (x :: ds) g2 Q) : dMeth n m sp to t e g Q := h
theorem s_make (h : t e g fun ds g1 => ∀ a, g1 a = none → sp (.ref a :: ds) (gup g1 a (.ins n [])) fun d g2 => d = .non ∧ Q (.ref a) g2) : dMake n sp t e g Q := h
theorem s_prop (h : to e g fun x g1 => ∃ a fs, x = .ref a ∧ g1 a = some (.ins n fs) ∧ sp [x] g1 Q) : dProp n sp to e g Q := h
theorem s_lrg2 (h : ta e g fun x g1 => tb e g1 fun y g2 => ∃ i j, x = .int i ∧ y = .int j ∧ RgOk i j ∧ ∀ p, g2 p = none → Q (.ref p) (gup g2 p (.lst (ran i (j - i).toNat)))) : dLRg2 ta tb e g Q := h
end
end DL

namespace DL
open PySem PySem.Spec PyProof.Rows L2
/-! ### stories -/
inductive ChR where
  | new (n : Int) (id : D) | gone (n : Int)
@[reducible] def ChR.d : ChR → D
  | .new n id => .tup [.str "new", .int n, id]
  | .gone n => .tup [.str "gone", .int n]
def stepK (kvs : List (L2.Key × D)) : ChR → List (L2.Key × D)
  | .new n id => putD kvs (.inl n) id
  | .gone n => delD kvs (.inl n)
def kvsOf (cs : List ChR) : List (L2.Key × D) := cs.foldl stepK []
def stepN (ns : List Int) : ChR → List Int
  | .new n _ => if n ∈ ns then ns else ns ++ [n]
  | .gone n => ns.filter fun x => decide (x ≠ n)
def numsOf (cs : List ChR) : List Int := cs.foldl stepN []
abbrev Kyi (kvs : List (L2.Key × D)) (ns : List Int) : Prop := kvs.map (·.1) = ns.map Sum.inl
theorem inl_mem {ns : List Int} {z : Int} : (Sum.inl z : L2.Key) ∈ ns.map (Sum.inl : Int → L2.Key) ↔ z ∈ ns := by
  rw [List.mem_map]
  constructor
  · rintro ⟨x, hx, e⟩
    injection e with e
    rw [← e]; exact hx
  · intro h
    exact ⟨z, h, rfl⟩
theorem Kyi.step {kvs : List (L2.Key × D)} {ns : List Int} (h : Kyi kvs ns) (c : ChR) : Kyi (stepK kvs c) (stepN ns c) := by
  have h : kvs.map (·.1) = ns.map Sum.inl := h
  cases c with
  | new n id =>
    show (putD kvs (.inl n) id).map (·.1) = (if n ∈ ns then ns else ns ++ [n]).map Sum.inl
    by_cases hn : n ∈ ns
    · rw [if_pos hn, putD_old (by rw [h]; exact inl_mem.mpr hn), h]
    · rw [if_neg hn, putD_add (by rw [h]; exact fun e => hn (inl_mem.mp e)), h, List.map_append]
      rfl
  | gone n =>
    show (delD kvs (.inl n)).map (·.1) = (ns.filter fun x => decide (x ≠ n)).map Sum.inl
    unfold delD
    have e1 : (kvs.filter fun kv => decide (kv.1 ≠ (Sum.inl n : L2.Key))).map (·.1) = (kvs.map (·.1)).filter fun k => decide (k ≠ (Sum.inl n : L2.Key)) := by
      rw [List.filter_map]; rfl
    rw [e1, h, List.filter_map]
    congr 1
    apply List.filter_congr
    intro x _
    by_cases hx : x = n
    · subst hx; simp
    · have h2 : (Sum.inl x : L2.Key) ≠ Sum.inl n := fun e => hx (by injection e)
      simp [hx]
theorem kvs_nums (cs : List ChR) : Kyi (kvsOf cs) (numsOf cs) := by
  have : ∀ (cs : List ChR) (kvs : List (L2.Key × D)) (ns : List Int), Kyi kvs ns → Kyi (cs.foldl stepK kvs) (cs.foldl stepN ns) := fun cs => by
    induction cs with
    | nil => exact fun _ _ h => h
    | cons c cs ih => exact fun kvs ns h => ih _ _ (h.step c)
  exact this cs [] [] rfl
theorem nums_len (cs : List ChR) : (numsOf cs).length ≤ cs.length := by
  have : ∀ (cs : List ChR) (ns : List Int), (cs.foldl stepN ns).length ≤ ns.length + cs.length := fun cs => by
    induction cs with
    | nil => exact fun ns => Nat.le_refl _
    | cons c cs ih =>
      intro ns
      rw [List.foldl_cons, List.length_cons]
      have h1 := ih (stepN ns c)
      have h2 : (stepN ns c).length ≤ ns.length + 1 := by
        cases c with
        | new n id =>
          show (if n ∈ ns then ns else ns ++ [n]).length ≤ _
          split
          · omega
          · rw [List.length_append]; exact Nat.le_refl _
        | gone n => exact Nat.le_trans (List.length_filter_le _ _) (by omega)
      omega
  have := this cs []
  rwa [List.length_nil, Nat.zero_add] at this
theorem kvsOf_snoc (cs : List ChR) (c : ChR) : kvsOf (cs ++ [c]) = stepK (kvsOf cs) c := by
  unfold kvsOf; rw [List.foldl_append]; rfl
theorem numsOf_snoc (cs : List ChR) (c : ChR) : numsOf (cs ++ [c]) = stepN (numsOf cs) c := by
  unfold numsOf; rw [List.foldl_append]; rfl
/-- what is gone was there -/
def WfC (cs : List ChR) : Prop := ∀ (i : Nat) n, cs[i]? = some (.gone n) → n ∈ numsOf (cs.take i)
theorem kvs_has {cs : List ChR} {n : Int} (h : n ∈ numsOf cs) : (getD (kvsOf cs) (.inl n)).isSome = true := (getD_some _ _).mpr (by
  have := kvs_nums cs
  have this : (kvsOf cs).map (·.1) = (numsOf cs).map Sum.inl := this
  rw [this]; exact inl_mem.mpr h)
theorem putD_mem {kvs : List (L2.Key × D)} {k : L2.Key} {v : D} {x : L2.Key × D} (h : x ∈ putD kvs k v) : x ∈ kvs ∨ x.2 = v := by
  unfold putD at h
  split at h
  · obtain ⟨y, hy, e⟩ := List.mem_map.mp h
    split at e
    · right; rw [← e]
    · left; rw [← e]; exact hy
  · rcases List.mem_append.mp h with h | h
    · exact .inl h
    · right; rw [List.mem_singleton.mp h]
theorem kvs_ids : ∀ (cs : List ChR) (kvs : List (L2.Key × D)) {P : D → Prop}, (∀ x ∈ kvs, P x.2) → (∀ n i, ChR.new n i ∈ cs → P i) → ∀ x ∈ cs.foldl stepK kvs, P x.2
  | [], kvs, _, h, _ => h
  | c :: cs, kvs, P, h, h2 => by
    rw [List.foldl_cons]
    refine kvs_ids cs _ (fun x hx => ?_) fun n i hi => h2 n i (List.mem_cons_of_mem _ hi)
    cases c with
    | new n id =>
      rcases putD_mem hx with hx | hx
      · exact h x hx
      · rw [hx]; exact h2 n id List.mem_cons_self
    | gone n => exact h x (List.mem_filter.mp hx).1
theorem kvs_val {cs : List ChR} {k : L2.Key} {v : D} (h : getD (kvsOf cs) k = some v) : ∃ n, ChR.new n v ∈ cs := by
  unfold getD at h
  cases e : (kvsOf cs).find? fun kv => decide (kv.1 = k) with
  | none => rw [e] at h; cases h
  | some x =>
    rw [e] at h
    have h : x.2 = v := by injection h
    have hm := List.mem_of_find?_eq_some e
    have := kvs_ids cs [] (P := fun i => ∃ n, ChR.new n i ∈ cs) (fun x h => by cases h) (fun n i hi => ⟨n, hi⟩) x hm
    rw [h] at this
    exact this
theorem sortI_ints (ns : List Int) : ∃ ys : List Int, sortI ns = ys.map D.int ∧ ys.Perm ns := by
  have p := List.mergeSort_perm (ns.map D.int) leP
  obtain ⟨l', h1, h2⟩ := perm_map_inv p ns rfl
  exact ⟨l', h1, h2⟩
def lookV (kvs : List (L2.Key × D)) (n : Int) : D := .tup [.int n, (getD kvs (.inl n)).getD .non]
/-- the pairs, ascending -/
def viewL (cs : List ChR) : List D := (sortI (numsOf cs)).map fun d => match d with
  | .int n => lookV (kvsOf cs) n
  | _ => .non
def SFs (l n : Int) (k d : Addr) : List (Str × D) := [("limit", .int l), ("last_stamp", .int n), ("kept_changes", .ref k), ("id_by_number", .ref d)]
section
variable {l n v : Int} {k d : Addr}
theorem sf_limit : (SFs l n k d).lookup ("limit" : Str) = some (.int l) := by
  unfold SFs
  rw [List.lookup_cons, show (("limit" : Str) == "limit") = true from by decide +kernel]
theorem sf_last : (SFs l n k d).lookup ("last_stamp" : Str) = some (.int n) := by
  unfold SFs
  rw [List.lookup_cons, show (("last_stamp" : Str) == "limit") = false from by decide +kernel]
  show List.lookup _ _ = _
  rw [List.lookup_cons, show (("last_stamp" : Str) == "last_stamp") = true from by decide +kernel]
theorem sf_kept : (SFs l n k d).lookup ("kept_changes" : Str) = some (.ref k) := by
  unfold SFs
  rw [List.lookup_cons, show (("kept_changes" : Str) == "limit") = false from by decide +kernel]
  show List.lookup _ _ = _
  rw [List.lookup_cons, show (("kept_changes" : Str) == "last_stamp") = false from by decide +kernel]
  show List.lookup _ _ = _
  rw [List.lookup_cons, show (("kept_changes" : Str) == "kept_changes") = true from by decide +kernel]
theorem sf_ids : (SFs l n k d).lookup ("id_by_number" : Str) = some (.ref d) := by
  unfold SFs
  rw [List.lookup_cons, show (("id_by_number" : Str) == "limit") = false from by decide +kernel]
  show List.lookup _ _ = _
  rw [List.lookup_cons, show (("id_by_number" : Str) == "last_stamp") = false from by decide +kernel]
  show List.lookup _ _ = _
  rw [List.lookup_cons, show (("id_by_number" : Str) == "kept_changes") = false from by decide +kernel]
  show List.lookup _ _ = _
  rw [List.lookup_cons, show (("id_by_number" : Str) == "id_by_number") = true from by decide +kernel]
theorem sf_none {m : Str} (h : m ≠ "limit" ∧ m ≠ "last_stamp" ∧ m ≠ "kept_changes" ∧ m ≠ "id_by_number") : (SFs l n k d).lookup m = none := by
  unfold SFs
  simp only [List.lookup_cons, beq_eq_false_iff_ne.mpr h.1, beq_eq_false_iff_ne.mpr h.2.1, beq_eq_false_iff_ne.mpr h.2.2.1, beq_eq_false_iff_ne.mpr h.2.2.2]
  rfl
theorem sf_put : putFd "last_stamp" (.int v) (SFs l n k d) = SFs l v k d := by
  unfold SFs
  rw [putFd, if_neg (by decide +kernel), putFd, if_pos rfl]
theorem sf_make {d1 d2 : D} {fs : List (Str × D)} (h1 : d1 = D.ref k) (h2 : d2 = D.ref d) : putFd "id_by_number" d2 (putFd "kept_changes" d1 (putFd "last_stamp" (.int n) (putFd "limit" (.int l) []))) = SFs l n k d := by
  subst h1; subst h2
  rw [putFd, putFd, if_neg (by decide +kernel), putFd, putFd, if_neg (by decide +kernel), putFd, if_neg (by decide +kernel), putFd, putFd, if_neg (by decide +kernel), putFd, if_neg (by decide +kernel), putFd, if_neg (by decide +kernel), putFd]
  rfl
end
theorem putFd_len (f : Str) (v : D) : ∀ fs : List (Str × D), (putFd f v fs).length ≤ fs.length + 1
  | [] => Nat.le_refl _
  | (g, x) :: r => by
    show (if g = f then (g, v) :: r else (g, x) :: putFd f v r).length ≤ _
    split
    · simp
    · have := putFd_len f v r
      rw [List.length_cons, List.length_cons]
      omega
theorem viewL_of {cs : List ChR} {ys : List Int} (h : sortI (numsOf cs) = ys.map D.int) : viewL cs = ys.map (lookV (kvsOf cs)) := by
  unfold viewL
  rw [h, List.map_map]
  rfl
/-- a story at a that has heard cs -/
structure StAt (g : GS) (a k d : Addr) (l : Int) (cs : List ChR) : Prop where
  ins : g a = some (.ins "Story" (SFs l cs.length k d))
  kept : g k = some (.lst ((cs.drop (cs.length - l.toNat)).map ChR.d))
  ids : g d = some (.dct (kvsOf cs))
  l0 : 0 ≤ l
theorem StAt.up {g g' : GS} {a k d : Addr} {l : Int} {cs : List ChR} (h : StAt g a k d l cs) (U : Up [] g g') : StAt g' a k d l cs := ⟨U.get0 h.ins, U.get0 h.kept, U.get0 h.ids, h.l0⟩
theorem StAt.ne {g : GS} {a k d : Addr} {l : Int} {cs : List ChR} (h : StAt g a k d l cs) : a ≠ k ∧ a ≠ d ∧ k ≠ d := by
  have h1 := h.ins
  have h2 := h.kept
  have h3 := h.ids
  refine ⟨fun e => ?_, fun e => ?_, fun e => ?_⟩
  · rw [e, h2] at h1; cases h1
  · rw [e, h3] at h1; cases h1
  · rw [e, h3] at h2; cases h2
end DL

namespace DL
open PySem PySem.Spec PyProof.Rows L2
/-! ### desks that hear stories -/
theorem nums_nodup (cs : List ChR) : (numsOf cs).Nodup := by
  have : ∀ (cs : List ChR) (ns : List Int), ns.Nodup → (cs.foldl stepN ns).Nodup := fun cs => by
    induction cs with
    | nil => exact fun _ h => h
    | cons c cs ih =>
      intro ns h
      refine ih _ ?_
      cases c with
      | new n id =>
        show (if n ∈ ns then ns else ns ++ [n]).Nodup
        split
        · exact h
        · rename_i hn
          rw [List.nodup_append]
          exact ⟨h, by simp, fun a ha b hb e => hn (by rw [List.mem_singleton] at hb; rw [← hb, ← e]; exact ha)⟩
      | gone n => exact h.sublist List.filter_sublist
  exact this cs [] List.nodup_nil
theorem mem_nums (cs : List ChR) (n : Int) : n ∈ numsOf cs ↔ (getD (kvsOf cs) (.inl n)).isSome = true := by
  rw [getD_some]
  have h : (kvsOf cs).map (·.1) = (numsOf cs).map Sum.inl := kvs_nums cs
  rw [h]
  exact inl_mem.symm
/-- the same table, perhaps in another order -/
def EqV (cs cs' : List ChR) : Prop := ∀ n : Int, getD (kvsOf cs) (.inl n) = getD (kvsOf cs') (.inl n)
theorem EqV.refl (cs : List ChR) : EqV cs cs := fun _ => rfl
theorem EqV.trans {a b c : List ChR} (h : EqV a b) (k : EqV b c) : EqV a c := fun n => (h n).trans (k n)
theorem EqV.mem {cs cs' : List ChR} (h : EqV cs cs') (n : Int) : n ∈ numsOf cs ↔ n ∈ numsOf cs' := by rw [mem_nums, mem_nums, h n]
theorem EqV.snoc {cs cs' : List ChR} (h : EqV cs cs') (c : ChR) : EqV (cs ++ [c]) (cs' ++ [c]) := fun n => by
  rw [kvsOf_snoc, kvsOf_snoc]
  cases c with
  | new m id =>
    show getD (putD _ _ _) _ = getD (putD _ _ _) _
    rw [getD_put, getD_put, h n]
  | gone m =>
    show getD (delD _ _) _ = getD (delD _ _) _
    rw [getD_del, getD_del, h n]
theorem EqV.app {cs cs' : List ChR} (h : EqV cs cs') (ch : List ChR) : EqV (cs ++ ch) (cs' ++ ch) := by
  induction ch generalizing cs cs' with
  | nil => rw [List.append_nil, List.append_nil]; exact h
  | cons c ch ih =>
    have := ih (h.snoc c)
    rwa [List.append_assoc, List.append_assoc] at this
theorem EqV.view {cs cs' : List ChR} (h : EqV cs cs') : viewL cs = viewL cs' := by
  have hp : (numsOf cs).Perm (numsOf cs') := (List.perm_ext_iff_of_nodup (nums_nodup _) (nums_nodup _)).mpr h.mem
  unfold viewL
  rw [sortI_perm hp]
  refine List.map_congr_left fun d _ => ?_
  cases d with
  | int n => show lookV _ n = lookV _ n; unfold lookV; rw [h n]
  | _ => rfl
/-- the changes that a table of pairs makes -/
def newsOf (ys : List Int) (kvs : List (L2.Key × D)) : List ChR := ys.map fun n => .new n ((getD kvs (.inl n)).getD .non)
theorem news_get (kvs : List (L2.Key × D)) (j : Int) : ∀ ys : List Int, getD (kvsOf (newsOf ys kvs)) (.inl j) = if j ∈ ys then some ((getD kvs (.inl j)).getD .non) else none := by
  have : ∀ zs : List Int, getD (kvsOf (newsOf zs.reverse kvs)) (.inl j) = if j ∈ zs.reverse then some ((getD kvs (.inl j)).getD .non) else none := fun zs => by
    induction zs with
    | nil => rfl
    | cons y zs ih =>
      rw [List.reverse_cons]
      have e : newsOf (zs.reverse ++ [y]) kvs = newsOf zs.reverse kvs ++ [.new y ((getD kvs (.inl y)).getD .non)] := by unfold newsOf; rw [List.map_append]; rfl
      rw [e, kvsOf_snoc]
      show getD (putD _ _ _) _ = _
      rw [getD_put, ih]
      by_cases hj : j = y
      · subst hj
        rw [if_pos rfl, if_pos (by simp)]
      · have h2 : (Sum.inl j : L2.Key) ≠ Sum.inl y := fun e => hj (by injection e)
        rw [if_neg h2]
        have h3 : j ∈ zs.reverse ++ [y] ↔ j ∈ zs.reverse := by rw [List.mem_append, List.mem_singleton]; exact ⟨fun h => h.elim id fun e => absurd e hj, .inl⟩
        by_cases h4 : j ∈ zs.reverse
        · rw [if_pos h4, if_pos (h3.mpr h4)]
        · rw [if_neg h4, if_neg fun h => h4 (h3.mp h)]
  intro ys
  have := this ys.reverse
  rwa [List.reverse_reverse] at this
theorem news_eqv {cs : List ChR} {ys : List Int} (h : ys.Perm (numsOf cs)) : EqV (newsOf ys (kvsOf cs)) cs := fun n => by
  rw [news_get]
  by_cases hn : n ∈ ys
  · rw [if_pos hn]
    have := (mem_nums cs n).mp (h.mem_iff.mp hn)
    obtain ⟨v, hv⟩ := Option.isSome_iff_exists.mp this
    rw [hv]; rfl
  · rw [if_neg hn]
    cases e : getD (kvsOf cs) (.inl n) with
    | none => rfl
    | some v => exact absurd (h.mem_iff.mpr ((mem_nums cs n).mpr (by rw [e]; rfl))) hn
theorem wfc_take {cs : List ChR} (h : WfC cs) (m : Nat) : WfC (cs.take m) := fun i n hi => by
  rw [List.getElem?_take] at hi
  split at hi
  · have := h i n hi
    rwa [List.take_take, Nat.min_eq_left (by omega)]
  · cases hi
def wholeA (cs : List ChR) : D := .tup [.str "whole", .int cs.length, .tup (viewL cs)]
def sinceA (t : Nat) (chs : List ChR) : D := .tup [.str "since", .int t, .tup (chs.map ChR.d)]
def KFs (n : Int) (d : Addr) : List (Str × D) := [("stamp_heard", .int n), ("id_by_number", .ref d)]
section
variable {n v : Int} {d e : Addr}
theorem kf_stamp : (KFs n d).lookup ("stamp_heard" : Str) = some (.int n) := by
  unfold KFs
  rw [List.lookup_cons, show (("stamp_heard" : Str) == "stamp_heard") = true from by decide +kernel]
theorem kf_ids : (KFs n d).lookup ("id_by_number" : Str) = some (.ref d) := by
  unfold KFs
  rw [List.lookup_cons, show (("id_by_number" : Str) == "stamp_heard") = false from by decide +kernel]
  show List.lookup _ _ = _
  rw [List.lookup_cons, show (("id_by_number" : Str) == "id_by_number") = true from by decide +kernel]
theorem kf_none {m : Str} (h : m ≠ "stamp_heard" ∧ m ≠ "id_by_number") : (KFs n d).lookup m = none := by
  unfold KFs
  simp only [List.lookup_cons, beq_eq_false_iff_ne.mpr h.1, beq_eq_false_iff_ne.mpr h.2]
  rfl
theorem kf_put : putFd "stamp_heard" (.int v) (KFs n d) = KFs v d := by
  unfold KFs
  rw [putFd, if_pos rfl]
theorem kf_put2 : putFd "id_by_number" (.ref e) (KFs n d) = KFs n e := by
  unfold KFs
  rw [putFd, if_neg (by decide +kernel), putFd, if_pos rfl]
theorem kf_make : putFd "id_by_number" (.ref d) (putFd "stamp_heard" (.int n) []) = KFs n d := by
  rw [putFd, putFd, if_neg (by decide +kernel), putFd]
  rfl
end
/-- a desk at a, its table at d, that has heard the first changes cs -/
structure DeskAt (g : GS) (a d : Addr) (cs : List ChR) : Prop where
  ins : g a = some (.ins "Desk" (KFs cs.length d))
  ids : ∃ cs', g d = some (.dct (kvsOf cs')) ∧ EqV cs' cs ∧ cs'.length ≤ cs.length
theorem DeskAt.up {g g' : GS} {a d : Addr} {cs : List ChR} (h : DeskAt g a d cs) (U : Up [] g g') : DeskAt g' a d cs := by
  obtain ⟨h1, cs', h2, h3⟩ := h
  exact ⟨U.get0 h1, cs', U.get0 h2, h3⟩
theorem DeskAt.upS {g g' : GS} {S : List Addr} {a d : Addr} {cs : List ChR} (h : DeskAt g a d cs) (U : Up S g g') (n1 : a ∉ S) (n2 : d ∉ S) : DeskAt g' a d cs := by
  obtain ⟨h1, cs', h2, h3⟩ := h
  exact ⟨U.1 _ _ n1 h1, cs', U.1 _ _ n2 h2, h3⟩
theorem DeskAt.ne {g : GS} {a d : Addr} {cs : List ChR} (h : DeskAt g a d cs) : a ≠ d := fun e => by
  obtain ⟨h1, cs', h2, _⟩ := h
  rw [e, h2] at h1; cases h1
theorem StAt.upS {g g' : GS} {S : List Addr} {a k d : Addr} {l : Int} {cs : List ChR} (h : StAt g a k d l cs) (U : Up S g g') (n1 : a ∉ S) (n2 : k ∉ S) (n3 : d ∉ S) : StAt g' a k d l cs := ⟨U.1 _ _ n1 h.ins, U.1 _ _ n2 h.kept, U.1 _ _ n3 h.ids, h.l0⟩
theorem Src.upS {s : SI} {g g' : GS} {m : Nat} {S : List Addr} (h : Src s g m) (U : Up S g g') (n1 : s.L ∉ S) (n2 : s.L0 ∉ S) : Src s g' m := by
  obtain ⟨h1, h2, c, big, seed, n, h3, h4⟩ := h
  exact ⟨U.1 _ _ n2 h1, h2, c, big, seed, n, U.1 _ _ n1 h3, h4⟩
theorem up_make {g g' : GS} {a : Addr} {o : MO} (ha : g a = none) (U : Up [a] (gup g a o) g') : Up [] g g' := ⟨fun l m _ h => by
  have n : l ≠ a := fun z => by rw [z, ha] at h; cases h
  exact U.1 l m (fun z => n (List.mem_singleton.mp z)) (by rw [gup_ne n]; exact h), fun l h => U.2 l (gup_some h a)⟩
theorem ne_of {g : GS} {p q : Addr} {x y : MO} (h : g p = some x) (k : g q = some y) (n : x ≠ y) : p ≠ q := fun e => n (by rw [e, k] at h; injection h with h; exact h.symm)
theorem lst_ins {xs : List D} {c : Str} {fs : List (Str × D)} : MO.lst xs ≠ MO.ins c fs := fun z => by cases z
theorem lst_dct {xs : List D} {kvs : List (L2.Key × D)} : MO.lst xs ≠ MO.dct kvs := fun z => by cases z
section
variable {X : Cx} {fd : FuncData} {ps : List Str} {n x : Str} {k : Nat} {fa : Addr} {sp : DSp} {p0 pos : Pos}
theorem de_make0 (M : Mk X.K (clsA X.K n) fa) (F : FnOk X.prog X.w X.K X.mg X.base CX0 k fa fd ps (lSp X.K sp)) (hr : Room (k + 1) X.A) (hg : Gl X x) (hm : X.mg x = some (.ref (clsA X.K n))) (hb : Binds X.K fd ps [])
    (hdb : (x == ("__debug__" : Str)) = false := by decide) :
    DE X (.Call (.Name x p0) [] [] pos) (dMake n sp dNil) := ⟨peW (pe_make0 M F hr hg hm hb .nil pass0 hdb) fun σ H Q h => by
  obtain ⟨e, g, Qd, re, rg, q, k⟩ := h
  refine fun a dx ha hdx hne => ?_
  have rg2 := rg.hid (o := .own a) hdx
  have ha2 : upd H dx (.own a) a = none := by rw [upd_ne (Ne.symm hne)]; exact ha
  have xx : Ext H (upd (upd H dx (.own a)) a (.ins (clsA X.K n) dx [])) := (Ext.new hdx).trans (.new ha2)
  have rg3 : RepG X.K (upd (upd H dx (.own a)) a (.ins (clsA X.K n) dx [])) (gup g a (.ins n [])) := rg2.upd (.new ha2) ⟨dx, [], upd_same .., .nil⟩
  refine ⟨_, _, _, .cons (.ref a) .nil, rg3, q a (rg.free ha), fun v d H4 g4 x4 rg4 r4 q4 => ?_⟩
  obtain ⟨rfl, q4⟩ := q4
  cases r4
  exact ⟨rfl, rg4.fin (k.mono (xx.trans x4)) (.ref a) q4⟩⟩
end
end DL

namespace DL
open PySem PySem.Spec PyProof.Rows L2
open TL (tl)
section
variable {ds : List DL.D} {keep : GS → Prop} {tg : DTG} {tb : DTS} {D : DEnds} {e : EV} {g1 : GS}
theorem for1 (j1 : Nat) (R : Nat → Option DL.D → GS → Prop) (h0 : ∃ x1, e = List.set (e) j1 x1 ∧ R 0 x1 g1) (hk : ∀ i x1 g', i ≤ ds.length → R i x1 g' → keep g')
    (hs : ∀ i d x1 g', ds[i]? = some d → R i x1 g' → tg d (List.set (e) j1 x1) g' fun e2 g2 => tb { D with nx := fun e' g' => ∃ y1, e' = List.set (e) j1 y1 ∧ R (i + 1) y1 g', ct := fun e' g' => ∃ y1, e' = List.set (e) j1 y1 ∧ R (i + 1) y1 g', bk := D.nx } e2 g2) (hd : ∀ x1 g', R ds.length x1 g' → D.nx (List.set (e) j1 x1) g') :
    ∃ Iv : Nat → EV → GS → Prop, Iv 0 e g1 ∧ (∀ i e' g', i ≤ ds.length → Iv i e' g' → keep g') ∧ (∀ i d e' g', ds[i]? = some d → Iv i e' g' → tg d e' g' fun e2 g2 => tb { D with nx := Iv (i + 1), ct := Iv (i + 1), bk := D.nx } e2 g2) ∧ ∀ e' g', Iv ds.length e' g' → D.nx e' g' :=
  ⟨fun i e' g' => ∃ x1, e' = List.set (e) j1 x1 ∧ R i x1 g', h0, fun i e' g' hi ⟨x1, _, h⟩ => hk i x1 g' hi h, fun i d e' g' hd ⟨x1, he, h⟩ => by subst he; exact hs i d x1 g' hd h, fun e' g' ⟨x1, he, h⟩ => by subst he; exact hd x1 g' h⟩
theorem for2 (j1 j2 : Nat) (R : Nat → Option DL.D → Option DL.D → GS → Prop) (h0 : ∃ x1 x2, e = List.set (List.set (e) j1 x1) j2 x2 ∧ R 0 x1 x2 g1) (hk : ∀ i x1 x2 g', i ≤ ds.length → R i x1 x2 g' → keep g')
    (hs : ∀ i d x1 x2 g', ds[i]? = some d → R i x1 x2 g' → tg d (List.set (List.set (e) j1 x1) j2 x2) g' fun e2 g2 => tb { D with nx := fun e' g' => ∃ y1 y2, e' = List.set (List.set (e) j1 y1) j2 y2 ∧ R (i + 1) y1 y2 g', ct := fun e' g' => ∃ y1 y2, e' = List.set (List.set (e) j1 y1) j2 y2 ∧ R (i + 1) y1 y2 g', bk := D.nx } e2 g2) (hd : ∀ x1 x2 g', R ds.length x1 x2 g' → D.nx (List.set (List.set (e) j1 x1) j2 x2) g') :
    ∃ Iv : Nat → EV → GS → Prop, Iv 0 e g1 ∧ (∀ i e' g', i ≤ ds.length → Iv i e' g' → keep g') ∧ (∀ i d e' g', ds[i]? = some d → Iv i e' g' → tg d e' g' fun e2 g2 => tb { D with nx := Iv (i + 1), ct := Iv (i + 1), bk := D.nx } e2 g2) ∧ ∀ e' g', Iv ds.length e' g' → D.nx e' g' :=
  ⟨fun i e' g' => ∃ x1 x2, e' = List.set (List.set (e) j1 x1) j2 x2 ∧ R i x1 x2 g', h0, fun i e' g' hi ⟨x1, x2, _, h⟩ => hk i x1 x2 g' hi h, fun i d e' g' hd ⟨x1, x2, he, h⟩ => by subst he; exact hs i d x1 x2 g' hd h, fun e' g' ⟨x1, x2, he, h⟩ => by subst he; exact hd x1 x2 g' h⟩
theorem for3 (j1 j2 j3 : Nat) (R : Nat → Option DL.D → Option DL.D → Option DL.D → GS → Prop) (h0 : ∃ x1 x2 x3, e = List.set (List.set (List.set (e) j1 x1) j2 x2) j3 x3 ∧ R 0 x1 x2 x3 g1) (hk : ∀ i x1 x2 x3 g', i ≤ ds.length → R i x1 x2 x3 g' → keep g')
    (hs : ∀ i d x1 x2 x3 g', ds[i]? = some d → R i x1 x2 x3 g' → tg d (List.set (List.set (List.set (e) j1 x1) j2 x2) j3 x3) g' fun e2 g2 => tb { D with nx := fun e' g' => ∃ y1 y2 y3, e' = List.set (List.set (List.set (e) j1 y1) j2 y2) j3 y3 ∧ R (i + 1) y1 y2 y3 g', ct := fun e' g' => ∃ y1 y2 y3, e' = List.set (List.set (List.set (e) j1 y1) j2 y2) j3 y3 ∧ R (i + 1) y1 y2 y3 g', bk := D.nx } e2 g2) (hd : ∀ x1 x2 x3 g', R ds.length x1 x2 x3 g' → D.nx (List.set (List.set (List.set (e) j1 x1) j2 x2) j3 x3) g') :
    ∃ Iv : Nat → EV → GS → Prop, Iv 0 e g1 ∧ (∀ i e' g', i ≤ ds.length → Iv i e' g' → keep g') ∧ (∀ i d e' g', ds[i]? = some d → Iv i e' g' → tg d e' g' fun e2 g2 => tb { D with nx := Iv (i + 1), ct := Iv (i + 1), bk := D.nx } e2 g2) ∧ ∀ e' g', Iv ds.length e' g' → D.nx e' g' :=
  ⟨fun i e' g' => ∃ x1 x2 x3, e' = List.set (List.set (List.set (e) j1 x1) j2 x2) j3 x3 ∧ R i x1 x2 x3 g', h0, fun i e' g' hi ⟨x1, x2, x3, _, h⟩ => hk i x1 x2 x3 g' hi h, fun i d e' g' hd ⟨x1, x2, x3, he, h⟩ => by subst he; exact hs i d x1 x2 x3 g' hd h, fun e' g' ⟨x1, x2, x3, he, h⟩ => by subst he; exact hd x1 x2 x3 g' h⟩
theorem for4 (j1 j2 j3 j4 : Nat) (R : Nat → Option DL.D → Option DL.D → Option DL.D → Option DL.D → GS → Prop) (h0 : ∃ x1 x2 x3 x4, e = List.set (List.set (List.set (List.set (e) j1 x1) j2 x2) j3 x3) j4 x4 ∧ R 0 x1 x2 x3 x4 g1) (hk : ∀ i x1 x2 x3 x4 g', i ≤ ds.length → R i x1 x2 x3 x4 g' → keep g')
    (hs : ∀ i d x1 x2 x3 x4 g', ds[i]? = some d → R i x1 x2 x3 x4 g' → tg d (List.set (List.set (List.set (List.set (e) j1 x1) j2 x2) j3 x3) j4 x4) g' fun e2 g2 => tb { D with nx := fun e' g' => ∃ y1 y2 y3 y4, e' = List.set (List.set (List.set (List.set (e) j1 y1) j2 y2) j3 y3) j4 y4 ∧ R (i + 1) y1 y2 y3 y4 g', ct := fun e' g' => ∃ y1 y2 y3 y4, e' = List.set (List.set (List.set (List.set (e) j1 y1) j2 y2) j3 y3) j4 y4 ∧ R (i + 1) y1 y2 y3 y4 g', bk := D.nx } e2 g2) (hd : ∀ x1 x2 x3 x4 g', R ds.length x1 x2 x3 x4 g' → D.nx (List.set (List.set (List.set (List.set (e) j1 x1) j2 x2) j3 x3) j4 x4) g') :
    ∃ Iv : Nat → EV → GS → Prop, Iv 0 e g1 ∧ (∀ i e' g', i ≤ ds.length → Iv i e' g' → keep g') ∧ (∀ i d e' g', ds[i]? = some d → Iv i e' g' → tg d e' g' fun e2 g2 => tb { D with nx := Iv (i + 1), ct := Iv (i + 1), bk := D.nx } e2 g2) ∧ ∀ e' g', Iv ds.length e' g' → D.nx e' g' :=
  ⟨fun i e' g' => ∃ x1 x2 x3 x4, e' = List.set (List.set (List.set (List.set (e) j1 x1) j2 x2) j3 x3) j4 x4 ∧ R i x1 x2 x3 x4 g', h0, fun i e' g' hi ⟨x1, x2, x3, x4, _, h⟩ => hk i x1 x2 x3 x4 g' hi h, fun i d e' g' hd ⟨x1, x2, x3, x4, he, h⟩ => by subst he; exact hs i d x1 x2 x3 x4 g' hd h, fun e' g' ⟨x1, x2, x3, x4, he, h⟩ => by subst he; exact hd x1 x2 x3 x4 g' h⟩
theorem for5 (j1 j2 j3 j4 j5 : Nat) (R : Nat → Option DL.D → Option DL.D → Option DL.D → Option DL.D → Option DL.D → GS → Prop) (h0 : ∃ x1 x2 x3 x4 x5, e = List.set (List.set (List.set (List.set (List.set (e) j1 x1) j2 x2) j3 x3) j4 x4) j5 x5 ∧ R 0 x1 x2 x3 x4 x5 g1) (hk : ∀ i x1 x2 x3 x4 x5 g', i ≤ ds.length → R i x1 x2 x3 x4 x5 g' → keep g')
    (hs : ∀ i d x1 x2 x3 x4 x5 g', ds[i]? = some d → R i x1 x2 x3 x4 x5 g' → tg d (List.set (List.set (List.set (List.set (List.set (e) j1 x1) j2 x2) j3 x3) j4 x4) j5 x5) g' fun e2 g2 => tb { D with nx := fun e' g' => ∃ y1 y2 y3 y4 y5, e' = List.set (List.set (List.set (List.set (List.set (e) j1 y1) j2 y2) j3 y3) j4 y4) j5 y5 ∧ R (i + 1) y1 y2 y3 y4 y5 g', ct := fun e' g' => ∃ y1 y2 y3 y4 y5, e' = List.set (List.set (List.set (List.set (List.set (e) j1 y1) j2 y2) j3 y3) j4 y4) j5 y5 ∧ R (i + 1) y1 y2 y3 y4 y5 g', bk := D.nx } e2 g2) (hd : ∀ x1 x2 x3 x4 x5 g', R ds.length x1 x2 x3 x4 x5 g' → D.nx (List.set (List.set (List.set (List.set (List.set (e) j1 x1) j2 x2) j3 x3) j4 x4) j5 x5) g') :
    ∃ Iv : Nat → EV → GS → Prop, Iv 0 e g1 ∧ (∀ i e' g', i ≤ ds.length → Iv i e' g' → keep g') ∧ (∀ i d e' g', ds[i]? = some d → Iv i e' g' → tg d e' g' fun e2 g2 => tb { D with nx := Iv (i + 1), ct := Iv (i + 1), bk := D.nx } e2 g2) ∧ ∀ e' g', Iv ds.length e' g' → D.nx e' g' :=
  ⟨fun i e' g' => ∃ x1 x2 x3 x4 x5, e' = List.set (List.set (List.set (List.set (List.set (e) j1 x1) j2 x2) j3 x3) j4 x4) j5 x5 ∧ R i x1 x2 x3 x4 x5 g', h0, fun i e' g' hi ⟨x1, x2, x3, x4, x5, _, h⟩ => hk i x1 x2 x3 x4 x5 g' hi h, fun i d e' g' hd ⟨x1, x2, x3, x4, x5, he, h⟩ => by subst he; exact hs i d x1 x2 x3 x4 x5 g' hd h, fun e' g' ⟨x1, x2, x3, x4, x5, he, h⟩ => by subst he; exact hd x1 x2 x3 x4 x5 g' h⟩
theorem for6 (j1 j2 j3 j4 j5 j6 : Nat) (R : Nat → Option DL.D → Option DL.D → Option DL.D → Option DL.D → Option DL.D → Option DL.D → GS → Prop) (h0 : ∃ x1 x2 x3 x4 x5 x6, e = List.set (List.set (List.set (List.set (List.set (List.set (e) j1 x1) j2 x2) j3 x3) j4 x4) j5 x5) j6 x6 ∧ R 0 x1 x2 x3 x4 x5 x6 g1) (hk : ∀ i x1 x2 x3 x4 x5 x6 g', i ≤ ds.length → R i x1 x2 x3 x4 x5 x6 g' → keep g')
    (hs : ∀ i d x1 x2 x3 x4 x5 x6 g', ds[i]? = some d → R i x1 x2 x3 x4 x5 x6 g' → tg d (List.set (List.set (List.set (List.set (List.set (List.set (e) j1 x1) j2 x2) j3 x3) j4 x4) j5 x5) j6 x6) g' fun e2 g2 => tb { D with nx := fun e' g' => ∃ y1 y2 y3 y4 y5 y6, e' = List.set (List.set (List.set (List.set (List.set (List.set (e) j1 y1) j2 y2) j3 y3) j4 y4) j5 y5) j6 y6 ∧ R (i + 1) y1 y2 y3 y4 y5 y6 g', ct := fun e' g' => ∃ y1 y2 y3 y4 y5 y6, e' = List.set (List.set (List.set (List.set (List.set (List.set (e) j1 y1) j2 y2) j3 y3) j4 y4) j5 y5) j6 y6 ∧ R (i + 1) y1 y2 y3 y4 y5 y6 g', bk := D.nx } e2 g2) (hd : ∀ x1 x2 x3 x4 x5 x6 g', R ds.length x1 x2 x3 x4 x5 x6 g' → D.nx (List.set (List.set (List.set (List.set (List.set (List.set (e) j1 x1) j2 x2) j3 x3) j4 x4) j5 x5) j6 x6) g') :
    ∃ Iv : Nat → EV → GS → Prop, Iv 0 e g1 ∧ (∀ i e' g', i ≤ ds.length → Iv i e' g' → keep g') ∧ (∀ i d e' g', ds[i]? = some d → Iv i e' g' → tg d e' g' fun e2 g2 => tb { D with nx := Iv (i + 1), ct := Iv (i + 1), bk := D.nx } e2 g2) ∧ ∀ e' g', Iv ds.length e' g' → D.nx e' g' :=
  ⟨fun i e' g' => ∃ x1 x2 x3 x4 x5 x6, e' = List.set (List.set (List.set (List.set (List.set (List.set (e) j1 x1) j2 x2) j3 x3) j4 x4) j5 x5) j6 x6 ∧ R i x1 x2 x3 x4 x5 x6 g', h0, fun i e' g' hi ⟨x1, x2, x3, x4, x5, x6, _, h⟩ => hk i x1 x2 x3 x4 x5 x6 g' hi h, fun i d e' g' hd ⟨x1, x2, x3, x4, x5, x6, he, h⟩ => by subst he; exact hs i d x1 x2 x3 x4 x5 x6 g' hd h, fun e' g' ⟨x1, x2, x3, x4, x5, x6, he, h⟩ => by subst he; exact hd x1 x2 x3 x4 x5 x6 g' h⟩
theorem for7 (j1 j2 j3 j4 j5 j6 j7 : Nat) (R : Nat → Option DL.D → Option DL.D → Option DL.D → Option DL.D → Option DL.D → Option DL.D → Option DL.D → GS → Prop) (h0 : ∃ x1 x2 x3 x4 x5 x6 x7, e = List.set (List.set (List.set (List.set (List.set (List.set (List.set (e) j1 x1) j2 x2) j3 x3) j4 x4) j5 x5) j6 x6) j7 x7 ∧ R 0 x1 x2 x3 x4 x5 x6 x7 g1) (hk : ∀ i x1 x2 x3 x4 x5 x6 x7 g', i ≤ ds.length → R i x1 x2 x3 x4 x5 x6 x7 g' → keep g')
    (hs : ∀ i d x1 x2 x3 x4 x5 x6 x7 g', ds[i]? = some d → R i x1 x2 x3 x4 x5 x6 x7 g' → tg d (List.set (List.set (List.set (List.set (List.set (List.set (List.set (e) j1 x1) j2 x2) j3 x3) j4 x4) j5 x5) j6 x6) j7 x7) g' fun e2 g2 => tb { D with nx := fun e' g' => ∃ y1 y2 y3 y4 y5 y6 y7, e' = List.set (List.set (List.set (List.set (List.set (List.set (List.set (e) j1 y1) j2 y2) j3 y3) j4 y4) j5 y5) j6 y6) j7 y7 ∧ R (i + 1) y1 y2 y3 y4 y5 y6 y7 g', ct := fun e' g' => ∃ y1 y2 y3 y4 y5 y6 y7, e' = List.set (List.set (List.set (List.set (List.set (List.set (List.set (e) j1 y1) j2 y2) j3 y3) j4 y4) j5 y5) j6 y6) j7 y7 ∧ R (i + 1) y1 y2 y3 y4 y5 y6 y7 g', bk := D.nx } e2 g2) (hd : ∀ x1 x2 x3 x4 x5 x6 x7 g', R ds.length x1 x2 x3 x4 x5 x6 x7 g' → D.nx (List.set (List.set (List.set (List.set (List.set (List.set (List.set (e) j1 x1) j2 x2) j3 x3) j4 x4) j5 x5) j6 x6) j7 x7) g') :
    ∃ Iv : Nat → EV → GS → Prop, Iv 0 e g1 ∧ (∀ i e' g', i ≤ ds.length → Iv i e' g' → keep g') ∧ (∀ i d e' g', ds[i]? = some d → Iv i e' g' → tg d e' g' fun e2 g2 => tb { D with nx := Iv (i + 1), ct := Iv (i + 1), bk := D.nx } e2 g2) ∧ ∀ e' g', Iv ds.length e' g' → D.nx e' g' :=
  ⟨fun i e' g' => ∃ x1 x2 x3 x4 x5 x6 x7, e' = List.set (List.set (List.set (List.set (List.set (List.set (List.set (e) j1 x1) j2 x2) j3 x3) j4 x4) j5 x5) j6 x6) j7 x7 ∧ R i x1 x2 x3 x4 x5 x6 x7 g', h0, fun i e' g' hi ⟨x1, x2, x3, x4, x5, x6, x7, _, h⟩ => hk i x1 x2 x3 x4 x5 x6 x7 g' hi h, fun i d e' g' hd ⟨x1, x2, x3, x4, x5, x6, x7, he, h⟩ => by subst he; exact hs i d x1 x2 x3 x4 x5 x6 x7 g' hd h, fun e' g' ⟨x1, x2, x3, x4, x5, x6, x7, he, h⟩ => by subst he; exact hd x1 x2 x3 x4 x5 x6 x7 g' h⟩
theorem for8 (j1 j2 j3 j4 j5 j6 j7 j8 : Nat) (R : Nat → Option DL.D → Option DL.D → Option DL.D → Option DL.D → Option DL.D → Option DL.D → Option DL.D → Option DL.D → GS → Prop) (h0 : ∃ x1 x2 x3 x4 x5 x6 x7 x8, e = List.set (List.set (List.set (List.set (List.set (List.set (List.set (List.set (e) j1 x1) j2 x2) j3 x3) j4 x4) j5 x5) j6 x6) j7 x7) j8 x8 ∧ R 0 x1 x2 x3 x4 x5 x6 x7 x8 g1) (hk : ∀ i x1 x2 x3 x4 x5 x6 x7 x8 g', i ≤ ds.length → R i x1 x2 x3 x4 x5 x6 x7 x8 g' → keep g')
    (hs : ∀ i d x1 x2 x3 x4 x5 x6 x7 x8 g', ds[i]? = some d → R i x1 x2 x3 x4 x5 x6 x7 x8 g' → tg d (List.set (List.set (List.set (List.set (List.set (List.set (List.set (List.set (e) j1 x1) j2 x2) j3 x3) j4 x4) j5 x5) j6 x6) j7 x7) j8 x8) g' fun e2 g2 => tb { D with nx := fun e' g' => ∃ y1 y2 y3 y4 y5 y6 y7 y8, e' = List.set (List.set (List.set (List.set (List.set (List.set (List.set (List.set (e) j1 y1) j2 y2) j3 y3) j4 y4) j5 y5) j6 y6) j7 y7) j8 y8 ∧ R (i + 1) y1 y2 y3 y4 y5 y6 y7 y8 g', ct := fun e' g' => ∃ y1 y2 y3 y4 y5 y6 y7 y8, e' = List.set (List.set (List.set (List.set (List.set (List.set (List.set (List.set (e) j1 y1) j2 y2) j3 y3) j4 y4) j5 y5) j6 y6) j7 y7) j8 y8 ∧ R (i + 1) y1 y2 y3 y4 y5 y6 y7 y8 g', bk := D.nx } e2 g2) (hd : ∀ x1 x2 x3 x4 x5 x6 x7 x8 g', R ds.length x1 x2 x3 x4 x5 x6 x7 x8 g' → D.nx (List.set (List.set (List.set (List.set (List.set (List.set (List.set (List.set (e) j1 x1) j2 x2) j3 x3) j4 x4) j5 x5) j6 x6) j7 x7) j8 x8) g') :
    ∃ Iv : Nat → EV → GS → Prop, Iv 0 e g1 ∧ (∀ i e' g', i ≤ ds.length → Iv i e' g' → keep g') ∧ (∀ i d e' g', ds[i]? = some d → Iv i e' g' → tg d e' g' fun e2 g2 => tb { D with nx := Iv (i + 1), ct := Iv (i + 1), bk := D.nx } e2 g2) ∧ ∀ e' g', Iv ds.length e' g' → D.nx e' g' :=
  ⟨fun i e' g' => ∃ x1 x2 x3 x4 x5 x6 x7 x8, e' = List.set (List.set (List.set (List.set (List.set (List.set (List.set (List.set (e) j1 x1) j2 x2) j3 x3) j4 x4) j5 x5) j6 x6) j7 x7) j8 x8 ∧ R i x1 x2 x3 x4 x5 x6 x7 x8 g', h0, fun i e' g' hi ⟨x1, x2, x3, x4, x5, x6, x7, x8, _, h⟩ => hk i x1 x2 x3 x4 x5 x6 x7 x8 g' hi h, fun i d e' g' hd ⟨x1, x2, x3, x4, x5, x6, x7, x8, he, h⟩ => by subst he; exact hs i d x1 x2 x3 x4 x5 x6 x7 x8 g' hd h, fun e' g' ⟨x1, x2, x3, x4, x5, x6, x7, x8, he, h⟩ => by subst he; exact hd x1 x2 x3 x4 x5 x6 x7 x8 g' h⟩
theorem for9 (j1 j2 j3 j4 j5 j6 j7 j8 j9 : Nat) (R : Nat → Option DL.D → Option DL.D → Option DL.D → Option DL.D → Option DL.D → Option DL.D → Option DL.D → Option DL.D → Option DL.D → GS → Prop) (h0 : ∃ x1 x2 x3 x4 x5 x6 x7 x8 x9, e = List.set (List.set (List.set (List.set (List.set (List.set (List.set (List.set (List.set (e) j1 x1) j2 x2) j3 x3) j4 x4) j5 x5) j6 x6) j7 x7) j8 x8) j9 x9 ∧ R 0 x1 x2 x3 x4 x5 x6 x7 x8 x9 g1) (hk : ∀ i x1 x2 x3 x4 x5 x6 x7 x8 x9 g', i ≤ ds.length → R i x1 x2 x3 x4 x5 x6 x7 x8 x9 g' → keep g')
    (hs : ∀ i d x1 x2 x3 x4 x5 x6 x7 x8 x9 g', ds[i]? = some d → R i x1 x2 x3 x4 x5 x6 x7 x8 x9 g' → tg d (List.set (List.set (List.set (List.set (List.set (List.set (List.set (List.set (List.set (e) j1 x1) j2 x2) j3 x3) j4 x4) j5 x5) j6 x6) j7 x7) j8 x8) j9 x9) g' fun e2 g2 => tb { D with nx := fun e' g' => ∃ y1 y2 y3 y4 y5 y6 y7 y8 y9, e' = List.set (List.set (List.set (List.set (List.set (List.set (List.set (List.set (List.set (e) j1 y1) j2 y2) j3 y3) j4 y4) j5 y5) j6 y6) j7 y7) j8 y8) j9 y9 ∧ R (i + 1) y1 y2 y3 y4 y5 y6 y7 y8 y9 g', ct := fun e' g' => ∃ y1 y2 y3 y4 y5 y6 y7 y8 y9, e' = List.set (List.set (List.set (List.set (List.set (List.set (List.set (List.set (List.set (e) j1 y1) j2 y2) j3 y3) j4 y4) j5 y5) j6 y6) j7 y7) j8 y8) j9 y9 ∧ R (i + 1) y1 y2 y3 y4 y5 y6 y7 y8 y9 g', bk := D.nx } e2 g2) (hd : ∀ x1 x2 x3 x4 x5 x6 x7 x8 x9 g', R ds.length x1 x2 x3 x4 x5 x6 x7 x8 x9 g' → D.nx (List.set (List.set (List.set (List.set (List.set (List.set (List.set (List.set (List.set (e) j1 x1) j2 x2) j3 x3) j4 x4) j5 x5) j6 x6) j7 x7) j8 x8) j9 x9) g') :
    ∃ Iv : Nat → EV → GS → Prop, Iv 0 e g1 ∧ (∀ i e' g', i ≤ ds.length → Iv i e' g' → keep g') ∧ (∀ i d e' g', ds[i]? = some d → Iv i e' g' → tg d e' g' fun e2 g2 => tb { D with nx := Iv (i + 1), ct := Iv (i + 1), bk := D.nx } e2 g2) ∧ ∀ e' g', Iv ds.length e' g' → D.nx e' g' :=
  ⟨fun i e' g' => ∃ x1 x2 x3 x4 x5 x6 x7 x8 x9, e' = List.set (List.set (List.set (List.set (List.set (List.set (List.set (List.set (List.set (e) j1 x1) j2 x2) j3 x3) j4 x4) j5 x5) j6 x6) j7 x7) j8 x8) j9 x9 ∧ R i x1 x2 x3 x4 x5 x6 x7 x8 x9 g', h0, fun i e' g' hi ⟨x1, x2, x3, x4, x5, x6, x7, x8, x9, _, h⟩ => hk i x1 x2 x3 x4 x5 x6 x7 x8 x9 g' hi h, fun i d e' g' hd ⟨x1, x2, x3, x4, x5, x6, x7, x8, x9, he, h⟩ => by subst he; exact hs i d x1 x2 x3 x4 x5 x6 x7 x8 x9 g' hd h, fun e' g' ⟨x1, x2, x3, x4, x5, x6, x7, x8, x9, he, h⟩ => by subst he; exact hd x1 x2 x3 x4 x5 x6 x7 x8 x9 g' h⟩
theorem for10 (j1 j2 j3 j4 j5 j6 j7 j8 j9 j10 : Nat) (R : Nat → Option DL.D → Option DL.D → Option DL.D → Option DL.D → Option DL.D → Option DL.D → Option DL.D → Option DL.D → Option DL.D → Option DL.D → GS → Prop) (h0 : ∃ x1 x2 x3 x4 x5 x6 x7 x8 x9 x10, e = List.set (List.set (List.set (List.set (List.set (List.set (List.set (List.set (List.set (List.set (e) j1 x1) j2 x2) j3 x3) j4 x4) j5 x5) j6 x6) j7 x7) j8 x8) j9 x9) j10 x10 ∧ R 0 x1 x2 x3 x4 x5 x6 x7 x8 x9 x10 g1) (hk : ∀ i x1 x2 x3 x4 x5 x6 x7 x8 x9 x10 g', i ≤ ds.length → R i x1 x2 x3 x4 x5 x6 x7 x8 x9 x10 g' → keep g')
    (hs : ∀ i d x1 x2 x3 x4 x5 x6 x7 x8 x9 x10 g', ds[i]? = some d → R i x1 x2 x3 x4 x5 x6 x7 x8 x9 x10 g' → tg d (List.set (List.set (List.set (List.set (List.set (List.set (List.set (List.set (List.set (List.set (e) j1 x1) j2 x2) j3 x3) j4 x4) j5 x5) j6 x6) j7 x7) j8 x8) j9 x9) j10 x10) g' fun e2 g2 => tb { D with nx := fun e' g' => ∃ y1 y2 y3 y4 y5 y6 y7 y8 y9 y10, e' = List.set (List.set (List.set (List.set (List.set (List.set (List.set (List.set (List.set (List.set (e) j1 y1) j2 y2) j3 y3) j4 y4) j5 y5) j6 y6) j7 y7) j8 y8) j9 y9) j10 y10 ∧ R (i + 1) y1 y2 y3 y4 y5 y6 y7 y8 y9 y10 g', ct := fun e' g' => ∃ y1 y2 y3 y4 y5 y6 y7 y8 y9 y10, e' = List.set (List.set (List.set (List.set (List.set (List.set (List.set (List.set (List.set (List.set (e) j1 y1) j2 y2) j3 y3) j4 y4) j5 y5) j6 y6) j7 y7) j8 y8) j9 y9) j10 y10 ∧ R (i + 1) y1 y2 y3 y4 y5 y6 y7 y8 y9 y10 g', bk := D.nx } e2 g2) (hd : ∀ x1 x2 x3 x4 x5 x6 x7 x8 x9 x10 g', R ds.length x1 x2 x3 x4 x5 x6 x7 x8 x9 x10 g' → D.nx (List.set (List.set (List.set (List.set (List.set (List.set (List.set (List.set (List.set (List.set (e) j1 x1) j2 x2) j3 x3) j4 x4) j5 x5) j6 x6) j7 x7) j8 x8) j9 x9) j10 x10) g') :
    ∃ Iv : Nat → EV → GS → Prop, Iv 0 e g1 ∧ (∀ i e' g', i ≤ ds.length → Iv i e' g' → keep g') ∧ (∀ i d e' g', ds[i]? = some d → Iv i e' g' → tg d e' g' fun e2 g2 => tb { D with nx := Iv (i + 1), ct := Iv (i + 1), bk := D.nx } e2 g2) ∧ ∀ e' g', Iv ds.length e' g' → D.nx e' g' :=
  ⟨fun i e' g' => ∃ x1 x2 x3 x4 x5 x6 x7 x8 x9 x10, e' = List.set (List.set (List.set (List.set (List.set (List.set (List.set (List.set (List.set (List.set (e) j1 x1) j2 x2) j3 x3) j4 x4) j5 x5) j6 x6) j7 x7) j8 x8) j9 x9) j10 x10 ∧ R i x1 x2 x3 x4 x5 x6 x7 x8 x9 x10 g', h0, fun i e' g' hi ⟨x1, x2, x3, x4, x5, x6, x7, x8, x9, x10, _, h⟩ => hk i x1 x2 x3 x4 x5 x6 x7 x8 x9 x10 g' hi h, fun i d e' g' hd ⟨x1, x2, x3, x4, x5, x6, x7, x8, x9, x10, he, h⟩ => by subst he; exact hs i d x1 x2 x3 x4 x5 x6 x7 x8 x9 x10 g' hd h, fun e' g' ⟨x1, x2, x3, x4, x5, x6, x7, x8, x9, x10, he, h⟩ => by subst he; exact hd x1 x2 x3 x4 x5 x6 x7 x8 x9 x10 g' h⟩
theorem for11 (j1 j2 j3 j4 j5 j6 j7 j8 j9 j10 j11 : Nat) (R : Nat → Option DL.D → Option DL.D → Option DL.D → Option DL.D → Option DL.D → Option DL.D → Option DL.D → Option DL.D → Option DL.D → Option DL.D → Option DL.D → GS → Prop) (h0 : ∃ x1 x2 x3 x4 x5 x6 x7 x8 x9 x10 x11, e = List.set (List.set (List.set (List.set (List.set (List.set (List.set (List.set (List.set (List.set (List.set (e) j1 x1) j2 x2) j3 x3) j4 x4) j5 x5) j6 x6) j7 x7) j8 x8) j9 x9) j10 x10) j11 x11 ∧ R 0 x1 x2 x3 x4 x5 x6 x7 x8 x9 x10 x11 g1) (hk : ∀ i x1 x2 x3 x4 x5 x6 x7 x8 x9 x10 x11 g', i ≤ ds.length → R i x1 x2 x3 x4 x5 x6 x7 x8 x9 x10 x11 g' → keep g')
    (hs : ∀ i d x1 x2 x3 x4 x5 x6 x7 x8 x9 x10 x11 g', ds[i]? = some d → R i x1 x2 x3 x4 x5 x6 x7 x8 x9 x10 x11 g' → tg d (List.set (List.set (List.set (List.set (List.set (List.set (List.set (List.set (List.set (List.set (List.set (e) j1 x1) j2 x2) j3 x3) j4 x4) j5 x5) j6 x6) j7 x7) j8 x8) j9 x9) j10 x10) j11 x11) g' fun e2 g2 => tb { D with nx := fun e' g' => ∃ y1 y2 y3 y4 y5 y6 y7 y8 y9 y10 y11, e' = List.set (List.set (List.set (List.set (List.set (List.set (List.set (List.set (List.set (List.set (List.set (e) j1 y1) j2 y2) j3 y3) j4 y4) j5 y5) j6 y6) j7 y7) j8 y8) j9 y9) j10 y10) j11 y11 ∧ R (i + 1) y1 y2 y3 y4 y5 y6 y7 y8 y9 y10 y11 g', ct := fun e' g' => ∃ y1 y2 y3 y4 y5 y6 y7 y8 y9 y10 y11, e' = List.set (List.set (List.set (List.set (List.set (List.set (List.set (List.set (List.set (List.set (List.set (e) j1 y1) j2 y2) j3 y3) j4 y4) j5 y5) j6 y6) j7 y7) j8 y8) j9 y9) j10 y10) j11 y11 ∧ R (i + 1) y1 y2 y3 y4 y5 y6 y7 y8 y9 y10 y11 g', bk := D.nx } e2 g2) (hd : ∀ x1 x2 x3 x4 x5 x6 x7 x8 x9 x10 x11 g', R ds.length x1 x2 x3 x4 x5 x6 x7 x8 x9 x10 x11 g' → D.nx (List.set (List.set (List.set (List.set (List.set (List.set (List.set (List.set (List.set (List.set (List.set (e) j1 x1) j2 x2) j3 x3) j4 x4) j5 x5) j6 x6) j7 x7) j8 x8) j9 x9) j10 x10) j11 x11) g') :
    ∃ Iv : Nat → EV → GS → Prop, Iv 0 e g1 ∧ (∀ i e' g', i ≤ ds.length → Iv i e' g' → keep g') ∧ (∀ i d e' g', ds[i]? = some d → Iv i e' g' → tg d e' g' fun e2 g2 => tb { D with nx := Iv (i + 1), ct := Iv (i + 1), bk := D.nx } e2 g2) ∧ ∀ e' g', Iv ds.length e' g' → D.nx e' g' :=
  ⟨fun i e' g' => ∃ x1 x2 x3 x4 x5 x6 x7 x8 x9 x10 x11, e' = List.set (List.set (List.set (List.set (List.set (List.set (List.set (List.set (List.set (List.set (List.set (e) j1 x1) j2 x2) j3 x3) j4 x4) j5 x5) j6 x6) j7 x7) j8 x8) j9 x9) j10 x10) j11 x11 ∧ R i x1 x2 x3 x4 x5 x6 x7 x8 x9 x10 x11 g', h0, fun i e' g' hi ⟨x1, x2, x3, x4, x5, x6, x7, x8, x9, x10, x11, _, h⟩ => hk i x1 x2 x3 x4 x5 x6 x7 x8 x9 x10 x11 g' hi h, fun i d e' g' hd ⟨x1, x2, x3, x4, x5, x6, x7, x8, x9, x10, x11, he, h⟩ => by subst he; exact hs i d x1 x2 x3 x4 x5 x6 x7 x8 x9 x10 x11 g' hd h, fun e' g' ⟨x1, x2, x3, x4, x5, x6, x7, x8, x9, x10, x11, he, h⟩ => by subst he; exact hd x1 x2 x3 x4 x5 x6 x7 x8 x9 x10 x11 g' h⟩
theorem for12 (j1 j2 j3 j4 j5 j6 j7 j8 j9 j10 j11 j12 : Nat) (R : Nat → Option DL.D → Option DL.D → Option DL.D → Option DL.D → Option DL.D → Option DL.D → Option DL.D → Option DL.D → Option DL.D → Option DL.D → Option DL.D → Option DL.D → GS → Prop) (h0 : ∃ x1 x2 x3 x4 x5 x6 x7 x8 x9 x10 x11 x12, e = List.set (List.set (List.set (List.set (List.set (List.set (List.set (List.set (List.set (List.set (List.set (List.set (e) j1 x1) j2 x2) j3 x3) j4 x4) j5 x5) j6 x6) j7 x7) j8 x8) j9 x9) j10 x10) j11 x11) j12 x12 ∧ R 0 x1 x2 x3 x4 x5 x6 x7 x8 x9 x10 x11 x12 g1) (hk : ∀ i x1 x2 x3 x4 x5 x6 x7 x8 x9 x10 x11 x12 g', i ≤ ds.length → R i x1 x2 x3 x4 x5 x6 x7 x8 x9 x10 x11 x12 g' → keep g')
    (hs : ∀ i d x1 x2 x3 x4 x5 x6 x7 x8 x9 x10 x11 x12 g', ds[i]? = some d → R i x1 x2 x3 x4 x5 x6 x7 x8 x9 x10 x11 x12 g' → tg d (List.set (List.set (List.set (List.set (List.set (List.set (List.set (List.set (List.set (List.set (List.set (List.set (e) j1 x1) j2 x2) j3 x3) j4 x4) j5 x5) j6 x6) j7 x7) j8 x8) j9 x9) j10 x10) j11 x11) j12 x12) g' fun e2 g2 => tb { D with nx := fun e' g' => ∃ y1 y2 y3 y4 y5 y6 y7 y8 y9 y10 y11 y12, e' = List.set (List.set (List.set (List.set (List.set (List.set (List.set (List.set (List.set (List.set (List.set (List.set (e) j1 y1) j2 y2) j3 y3) j4 y4) j5 y5) j6 y6) j7 y7) j8 y8) j9 y9) j10 y10) j11 y11) j12 y12 ∧ R (i + 1) y1 y2 y3 y4 y5 y6 y7 y8 y9 y10 y11 y12 g', ct := fun e' g' => ∃ y1 y2 y3 y4 y5 y6 y7 y8 y9 y10 y11 y12, e' = List.set (List.set (List.set (List.set (List.set (List.set (List.set (List.set (List.set (List.set (List.set (List.set (e) j1 y1) j2 y2) j3 y3) j4 y4) j5 y5) j6 y6) j7 y7) j8 y8) j9 y9) j10 y10) j11 y11) j12 y12 ∧ R (i + 1) y1 y2 y3 y4 y5 y6 y7 y8 y9 y10 y11 y12 g', bk := D.nx } e2 g2) (hd : ∀ x1 x2 x3 x4 x5 x6 x7 x8 x9 x10 x11 x12 g', R ds.length x1 x2 x3 x4 x5 x6 x7 x8 x9 x10 x11 x12 g' → D.nx (List.set (List.set (List.set (List.set (List.set (List.set (List.set (List.set (List.set (List.set (List.set (List.set (e) j1 x1) j2 x2) j3 x3) j4 x4) j5 x5) j6 x6) j7 x7) j8 x8) j9 x9) j10 x10) j11 x11) j12 x12) g') :
    ∃ Iv : Nat → EV → GS → Prop, Iv 0 e g1 ∧ (∀ i e' g', i ≤ ds.length → Iv i e' g' → keep g') ∧ (∀ i d e' g', ds[i]? = some d → Iv i e' g' → tg d e' g' fun e2 g2 => tb { D with nx := Iv (i + 1), ct := Iv (i + 1), bk := D.nx } e2 g2) ∧ ∀ e' g', Iv ds.length e' g' → D.nx e' g' :=
  ⟨fun i e' g' => ∃ x1 x2 x3 x4 x5 x6 x7 x8 x9 x10 x11 x12, e' = List.set (List.set (List.set (List.set (List.set (List.set (List.set (List.set (List.set (List.set (List.set (List.set (e) j1 x1) j2 x2) j3 x3) j4 x4) j5 x5) j6 x6) j7 x7) j8 x8) j9 x9) j10 x10) j11 x11) j12 x12 ∧ R i x1 x2 x3 x4 x5 x6 x7 x8 x9 x10 x11 x12 g', h0, fun i e' g' hi ⟨x1, x2, x3, x4, x5, x6, x7, x8, x9, x10, x11, x12, _, h⟩ => hk i x1 x2 x3 x4 x5 x6 x7 x8 x9 x10 x11 x12 g' hi h, fun i d e' g' hd ⟨x1, x2, x3, x4, x5, x6, x7, x8, x9, x10, x11, x12, he, h⟩ => by subst he; exact hs i d x1 x2 x3 x4 x5 x6 x7 x8 x9 x10 x11 x12 g' hd h, fun e' g' ⟨x1, x2, x3, x4, x5, x6, x7, x8, x9, x10, x11, x12, he, h⟩ => by subst he; exact hd x1 x2 x3 x4 x5 x6 x7 x8 x9 x10 x11 x12 g' h⟩
theorem for13 (j1 j2 j3 j4 j5 j6 j7 j8 j9 j10 j11 j12 j13 : Nat) (R : Nat → Option DL.D → Option DL.D → Option DL.D → Option DL.D → Option DL.D → Option DL.D → Option DL.D → Option DL.D → Option DL.D → Option DL.D → Option DL.D → Option DL.D → Option DL.D → GS → Prop) (h0 : ∃ x1 x2 x3 x4 x5 x6 x7 x8 x9 x10 x11 x12 x13, e = List.set (List.set (List.set (List.set (List.set (List.set (List.set (List.set (List.set (List.set (List.set (List.set (List.set (e) j1 x1) j2 x2) j3 x3) j4 x4) j5 x5) j6 x6) j7 x7) j8 x8) j9 x9) j10 x10) j11 x11) j12 x12) j13 x13 ∧ R 0 x1 x2 x3 x4 x5 x6 x7 x8 x9 x10 x11 x12 x13 g1) (hk : ∀ i x1 x2 x3 x4 x5 x6 x7 x8 x9 x10 x11 x12 x13 g', i ≤ ds.length → R i x1 x2 x3 x4 x5 x6 x7 x8 x9 x10 x11 x12 x13 g' → keep g')
    (hs : ∀ i d x1 x2 x3 x4 x5 x6 x7 x8 x9 x10 x11 x12 x13 g', ds[i]? = some d → R i x1 x2 x3 x4 x5 x6 x7 x8 x9 x10 x11 x12 x13 g' → tg d (List.set (List.set (List.set (List.set (List.set (List.set (List.set (List.set (List.set (List.set (List.set (List.set (List.set (e) j1 x1) j2 x2) j3 x3) j4 x4) j5 x5) j6 x6) j7 x7) j8 x8) j9 x9) j10 x10) j11 x11) j12 x12) j13 x13) g' fun e2 g2 => tb { D with nx := fun e' g' => ∃ y1 y2 y3 y4 y5 y6 y7 y8 y9 y10 y11 y12 y13, e' = List.set (List.set (List.set (List.set (List.set (List.set (List.set (List.set (List.set (List.set (List.set (List.set (List.set (e) j1 y1) j2 y2) j3 y3) j4 y4) j5 y5) j6 y6) j7 y7) j8 y8) j9 y9) j10 y10) j11 y11) j12 y12) j13 y13 ∧ R (i + 1) y1 y2 y3 y4 y5 y6 y7 y8 y9 y10 y11 y12 y13 g', ct := fun e' g' => ∃ y1 y2 y3 y4 y5 y6 y7 y8 y9 y10 y11 y12 y13, e' = List.set (List.set (List.set (List.set (List.set (List.set (List.set (List.set (List.set (List.set (List.set (List.set (List.set (e) j1 y1) j2 y2) j3 y3) j4 y4) j5 y5) j6 y6) j7 y7) j8 y8) j9 y9) j10 y10) j11 y11) j12 y12) j13 y13 ∧ R (i + 1) y1 y2 y3 y4 y5 y6 y7 y8 y9 y10 y11 y12 y13 g', bk := D.nx } e2 g2) (hd : ∀ x1 x2 x3 x4 x5 x6 x7 x8 x9 x10 x11 x12 x13 g', R ds.length x1 x2 x3 x4 x5 x6 x7 x8 x9 x10 x11 x12 x13 g' → D.nx (List.set (List.set (List.set (List.set (List.set (List.set (List.set (List.set (List.set (List.set (List.set (List.set (List.set (e) j1 x1) j2 x2) j3 x3) j4 x4) j5 x5) j6 x6) j7 x7) j8 x8) j9 x9) j10 x10) j11 x11) j12 x12) j13 x13) g') :
    ∃ Iv : Nat → EV → GS → Prop, Iv 0 e g1 ∧ (∀ i e' g', i ≤ ds.length → Iv i e' g' → keep g') ∧ (∀ i d e' g', ds[i]? = some d → Iv i e' g' → tg d e' g' fun e2 g2 => tb { D with nx := Iv (i + 1), ct := Iv (i + 1), bk := D.nx } e2 g2) ∧ ∀ e' g', Iv ds.length e' g' → D.nx e' g' :=
  ⟨fun i e' g' => ∃ x1 x2 x3 x4 x5 x6 x7 x8 x9 x10 x11 x12 x13, e' = List.set (List.set (List.set (List.set (List.set (List.set (List.set (List.set (List.set (List.set (List.set (List.set (List.set (e) j1 x1) j2 x2) j3 x3) j4 x4) j5 x5) j6 x6) j7 x7) j8 x8) j9 x9) j10 x10) j11 x11) j12 x12) j13 x13 ∧ R i x1 x2 x3 x4 x5 x6 x7 x8 x9 x10 x11 x12 x13 g', h0, fun i e' g' hi ⟨x1, x2, x3, x4, x5, x6, x7, x8, x9, x10, x11, x12, x13, _, h⟩ => hk i x1 x2 x3 x4 x5 x6 x7 x8 x9 x10 x11 x12 x13 g' hi h, fun i d e' g' hd ⟨x1, x2, x3, x4, x5, x6, x7, x8, x9, x10, x11, x12, x13, he, h⟩ => by subst he; exact hs i d x1 x2 x3 x4 x5 x6 x7 x8 x9 x10 x11 x12 x13 g' hd h, fun e' g' ⟨x1, x2, x3, x4, x5, x6, x7, x8, x9, x10, x11, x12, x13, he, h⟩ => by subst he; exact hd x1 x2 x3 x4 x5 x6 x7 x8 x9 x10 x11 x12 x13 g' h⟩
theorem for14 (j1 j2 j3 j4 j5 j6 j7 j8 j9 j10 j11 j12 j13 j14 : Nat) (R : Nat → Option DL.D → Option DL.D → Option DL.D → Option DL.D → Option DL.D → Option DL.D → Option DL.D → Option DL.D → Option DL.D → Option DL.D → Option DL.D → Option DL.D → Option DL.D → Option DL.D → GS → Prop) (h0 : ∃ x1 x2 x3 x4 x5 x6 x7 x8 x9 x10 x11 x12 x13 x14, e = List.set (List.set (List.set (List.set (List.set (List.set (List.set (List.set (List.set (List.set (List.set (List.set (List.set (List.set (e) j1 x1) j2 x2) j3 x3) j4 x4) j5 x5) j6 x6) j7 x7) j8 x8) j9 x9) j10 x10) j11 x11) j12 x12) j13 x13) j14 x14 ∧ R 0 x1 x2 x3 x4 x5 x6 x7 x8 x9 x10 x11 x12 x13 x14 g1) (hk : ∀ i x1 x2 x3 x4 x5 x6 x7 x8 x9 x10 x11 x12 x13 x14 g', i ≤ ds.length → R i x1 x2 x3 x4 x5 x6 x7 x8 x9 x10 x11 x12 x13 x14 g' → keep g')
    (hs : ∀ i d x1 x2 x3 x4 x5 x6 x7 x8 x9 x10 x11 x12 x13 x14 g', ds[i]? = some d → R i x1 x2 x3 x4 x5 x6 x7 x8 x9 x10 x11 x12 x13 x14 g' → tg d (List.set (List.set (List.set (List.set (List.set (List.set (List.set (List.set (List.set (List.set (List.set (List.set (List.set (List.set (e) j1 x1) j2 x2) j3 x3) j4 x4) j5 x5) j6 x6) j7 x7) j8 x8) j9 x9) j10 x10) j11 x11) j12 x12) j13 x13) j14 x14) g' fun e2 g2 => tb { D with nx := fun e' g' => ∃ y1 y2 y3 y4 y5 y6 y7 y8 y9 y10 y11 y12 y13 y14, e' = List.set (List.set (List.set (List.set (List.set (List.set (List.set (List.set (List.set (List.set (List.set (List.set (List.set (List.set (e) j1 y1) j2 y2) j3 y3) j4 y4) j5 y5) j6 y6) j7 y7) j8 y8) j9 y9) j10 y10) j11 y11) j12 y12) j13 y13) j14 y14 ∧ R (i + 1) y1 y2 y3 y4 y5 y6 y7 y8 y9 y10 y11 y12 y13 y14 g', ct := fun e' g' => ∃ y1 y2 y3 y4 y5 y6 y7 y8 y9 y10 y11 y12 y13 y14, e' = List.set (List.set (List.set (List.set (List.set (List.set (List.set (List.set (List.set (List.set (List.set (List.set (List.set (List.set (e) j1 y1) j2 y2) j3 y3) j4 y4) j5 y5) j6 y6) j7 y7) j8 y8) j9 y9) j10 y10) j11 y11) j12 y12) j13 y13) j14 y14 ∧ R (i + 1) y1 y2 y3 y4 y5 y6 y7 y8 y9 y10 y11 y12 y13 y14 g', bk := D.nx } e2 g2) (hd : ∀ x1 x2 x3 x4 x5 x6 x7 x8 x9 x10 x11 x12 x13 x14 g', R ds.length x1 x2 x3 x4 x5 x6 x7 x8 x9 x10 x11 x12 x13 x14 g' → D.nx (List.set (List.set (List.set (List.set (List.set (List.set (List.set (List.set (List.set (List.set (List.set (List.set (List.set (List.set (e) j1 x1) j2 x2) j3 x3) j4 x4) j5 x5) j6 x6) j7 x7) j8 x8) j9 x9) j10 x10) j11 x11) j12 x12) j13 x13) j14 x14) g') :
    ∃ Iv : Nat → EV → GS → Prop, Iv 0 e g1 ∧ (∀ i e' g', i ≤ ds.length → Iv i e' g' → keep g') ∧ (∀ i d e' g', ds[i]? = some d → Iv i e' g' → tg d e' g' fun e2 g2 => tb { D with nx := Iv (i + 1), ct := Iv (i + 1), bk := D.nx } e2 g2) ∧ ∀ e' g', Iv ds.length e' g' → D.nx e' g' :=
  ⟨fun i e' g' => ∃ x1 x2 x3 x4 x5 x6 x7 x8 x9 x10 x11 x12 x13 x14, e' = List.set (List.set (List.set (List.set (List.set (List.set (List.set (List.set (List.set (List.set (List.set (List.set (List.set (List.set (e) j1 x1) j2 x2) j3 x3) j4 x4) j5 x5) j6 x6) j7 x7) j8 x8) j9 x9) j10 x10) j11 x11) j12 x12) j13 x13) j14 x14 ∧ R i x1 x2 x3 x4 x5 x6 x7 x8 x9 x10 x11 x12 x13 x14 g', h0, fun i e' g' hi ⟨x1, x2, x3, x4, x5, x6, x7, x8, x9, x10, x11, x12, x13, x14, _, h⟩ => hk i x1 x2 x3 x4 x5 x6 x7 x8 x9 x10 x11 x12 x13 x14 g' hi h, fun i d e' g' hd ⟨x1, x2, x3, x4, x5, x6, x7, x8, x9, x10, x11, x12, x13, x14, he, h⟩ => by subst he; exact hs i d x1 x2 x3 x4 x5 x6 x7 x8 x9 x10 x11 x12 x13 x14 g' hd h, fun e' g' ⟨x1, x2, x3, x4, x5, x6, x7, x8, x9, x10, x11, x12, x13, x14, he, h⟩ => by subst he; exact hd x1 x2 x3 x4 x5 x6 x7 x8 x9 x10 x11 x12 x13 x14 g' h⟩
end
section
variable {c : DTT} {tb : DTS} {D : DEnds} {e : EV} {g : GS}
theorem whl1 (j1 : Nat) (R : Nat → Option DL.D → GS → Prop) (m : Nat) (h0 : ∃ x1, e = List.set (e) j1 x1 ∧ R m x1 g)
    (hs : ∀ m x1 g', R m x1 g' → c (List.set (e) j1 x1) g' fun b g1 => if b = true then ∃ N : EV → GS → Prop, (∀ e' g', N e' g' → ∃ m', m' < m ∧ (∃ y1, e' = List.set (e) j1 y1 ∧ R m' y1 g')) ∧ tb { D with nx := N, ct := N, bk := D.nx } (List.set (e) j1 x1) g1 else D.nx (List.set (e) j1 x1) g1) : dWhile c tb D e g := by
  refine s_while (fun m e' g' => ∃ x1, e' = List.set (e) j1 x1 ∧ R m x1 g') m h0 ?_
  rintro m e' g' ⟨x1, rfl, h⟩
  exact hs m x1 g' h
theorem whl2 (j1 j2 : Nat) (R : Nat → Option DL.D → Option DL.D → GS → Prop) (m : Nat) (h0 : ∃ x1 x2, e = List.set (List.set (e) j1 x1) j2 x2 ∧ R m x1 x2 g)
    (hs : ∀ m x1 x2 g', R m x1 x2 g' → c (List.set (List.set (e) j1 x1) j2 x2) g' fun b g1 => if b = true then ∃ N : EV → GS → Prop, (∀ e' g', N e' g' → ∃ m', m' < m ∧ (∃ y1 y2, e' = List.set (List.set (e) j1 y1) j2 y2 ∧ R m' y1 y2 g')) ∧ tb { D with nx := N, ct := N, bk := D.nx } (List.set (List.set (e) j1 x1) j2 x2) g1 else D.nx (List.set (List.set (e) j1 x1) j2 x2) g1) : dWhile c tb D e g := by
  refine s_while (fun m e' g' => ∃ x1 x2, e' = List.set (List.set (e) j1 x1) j2 x2 ∧ R m x1 x2 g') m h0 ?_
  rintro m e' g' ⟨x1, x2, rfl, h⟩
  exact hs m x1 x2 g' h
theorem whl3 (j1 j2 j3 : Nat) (R : Nat → Option DL.D → Option DL.D → Option DL.D → GS → Prop) (m : Nat) (h0 : ∃ x1 x2 x3, e = List.set (List.set (List.set (e) j1 x1) j2 x2) j3 x3 ∧ R m x1 x2 x3 g)
    (hs : ∀ m x1 x2 x3 g', R m x1 x2 x3 g' → c (List.set (List.set (List.set (e) j1 x1) j2 x2) j3 x3) g' fun b g1 => if b = true then ∃ N : EV → GS → Prop, (∀ e' g', N e' g' → ∃ m', m' < m ∧ (∃ y1 y2 y3, e' = List.set (List.set (List.set (e) j1 y1) j2 y2) j3 y3 ∧ R m' y1 y2 y3 g')) ∧ tb { D with nx := N, ct := N, bk := D.nx } (List.set (List.set (List.set (e) j1 x1) j2 x2) j3 x3) g1 else D.nx (List.set (List.set (List.set (e) j1 x1) j2 x2) j3 x3) g1) : dWhile c tb D e g := by
  refine s_while (fun m e' g' => ∃ x1 x2 x3, e' = List.set (List.set (List.set (e) j1 x1) j2 x2) j3 x3 ∧ R m x1 x2 x3 g') m h0 ?_
  rintro m e' g' ⟨x1, x2, x3, rfl, h⟩
  exact hs m x1 x2 x3 g' h
theorem whl4 (j1 j2 j3 j4 : Nat) (R : Nat → Option DL.D → Option DL.D → Option DL.D → Option DL.D → GS → Prop) (m : Nat) (h0 : ∃ x1 x2 x3 x4, e = List.set (List.set (List.set (List.set (e) j1 x1) j2 x2) j3 x3) j4 x4 ∧ R m x1 x2 x3 x4 g)
    (hs : ∀ m x1 x2 x3 x4 g', R m x1 x2 x3 x4 g' → c (List.set (List.set (List.set (List.set (e) j1 x1) j2 x2) j3 x3) j4 x4) g' fun b g1 => if b = true then ∃ N : EV → GS → Prop, (∀ e' g', N e' g' → ∃ m', m' < m ∧ (∃ y1 y2 y3 y4, e' = List.set (List.set (List.set (List.set (e) j1 y1) j2 y2) j3 y3) j4 y4 ∧ R m' y1 y2 y3 y4 g')) ∧ tb { D with nx := N, ct := N, bk := D.nx } (List.set (List.set (List.set (List.set (e) j1 x1) j2 x2) j3 x3) j4 x4) g1 else D.nx (List.set (List.set (List.set (List.set (e) j1 x1) j2 x2) j3 x3) j4 x4) g1) : dWhile c tb D e g := by
  refine s_while (fun m e' g' => ∃ x1 x2 x3 x4, e' = List.set (List.set (List.set (List.set (e) j1 x1) j2 x2) j3 x3) j4 x4 ∧ R m x1 x2 x3 x4 g') m h0 ?_
  rintro m e' g' ⟨x1, x2, x3, x4, rfl, h⟩
  exact hs m x1 x2 x3 x4 g' h
theorem whl5 (j1 j2 j3 j4 j5 : Nat) (R : Nat → Option DL.D → Option DL.D → Option DL.D → Option DL.D → Option DL.D → GS → Prop) (m : Nat) (h0 : ∃ x1 x2 x3 x4 x5, e = List.set (List.set (List.set (List.set (List.set (e) j1 x1) j2 x2) j3 x3) j4 x4) j5 x5 ∧ R m x1 x2 x3 x4 x5 g)
    (hs : ∀ m x1 x2 x3 x4 x5 g', R m x1 x2 x3 x4 x5 g' → c (List.set (List.set (List.set (List.set (List.set (e) j1 x1) j2 x2) j3 x3) j4 x4) j5 x5) g' fun b g1 => if b = true then ∃ N : EV → GS → Prop, (∀ e' g', N e' g' → ∃ m', m' < m ∧ (∃ y1 y2 y3 y4 y5, e' = List.set (List.set (List.set (List.set (List.set (e) j1 y1) j2 y2) j3 y3) j4 y4) j5 y5 ∧ R m' y1 y2 y3 y4 y5 g')) ∧ tb { D with nx := N, ct := N, bk := D.nx } (List.set (List.set (List.set (List.set (List.set (e) j1 x1) j2 x2) j3 x3) j4 x4) j5 x5) g1 else D.nx (List.set (List.set (List.set (List.set (List.set (e) j1 x1) j2 x2) j3 x3) j4 x4) j5 x5) g1) : dWhile c tb D e g := by
  refine s_while (fun m e' g' => ∃ x1 x2 x3 x4 x5, e' = List.set (List.set (List.set (List.set (List.set (e) j1 x1) j2 x2) j3 x3) j4 x4) j5 x5 ∧ R m x1 x2 x3 x4 x5 g') m h0 ?_
  rintro m e' g' ⟨x1, x2, x3, x4, x5, rfl, h⟩
  exact hs m x1 x2 x3 x4 x5 g' h
theorem whl6 (j1 j2 j3 j4 j5 j6 : Nat) (R : Nat → Option DL.D → Option DL.D → Option DL.D → Option DL.D → Option DL.D → Option DL.D → GS → Prop) (m : Nat) (h0 : ∃ x1 x2 x3 x4 x5 x6, e = List.set (List.set (List.set (List.set (List.set (List.set (e) j1 x1) j2 x2) j3 x3) j4 x4) j5 x5) j6 x6 ∧ R m x1 x2 x3 x4 x5 x6 g)
    (hs : ∀ m x1 x2 x3 x4 x5 x6 g', R m x1 x2 x3 x4 x5 x6 g' → c (List.set (List.set (List.set (List.set (List.set (List.set (e) j1 x1) j2 x2) j3 x3) j4 x4) j5 x5) j6 x6) g' fun b g1 => if b = true then ∃ N : EV → GS → Prop, (∀ e' g', N e' g' → ∃ m', m' < m ∧ (∃ y1 y2 y3 y4 y5 y6, e' = List.set (List.set (List.set (List.set (List.set (List.set (e) j1 y1) j2 y2) j3 y3) j4 y4) j5 y5) j6 y6 ∧ R m' y1 y2 y3 y4 y5 y6 g')) ∧ tb { D with nx := N, ct := N, bk := D.nx } (List.set (List.set (List.set (List.set (List.set (List.set (e) j1 x1) j2 x2) j3 x3) j4 x4) j5 x5) j6 x6) g1 else D.nx (List.set (List.set (List.set (List.set (List.set (List.set (e) j1 x1) j2 x2) j3 x3) j4 x4) j5 x5) j6 x6) g1) : dWhile c tb D e g := by
  refine s_while (fun m e' g' => ∃ x1 x2 x3 x4 x5 x6, e' = List.set (List.set (List.set (List.set (List.set (List.set (e) j1 x1) j2 x2) j3 x3) j4 x4) j5 x5) j6 x6 ∧ R m x1 x2 x3 x4 x5 x6 g') m h0 ?_
  rintro m e' g' ⟨x1, x2, x3, x4, x5, x6, rfl, h⟩
  exact hs m x1 x2 x3 x4 x5 x6 g' h
theorem whl7 (j1 j2 j3 j4 j5 j6 j7 : Nat) (R : Nat → Option DL.D → Option DL.D → Option DL.D → Option DL.D → Option DL.D → Option DL.D → Option DL.D → GS → Prop) (m : Nat) (h0 : ∃ x1 x2 x3 x4 x5 x6 x7, e = List.set (List.set (List.set (List.set (List.set (List.set (List.set (e) j1 x1) j2 x2) j3 x3) j4 x4) j5 x5) j6 x6) j7 x7 ∧ R m x1 x2 x3 x4 x5 x6 x7 g)
    (hs : ∀ m x1 x2 x3 x4 x5 x6 x7 g', R m x1 x2 x3 x4 x5 x6 x7 g' → c (List.set (List.set (List.set (List.set (List.set (List.set (List.set (e) j1 x1) j2 x2) j3 x3) j4 x4) j5 x5) j6 x6) j7 x7) g' fun b g1 => if b = true then ∃ N : EV → GS → Prop, (∀ e' g', N e' g' → ∃ m', m' < m ∧ (∃ y1 y2 y3 y4 y5 y6 y7, e' = List.set (List.set (List.set (List.set (List.set (List.set (List.set (e) j1 y1) j2 y2) j3 y3) j4 y4) j5 y5) j6 y6) j7 y7 ∧ R m' y1 y2 y3 y4 y5 y6 y7 g')) ∧ tb { D with nx := N, ct := N, bk := D.nx } (List.set (List.set (List.set (List.set (List.set (List.set (List.set (e) j1 x1) j2 x2) j3 x3) j4 x4) j5 x5) j6 x6) j7 x7) g1 else D.nx (List.set (List.set (List.set (List.set (List.set (List.set (List.set (e) j1 x1) j2 x2) j3 x3) j4 x4) j5 x5) j6 x6) j7 x7) g1) : dWhile c tb D e g := by
  refine s_while (fun m e' g' => ∃ x1 x2 x3 x4 x5 x6 x7, e' = List.set (List.set (List.set (List.set (List.set (List.set (List.set (e) j1 x1) j2 x2) j3 x3) j4 x4) j5 x5) j6 x6) j7 x7 ∧ R m x1 x2 x3 x4 x5 x6 x7 g') m h0 ?_
  rintro m e' g' ⟨x1, x2, x3, x4, x5, x6, x7, rfl, h⟩
  exact hs m x1 x2 x3 x4 x5 x6 x7 g' h
theorem whl8 (j1 j2 j3 j4 j5 j6 j7 j8 : Nat) (R : Nat → Option DL.D → Option DL.D → Option DL.D → Option DL.D → Option DL.D → Option DL.D → Option DL.D → Option DL.D → GS → Prop) (m : Nat) (h0 : ∃ x1 x2 x3 x4 x5 x6 x7 x8, e = List.set (List.set (List.set (List.set (List.set (List.set (List.set (List.set (e) j1 x1) j2 x2) j3 x3) j4 x4) j5 x5) j6 x6) j7 x7) j8 x8 ∧ R m x1 x2 x3 x4 x5 x6 x7 x8 g)
    (hs : ∀ m x1 x2 x3 x4 x5 x6 x7 x8 g', R m x1 x2 x3 x4 x5 x6 x7 x8 g' → c (List.set (List.set (List.set (List.set (List.set (List.set (List.set (List.set (e) j1 x1) j2 x2) j3 x3) j4 x4) j5 x5) j6 x6) j7 x7) j8 x8) g' fun b g1 => if b = true then ∃ N : EV → GS → Prop, (∀ e' g', N e' g' → ∃ m', m' < m ∧ (∃ y1 y2 y3 y4 y5 y6 y7 y8, e' = List.set (List.set (List.set (List.set (List.set (List.set (List.set (List.set (e) j1 y1) j2 y2) j3 y3) j4 y4) j5 y5) j6 y6) j7 y7) j8 y8 ∧ R m' y1 y2 y3 y4 y5 y6 y7 y8 g')) ∧ tb { D with nx := N, ct := N, bk := D.nx } (List.set (List.set (List.set (List.set (List.set (List.set (List.set (List.set (e) j1 x1) j2 x2) j3 x3) j4 x4) j5 x5) j6 x6) j7 x7) j8 x8) g1 else D.nx (List.set (List.set (List.set (List.set (List.set (List.set (List.set (List.set (e) j1 x1) j2 x2) j3 x3) j4 x4) j5 x5) j6 x6) j7 x7) j8 x8) g1) : dWhile c tb D e g := by
  refine s_while (fun m e' g' => ∃ x1 x2 x3 x4 x5 x6 x7 x8, e' = List.set (List.set (List.set (List.set (List.set (List.set (List.set (List.set (e) j1 x1) j2 x2) j3 x3) j4 x4) j5 x5) j6 x6) j7 x7) j8 x8 ∧ R m x1 x2 x3 x4 x5 x6 x7 x8 g') m h0 ?_
  rintro m e' g' ⟨x1, x2, x3, x4, x5, x6, x7, x8, rfl, h⟩
  exact hs m x1 x2 x3 x4 x5 x6 x7 x8 g' h
theorem whl9 (j1 j2 j3 j4 j5 j6 j7 j8 j9 : Nat) (R : Nat → Option DL.D → Option DL.D → Option DL.D → Option DL.D → Option DL.D → Option DL.D → Option DL.D → Option DL.D → Option DL.D → GS → Prop) (m : Nat) (h0 : ∃ x1 x2 x3 x4 x5 x6 x7 x8 x9, e = List.set (List.set (List.set (List.set (List.set (List.set (List.set (List.set (List.set (e) j1 x1) j2 x2) j3 x3) j4 x4) j5 x5) j6 x6) j7 x7) j8 x8) j9 x9 ∧ R m x1 x2 x3 x4 x5 x6 x7 x8 x9 g)
    (hs : ∀ m x1 x2 x3 x4 x5 x6 x7 x8 x9 g', R m x1 x2 x3 x4 x5 x6 x7 x8 x9 g' → c (List.set (List.set (List.set (List.set (List.set (List.set (List.set (List.set (List.set (e) j1 x1) j2 x2) j3 x3) j4 x4) j5 x5) j6 x6) j7 x7) j8 x8) j9 x9) g' fun b g1 => if b = true then ∃ N : EV → GS → Prop, (∀ e' g', N e' g' → ∃ m', m' < m ∧ (∃ y1 y2 y3 y4 y5 y6 y7 y8 y9, e' = List.set (List.set (List.set (List.set (List.set (List.set (List.set (List.set (List.set (e) j1 y1) j2 y2) j3 y3) j4 y4) j5 y5) j6 y6) j7 y7) j8 y8) j9 y9 ∧ R m' y1 y2 y3 y4 y5 y6 y7 y8 y9 g')) ∧ tb { D with nx := N, ct := N, bk := D.nx } (List.set (List.set (List.set (List.set (List.set (List.set (List.set (List.set (List.set (e) j1 x1) j2 x2) j3 x3) j4 x4) j5 x5) j6 x6) j7 x7) j8 x8) j9 x9) g1 else D.nx (List.set (List.set (List.set (List.set (List.set (List.set (List.set (List.set (List.set (e) j1 x1) j2 x2) j3 x3) j4 x4) j5 x5) j6 x6) j7 x7) j8 x8) j9 x9) g1) : dWhile c tb D e g := by
  refine s_while (fun m e' g' => ∃ x1 x2 x3 x4 x5 x6 x7 x8 x9, e' = List.set (List.set (List.set (List.set (List.set (List.set (List.set (List.set (List.set (e) j1 x1) j2 x2) j3 x3) j4 x4) j5 x5) j6 x6) j7 x7) j8 x8) j9 x9 ∧ R m x1 x2 x3 x4 x5 x6 x7 x8 x9 g') m h0 ?_
  rintro m e' g' ⟨x1, x2, x3, x4, x5, x6, x7, x8, x9, rfl, h⟩
  exact hs m x1 x2 x3 x4 x5 x6 x7 x8 x9 g' h
theorem whl10 (j1 j2 j3 j4 j5 j6 j7 j8 j9 j10 : Nat) (R : Nat → Option DL.D → Option DL.D → Option DL.D → Option DL.D → Option DL.D → Option DL.D → Option DL.D → Option DL.D → Option DL.D → Option DL.D → GS → Prop) (m : Nat) (h0 : ∃ x1 x2 x3 x4 x5 x6 x7 x8 x9 x10, e = List.set (List.set (List.set (List.set (List.set (List.set (List.set (List.set (List.set (List.set (e) j1 x1) j2 x2) j3 x3) j4 x4) j5 x5) j6 x6) j7 x7) j8 x8) j9 x9) j10 x10 ∧ R m x1 x2 x3 x4 x5 x6 x7 x8 x9 x10 g)
    (hs : ∀ m x1 x2 x3 x4 x5 x6 x7 x8 x9 x10 g', R m x1 x2 x3 x4 x5 x6 x7 x8 x9 x10 g' → c (List.set (List.set (List.set (List.set (List.set (List.set (List.set (List.set (List.set (List.set (e) j1 x1) j2 x2) j3 x3) j4 x4) j5 x5) j6 x6) j7 x7) j8 x8) j9 x9) j10 x10) g' fun b g1 => if b = true then ∃ N : EV → GS → Prop, (∀ e' g', N e' g' → ∃ m', m' < m ∧ (∃ y1 y2 y3 y4 y5 y6 y7 y8 y9 y10, e' = List.set (List.set (List.set (List.set (List.set (List.set (List.set (List.set (List.set (List.set (e) j1 y1) j2 y2) j3 y3) j4 y4) j5 y5) j6 y6) j7 y7) j8 y8) j9 y9) j10 y10 ∧ R m' y1 y2 y3 y4 y5 y6 y7 y8 y9 y10 g')) ∧ tb { D with nx := N, ct := N, bk := D.nx } (List.set (List.set (List.set (List.set (List.set (List.set (List.set (List.set (List.set (List.set (e) j1 x1) j2 x2) j3 x3) j4 x4) j5 x5) j6 x6) j7 x7) j8 x8) j9 x9) j10 x10) g1 else D.nx (List.set (List.set (List.set (List.set (List.set (List.set (List.set (List.set (List.set (List.set (e) j1 x1) j2 x2) j3 x3) j4 x4) j5 x5) j6 x6) j7 x7) j8 x8) j9 x9) j10 x10) g1) : dWhile c tb D e g := by
  refine s_while (fun m e' g' => ∃ x1 x2 x3 x4 x5 x6 x7 x8 x9 x10, e' = List.set (List.set (List.set (List.set (List.set (List.set (List.set (List.set (List.set (List.set (e) j1 x1) j2 x2) j3 x3) j4 x4) j5 x5) j6 x6) j7 x7) j8 x8) j9 x9) j10 x10 ∧ R m x1 x2 x3 x4 x5 x6 x7 x8 x9 x10 g') m h0 ?_
  rintro m e' g' ⟨x1, x2, x3, x4, x5, x6, x7, x8, x9, x10, rfl, h⟩
  exact hs m x1 x2 x3 x4 x5 x6 x7 x8 x9 x10 g' h
theorem whl11 (j1 j2 j3 j4 j5 j6 j7 j8 j9 j10 j11 : Nat) (R : Nat → Option DL.D → Option DL.D → Option DL.D → Option DL.D → Option DL.D → Option DL.D → Option DL.D → Option DL.D → Option DL.D → Option DL.D → Option DL.D → GS → Prop) (m : Nat) (h0 : ∃ x1 x2 x3 x4 x5 x6 x7 x8 x9 x10 x11, e = List.set (List.set (List.set (List.set (List.set (List.set (List.set (List.set (List.set (List.set (List.set (e) j1 x1) j2 x2) j3 x3) j4 x4) j5 x5) j6 x6) j7 x7) j8 x8) j9 x9) j10 x10) j11 x11 ∧ R m x1 x2 x3 x4 x5 x6 x7 x8 x9 x10 x11 g)
    (hs : ∀ m x1 x2 x3 x4 x5 x6 x7 x8 x9 x10 x11 g', R m x1 x2 x3 x4 x5 x6 x7 x8 x9 x10 x11 g' → c (List.set (List.set (List.set (List.set (List.set (List.set (List.set (List.set (List.set (List.set (List.set (e) j1 x1) j2 x2) j3 x3) j4 x4) j5 x5) j6 x6) j7 x7) j8 x8) j9 x9) j10 x10) j11 x11) g' fun b g1 => if b = true then ∃ N : EV → GS → Prop, (∀ e' g', N e' g' → ∃ m', m' < m ∧ (∃ y1 y2 y3 y4 y5 y6 y7 y8 y9 y10 y11, e' = List.set (List.set (List.set (List.set (List.set (List.set (List.set (List.set (List.set (List.set (List.set (e) j1 y1) j2 y2) j3 y3) j4 y4) j5 y5) j6 y6) j7 y7) j8 y8) j9 y9) j10 y10) j11 y11 ∧ R m' y1 y2 y3 y4 y5 y6 y7 y8 y9 y10 y11 g')) ∧ tb { D with nx := N, ct := N, bk := D.nx } (List.set (List.set (List.set (List.set (List.set (List.set (List.set (List.set (List.set (List.set (List.set (e) j1 x1) j2 x2) j3 x3) j4 x4) j5 x5) j6 x6) j7 x7) j8 x8) j9 x9) j10 x10) j11 x11) g1 else D.nx (List.set (List.set (List.set (List.set (List.set (List.set (List.set (List.set (List.set (List.set (List.set (e) j1 x1) j2 x2) j3 x3) j4 x4) j5 x5) j6 x6) j7 x7) j8 x8) j9 x9) j10 x10) j11 x11) g1) : dWhile c tb D e g := by
  refine s_while (fun m e' g' => ∃ x1 x2 x3 x4 x5 x6 x7 x8 x9 x10 x11, e' = List.set (List.set (List.set (List.set (List.set (List.set (List.set (List.set (List.set (List.set (List.set (e) j1 x1) j2 x2) j3 x3) j4 x4) j5 x5) j6 x6) j7 x7) j8 x8) j9 x9) j10 x10) j11 x11 ∧ R m x1 x2 x3 x4 x5 x6 x7 x8 x9 x10 x11 g') m h0 ?_
  rintro m e' g' ⟨x1, x2, x3, x4, x5, x6, x7, x8, x9, x10, x11, rfl, h⟩
  exact hs m x1 x2 x3 x4 x5 x6 x7 x8 x9 x10 x11 g' h
theorem whl12 (j1 j2 j3 j4 j5 j6 j7 j8 j9 j10 j11 j12 : Nat) (R : Nat → Option DL.D → Option DL.D → Option DL.D → Option DL.D → Option DL.D → Option DL.D → Option DL.D → Option DL.D → Option DL.D → Option DL.D → Option DL.D → Option DL.D → GS → Prop) (m : Nat) (h0 : ∃ x1 x2 x3 x4 x5 x6 x7 x8 x9 x10 x11 x12, e = List.set (List.set (List.set (List.set (List.set (List.set (List.set (List.set (List.set (List.set (List.set (List.set (e) j1 x1) j2 x2) j3 x3) j4 x4) j5 x5) j6 x6) j7 x7) j8 x8) j9 x9) j10 x10) j11 x11) j12 x12 ∧ R m x1 x2 x3 x4 x5 x6 x7 x8 x9 x10 x11 x12 g)
    (hs : ∀ m x1 x2 x3 x4 x5 x6 x7 x8 x9 x10 x11 x12 g', R m x1 x2 x3 x4 x5 x6 x7 x8 x9 x10 x11 x12 g' → c (List.set (List.set (List.set (List.set (List.set (List.set (List.set (List.set (List.set (List.set (List.set (List.set (e) j1 x1) j2 x2) j3 x3) j4 x4) j5 x5) j6 x6) j7 x7) j8 x8) j9 x9) j10 x10) j11 x11) j12 x12) g' fun b g1 => if b = true then ∃ N : EV → GS → Prop, (∀ e' g', N e' g' → ∃ m', m' < m ∧ (∃ y1 y2 y3 y4 y5 y6 y7 y8 y9 y10 y11 y12, e' = List.set (List.set (List.set (List.set (List.set (List.set (List.set (List.set (List.set (List.set (List.set (List.set (e) j1 y1) j2 y2) j3 y3) j4 y4) j5 y5) j6 y6) j7 y7) j8 y8) j9 y9) j10 y10) j11 y11) j12 y12 ∧ R m' y1 y2 y3 y4 y5 y6 y7 y8 y9 y10 y11 y12 g')) ∧ tb { D with nx := N, ct := N, bk := D.nx } (List.set (List.set (List.set (List.set (List.set (List.set (List.set (List.set (List.set (List.set (List.set (List.set (e) j1 x1) j2 x2) j3 x3) j4 x4) j5 x5) j6 x6) j7 x7) j8 x8) j9 x9) j10 x10) j11 x11) j12 x12) g1 else D.nx (List.set (List.set (List.set (List.set (List.set (List.set (List.set (List.set (List.set (List.set (List.set (List.set (e) j1 x1) j2 x2) j3 x3) j4 x4) j5 x5) j6 x6) j7 x7) j8 x8) j9 x9) j10 x10) j11 x11) j12 x12) g1) : dWhile c tb D e g := by
  refine s_while (fun m e' g' => ∃ x1 x2 x3 x4 x5 x6 x7 x8 x9 x10 x11 x12, e' = List.set (List.set (List.set (List.set (List.set (List.set (List.set (List.set (List.set (List.set (List.set (List.set (e) j1 x1) j2 x2) j3 x3) j4 x4) j5 x5) j6 x6) j7 x7) j8 x8) j9 x9) j10 x10) j11 x11) j12 x12 ∧ R m x1 x2 x3 x4 x5 x6 x7 x8 x9 x10 x11 x12 g') m h0 ?_
  rintro m e' g' ⟨x1, x2, x3, x4, x5, x6, x7, x8, x9, x10, x11, x12, rfl, h⟩
  exact hs m x1 x2 x3 x4 x5 x6 x7 x8 x9 x10 x11 x12 g' h
theorem whl13 (j1 j2 j3 j4 j5 j6 j7 j8 j9 j10 j11 j12 j13 : Nat) (R : Nat → Option DL.D → Option DL.D → Option DL.D → Option DL.D → Option DL.D → Option DL.D → Option DL.D → Option DL.D → Option DL.D → Option DL.D → Option DL.D → Option DL.D → Option DL.D → GS → Prop) (m : Nat) (h0 : ∃ x1 x2 x3 x4 x5 x6 x7 x8 x9 x10 x11 x12 x13, e = List.set (List.set (List.set (List.set (List.set (List.set (List.set (List.set (List.set (List.set (List.set (List.set (List.set (e) j1 x1) j2 x2) j3 x3) j4 x4) j5 x5) j6 x6) j7 x7) j8 x8) j9 x9) j10 x10) j11 x11) j12 x12) j13 x13 ∧ R m x1 x2 x3 x4 x5 x6 x7 x8 x9 x10 x11 x12 x13 g)
    (hs : ∀ m x1 x2 x3 x4 x5 x6 x7 x8 x9 x10 x11 x12 x13 g', R m x1 x2 x3 x4 x5 x6 x7 x8 x9 x10 x11 x12 x13 g' → c (List.set (List.set (List.set (List.set (List.set (List.set (List.set (List.set (List.set (List.set (List.set (List.set (List.set (e) j1 x1) j2 x2) j3 x3) j4 x4) j5 x5) j6 x6) j7 x7) j8 x8) j9 x9) j10 x10) j11 x11) j12 x12) j13 x13) g' fun b g1 => if b = true then ∃ N : EV → GS → Prop, (∀ e' g', N e' g' → ∃ m', m' < m ∧ (∃ y1 y2 y3 y4 y5 y6 y7 y8 y9 y10 y11 y12 y13, e' = List.set (List.set (List.set (List.set (List.set (List.set (List.set (List.set (List.set (List.set (List.set (List.set (List.set (e) j1 y1) j2 y2) j3 y3) j4 y4) j5 y5) j6 y6) j7 y7) j8 y8) j9 y9) j10 y10) j11 y11) j12 y12) j13 y13 ∧ R m' y1 y2 y3 y4 y5 y6 y7 y8 y9 y10 y11 y12 y13 g')) ∧ tb { D with nx := N, ct := N, bk := D.nx } (List.set (List.set (List.set (List.set (List.set (List.set (List.set (List.set (List.set (List.set (List.set (List.set (List.set (e) j1 x1) j2 x2) j3 x3) j4 x4) j5 x5) j6 x6) j7 x7) j8 x8) j9 x9) j10 x10) j11 x11) j12 x12) j13 x13) g1 else D.nx (List.set (List.set (List.set (List.set (List.set (List.set (List.set (List.set (List.set (List.set (List.set (List.set (List.set (e) j1 x1) j2 x2) j3 x3) j4 x4) j5 x5) j6 x6) j7 x7) j8 x8) j9 x9) j10 x10) j11 x11) j12 x12) j13 x13) g1) : dWhile c tb D e g := by
  refine s_while (fun m e' g' => ∃ x1 x2 x3 x4 x5 x6 x7 x8 x9 x10 x11 x12 x13, e' = List.set (List.set (List.set (List.set (List.set (List.set (List.set (List.set (List.set (List.set (List.set (List.set (List.set (e) j1 x1) j2 x2) j3 x3) j4 x4) j5 x5) j6 x6) j7 x7) j8 x8) j9 x9) j10 x10) j11 x11) j12 x12) j13 x13 ∧ R m x1 x2 x3 x4 x5 x6 x7 x8 x9 x10 x11 x12 x13 g') m h0 ?_
  rintro m e' g' ⟨x1, x2, x3, x4, x5, x6, x7, x8, x9, x10, x11, x12, x13, rfl, h⟩
  exact hs m x1 x2 x3 x4 x5 x6 x7 x8 x9 x10 x11 x12 x13 g' h
theorem whl14 (j1 j2 j3 j4 j5 j6 j7 j8 j9 j10 j11 j12 j13 j14 : Nat) (R : Nat → Option DL.D → Option DL.D → Option DL.D → Option DL.D → Option DL.D → Option DL.D → Option DL.D → Option DL.D → Option DL.D → Option DL.D → Option DL.D → Option DL.D → Option DL.D → Option DL.D → GS → Prop) (m : Nat) (h0 : ∃ x1 x2 x3 x4 x5 x6 x7 x8 x9 x10 x11 x12 x13 x14, e = List.set (List.set (List.set (List.set (List.set (List.set (List.set (List.set (List.set (List.set (List.set (List.set (List.set (List.set (e) j1 x1) j2 x2) j3 x3) j4 x4) j5 x5) j6 x6) j7 x7) j8 x8) j9 x9) j10 x10) j11 x11) j12 x12) j13 x13) j14 x14 ∧ R m x1 x2 x3 x4 x5 x6 x7 x8 x9 x10 x11 x12 x13 x14 g)
    (hs : ∀ m x1 x2 x3 x4 x5 x6 x7 x8 x9 x10 x11 x12 x13 x14 g', R m x1 x2 x3 x4 x5 x6 x7 x8 x9 x10 x11 x12 x13 x14 g' → c (List.set (List.set (List.set (List.set (List.set (List.set (List.set (List.set (List.set (List.set (List.set (List.set (List.set (List.set (e) j1 x1) j2 x2) j3 x3) j4 x4) j5 x5) j6 x6) j7 x7) j8 x8) j9 x9) j10 x10) j11 x11) j12 x12) j13 x13) j14 x14) g' fun b g1 => if b = true then ∃ N : EV → GS → Prop, (∀ e' g', N e' g' → ∃ m', m' < m ∧ (∃ y1 y2 y3 y4 y5 y6 y7 y8 y9 y10 y11 y12 y13 y14, e' = List.set (List.set (List.set (List.set (List.set (List.set (List.set (List.set (List.set (List.set (List.set (List.set (List.set (List.set (e) j1 y1) j2 y2) j3 y3) j4 y4) j5 y5) j6 y6) j7 y7) j8 y8) j9 y9) j10 y10) j11 y11) j12 y12) j13 y13) j14 y14 ∧ R m' y1 y2 y3 y4 y5 y6 y7 y8 y9 y10 y11 y12 y13 y14 g')) ∧ tb { D with nx := N, ct := N, bk := D.nx } (List.set (List.set (List.set (List.set (List.set (List.set (List.set (List.set (List.set (List.set (List.set (List.set (List.set (List.set (e) j1 x1) j2 x2) j3 x3) j4 x4) j5 x5) j6 x6) j7 x7) j8 x8) j9 x9) j10 x10) j11 x11) j12 x12) j13 x13) j14 x14) g1 else D.nx (List.set (List.set (List.set (List.set (List.set (List.set (List.set (List.set (List.set (List.set (List.set (List.set (List.set (List.set (e) j1 x1) j2 x2) j3 x3) j4 x4) j5 x5) j6 x6) j7 x7) j8 x8) j9 x9) j10 x10) j11 x11) j12 x12) j13 x13) j14 x14) g1) : dWhile c tb D e g := by
  refine s_while (fun m e' g' => ∃ x1 x2 x3 x4 x5 x6 x7 x8 x9 x10 x11 x12 x13 x14, e' = List.set (List.set (List.set (List.set (List.set (List.set (List.set (List.set (List.set (List.set (List.set (List.set (List.set (List.set (e) j1 x1) j2 x2) j3 x3) j4 x4) j5 x5) j6 x6) j7 x7) j8 x8) j9 x9) j10 x10) j11 x11) j12 x12) j13 x13) j14 x14 ∧ R m x1 x2 x3 x4 x5 x6 x7 x8 x9 x10 x11 x12 x13 x14 g') m h0 ?_
  rintro m e' g' ⟨x1, x2, x3, x4, x5, x6, x7, x8, x9, x10, x11, x12, x13, x14, rfl, h⟩
  exact hs m x1 x2 x3 x4 x5 x6 x7 x8 x9 x10 x11 x12 x13 x14 g' h
theorem wh_in {P : EV → GS → Prop} (h : tb { D with nx := P, ct := P, bk := D.nx } e g) : ∃ N : EV → GS → Prop, (∀ e' g', N e' g' → P e' g') ∧ tb { D with nx := N, ct := N, bk := D.nx } e g := ⟨P, fun _ _ h => h, h⟩
end
end DL

namespace DL
open PySem PySem.Spec PyProof.Rows L2
open TL (tl)
/-! ### dictionaries whose keys are tuples -/
abbrev kT (k : List Key) : D := .tup (k.map kD)
section
variable {X : Cx} {K : PySem.W.Frag} {H H' : Hp} {σ : L2.St}
variable {a b c e tg iter elt o i value f : Expr} {es rest : List Expr} {ta tb tc te td ty tv tx : DTE} {tA tB : DTT} {t : DTA} {pos pos' apos cpos : Pos}
theorem reps_kT : ∀ {vs : List V} (ks : List Key), RepL K H vs (ks.map kD) → vs = ks.map kV
  | _, [], .nil => rfl
  | _, k :: ks, .cons h t => by rw [List.map_cons, h.kD, reps_kT ks t]
theorem RepD.kT {v : V} {k : List Key} (r : RepD K H v (.tup (k.map DL.kD))) : ∃ b, v = .ref b ∧ H b = some (.tup (k.map kV)) := by
  cases r with
  | tup h l => rw [reps_kT k l] at h; exact ⟨_, rfl, h⟩
theorem RepG.dtt {g : GS} (r : RepG K H g) {p : Addr} {kvs : List (List Key × D)} (h : g p = some (.dtt kvs)) : ∃ vs, H p = some (.dT vs) ∧ RepKV K H vs kvs := r p _ h
theorem RepG.laidT {g : GS} (r : RepG K H g) {n : Addr} (hn : H n = none) {vs : List (List Key × V)} {kvs : List (List Key × D)} (l : RepKV K H vs kvs) : RepG K (L2.upd H n (.dT vs)) (gup g n (.dtt kvs)) :=
  r.upd (.new hn) ⟨vs, upd_same, RepKV.mono (.new hn) l⟩
theorem RepG.setT {g : GS} (r : RepG K H g) {n : Addr} {ys : List (List Key × V)} (hn : H n = some (.dT ys)) {vs : List (List Key × V)} {kvs : List (List Key × D)} (l : RepKV K H vs kvs) : RepG K (L2.upd H n (.dT vs)) (gup g n (.dtt kvs)) :=
  r.upd (.dT hn) ⟨vs, upd_same, RepKV.mono (.dT hn) l⟩
def dTNew : DTE := fun _ g Q => ∀ p, g p = none → Q (.ref p) (gup g p (.dtt []))
theorem de_tnew : DE X (.Dict [] [] pos) dTNew := ⟨peW pe_dnewT fun σ H Q ⟨e, g, Qd, re, rg, q, k⟩ p hp => k _ _ _ _ (.new hp) (rg.laidT hp .nil) (.ref p) (q p (rg.free hp))⟩
def dTGet (td ty : DTE) : DTE := fun e g Q => td e g fun x g1 => ty e g1 fun y g2 => ∃ p kvs k v, x = .ref p ∧ g2 p = some (.dtt kvs) ∧ y = kT k ∧ getD kvs k = some v ∧ Q v g2
def dTIn (ty td : DTE) : DTE := fun e g Q => ty e g fun y g1 => td e g1 fun x g2 => ∃ p kvs k, x = .ref p ∧ g2 p = some (.dtt kvs) ∧ y = kT k ∧ Q (.bl (getD kvs k).isSome) g2
def dTNotIn (ty td : DTE) : DTE := fun e g Q => ty e g fun y g1 => td e g1 fun x g2 => ∃ p kvs k, x = .ref p ∧ g2 p = some (.dtt kvs) ∧ y = kT k ∧ Q (.bl (!(getD kvs k).isSome)) g2
theorem de_tget (hu : X.A.units + 1 < cLine) (ho : DE X o td) (hi : DE X i ty) (hs : NoSl i) : DE X (.Subscript o i pos) (dTGet td ty) := ⟨peW (pe_dget hu ho.pe hi.pe hs) fun σ H Q ⟨e, g, Qd, re, rg, q, k⟩ =>
  ⟨e, g, _, re, rg, q, fun x dx H1 g1 x1 rg1 r1 q1 => ⟨e, g1, _, re.mono x1, rg1, q1, fun y dy H2 g2 x2 rg2 r2 q2 => by
    obtain ⟨p, kvs, kk, v, rfl, h, rfl, hv, q2⟩ := q2
    cases r1
    obtain ⟨b, rfl, hb⟩ := r2.kT
    obtain ⟨vs, e1, r⟩ := rg2.dtt h
    rcases r.get (k := kk) with ⟨z, _⟩ | ⟨d, w, e2, e3, r3⟩
    · rw [z] at hv; cases hv
    · rw [hv] at e2
      cases e2
      exact ⟨p, w, rfl, by rw [← e3]; exact .t e1 hb, k _ _ _ _ (x1.trans x2) rg2 r3 q2⟩⟩⟩⟩
theorem ltin {neg : Bool} {Q : VK} {y x : V} {dx dy : D} {H2 : Hp} {g2 : GS} {Qd : DK} (r1 : RepD K H2 y dy) (r2 : RepD K H2 x dx) (rg2 : RepG K H2 g2) (k : KD K H2 Qd Q) (q : ∃ p kvs kk, dx = .ref p ∧ g2 p = some (.dtt kvs) ∧ dy = kT kk ∧ Qd (.bl (if neg then !(getD kvs kk).isSome else (getD kvs kk).isSome)) g2) : ∃ a o, x = .ref a ∧ DGet H2 a y o ∧ Q (.bl (if neg then !o.isSome else o.isSome)) H2 := by
  obtain ⟨p, kvs, kk, rfl, h, rfl, q⟩ := q
  cases r2
  obtain ⟨b, rfl, hb⟩ := r1.kT
  obtain ⟨vs, e1, r⟩ := rg2.dtt h
  refine ⟨p, valV vs kk, rfl, .t e1 hb, ?_⟩
  have e : (valV vs kk).isSome = (getD kvs kk).isSome := by
    rcases r.get (k := kk) with ⟨z, z2⟩ | ⟨d, w, e2, e3, r3⟩
    · rw [z, z2]; rfl
    · rw [e2, e3]; rfl
  rw [e]
  exact rg2.fin k (.bl _) q
theorem de_tin (hu : X.A.units + 1 < cLine) (hi : DE X i ty) (ho : DE X o td) (hm : behindInMarks .In o = false) : DE X (.Compare i [.In] [o] pos) (dTIn ty td) := ⟨peW (pe_cmp (pc_din hu hi.pe ho.pe) hm) fun σ H Q ⟨e, g, Qd, re, rg, q, k⟩ =>
  ⟨e, g, _, re, rg, q, fun y dy H1 g1 x1 rg1 r1 q1 => ⟨e, g1, _, re.mono x1, rg1, q1, fun x dx H2 g2 x2 rg2 r2 q2 => ltin (neg := false) (r1.mono x2) r2 rg2 (k.mono (x1.trans x2)) q2⟩⟩⟩
theorem de_tnotin (hu : X.A.units + 1 < cLine) (hi : DE X i ty) (ho : DE X o td) (hm : behindInMarks .NotIn o = false) : DE X (.Compare i [.NotIn] [o] pos) (dTNotIn ty td) := ⟨peW (pe_cmp (pc_dnotin hu hi.pe ho.pe) hm) fun σ H Q ⟨e, g, Qd, re, rg, q, k⟩ =>
  ⟨e, g, _, re, rg, q, fun y dy H1 g1 x1 rg1 r1 q1 => ⟨e, g1, _, re.mono x1, rg1, q1, fun x dx H2 g2 x2 rg2 r2 q2 => ltin (neg := true) (r1.mono x2) r2 rg2 (k.mono (x1.trans x2)) q2⟩⟩⟩
theorem dt_tin (hu : X.A.units + 1 < cLine) (hi : DE X i ty) (ho : DE X o td) (hm : behindInMarks .In o = false) : DT X (.Compare i [.In] [o] pos) (dTest (dTIn ty td)) := ⟨ptW (pt_cmp (pc_din hu hi.pe ho.pe) hm) fun σ H Q h => tB_lift (fun σ H Q ⟨e, g, Qd, re, rg, q, k⟩ =>
  ⟨e, g, _, re, rg, q, fun y dy H1 g1 x1 rg1 r1 q1 => ⟨e, g1, _, re.mono x1, rg1, q1, fun x dx H2 g2 x2 rg2 r2 q2 => ltin (neg := false) (r1.mono x2) r2 rg2 (k.mono (x1.trans x2)) q2⟩⟩) h⟩
theorem dt_tnotin (hu : X.A.units + 1 < cLine) (hi : DE X i ty) (ho : DE X o td) (hm : behindInMarks .NotIn o = false) : DT X (.Compare i [.NotIn] [o] pos) (dTest (dTNotIn ty td)) := ⟨ptW (pt_cmp (pc_dnotin hu hi.pe ho.pe) hm) fun σ H Q h => tB_lift (fun σ H Q ⟨e, g, Qd, re, rg, q, k⟩ =>
  ⟨e, g, _, re, rg, q, fun y dy H1 g1 x1 rg1 r1 q1 => ⟨e, g1, _, re.mono x1, rg1, q1, fun x dx H2 g2 x2 rg2 r2 q2 => ltin (neg := true) (r1.mono x2) r2 rg2 (k.mono (x1.trans x2)) q2⟩⟩) h⟩
def dTPut (td ty tv : DTE) : DTS := fun D e g => tv e g fun v g1 => td e g1 fun x g2 => ty e g2 fun y g3 => ∃ p kvs k, x = .ref p ∧ g3 p = some (.dtt kvs) ∧ y = kT k ∧ kvs.length < sizeLine ∧ D.nx e (gup g3 p (.dtt (putD kvs k v)))
theorem ds_tput (hu : X.A.units + 1 < cLine) (ho : DE X o td) (hi : DE X i ty) (hv : DE X value tv) (hs : swapsWith value (some (.Subscript o i pos')) pos.line X.env = pure false := by rfl) : DS X (.Assign [.Subscript o i pos'] value pos) (dTPut td ty tv) := ⟨psW (ps_dput hu ho.pe hi.pe hv.pe hs) fun D σ H ⟨e, g, Dd, re, rg, q, k1, _⟩ =>
  ⟨e, g, _, re, rg, q, fun v dv H1 g1 x1 rg1 rv q1 => ⟨e, g1, _, re.mono x1, rg1, q1, fun x dx H2 g2 x2 rg2 rx q2 => ⟨e, g2, _, re.mono (x1.trans x2), rg2, q2, fun y dy H3 g3 x3 rg3 ry q3 => by
    obtain ⟨p, kvs, k, rfl, h, rfl, hz, q3⟩ := q3
    cases rx
    obtain ⟨b, rfl, hb⟩ := ry.kT
    obtain ⟨vs, e1, r⟩ := rg3.dtt h
    have xx : Ext H (upd H3 p (.dT (putK vs k v))) := ((x1.trans x2).trans x3).trans (.dT e1)
    exact ⟨p, _, rfl, .t e1 hb (by rw [r.length]; exact hz), (k1.mono xx).fin (re.mono xx) (rg3.setT e1 (r.put k (rv.mono (x2.trans x3)))) q3⟩⟩⟩⟩⟩
def dTGet1 (td ty : DTE) : DTE := fun e g Q => td e g fun x g1 => ∃ p, x = .ref p ∧ (∃ kvs, g1 p = some (.dtt kvs)) ∧ ty e g1 fun y g2 => ∃ kvs k, g2 p = some (.dtt kvs) ∧ y = kT k ∧ Q ((getD kvs k).getD .non) g2
def dTGet2 (td ty tx : DTE) : DTE := fun e g Q => td e g fun x g1 => ∃ p, x = .ref p ∧ (∃ kvs, g1 p = some (.dtt kvs)) ∧ ty e g1 fun y g2 => tx e g2 fun z g3 => ∃ kvs k, g3 p = some (.dtt kvs) ∧ y = kT k ∧ Q ((getD kvs k).getD z) g3
theorem de_tget1 (hu : X.A.units + 1 < cLine) (ho : DE X o td) (hi : DE X e ty) (m : M1 X o "get" apos e cpos := by exact ⟨rfl, rfl, rfl, rfl⟩) : DE X (.Call (.Attribute o "get" apos) [e] [] cpos) (dTGet1 td ty) := ⟨peW (pe_dget1 hu ho.pe hi.pe m) fun σ H Q ⟨e, g, Qd, re, rg, q, k⟩ =>
  ⟨e, g, _, re, rg, q, fun x dx H1 g1 x1 rg1 rx q1 => by
    obtain ⟨p, rfl, ⟨kvs, h0⟩, q1⟩ := q1
    cases rx
    obtain ⟨vs0, e0, _⟩ := rg1.dtt h0
    refine ⟨p, rfl, .inr ⟨vs0, .inl e0⟩, e, g1, _, re.mono x1, rg1, q1, fun y dy H2 g2 x2 rg2 ry q2 => ?_⟩
    obtain ⟨kvs2, kk, h2, rfl, q2⟩ := q2
    obtain ⟨b, rfl, hb⟩ := ry.kT
    obtain ⟨vs, e2, r⟩ := rg2.dtt h2
    exact ⟨valV vs kk, .t e2 hb, k _ _ _ _ (x1.trans x2) rg2 (r.getD1 kk .non) q2⟩⟩⟩
theorem de_tget2 (hu : X.A.units + 1 < cLine) (ho : DE X o td) (hi : DE X e ty) (hx : DE X f tx) (m : M2 X o "get" apos e f cpos := by exact ⟨rfl, rfl, rfl, rfl⟩) : DE X (.Call (.Attribute o "get" apos) [e, f] [] cpos) (dTGet2 td ty tx) := ⟨peW (pe_dget2 hu ho.pe hi.pe hx.pe m) fun σ H Q ⟨e, g, Qd, re, rg, q, k⟩ =>
  ⟨e, g, _, re, rg, q, fun x dx H1 g1 x1 rg1 rx q1 => by
    obtain ⟨p, rfl, ⟨kvs, h0⟩, q1⟩ := q1
    cases rx
    obtain ⟨vs0, e0, _⟩ := rg1.dtt h0
    refine ⟨p, rfl, .inr ⟨vs0, .inl e0⟩, e, g1, _, re.mono x1, rg1, q1, fun y dy H2 g2 x2 rg2 ry q2 => ⟨e, g2, _, re.mono (x1.trans x2), rg2, q2, fun z dz H3 g3 x3 rg3 rz q3 => ?_⟩⟩
    obtain ⟨kvs2, kk, h2, rfl, q3⟩ := q3
    obtain ⟨b, rfl, hb⟩ := ry.kT
    obtain ⟨vs, e2, r⟩ := rg3.dtt h2
    exact ⟨valV vs kk, .t e2 (x3.1 _ _ hb), k _ _ _ _ ((x1.trans x2).trans x3) rg3 (r.getD1 kk rz) q3⟩⟩⟩
end
/-! ### walking a dictionary: it is locked meanwhile -/
def lkO : MO → Option MO
  | .dct kvs => some (.dctf kvs)
  | .dtt kvs => some (.dttf kvs)
  | _ => none
section
variable {X : Cx} {K : PySem.W.Frag} {H H' : Hp} {σ : L2.St}
variable {a b c e tg iter elt o i value f : Expr} {es rest : List Expr} {ta tb tc te td ty tv tx : DTE} {tA tB : DTT} {t : DTA} {T : DTS} {pos pos' apos cpos : Pos} {st : Stmt}
def dLockE (te : DTE) : DTE := fun e g Q => ∃ p o o', g p = some o ∧ lkO o = some o' ∧ te e (gup g p o') fun v g' => g' p = some o' ∧ Q v (gup g' p o)
def dLock (T : DTS) : DTS := fun D e g => ∃ p o o', g p = some o ∧ lkO o = some o' ∧ T { nx := fun e' g' => g' p = some o' ∧ D.nx e' (gup g' p o), rt := fun v g' => g' p = some o' ∧ D.rt v (gup g' p o), bk := fun e' g' => g' p = some o' ∧ D.bk e' (gup g' p o), ct := fun e' g' => g' p = some o' ∧ D.ct e' (gup g' p o) } e (gup g p o')
def Lk (K : PySem.W.Frag) (H : Hp) (p : Addr) (o o' : MO) (u : HO) : Prop := H p = some u ∧ Mut (some u) ∧ (∀ od (H' : Hp), H' p = some (.frz od u) → RepO K H' p o' → RepO K (L2.upd H' p u) p o) ∧ (∀ od xs, u ≠ .tup xs ∧ u ≠ .lst xs ∧ u ≠ .frz od (.lst xs)) ∧ ∀ od, RepO K (L2.upd H p (.frz od u)) p o'
theorem lk_of {g : GS} (rg : RepG K H g) {p : Addr} {o o' : MO} (hp : g p = some o) (ho : lkO o = some o') : ∃ u, Lk K H p o o' u := by
  have z := rg p o hp
  cases o with
  | dct kvs =>
    obtain ⟨vs, e, q⟩ := z
    cases ho
    have x0 : ∀ o, Ext0 H (L2.upd H p o) := fun o => (Ext.dk (o := o) e).e0
    refine ⟨.dK vs, e, trivial, fun od H' h1 ⟨o2, vs2, h2, q2⟩ => ?_, fun _ _ => ⟨(fun z => nomatch z), (fun z => nomatch z), (fun z => nomatch z)⟩, fun od => ⟨od, vs, upd_same, RepKV.mono0 (x0 _) q⟩⟩
    rw [h1] at h2
    cases h2
    have ne : ∀ {b u}, H' b = some u → u ≠ .frz od (.dK vs) → b ≠ p := fun e1 n z => by rw [z, h1] at e1; cases e1; exact n rfl
    exact ⟨vs, upd_same, RepKV.mono0 ⟨fun b xs e => by rw [upd_ne (ne e (fun z => nomatch z))]; exact e, fun b o xs e => by rw [upd_ne (ne e (fun z => nomatch z))]; exact e⟩ q2⟩
  | dtt kvs =>
    obtain ⟨vs, e, q⟩ := z
    cases ho
    have x0 : ∀ o, Ext0 H (L2.upd H p o) := fun o => (Ext.dT (o := o) e).e0
    refine ⟨.dT vs, e, trivial, fun od H' h1 ⟨o2, vs2, h2, q2⟩ => ?_, fun _ _ => ⟨(fun z => nomatch z), (fun z => nomatch z), (fun z => nomatch z)⟩, fun od => ⟨od, vs, upd_same, RepKV.mono0 (x0 _) q⟩⟩
    rw [h1] at h2
    cases h2
    have ne : ∀ {b u}, H' b = some u → u ≠ .frz od (.dT vs) → b ≠ p := fun e1 n z => by rw [z, h1] at e1; cases e1; exact n rfl
    exact ⟨vs, upd_same, RepKV.mono0 ⟨fun b xs e => by rw [upd_ne (ne e (fun z => nomatch z))]; exact e, fun b o xs e => by rw [upd_ne (ne e (fun z => nomatch z))]; exact e⟩ q2⟩
  | _ => cases ho
section
variable {p : Addr} {o o' : MO} {u : HO} {od : Obj}
theorem Lk.in0 (l : Lk K H p o o' u) (od : Obj) : Ext0 H (L2.upd H p (.frz od u)) :=
  ⟨fun b xs e => by rw [upd_ne (fun z => by rw [z, l.1] at e; cases e; exact (l.2.2.2.1 od xs).1 rfl)]; exact e, fun b o xs e => by rw [upd_ne (fun z => by rw [z, l.1] at e; cases e; exact l.2.1)]; exact e⟩
theorem Lk.ext (l : Lk K H p o o' u) (x : Ext (L2.upd H p (.frz od u)) H') : H' p = some (.frz od u) ∧ Ext H (L2.upd H' p u) ∧ Ext0 H' (L2.upd H' p u) := by
  have e1 := x.2 p od u upd_same
  refine ⟨e1, ⟨fun b xs e => ?_, fun b ob v e => ?_⟩, fun b xs e => ?_, fun b ob xs e => ?_⟩
  · have nb : b ≠ p := fun z => by rw [z, l.1] at e; cases e; exact (l.2.2.2.1 od xs).1 rfl
    rw [upd_ne nb]
    exact x.1 b xs (by rw [upd_ne nb]; exact e)
  · have nb : b ≠ p := fun z => by rw [z, l.1] at e; cases e; exact l.2.1
    rw [upd_ne nb]
    exact x.2 b ob v (by rw [upd_ne nb]; exact e)
  · have nb : b ≠ p := fun z => by rw [z, e1] at e; cases e
    rw [upd_ne nb]; exact e
  · have nb : b ≠ p := fun z => by
      rw [z, e1] at e
      have e : HO.frz od u = .frz ob (.lst xs) := Option.some.inj e
      injection e with _ e
      exact (l.2.2.2.1 od xs).2.1 e
    rw [upd_ne nb]; exact e
theorem Lk.back (l : Lk K H p o o' u) {g : GS} (x : Ext (L2.upd H p (.frz od u)) H') (rg : RepG K H' g) (hg : g p = some o') : RepG K (L2.upd H' p u) (gup g p o) :=
  rg.upd0 (l.ext x).2.2 (l.2.2.1 od H' (l.ext x).1 (rg p o' hg))
end
theorem de_lock (h : DE X e te) : DE X e (dLockE te) := ⟨peW (pe_lock h.pe) fun σ H Q ⟨e, g, Qd, re, rg, ⟨p, o, o', hp, ho, q⟩, k⟩ => by
  obtain ⟨u, l⟩ := lk_of rg hp ho
  refine ⟨p, u, l.1, l.2.1, fun od => ⟨e, gup g p o', _, re.mono0 (l.in0 od), rg.upd0 (l.in0 od) (l.2.2.2.2 od), q, fun v d H' g' x' rg' r q' => ?_⟩⟩
  obtain ⟨e1, x1, x2⟩ := l.ext x'
  exact ⟨e1, k _ _ _ _ x1 (l.back x' rg' q'.1) (r.mono0 x2) q'.2⟩⟩
theorem ds_lock (h : DS X st T) : DS X st (dLock T) := ⟨psW (ps_lock h.ps) fun D σ H ⟨e, g, Dd, re, rg, ⟨p, o, o', hp, ho, q⟩, k1, k2, k3, k4⟩ => by
  obtain ⟨u, l⟩ := lk_of rg hp ho
  have ks : ∀ (od : Obj) {Q : EV → GS → Prop} {Q' : L2.St → Hp → Prop}, KS X.K H Q Q' → KS X.K (L2.upd H p (.frz od u)) (fun e' g' => g' p = some o' ∧ Q e' (gup g' p o)) fun σ' H' => H' p = some (.frz od u) ∧ Q' σ' (L2.upd H' p u) := fun od Q Q' k σ' H' e' g' x' re' rg' q' => by
    obtain ⟨e1, x1, x2⟩ := l.ext x'
    exact ⟨e1, k _ _ _ _ x1 (re'.mono0 x2) (l.back x' rg' q'.1) q'.2⟩
  refine ⟨p, u, l.1, l.2.1, fun od => ⟨e, gup g p o', _, re.mono0 (l.in0 od), rg.upd0 (l.in0 od) (l.2.2.2.2 od), q, ks od k1, fun v d H' g' x' rg' r q' => ?_, ks od k3, ks od k4⟩⟩
  obtain ⟨e1, x1, x2⟩ := l.ext x'
  exact ⟨e1, k2 _ _ _ _ x1 (l.back x' rg' q'.1) (r.mono0 x2) q'.2⟩⟩
def iDk (ta : DTE) : DTI := fun e g R => ta e g fun x g1 => ∃ p, x = .ref p ∧ ((∃ kvs, g1 p = some (.dctf kvs) ∧ R (kvs.map fun kv => kD kv.1) (fun g => g p = some (.dctf kvs)) g1) ∨ ∃ kvs, g1 p = some (.dttf kvs) ∧ R (kvs.map fun kv => kT kv.1) (fun g => g p = some (.dttf kvs)) g1)
theorem RepKV.getAt {κ : Type} : ∀ {vs : List (κ × V)} {kvs : List (κ × D)} {i : Nat} {kv : κ × D}, RepKV K H vs kvs → kvs[i]? = some kv → ∃ v, vs[i]? = some (kv.1, v) ∧ RepD K H v kv.2 := fun {vs kvs i kv} r h => by
  induction r generalizing i with
  | nil => cases h
  | @cons p q ps qs hq t ih =>
    cases i with
    | zero =>
      have e : q = kv := by simpa using h
      subst e
      exact ⟨p.2, by show some p = some (q.1, p.2); rw [← hq.1], hq.2⟩
    | succ i => exact ih (by simpa using h)
theorem di_dk (h : DE X a ta) : DI X tg a (iDk ta) := ⟨piW (pi_keys h.pe) fun σ H R ⟨e, g, Rd, re, rg, q, k⟩ => ⟨e, g, _, re, rg, q, fun v d H1 g1 x1 rg1 r1 q1 => by
  obtain ⟨p, rfl, q1⟩ := q1
  cases r1
  rcases q1 with ⟨kvs, hp, q1⟩ | ⟨kvs, hp, q1⟩
  · obtain ⟨o, vs, e1, r⟩ := rg1 p _ hp
    refine ⟨p, o, rfl, .inl ⟨vs, e1, k _ _ _ _ _ x1 rg1 (fun i H2 g2 x2 rg2 hk => ?_) q1⟩⟩
    obtain ⟨o2, vs2, e2, r2⟩ := rg2 p _ hk
    have e3 := x2.2 p o _ e1
    rw [e3] at e2
    cases e2
    have hl : vs.length = kvs.length := RepKV.length r2
    refine ⟨fun hi => ⟨e3, by rw [hl, hi, List.length_map]; exact Nat.le_refl _⟩, fun d hd => ?_⟩
    rw [List.getElem?_map] at hd
    cases hc : kvs[i]? with
    | none => rw [hc] at hd; cases hd
    | some kv =>
      rw [hc] at hd
      cases hd
      have hi := (List.getElem?_eq_some_iff.mp hc).1
      refine ⟨⟨e3, by omega⟩, fun y H3 ⟨e4, kk, w, e5, e6⟩ => ?_⟩
      subst e4
      subst e6
      obtain ⟨v, e7, _⟩ := r2.getAt hc
      rw [e5] at e7
      cases e7
      exact ⟨.refl _, rg2, repK _⟩
  · obtain ⟨o, vs, e1, r⟩ := rg1 p _ hp
    refine ⟨p, o, rfl, .inr ⟨vs, e1, k _ _ _ _ _ x1 rg1 (fun i H2 g2 x2 rg2 hk => ?_) q1⟩⟩
    obtain ⟨o2, vs2, e2, r2⟩ := rg2 p _ hk
    have e3 := x2.2 p o _ e1
    rw [e3] at e2
    cases e2
    have hl : vs.length = kvs.length := RepKV.length r2
    refine ⟨fun hi => ⟨e3, by rw [hl, hi, List.length_map]; exact Nat.le_refl _⟩, fun d hd => ?_⟩
    rw [List.getElem?_map] at hd
    cases hc : kvs[i]? with
    | none => rw [hc] at hd; cases hd
    | some kv =>
      rw [hc] at hd
      cases hd
      have hi := (List.getElem?_eq_some_iff.mp hc).1
      refine ⟨⟨e3, by omega⟩, fun y H3 ⟨e4, kk, w, b, e5, e6, e8⟩ => ?_⟩
      subst e4
      subst e6
      obtain ⟨v, e7, _⟩ := r2.getAt hc
      rw [e5] at e7
      cases e7
      exact ⟨.refl _, rg2, .tup e8 (reps_of_kV _)⟩⟩⟩
where reps_of_kV : ∀ {H3 : Hp} (ks : List Key), RepL X.K H3 (ks.map kV) (ks.map kD)
  | _, [] => .nil
  | _, k :: ks => .cons (repK k) (reps_of_kV ks)
end
end DL

namespace DL
open PySem PySem.Spec PyProof.Rows PySem.W L2
open TL (tl)
theorem each_of_get {α β : Type} {R : α → β → Prop} : ∀ {as : List α} {bs : List β}, as.length = bs.length → (∀ (j : Nat) a b, as[j]? = some a → bs[j]? = some b → R a b) → EachIs R as bs
  | [], [], _, _ => .nil
  | a :: as, b :: bs, hl, h => .cons (h 0 a b rfl rfl) (each_of_get (by simpa using hl) fun j x y e1 e2 => h (j + 1) x y (by simpa using e1) (by simpa using e2))
  | [], _ :: _, hl, _ => by simp at hl
  | _ :: _, [], hl, _ => by simp at hl
theorem reps_keysT {K : PySem.W.Frag} {H : Hp} : ∀ (ks : List Key), RepL K H (ks.map kV) (ks.map kD)
  | [] => .nil
  | k :: ks => .cons (repK k) (reps_keysT ks)
section
variable {X : Cx} {K : PySem.W.Frag} {H : Hp}
def sortedTD : DRC := fun xs g Q => match xs with
  | [.ref p] => ∃ kvs : List (List Key × D), g p = some (.dtt kvs) ∧ srtOk (kvs.map fun kv => kT kv.1) ∧ ∀ r, g r = none → Q (.ref r) (gup g r (.lst ((kvs.map fun kv => kT kv.1).mergeSort leP)))
  | _ => False
theorem call_sortedTD (hc : X.calm = true) (hu : X.A.units + 65 < cLine) : CallR X (.builtin "sorted") (lRC X.K sortedTD) := fun pins s σ H xs us Q I rs ⟨ds, g, Qd, l, rg, q, k⟩ => by
  rcases l with _ | ⟨r1, _ | ⟨r2, l⟩⟩
  · exact q.elim
  · cases r1 with
    | ref p =>
      obtain ⟨kvs, hp, ⟨hpu, hdp, hal, hsk⟩, q⟩ := q
      obtain ⟨vs, hH, rk⟩ := rg.dtt hp
      rw [Vals.ref1 rs]
      obtain ⟨z, hd, xs, rel, o, es, ep, ho, hx, hdt, he, hn⟩ := (show ObjOk X.prog X.w H s.heap p (.dT vs) from I.hok p _ hH)
      have hes : es.size = xs.length := size_of_entries he
      have hl : vs.length = xs.length := Paired.length rel
      have hlk : vs.length = kvs.length := RepKV.length rk
      have hn16 : es.size ≤ sizeLine := by omega
      refine PySem.Calls.call_function_entry PyProof.Rows.kind_sorted PyProof.Rows.plain_sorted PyProof.Rows.entry_sorted (PyProof.Rows.args_sorted1 _) ?_
      unfold Builtin.«sorted»
      refine wpAny_bind (m := checkCount "sorted" 1 1 _) (wpAny_pure ?_)
      refine wpAny_bind (PySem.W.kdu_collect (A := X.A.in1) (KdlSrc.rawDict (es := es) (ep := ep) hd) (I.ok.hd hc) ⟨o, ho, hx, hdt⟩ hn16 fun h' tk acc hk hacc => ?_)
      have e0 : EachIs (StD X.K H) acc.toList (kvs.map fun kv => kT kv.1) := each_of_get (by rw [Array.length_toList, hacc.1, List.length_map]; omega) fun j u d e1 e2 => by
        rw [List.getElem?_map] at e2
        cases hc : kvs[j]? with
        | none => rw [hc] at e2; cases e2
        | some kv =>
          rw [hc] at e2
          cases e2
          obtain ⟨v, e3, _⟩ := rk.getAt hc
          obtain ⟨b, hb, b1, b2, _⟩ := paired_get rel e3
          obtain ⟨hi, e4⟩ := hacc.2 j u (by rw [← Array.getElem?_toList]; exact e1)
          have e5 := entry_at he j
          rw [hb] at e5
          have e6 : es[j]? = some es[j] := Array.getElem?_eq_getElem hi
          rw [e6] at e5
          have e7 : es[j] = entryOfKey (tupleKind (mixKind X.prog X.w)) b := Option.some.inj e5
          rw [e7] at e4
          subst e4
          exact ⟨.ref b.2.1, .tup b2 (reps_keysT _), rfl⟩
      have I1 : Inv X pins σ H { s with heap := h', toks := tk } := I.kept hk
      have er : EachIs (fun u d => ∃ as, Reads h' u (pd d) as) acc.toList (kvs.map fun kv => kT kv.1) := each_and e0 fun u d hd ⟨v, r, w⟩ => Dp.reads I1 (pd d) v u (r.dp (pures_mem hpu d hd)) w
      have hal2 : acc.toList.length ≤ sizeLine := by rw [Array.length_toList, hacc.1]; exact hn16
      refine wpAny_bind (wpAny_newList ?_ hal2)
      have hoL : (h'.push (seqObj "list" acc.toList.toArray 0)).get? h'.objs.size = some (seqObj "list" acc.toList.toArray 0) := Heap.get?_push_size _ rfl
      have sold : ∀ b ob, h'.get? b = some ob → (PySem.W.sortingHeap (h'.push (seqObj "list" acc.toList.toArray 0)) h'.objs.size acc.toList).get? b = some ob := fun b ob e => PySem.W.sortingHeap_old (Nat.ne_of_lt (Heap.lt_size e)) (Heap.get?_push_of_some _ e)
      have er2 : EachIs (fun u d => ∃ as, Reads (PySem.W.sortingHeap (h'.push (seqObj "list" acc.toList.toArray 0)) h'.objs.size acc.toList) u (pd d) as) acc.toList (kvs.map fun kv => kT kv.1) := each_and er fun u d _ ⟨as, r⟩ => ⟨as, PyProof.Rows.Reads.keeps (fun b o e => sold b o e) r⟩
      show wpAny _ _ _ _ _ { s with heap := h'.push (seqObj "list" acc.toList.toArray 0), toks := tk }
      have S := PySem.W.SortsAt.data (prog := X.prog) (w := X.w) (A := X.A.in1.in1) (s := { s with heap := PySem.W.sortingHeap (h'.push (seqObj "list" acc.toList.toArray 0)) h'.objs.size acc.toList, toks := tk }) (each_mapD er2) hal hsk (fun d hd => by
        obtain ⟨d', hd', rfl⟩ := List.mem_map.mp hd
        have h1 := pd_dep d'
        have h2 := deps_mem hdp d' hd'
        show X.A.units + 1 + 1 + _ < _
        omega)
      have out := PySem.W.sortVals_data (R := StD X.K H) (enc := pd) false e0 er2 hal
      obtain ⟨vs', l', w'⟩ := of_std out
      refine wpAny_bind (wpAny_holding (wpAny_call_entry PyProof.Rows.slot_list_sort ⟨_, hoL, rfl⟩ PyProof.Rows.entry_list_sort
        (PySem.W.list_sort_vals (s := { s with heap := h'.push (seqObj "list" acc.toList.toArray 0), toks := tk }) hoL S hal2 ⟨_, rfl, ?_⟩)
        (PyProof.Rows.args_list_sort _)))
      obtain ⟨e', he'⟩ := PyProof.Rows.sortedHeap_at (vs := acc.toList) (out := (sortVals (dataKind (PySem.W.sortingHeap (h'.push (seqObj "list" acc.toList.toArray 0)) h'.objs.size acc.toList) ((kvs.map fun kv => kT kv.1).map pd)) false acc.toList acc.toList).toArray) hoL
      have hl2 : vs'.length = acc.toList.length := by rw [w'.length]; exact PySem.W.sortVals_length false rfl
      have hlen : vs'.length ≤ sizeLine := by rw [hl2]; exact hal2
      refine wpAny_pure ⟨_, rfl, .ref h'.objs.size, upd H h'.objs.size (.lst vs'), I1.laid (t' := tk) (fun b u e => ?_) (Nat.le_refl _)
        (show ObjOk X.prog X.w _ _ _ (.lst vs') from ⟨hlen, _, e', w', he'⟩), rfl, rg.finL k (I1.hok.fresh (Nat.le_refl _)) l' q⟩
      have hb : b < h'.objs.size := Heap.lt_size e
      rw [PyProof.Rows.sortedHeap_old (Nat.ne_of_lt hb) (by rw [size_push']; exact Nat.lt_succ_of_lt hb)]
      exact Heap.get?_push_of_some _ e
    | _ => exact q.elim
  · cases r1 <;> exact q.elim
/-! ### list(d) -/
def lstKD : DRC := fun xs g Q => match xs with
  | [.ref p] => (∃ kvs, g p = some (.dct kvs) ∧ ∀ r, g r = none → Q (.ref r) (gup g r (.lst (kvs.map fun kv => kD kv.1)))) ∨ ∃ kvs, g p = some (.dtt kvs) ∧ ∀ r, g r = none → Q (.ref r) (gup g r (.lst (kvs.map fun kv => kT kv.1)))
  | _ => False
theorem call_lstKD (hc : X.calm = true) : CallR X (.type "list") (lRC X.K lstKD) := fun pins s σ H xs us Q I rs ⟨ds, g, Qd, l, rg, q, k⟩ => by
  rcases l with _ | ⟨r1, _ | ⟨r2, l⟩⟩
  · exact q.elim
  · cases r1 with
    | ref p =>
      rcases q with ⟨kvs, hp, q⟩ | ⟨kvs, hp, q⟩
      · obtain ⟨vs, hH, rk⟩ := rg.dct hp
        refine call_list_dK hc pins s σ H _ us Q I rs ⟨p, vs, rfl, hH, fun n hn => rg.finL k hn ?_ q⟩
        have : vs.map (fun kv => kV kv.1) = kvs.map fun kv => kV kv.1 := by
          have e := congrArg (List.map kV) rk.keys
          rw [List.map_map, List.map_map] at e
          exact e
        rw [this]
        clear this hp q hH rk
        induction kvs with
        | nil => exact .nil
        | cons kv kvs ih => exact .cons (repK _) ih
      · obtain ⟨vs, hH, rk⟩ := rg.dtt hp
        refine call_list_dT hc pins s σ H _ us Q I rs ⟨p, vs, rfl, .inl hH, fun n bs hn hb => rg.finL k hn ?_ q⟩
        have ek : vs.map (·.1) = kvs.map (·.1) := rk.keys
        clear hp q hH rk k
        unfold IsKeys at hb
        induction hb generalizing kvs with
        | nil => cases kvs with
          | nil => exact .nil
          | cons kv kvs => cases ek
        | @cons a b as bs h1 h2 ih => cases kvs with
          | nil => cases ek
          | cons kv kvs =>
            rw [List.map_cons, List.map_cons] at ek
            injection ek with e1 e2
            refine .cons (.tup ?_ (reps_keysT _)) (ih kvs e2)
            rw [← e1]; exact h1
    | _ => exact q.elim
  · cases r1 <;> exact q.elim
def lenKD : DRC := fun xs g Q => match xs with
  | [.ref p] => ∃ kvs : List (List Key × D), g p = some (.dtt kvs) ∧ Q (.int (kvs.length : Nat)) g
  | _ => False
theorem call_lenKD : CallR X (.builtin "len") (lRC X.K lenKD) := fun pins s σ H xs us Q I rs ⟨ds, g, Qd, l, rg, q, k⟩ => by
  rcases l with _ | ⟨r1, _ | ⟨r2, l⟩⟩
  · exact q.elim
  · cases r1 with
    | ref p =>
      obtain ⟨kvs, hp, q⟩ := q
      obtain ⟨vs, hH, rk⟩ := rg.dtt hp
      exact call_len_dT pins s σ H _ us Q I rs ⟨p, vs, rfl, hH, by rw [RepKV.length rk]; exact rg.fin k (.int _) q⟩
    | _ => exact q.elim
  · cases r1 <;> exact q.elim
end
end DL

namespace DL
open PySem PySem.Spec PyProof.Rows L2
open TL (tl)
open PySem.W (keyToks keyToksAll)
/-! ### the steps of dictionaries by tuples, of locks -/
section
variable {D : DEnds} {e : EV} {g : GS} {Q : DK} {QB : Bool → GS → Prop} {td ty tv tx te : DTE} {T : DTS}
theorem s_tnew (h : ∀ p, g p = none → Q (.ref p) (gup g p (.dtt []))) : dTNew e g Q := h
theorem s_tget (h : td e g fun x g1 => ty e g1 fun y g2 => ∃ p kvs k v, x = .ref p ∧ g2 p = some (.dtt kvs) ∧ y = kT k ∧ getD kvs k = some v ∧ Q v g2) : dTGet td ty e g Q := h
theorem s_tin (h : ty e g fun y g1 => td e g1 fun x g2 => ∃ p kvs k, x = .ref p ∧ g2 p = some (.dtt kvs) ∧ y = kT k ∧ Q (.bl (getD kvs k).isSome) g2) : dTIn ty td e g Q := h
theorem s_tnotin (h : ty e g fun y g1 => td e g1 fun x g2 => ∃ p kvs k, x = .ref p ∧ g2 p = some (.dtt kvs) ∧ y = kT k ∧ Q (.bl (!(getD kvs k).isSome)) g2) : dTNotIn ty td e g Q := h
theorem s_tput (h : tv e g fun v g1 => td e g1 fun x g2 => ty e g2 fun y g3 => ∃ p kvs k, x = .ref p ∧ g3 p = some (.dtt kvs) ∧ y = kT k ∧ kvs.length < sizeLine ∧ D.nx e (gup g3 p (.dtt (putD kvs k v)))) : dTPut td ty tv D e g := h
theorem s_tget1 (h : td e g fun x g1 => ∃ p, x = .ref p ∧ (∃ kvs, g1 p = some (.dtt kvs)) ∧ ty e g1 fun y g2 => ∃ kvs k, g2 p = some (.dtt kvs) ∧ y = kT k ∧ Q ((getD kvs k).getD .non) g2) : dTGet1 td ty e g Q := h
theorem s_tget2 (h : td e g fun x g1 => ∃ p, x = .ref p ∧ (∃ kvs, g1 p = some (.dtt kvs)) ∧ ty e g1 fun y g2 => tx e g2 fun z g3 => ∃ kvs k, g3 p = some (.dtt kvs) ∧ y = kT k ∧ Q ((getD kvs k).getD z) g3) : dTGet2 td ty tx e g Q := h
/-- a walked dictionary that nobody changes -/
theorem s_lockE {p : Addr} {o : MO} (o' : MO) (hp : g p = some o) (ho : lkO o = some o') (h : te e (gup g p o') fun v g' => g' p = some o' ∧ Q v (gup g' p o)) : dLockE te e g Q := ⟨p, o, o', hp, ho, h⟩
theorem s_lock {p : Addr} {o : MO} (o' : MO) (hp : g p = some o) (ho : lkO o = some o') (h : T { nx := fun e' g' => g' p = some o' ∧ D.nx e' (gup g' p o), rt := fun v g' => g' p = some o' ∧ D.rt v (gup g' p o), bk := fun e' g' => g' p = some o' ∧ D.bk e' (gup g' p o), ct := fun e' g' => g' p = some o' ∧ D.ct e' (gup g' p o) } e (gup g p o')) : dLock T D e g := ⟨p, o, o', hp, ho, h⟩
theorem s_iDk {R : List DL.D → (GS → Prop) → GS → Prop} {ta : DTE} (h : ta e g fun x g1 => ∃ p, x = .ref p ∧ ((∃ kvs, g1 p = some (.dctf kvs) ∧ R (kvs.map fun kv => kD kv.1) (fun g => g p = some (.dctf kvs)) g1) ∨ ∃ kvs, g1 p = some (.dttf kvs) ∧ R (kvs.map fun kv => kT kv.1) (fun g => g p = some (.dttf kvs)) g1)) : iDk ta e g R := h
end
theorem two {A B C : Prop} (main : A → B → C) (y : A) (n : B) : C := main y n
/-! ### keys of a dictionary by tuples -/
theorem getD_mem {κ : Type} [DecidableEq κ] (kvs : List (κ × D)) (k : κ) : (getD kvs k).isSome = decide (k ∈ kvs.map (·.1)) := by
  induction kvs with
  | nil => rfl
  | cons kv kvs ih =>
    unfold getD at ih ⊢
    rw [List.find?_cons]
    by_cases h : kv.1 = k
    · simp [h]
    · have h' : ¬ k = kv.1 := fun e => h e.symm
      simp only [h, decide_false, List.map_cons, List.mem_cons, h', false_or]
      exact ih
theorem putD_new {κ : Type} [DecidableEq κ] {kvs : List (κ × D)} {k : κ} {v : D} (h : k ∉ kvs.map (·.1)) : putD kvs k v = kvs ++ [(k, v)] := by
  unfold putD
  rw [if_neg]
  intro e
  rw [List.any_eq_true] at e
  obtain ⟨x, hx, e⟩ := e
  exact h (List.mem_map.mpr ⟨x, hx, of_decide_eq_true e⟩)
/-! ### ids -/
abbrev Idn := Str × Int
abbrev idD (x : Idn) : D := .tup [.str x.1, .int x.2]
abbrev idK (x : Idn) : List Key := [.inr x.1, .inl x.2]
abbrev NtR.ix (n : NtR) : Idn := (n.name, n.num)
theorem idK_inj {x y : Idn} (h : idK x = idK y) : x = y := by
  injection h with h1 h2
  injection h2 with h2 _
  injection h1 with h1
  injection h2 with h2
  exact Prod.ext h1 h2
theorem idD_inj {x y : Idn} (h : idD x = idD y) : x = y := by
  injection h with h
  injection h with h1 h2
  injection h2 with h2 _
  injection h1 with h1
  injection h2 with h2
  exact Prod.ext h1 h2
theorem fine_id {x : Idn} (h : sOk x.1) : fine (idD x) := ⟨by simp only [pure?, pures]; rw [h]; rfl, by simp [dep, deps]⟩
theorem eqP_id (x y : Idn) : eqP (idD x) (idD y) = decide (x = y) := by
  obtain ⟨a, i⟩ := x
  obtain ⟨b, j⟩ := y
  unfold eqP
  simp only [pd, pds, PyData.eqv, PyData.eqvAll]
  by_cases h : a = b
  · by_cases h2 : i = j
    · subst h; subst h2; simp
    · simp [h, h2]
  · simp [h]
theorem any_ids (t : Idn) (us : List Idn) : ((us.map idD).any fun z => eqP z (idD t)) = decide (t ∈ us) := by
  induction us with
  | nil => rfl
  | cons u us ih =>
    rw [List.map_cons, List.any_cons, ih, eqP_id]
    by_cases h : u = t
    · subst h; simp
    · have h' : ¬ t = u := fun z => h z.symm
      simp [h, h']
theorem pures_all {ds : List D} (h : ∀ d ∈ ds, fine d) : pures ds = true ∧ deps ds ≤ 60 := by
  induction ds with
  | nil => exact ⟨rfl, by rw [deps]; omega⟩
  | cons d ds ih =>
    have h1 := h d List.mem_cons_self
    have h2 := ih fun x hx => h x (List.mem_cons_of_mem _ hx)
    refine ⟨by rw [pures, h1.1, h2.1]; rfl, ?_⟩
    rw [deps]
    have := h1.2
    omega
theorem fine_ids {xs : List Idn} (h : ∀ x ∈ xs, sOk x.1) : pures (xs.map idD) = true ∧ deps (xs.map idD) ≤ 60 := pures_all fun d hd => by
  obtain ⟨x, hx, rfl⟩ := List.mem_map.mp hd
  exact fine_id (h x hx)
theorem srt_ids {xs : List Idn} (h : ∀ x ∈ xs, sOk x.1) : srtOk (xs.map idD) := by
  refine ⟨(fine_ids h).1, (fine_ids h).2, ?_, .inl ?_⟩
  · intro d hd d' hd'
    rw [List.map_map] at hd hd'
    obtain ⟨x, _, rfl⟩ := List.mem_map.mp hd
    obtain ⟨y, _, rfl⟩ := List.mem_map.mp hd'
    rfl
  · intro d hd
    rw [List.map_map] at hd
    obtain ⟨x, _, rfl⟩ := List.mem_map.mp hd
    exact ⟨_, _, rfl⟩
def sortD (ds : List D) : List D := ds.mergeSort leP
theorem sortD_len (ds : List D) : (sortD ds).length = ds.length := List.length_mergeSort ds
theorem sortD_mem {ds : List D} {d : D} : d ∈ sortD ds ↔ d ∈ ds := (List.mergeSort_perm ds leP).mem_iff
theorem key_id {a b : Idn} (h : keyToks (pd (idD a)) = keyToks (pd (idD b))) : a = b := by
  obtain ⟨x, i⟩ := a
  obtain ⟨y, j⟩ := b
  simp only [pd, pds, keyToks, keyToksAll, List.cons_append, List.nil_append, List.cons.injEq, true_and, Sum.inr.injEq, Sum.inl.injEq, and_true] at h
  rw [PySem.W.str_of_cps h.1, h.2]
theorem sortIds_perm {as bs : List Idn} (h : as.Perm bs) : sortD (as.map idD) = sortD (bs.map idD) := sortD_perm (List.Perm.map _ h) fun a ha b hb e => by
  obtain ⟨x, _, rfl⟩ := List.mem_map.mp ha
  obtain ⟨y, _, rfl⟩ := List.mem_map.mp hb
  rw [key_id e]
theorem v_sortIds {g : GS} {Q : DK} {p : Addr} {xs : List Idn} (hp : g p = some (.lst (xs.map idD))) (hs : ∀ x ∈ xs, sOk x.1) (h : ∀ r, g r = none → Q (.ref r) (gup g r (.lst (sortD (xs.map idD))))) : sortedD [.ref p] g Q := ⟨_, .inl hp, srt_ids hs, h⟩
theorem any_opts (t : Str) (os : List (Option Str)) : ((os.map optD).any fun z => eqP z (.str t)) = decide (some t ∈ os) := by
  induction os with
  | nil => rfl
  | cons o os ih =>
    rw [List.map_cons, List.any_cons, ih]
    cases o with
    | none =>
      have : eqP (optD none) (.str t) = false := rfl
      rw [this]; simp
    | some u =>
      show (eqP (.str u) (.str t) || _) = _
      rw [eqP_str]
      by_cases h : u = t
      · subst h; simp
      · have h' : ¬ t = u := fun z => h z.symm
        simp [h, h']
theorem v_inOpts {g : GS} {Q : DK} {p : Addr} {t : Str} {os : List (Option Str)} (hp : g p = some (.lst (os.map optD))) (h : Q (.bl (decide (some t ∈ os))) g) : inD (.str t) (.ref p) g Q :=
  ⟨_, .inl hp, .inl ⟨rfl, by rw [List.all_map, List.all_eq_true]; intro o _; cases o <;> rfl⟩, by rw [any_opts]; exact h⟩
theorem v_inBls {g : GS} {Q : DK} {p : Addr} {t : Bool} {bs : List Bool} (hp : g p = some (.lst (bs.map D.bl))) (h : Q (.bl (decide (t ∈ bs))) g) : inD (.bl t) (.ref p) g Q :=
  ⟨_, .inl hp, .inl ⟨rfl, by rw [List.all_map, List.all_eq_true]; intro o _; rfl⟩, by
    have : ((bs.map D.bl).any fun z => eqP z (.bl t)) = decide (t ∈ bs) := by
      clear h hp
      induction bs with
      | nil => rfl
      | cons b bs ih =>
        rw [List.map_cons, List.any_cons, ih]
        have : eqP (.bl b) (.bl t) = decide (b = t) := by cases b <;> cases t <;> rfl
        rw [this]
        by_cases h : b = t
        · subst h; simp
        · have h' : ¬ t = b := fun z => h z.symm
          simp [h, h']
    rw [this]; exact h⟩
theorem v_eqId {g : GS} {Q : DK} {x y : Idn} (hx : sOk x.1) (hy : sOk y.1) (h : Q (.bl (decide (x = y))) g) : eqD (idD x) (idD y) g Q := ⟨fine_id hx, fine_id hy, by rw [eqP_id]; exact h⟩
theorem v_neId {g : GS} {Q : DK} {x y : Idn} (hx : sOk x.1) (hy : sOk y.1) (h : Q (.bl (!decide (x = y))) g) : neD (idD x) (idD y) g Q := v_eqId (Q := notV Q) hx hy h
theorem v_inIds {g : GS} {Q : DK} {p : Addr} {t : Idn} {us : List Idn} (hp : g p = some (.lst (us.map idD))) (ht : sOk t.1) (hu : ∀ x ∈ us, sOk x.1) (h : Q (.bl (decide (t ∈ us))) g) : inD (idD t) (.ref p) g Q :=
  v_inLd hp (fine_id ht) (fine_ids hu).1 (fine_ids hu).2 (by rw [any_ids]; exact h)
theorem v_notInIds {g : GS} {Q : DK} {p : Addr} {t : Idn} {us : List Idn} (hp : g p = some (.lst (us.map idD))) (ht : sOk t.1) (hu : ∀ x ∈ us, sOk x.1) (h : Q (.bl (!decide (t ∈ us))) g) : notInD (idD t) (.ref p) g Q := v_inIds (Q := notV Q) hp ht hu h
/-! ### rights -/
def NtR.tgt (n : NtR) : D := n.krest.headD .non
def KdOk (n : NtR) : Prop := (n.kw = "post" ∧ n.krest = []) ∨ (n.kw ≠ "post" ∧ ∃ t : Idn, n.krest = [idD t] ∧ sOk t.1)
def keepsB (ss : List StwR) (a : Str) (bs : List Str) : Bool := decide (some a ∈ bs.map (stewardOf ss))
def rightB (ss : List StwR) (m o : NtR) : Bool := if m.kw = "post" ∨ o.kw = "strike" then false else if eqP m.tgt o.id = true then (if m.author = o.author then true else decide (m.kw = "strike") && keepsB ss m.author o.boards) else false
def hidB (ss : List StwR) (ns : List NtR) (o : NtR) : Bool := ns.any fun m => rightB ss m o
structure NtH (n : NtR) : Prop where
  kd : KdOk n
  nm : sOk n.name
  bd : ∀ z ∈ n.boards, (tl z).length ≤ 1000000
  bl : n.boards.length ≤ 1000
theorem right_post {ss : List StwR} {m o : NtR} (h : m.kw = "post") : rightB ss m o = false := if_pos (.inl h)
theorem hid_filter (ss : List StwR) (ns : List NtR) (o : NtR) : ((ns.filter fun m : NtR => !decide (m.kw = ("post" : Str))).any fun m => rightB ss m o) = hidB ss ns o := by
  unfold hidB
  induction ns with
  | nil => rfl
  | cons n ns ih =>
    rw [List.filter_cons]
    by_cases h : n.kw = "post"
    · rw [if_neg (by simp [h]), ih, List.any_cons, right_post h, Bool.false_or]
    · rw [if_pos (by simp [h]), List.any_cons, List.any_cons, ih]
end DL

namespace DL
open PySem PySem.Spec PyProof.Rows L2
open TL (tl)
/-! ### what is shown -/
def onB (n : NtR) (z : Str) (term clock : Int) : Bool := !decide (n.kw = "strike") && (decide (z ∈ n.boards) && decide (clock ≤ n.date + term))
abbrev rowD (n : NtR) : D := .tup [.int n.date, idD n.ix]
def sndD : D → D
  | .tup [_, x] => x
  | _ => .non
def ordL (ns : List NtR) : List D := (sortD (ns.map rowD)).map sndD
def shownL (ss : List StwR) (t : SiteR) (ns : List NtR) (z : Str) (clock : Int) : List D :=
  if letsB t.lot z = true then ordL (ns.filter fun n => !decide (n.ix ∈ (ns.filter (hidB ss ns)).map NtR.ix) && onB n z t.term clock) else []
theorem fine_row {n : NtR} (h : sOk n.name) : fine (rowD n) := ⟨by
    have h1 := (fine_id (x := n.ix) h).1
    have e : pure? (rowD n) = pures [.int n.date, idD n.ix] := by rw [rowD, pure?]
    rw [e, pures, pures, pures, h1]; rfl, by
    simp [dep, deps]⟩
theorem srt_rows {ns : List NtR} (h : ∀ n ∈ ns, sOk n.name) : srtOk (ns.map rowD) := by
  have hp := pures_all (ds := ns.map rowD) fun d hd => by
    obtain ⟨n, hn, rfl⟩ := List.mem_map.mp hd
    exact fine_row (h n hn)
  refine ⟨hp.1, hp.2, ?_, .inl ?_⟩
  · intro d hd d' hd'
    rw [List.map_map] at hd hd'
    obtain ⟨x, _, rfl⟩ := List.mem_map.mp hd
    obtain ⟨y, _, rfl⟩ := List.mem_map.mp hd'
    rfl
  · intro d hd
    rw [List.map_map] at hd
    obtain ⟨x, _, rfl⟩ := List.mem_map.mp hd
    exact ⟨_, _, rfl⟩
theorem ord_rows (ns : List NtR) : ∃ ms : List NtR, sortD (ns.map rowD) = ms.map rowD ∧ ms.Perm ns ∧ ordL ns = ms.map fun n => idD n.ix := by
  obtain ⟨ms, h1, h2⟩ := perm_map_inv (List.mergeSort_perm (ns.map rowD) leP) ns rfl
  refine ⟨ms, h1, h2, ?_⟩
  unfold ordL sortD
  rw [h1, List.map_map]
  rfl
theorem v_sortRows {g : GS} {Q : DK} {p : Addr} {ns : List NtR} (hp : g p = some (.lst (ns.map rowD))) (hs : ∀ n ∈ ns, sOk n.name) (h : ∀ r (ms : List NtR), ms.Perm ns → ordL ns = ms.map (fun n => idD n.ix) → g r = none → Q (.ref r) (gup g r (.lst (ms.map rowD)))) : sortedD [.ref p] g Q :=
  ⟨_, .inl hp, srt_rows hs, fun r hr => by
    obtain ⟨ms, h1, h2, h3⟩ := ord_rows ns
    have h1 : (ns.map rowD).mergeSort leP = ms.map rowD := h1
    rw [h1]
    exact h r ms h2 h3 hr⟩
theorem v_notInTup {g : GS} {Q : DK} {xs : List D} {ds : List D} (hx : fine (.tup xs)) (h1 : pures ds = true) (h2 : deps ds ≤ 60) (h : Q (.bl (!(ds.any fun z => eqP z (.tup xs)))) g) : notInD (.tup xs) (.tup ds) g Q := ⟨.inr ⟨hx, h1, h2⟩, h⟩
theorem v_inTup {g : GS} {Q : DK} {xs : List D} {ds : List D} (hx : fine (.tup xs)) (h1 : pures ds = true) (h2 : deps ds ≤ 60) (h : Q (.bl (ds.any fun z => eqP z (.tup xs))) g) : inD (.tup xs) (.tup ds) g Q := ⟨.inr ⟨hx, h1, h2⟩, h⟩
theorem any_perm {α : Type} {p : α → Bool} {as bs : List α} (h : as.Perm bs) : as.any p = bs.any p := by
  rw [Bool.eq_iff_iff, List.any_eq_true, List.any_eq_true]
  exact ⟨fun ⟨x, hx, e⟩ => ⟨x, h.mem_iff.mp hx, e⟩, fun ⟨x, hx, e⟩ => ⟨x, h.mem_iff.mpr hx, e⟩⟩
/-- an id within a sorted row of ids -/
theorem v_notInSortIds {g : GS} {Q : DK} {t : Idn} {us : List Idn} (ht : sOk t.1) (hu : ∀ x ∈ us, sOk x.1) (h : Q (.bl (!decide (t ∈ us))) g) : notInD (idD t) (.tup (sortD (us.map idD))) g Q := by
  have hf : pures (sortD (us.map idD)) = true ∧ deps (sortD (us.map idD)) ≤ 60 := pures_all fun d hd => by
    obtain ⟨x, hx, rfl⟩ := List.mem_map.mp (sortD_mem.mp hd)
    exact fine_id (hu x hx)
  refine v_notInTup (fine_id ht) hf.1 hf.2 ?_
  have e := any_perm (p := fun z => eqP z (idD t)) (List.mergeSort_perm (us.map idD) leP)
  rw [any_ids] at e
  have e : ((sortD (us.map idD)).any fun z => eqP z (idD t)) = decide (t ∈ us) := e
  rw [e]; exact h
end DL

namespace DL
open PySem PySem.Spec PyProof.Rows L2
open TL (tl)
/-! ### xs.count(y) of data -/
section
variable {X : Cx} {id : String}
def countD : DRM := fun x ys g Q => match x, ys with
  | .ref p, [y] => ∃ ds, rdL g p ds ∧ fine y ∧ pures ds = true ∧ deps ds ≤ 60 ∧ Q (.int ((ds.countP fun z => eqP z y : Nat) : Int)) g
  | _, _ => False
theorem countP_pds (f : PyData → Bool) : ∀ ds : List D, (pds ds).countP f = ds.countP fun z => f (pd z)
  | [] => rfl
  | d :: ds => by rw [pds, List.countP_cons, List.countP_cons, countP_pds f ds]
theorem mt_countD (hu : X.A.units + 65 < cLine) : MtR X "list.count" (lRM X.K countD) := fun pins s σ H x xs v us Q I rx rs ⟨d, ds, g, Qd, r, l, rg, q, k⟩ => by
  cases r with
  | ref p =>
    rcases l with _ | ⟨r1, _ | ⟨r2, l⟩⟩
    · exact q.elim
    · rename_i vy y hq0
      obtain ⟨es, hp, hf, hpu, hdp, q⟩ := q
      cases rx
      obtain ⟨uy, rfl, ry⟩ := rs.one
      obtain ⟨bs, rb⟩ := Dp.reads I (pd y) vy uy (r1.dp hf.1) ry
      have hl := rg.dpl hp hpu
      have hxs : PyData.canLayAll0 (pds es) = true := SeqAt.canLay_of_shaped (fines_shaped hpu hdp)
      have hroom : X.A.units + 1 + min (PyData.depthAll (pds es)) (pd y).depth < cLine := PyProof.Rows.room_in_shaped (fine_shaped hf) hu
      cases hl with
      | lst hs ha =>
        obtain ⟨its, rv, ⟨⟨cls, dd, data, sls⟩, n, ho, hc, hdn, hdt⟩, hlen⟩ := I.list hs
        simp only at hc hdt
        subst hc hdt
        obtain ⟨as, h4⟩ := Dp.readsAll I (pds es) _ its ha rv
        have hmap : its.map (SeqAt.readOf s.heap) = pds es := SeqAt.readsAll_map (pds es) its as hxs h4
        refine call_meets PySem.F.slot_list_count ⟨_, ho, rfl⟩ PySem.F.entry_list_count (PySem.F.args_list_count_2 _ _)
          (SeqAt.list_countAt p its.toArray n dd sls uy (fun u => PyData.eqv (SeqAt.readOf s.heap u) (pd y))) ⟨ho, SeqAt.items_eqAt (vs := its.toArray) (show ReadsAll s.heap its.toArray.toList (pds es) as from h4) rb hxs (SeqAt.canLay_of_shaped (fine_shaped hf)) hroom, ?_⟩
        have ec : its.toArray.toList.countP (fun u => PyData.eqv (SeqAt.readOf s.heap u) (pd y)) = es.countP fun z => eqP z y := by
          have : its.countP (fun u => PyData.eqv (SeqAt.readOf s.heap u) (pd y)) = (its.map (SeqAt.readOf s.heap)).countP fun z => PyData.eqv z (pd y) := by rw [List.countP_map]; rfl
          show its.countP _ = _
          rw [this, hmap, countP_pds]
          rfl
        exact ⟨.int _, H, I.tok _, ⟨s.toks, by rw [ec]⟩, rg.fin k (.int _) q⟩
    · cases r1 <;> exact q.elim
  | _ => exact q.elim
theorem v_countIds {g : GS} {Q : DK} {p : Addr} {t : Idn} {us : List Idn} (hp : g p = some (.lst (us.map idD))) (ht : sOk t.1) (hu : ∀ x ∈ us, sOk x.1) (h : Q (.int ((us.count t : Nat) : Int)) g) : countD (.ref p) [idD t] g Q :=
  ⟨_, .inl hp, fine_id ht, (fine_ids hu).1, (fine_ids hu).2, by
    have e : ((us.map idD).countP fun z => eqP z (idD t)) = us.count t := by
      rw [List.countP_map, List.count]
      refine List.countP_congr fun x _ => ?_
      show eqP (idD x) (idD t) = true ↔ _
      rw [eqP_id, decide_eq_true_iff, beq_iff_eq]
    rw [e]; exact h⟩
end
theorem v_notN {g : GS} {Q : DK} (h : Q (.bl false) g) : notND .non .non g Q := ⟨rfl, h⟩
/-! ### a list comprehension with any state -/
theorem lc_iv {ds : List DL.D} {keep : GS → Prop} {e : EV} {j : Nat} {te : DTE} {R : Addr → GS → Prop} {g : GS} (Iv : Addr → Nat → List DL.D → GS → Prop) (h0 : ∀ p, g p = none → Iv p 0 [] (gup g p (.lst [])))
    (hk : ∀ p i acc g', g p = none → i ≤ ds.length → Iv p i acc g' → keep g')
    (step : ∀ p i d acc g', g p = none → ds[i]? = some d → Iv p i acc g' → te (e.set j (some d)) g' fun y g4 => g4 p = some (.lst acc) ∧ acc.length < sizeLine ∧ Iv p (i + 1) (acc ++ [y]) (gup g4 p (.lst (acc ++ [y]))))
    (q : ∀ p acc g', g p = none → Iv p ds.length acc g' → R p g') :
    ∀ p, g p = none → ∃ Iv : Nat → List DL.D → GS → Prop, Iv 0 [] (gup g p (.lst [])) ∧ (∀ i acc g', i ≤ ds.length → Iv i acc g' → keep g') ∧
      (∀ i d acc g', ds[i]? = some d → Iv i acc g' → dYes (e.set j (some d)) g' fun b g3 => if b = true then te (e.set j (some d)) g3 fun y g4 => g4 p = some (.lst acc) ∧ acc.length < sizeLine ∧ Iv (i + 1) (acc ++ [y]) (gup g4 p (.lst (acc ++ [y]))) else Iv (i + 1) acc g3) ∧
      ∀ acc g', Iv ds.length acc g' → R p g' :=
  fun p hp => ⟨Iv p, h0 p hp, fun i acc g' hi h => hk p i acc g' hp hi h, fun i d acc g' hd h => step p i d acc g' hp hd h, fun acc g' h => q p acc g' hp h⟩
end DL

namespace DL
open PySem PySem.Spec PyProof.Rows L2
/-! ### cutting behind a statement that sets some slots -/
section
variable {T U : DTS} {D : DEnds} {e : EV} {g : GS}
theorem cut0 (P : GS → Prop) (h : T { D with nx := fun e' g' => e' = e ∧ P g' } e g) (k : ∀ g', P g' → U D e g') : dSeq T U D e g := s_cut (fun e' g' => e' = e ∧ P g') h fun e' g' ⟨h1, h2⟩ => by subst h1; exact k g' h2
theorem cut1 (j1 : Nat) (P : Option DL.D → GS → Prop) (h : T { D with nx := fun e' g' => ∃ x1, e' = List.set (e) j1 x1 ∧ P x1 g' } e g) (k : ∀ x1 g', P x1 g' → U D (List.set (e) j1 x1) g') : dSeq T U D e g := s_cut (fun e' g' => ∃ x1, e' = List.set (e) j1 x1 ∧ P x1 g') h fun e' g' ⟨x1, h1, h2⟩ => by subst h1; exact k x1 g' h2
theorem cut2 (j1 j2 : Nat) (P : Option DL.D → Option DL.D → GS → Prop) (h : T { D with nx := fun e' g' => ∃ x1 x2, e' = List.set (List.set (e) j1 x1) j2 x2 ∧ P x1 x2 g' } e g) (k : ∀ x1 x2 g', P x1 x2 g' → U D (List.set (List.set (e) j1 x1) j2 x2) g') : dSeq T U D e g := s_cut (fun e' g' => ∃ x1 x2, e' = List.set (List.set (e) j1 x1) j2 x2 ∧ P x1 x2 g') h fun e' g' ⟨x1, x2, h1, h2⟩ => by subst h1; exact k x1 x2 g' h2
theorem cut3 (j1 j2 j3 : Nat) (P : Option DL.D → Option DL.D → Option DL.D → GS → Prop) (h : T { D with nx := fun e' g' => ∃ x1 x2 x3, e' = List.set (List.set (List.set (e) j1 x1) j2 x2) j3 x3 ∧ P x1 x2 x3 g' } e g) (k : ∀ x1 x2 x3 g', P x1 x2 x3 g' → U D (List.set (List.set (List.set (e) j1 x1) j2 x2) j3 x3) g') : dSeq T U D e g := s_cut (fun e' g' => ∃ x1 x2 x3, e' = List.set (List.set (List.set (e) j1 x1) j2 x2) j3 x3 ∧ P x1 x2 x3 g') h fun e' g' ⟨x1, x2, x3, h1, h2⟩ => by subst h1; exact k x1 x2 x3 g' h2
theorem cut4 (j1 j2 j3 j4 : Nat) (P : Option DL.D → Option DL.D → Option DL.D → Option DL.D → GS → Prop) (h : T { D with nx := fun e' g' => ∃ x1 x2 x3 x4, e' = List.set (List.set (List.set (List.set (e) j1 x1) j2 x2) j3 x3) j4 x4 ∧ P x1 x2 x3 x4 g' } e g) (k : ∀ x1 x2 x3 x4 g', P x1 x2 x3 x4 g' → U D (List.set (List.set (List.set (List.set (e) j1 x1) j2 x2) j3 x3) j4 x4) g') : dSeq T U D e g := s_cut (fun e' g' => ∃ x1 x2 x3 x4, e' = List.set (List.set (List.set (List.set (e) j1 x1) j2 x2) j3 x3) j4 x4 ∧ P x1 x2 x3 x4 g') h fun e' g' ⟨x1, x2, x3, x4, h1, h2⟩ => by subst h1; exact k x1 x2 x3 x4 g' h2
theorem cut5 (j1 j2 j3 j4 j5 : Nat) (P : Option DL.D → Option DL.D → Option DL.D → Option DL.D → Option DL.D → GS → Prop) (h : T { D with nx := fun e' g' => ∃ x1 x2 x3 x4 x5, e' = List.set (List.set (List.set (List.set (List.set (e) j1 x1) j2 x2) j3 x3) j4 x4) j5 x5 ∧ P x1 x2 x3 x4 x5 g' } e g) (k : ∀ x1 x2 x3 x4 x5 g', P x1 x2 x3 x4 x5 g' → U D (List.set (List.set (List.set (List.set (List.set (e) j1 x1) j2 x2) j3 x3) j4 x4) j5 x5) g') : dSeq T U D e g := s_cut (fun e' g' => ∃ x1 x2 x3 x4 x5, e' = List.set (List.set (List.set (List.set (List.set (e) j1 x1) j2 x2) j3 x3) j4 x4) j5 x5 ∧ P x1 x2 x3 x4 x5 g') h fun e' g' ⟨x1, x2, x3, x4, x5, h1, h2⟩ => by subst h1; exact k x1 x2 x3 x4 x5 g' h2
theorem cut6 (j1 j2 j3 j4 j5 j6 : Nat) (P : Option DL.D → Option DL.D → Option DL.D → Option DL.D → Option DL.D → Option DL.D → GS → Prop) (h : T { D with nx := fun e' g' => ∃ x1 x2 x3 x4 x5 x6, e' = List.set (List.set (List.set (List.set (List.set (List.set (e) j1 x1) j2 x2) j3 x3) j4 x4) j5 x5) j6 x6 ∧ P x1 x2 x3 x4 x5 x6 g' } e g) (k : ∀ x1 x2 x3 x4 x5 x6 g', P x1 x2 x3 x4 x5 x6 g' → U D (List.set (List.set (List.set (List.set (List.set (List.set (e) j1 x1) j2 x2) j3 x3) j4 x4) j5 x5) j6 x6) g') : dSeq T U D e g := s_cut (fun e' g' => ∃ x1 x2 x3 x4 x5 x6, e' = List.set (List.set (List.set (List.set (List.set (List.set (e) j1 x1) j2 x2) j3 x3) j4 x4) j5 x5) j6 x6 ∧ P x1 x2 x3 x4 x5 x6 g') h fun e' g' ⟨x1, x2, x3, x4, x5, x6, h1, h2⟩ => by subst h1; exact k x1 x2 x3 x4 x5 x6 g' h2
theorem cut7 (j1 j2 j3 j4 j5 j6 j7 : Nat) (P : Option DL.D → Option DL.D → Option DL.D → Option DL.D → Option DL.D → Option DL.D → Option DL.D → GS → Prop) (h : T { D with nx := fun e' g' => ∃ x1 x2 x3 x4 x5 x6 x7, e' = List.set (List.set (List.set (List.set (List.set (List.set (List.set (e) j1 x1) j2 x2) j3 x3) j4 x4) j5 x5) j6 x6) j7 x7 ∧ P x1 x2 x3 x4 x5 x6 x7 g' } e g) (k : ∀ x1 x2 x3 x4 x5 x6 x7 g', P x1 x2 x3 x4 x5 x6 x7 g' → U D (List.set (List.set (List.set (List.set (List.set (List.set (List.set (e) j1 x1) j2 x2) j3 x3) j4 x4) j5 x5) j6 x6) j7 x7) g') : dSeq T U D e g := s_cut (fun e' g' => ∃ x1 x2 x3 x4 x5 x6 x7, e' = List.set (List.set (List.set (List.set (List.set (List.set (List.set (e) j1 x1) j2 x2) j3 x3) j4 x4) j5 x5) j6 x6) j7 x7 ∧ P x1 x2 x3 x4 x5 x6 x7 g') h fun e' g' ⟨x1, x2, x3, x4, x5, x6, x7, h1, h2⟩ => by subst h1; exact k x1 x2 x3 x4 x5 x6 x7 g' h2
end
end DL

/-- the automatic steps -/
local macro_rules | `(tactic| walk_at "go1") => `(tactic| with_reducible first
  | refine DL.s_seq ?_ | refine DL.s_asg ?_ | refine DL.s_nm ?_ | refine DL.s_c ?_ | refine DL.s_op ?_ | refine DL.s_cb ?_ | refine DL.s_cons ?_ | refine DL.s_nil ?_ | refine DL.s_call ?_ | refine DL.s_tup ?_ | refine DL.s_lst ?_
  | refine DL.s_bm ?_ | refine DL.s_bm0 ?_ | refine DL.s_drop ?_ | refine DL.s_ret ?_ | refine DL.s_retN ?_ | refine DL.s_next ?_ | refine DL.s_brk ?_ | refine DL.s_ct ?_ | refine DL.s_if ?_ | refine DL.s_test ?_ | refine DL.s_and ?_ | refine DL.s_or ?_ | refine DL.s_not ?_
  | refine DL.s_tru ?_ | refine DL.s_yes ?_ | refine DL.s_andV ?_ | refine DL.s_orV ?_ | refine DL.s_notV ?_ | refine DL.s_ifE ?_ | refine DL.s_isi ?_ | refine DL.s_sl ?_ | refine DL.s_no ?_ | refine DL.s_part ?_ | refine DL.s_sb ?_ | refine DL.s_chain ?_ | refine DL.s_un ?_
  | refine DL.s_dnew ?_ | refine DL.s_dget ?_ | refine DL.s_din ?_ | refine DL.s_dnotin ?_ | refine DL.s_dput ?_ | refine DL.s_ddel ?_ | refine DL.s_dget1 ?_ | refine DL.s_dget2 ?_ | refine DL.s_dpop1 ?_ | refine DL.s_disp ?_ | refine DL.s_for ?_ | refine DL.s_lc ?_ | refine DL.s_ra1 ?_ | refine DL.s_ra2 ?_ | refine DL.s_rev ?_ | refine DL.x_tp ?_ | refine DL.x_st ?_ | refine DL.x_bl ?_ | refine DL.x_tru ?_
  | refine DL.v_addI ?_ | refine DL.v_sub ?_ | refine DL.v_and ?_ | refine DL.v_neg ?_ | refine DL.v_ltI ?_ | refine DL.v_leI ?_ | refine DL.v_gtI ?_ | refine DL.v_geI ?_ | refine DL.v_eqI ?_ | refine DL.v_eqS ?_ | refine DL.v_eqB ?_ | refine DL.v_neI ?_ | refine DL.v_neS ?_ | refine DL.v_in1 ?_
  | refine DL.v_int ?_ | refine DL.v_intB ?_ | refine DL.v_abs ?_ | refine DL.v_lenT ?_ | refine DL.v_tupT ?_ | refine DL.v_rcvS ?_ | refine DL.v_lstT ?_ | refine DL.s_gcons ?_ | refine DL.s_gnil ?_ | refine DL.v_isN ?_)
local macro_rules | `(tactic| walk_at "step1") => `(tactic| first
  | walk_at "go1"
  | ((with_reducible refine DL.s_var ?_); refine ⟨_, rfl, ?_⟩)
  | ((with_reducible refine DL.x_ra1 ?_ ?_ ?_); omega; omega)
  | ((with_reducible refine DL.x_ra2 ?_ ?_ ?_ ?_ ?_); omega; omega; omega; omega)
  | ((with_reducible refine DL.x_lst' ?_); refine ⟨_, by assumption, ?_⟩)
  | ((with_reducible refine DL.v_mod ?_ ?_); omega)
  | ((with_reducible refine DL.v_div ?_ ?_ ?_); omega; omega)
  | ((with_reducible refine DL.v_mulR ?_ ?_ ?_); omega; omega)
  | ((with_reducible refine DL.v_mulL ?_ ?_ ?_); omega; omega)
  | ((with_reducible refine DL.v_ixL' ?_); refine ⟨_, by assumption, _, rfl, ?_⟩)
  | ((with_reducible refine DL.v_ixT' ?_); refine ⟨_, rfl, ?_⟩)
  | ((with_reducible refine DL.s_gtp ?_ ?_); rfl)
  | ((with_reducible refine DL.v_lenL' ?_); refine ⟨_, by assumption, ?_⟩)
  | ((with_reducible refine DL.v_tupL' ?_); refine ⟨_, by assumption, ?_⟩)
  | (with_reducible refine DL.x_int ?_))
local macro_rules | `(tactic| walk_at "go") => `(tactic| repeat walk_at "step1")
local macro_rules | `(tactic| walk_at "gs") => `(tactic| repeat ((fail_if_success (with_reducible refine (?_ : DL.dSeq (DL.dIf _ _ _) _ _ _ _))); walk_at "step1"))
local macro_rules | `(tactic| walk_at "wk1") => `(tactic| first
  | walk_at "step1"
  | (with_reducible refine DL.v_ixT0 ?_)
  | (with_reducible refine DL.s_fld ?_)
  | (with_reducible refine DL.s_sfld ?_)
  | (with_reducible refine DL.s_meth ?_)
  | (with_reducible refine DL.s_make ?_)
  | (with_reducible refine DL.s_prop ?_)
  | (with_reducible refine DL.s_lrg2 ?_)
  | (with_reducible refine DL.s_tnew ?_)
  | (with_reducible refine DL.s_tget ?_)
  | (with_reducible refine DL.s_tin ?_)
  | (with_reducible refine DL.s_tnotin ?_)
  | (with_reducible refine DL.s_tput ?_)
  | (with_reducible refine DL.s_tget1 ?_)
  | (with_reducible refine DL.s_tget2 ?_)
  | (with_reducible refine DL.s_iDk ?_)
  | (with_reducible refine DL.v_notN ?_)
  | (with_reducible refine DL.x_sz (by simp) ?_)
  | (with_reducible refine DL.v_rcvL (by first | assumption | exact DL.gup_same) ?_))
local macro_rules | `(tactic| walk_at "wk") => `(tactic| repeat walk_at "wk1")
local macro_rules | `(tactic| walk_at "ws") => `(tactic| repeat ((fail_if_success (with_reducible refine (?_ : DL.dSeq (DL.dIf _ _ _) _ _ _ _))); walk_at "wk1"))
local macro_rules | `(tactic| walk_at "w0") => `(tactic| repeat ((fail_if_success (with_reducible refine (?_ : DL.dSeq _ _ _ _ _))); walk_at "wk1"))
/-- closing goals: the source stands, a look-up, two places, what was changed -/
local macro_rules | `(tactic| walk_at "N") => `(tactic| first
  | assumption
  | exact Ne.symm (by assumption)
  | exact DL.Src.neL (by walk_at "S") (by assumption)
  | exact DL.Src.neL0 (by walk_at "S") (by assumption)
  | exact DL.Src.neStr (by walk_at "S") (by assumption)
  | exact DL.ne_fresh (by assumption) (by walk_at "L")
  | exact Ne.symm (DL.ne_fresh (by assumption) (by walk_at "L")))
local macro_rules | `(tactic| walk_at "L") => `(tactic| first
  | assumption
  | exact DL.gup_same
  | (refine DL.Up.get0 (by assumption) ?_; walk_at "L")
  | (refine DL.Go.get (by assumption) ?_ ?_ <;> first | walk_at "L" | walk_at "N")
  | (refine (DL.gup_ne ?_).trans ?_ <;> first | walk_at "L" | walk_at "N"))
local macro_rules | `(tactic| walk_at "S") => `(tactic| first
  | assumption
  | exact (And.right (by assumption : DL.Go _ _ _ _))
  | (refine DL.Src.up ?_ (by assumption); walk_at "S")
  | (refine DL.Src.up ?_ (DL.Up.new (by assumption)); walk_at "S")
  | (refine DL.Src.mut ?_ ?_ ?_ <;> first | walk_at "S" | walk_at "N"))
local macro_rules | `(tactic| walk_at "G") => `(tactic| first
  | assumption
  | (refine DL.Go.trans ?_ (by assumption); walk_at "G")
  | (refine DL.Go.up ?_ (by assumption); walk_at "G")
  | (refine DL.Go.new ?_ (by assumption); walk_at "G")
  | (refine DL.Go.mut ?_ (by assumption) (by walk_at "S"); walk_at "G")
  | exact DL.Go.up (DL.Go.start (by walk_at "S")) (by assumption)
  | exact DL.Go.new (DL.Go.start (by walk_at "S")) (by assumption)
  | exact DL.Go.start (by walk_at "S"))

namespace DL
open PySem PySem.Spec PyProof.Rows L2
open TL (tl)
/-! ### readers -/
def addI (ids : List Idn) (x : Idn) : List Idn := if x ∈ ids then ids else ids ++ [x]
theorem addI_mem {ids : List Idn} {x y : Idn} : y ∈ addI ids x ↔ y ∈ ids ∨ y = x := by
  unfold addI
  split
  · exact ⟨.inl, fun h => h.elim id fun e => by rw [e]; assumption⟩
  · rw [List.mem_append, List.mem_singleton]
theorem addI_nodup {ids : List Idn} {x : Idn} (h : ids.Nodup) : (addI ids x).Nodup := by
  unfold addI
  split
  · exact h
  · rename_i hn
    rw [List.nodup_append]
    exact ⟨h, by simp, fun a ha b hb e => hn (by rw [List.mem_singleton] at hb; rw [← hb, ← e]; exact ha)⟩
theorem addI_len {ids : List Idn} {x : Idn} : (addI ids x).length ≤ ids.length + 1 := by
  unfold addI
  split
  · omega
  · simp
theorem addAll_mem {y : Idn} : ∀ (xs ids : List Idn), y ∈ xs.foldl addI ids ↔ y ∈ ids ∨ y ∈ xs
  | [], ids => by simp
  | x :: xs, ids => by
    rw [List.foldl_cons, addAll_mem xs, addI_mem, List.mem_cons]
    exact ⟨fun h => by rcases h with (h | h) | h <;> simp [h], fun h => by rcases h with h | h | h <;> simp [h]⟩
theorem addAll_nodup : ∀ (xs ids : List Idn), ids.Nodup → (xs.foldl addI ids).Nodup
  | [], _, h => h
  | x :: xs, ids, h => addAll_nodup xs _ (addI_nodup h)
theorem keys_put {kvs : List (List Key × D)} {ids : List Idn} {x : Idn} {v : D} (h : kvs.map (·.1) = ids.map idK) : (putD kvs (idK x) v).map (·.1) = (addI ids x).map idK := by
  have hm : idK x ∈ kvs.map (·.1) ↔ x ∈ ids := by
    rw [h, List.mem_map]
    exact ⟨fun ⟨y, hy, e⟩ => by rw [← idK_inj e]; exact hy, fun hx => ⟨x, hx, rfl⟩⟩
  unfold addI
  by_cases hx : x ∈ ids
  · rw [if_pos hx]
    have : kvs.any (fun kv => decide (kv.1 = idK x)) = true := by
      obtain ⟨kv, h1, h2⟩ := List.mem_map.mp (hm.mpr hx)
      exact List.any_eq_true.mpr ⟨kv, h1, decide_eq_true h2⟩
    unfold putD
    rw [if_pos this, List.map_map, ← h]
    refine List.map_congr_left fun kv _ => ?_
    show (if kv.1 = idK x then (kv.1, v) else kv).1 = kv.1
    split <;> rfl
  · rw [if_neg hx, putD_new (fun e => hx (hm.mp e)), List.map_append, List.map_append, h]
    rfl
theorem key_has {kvs : List (List Key × D)} {ids : List Idn} (x : Idn) (h : kvs.map (·.1) = ids.map idK) : (getD kvs (idK x)).isSome = decide (x ∈ ids) := by
  rw [DL.getD_mem, decide_eq_decide, h, List.mem_map]
  exact ⟨fun ⟨y, hy, e⟩ => by rw [← idK_inj e]; exact hy, fun hx => ⟨x, hx, rfl⟩⟩
/-- a reader at a, with its dictionary at d -/
structure RdAt (g : GS) (a d : Addr) (ids : List Idn) : Prop where
  ins : g a = some (.ins "Reader" [("read_ids", .ref d)])
  dct : ∃ kvs : List (List Key × D), g d = some (.dtt kvs) ∧ kvs.map (·.1) = ids.map idK
theorem RdAt.up {g g' : GS} {S : List Addr} {a d : Addr} {ids : List Idn} (h : RdAt g a d ids) (U : Up S g g') (n1 : a ∉ S) (n2 : d ∉ S) : RdAt g' a d ids :=
  ⟨U.1 _ _ n1 h.ins, let ⟨kvs, h1, h2⟩ := h.dct; ⟨kvs, U.1 _ _ n2 h1, h2⟩⟩
theorem RdAt.ne {g : GS} {a d : Addr} {ids : List Idn} (h : RdAt g a d ids) : a ≠ d := fun e => by
  obtain ⟨kvs, h1, _⟩ := h.dct
  rw [← e, h.ins] at h1
  cases h1
theorem rf_look {d : Addr} : [(("read_ids" : Str), D.ref d)].lookup ("read_ids" : Str) = some (.ref d) := by
  rw [List.lookup_cons, show (("read_ids" : Str) == "read_ids") = true from by decide +kernel]
theorem rf_none {d : Addr} {m : Str} (h : m ≠ "read_ids") : [(("read_ids" : Str), D.ref d)].lookup m = none := by
  rw [List.lookup_cons, beq_eq_false_iff_ne.mpr h]
  rfl
abbrev PrR := Int × Idn
abbrev prD (p : PrR) : D := .tup [.int p.1, idD p.2]
def newP (ps : List PrR) (ids : List Idn) : List PrR := ps.filter fun p => !decide (p.2 ∈ ids)
theorem newP_congr {ps : List PrR} {a b : List Idn} (h : ∀ x, x ∈ a ↔ x ∈ b) : newP ps a = newP ps b := by
  unfold newP
  refine List.filter_congr fun p _ => ?_
  rw [show decide (p.2 ∈ a) = decide (p.2 ∈ b) from by rw [decide_eq_decide]; exact h p.2]
structure VwOk (U : List Idn) (ps : List PrR) : Prop where
  nd : (ps.map (·.2)).Nodup
  sub : ∀ p ∈ ps, p.2 ∈ U
structure P69 where
  a : Addr
  d : Addr
  r : Addr
  ids : List Idn
  row : List Idn
structure V69 where
  v : Addr
  ps : List PrR
structure Rok (U : List Idn) (p : P69) : Prop where
  perm : p.ids.Perm p.row
  nd : p.row.Nodup
  sub : ∀ x ∈ p.row, x ∈ U
structure St69 (s : SI) (g : GS) (RL WL VL IL : Addr) (U : List Idn) (rs : List P69) (vs : List V69) : Prop where
  il : g IL = some (.lst (U.map idD))
  rl : g RL = some (.lst (rs.map fun p => .ref p.a))
  wl : g WL = some (.lst (rs.map fun p => .ref p.r))
  vl : g VL = some (.lst (vs.map fun v => .ref v.v))
  rd : ∀ (i : Nat) p, rs[i]? = some p → RdAt g p.a p.d p.ids
  ro : ∀ (i : Nat) p, rs[i]? = some p → g p.r = some (.lst (p.row.map idD))
  vw : ∀ (i : Nat) v, vs[i]? = some v → g v.v = some (.lst (v.ps.map prD))
  nda : (rs.map (·.a)).Nodup
  ndd : (rs.map (·.d)).Nodup
  ndl : (s.L :: RL :: WL :: VL :: IL :: (rs.map (·.r) ++ vs.map (·.v))).Nodup
section
variable {s : SI} {g g' : GS} {RL WL VL IL : Addr} {U : List Idn} {rs : List P69} {vs : List V69}
/-- of what kind a thing is: a list is no dictionary .. -/
theorem kind_ne {g : GS} {p q : Addr} {ds : List D} {kvs : List (List Key × D)} (h : g p = some (.lst ds)) (h' : g q = some (.dtt kvs)) : p ≠ q := fun e => by rw [e, h'] at h; cases h
theorem kind_ne2 {g : GS} {p q : Addr} {ds : List D} {n : Str} {fs : List (Str × D)} (h : g p = some (.lst ds)) (h' : g q = some (.ins n fs)) : p ≠ q := fun e => by rw [e, h'] at h; cases h
theorem St69.upS (h : St69 s g RL WL VL IL U rs vs) {S : List Addr} (u : Up S g g') (n : ∀ x ∈ S, x ∉ RL :: WL :: VL :: IL :: (rs.map (·.r) ++ vs.map (·.v)) ∧ x ∉ rs.map (·.a) ∧ x ∉ rs.map (·.d)) : St69 s g' RL WL VL IL U rs vs := by
  have nl : ∀ {y}, y ∈ RL :: WL :: VL :: IL :: (rs.map (·.r) ++ vs.map (·.v)) → y ∉ S := fun hy hs => (n _ hs).1 hy
  refine ⟨u.1 _ _ (nl (by simp)) h.il, u.1 _ _ (nl (by simp)) h.rl, u.1 _ _ (nl (by simp)) h.wl, u.1 _ _ (nl (by simp)) h.vl, fun i p hi => ?_, fun i p hi => ?_, fun i v hi => ?_, h.nda, h.ndd, h.ndl⟩
  · have hm := List.mem_of_getElem? hi
    exact (h.rd i p hi).up u (fun z => (n _ z).2.1 (List.mem_map.mpr ⟨p, hm, rfl⟩)) fun z => (n _ z).2.2 (List.mem_map.mpr ⟨p, hm, rfl⟩)
  · have hm := List.mem_of_getElem? hi
    exact u.1 _ _ (nl (by simp only [List.mem_cons, List.mem_append]; exact .inr (.inr (.inr (.inr (.inl (List.mem_map.mpr ⟨p, hm, rfl⟩)))))) ) (h.ro i p hi)
  · have hm := List.mem_of_getElem? hi
    exact u.1 _ _ (nl (by simp only [List.mem_cons, List.mem_append]; exact .inr (.inr (.inr (.inr (.inr (List.mem_map.mpr ⟨v, hm, rfl⟩)))))) ) (h.vw i v hi)
theorem St69.up (h : St69 s g RL WL VL IL U rs vs) (u : Up [] g g') : St69 s g' RL WL VL IL U rs vs := h.upS u fun x hx => nomatch hx
theorem Src.isL {m : Nat} (S : Src s g m) : ∃ ds, g s.L = some (.lst ds) := by
  obtain ⟨_, _, c, big, seed, n, h3, _⟩ := S
  exact ⟨_, h3⟩
theorem St69.go {m m' : Nat} (h : St69 s g RL WL VL IL U rs vs) (S : Src s g m) (G : Go s g g' m') : St69 s g' RL WL VL IL U rs vs := h.upS G.1 fun x hx => by
  rw [List.mem_singleton.mp hx]
  obtain ⟨ds, hL⟩ := S.isL
  refine ⟨(List.nodup_cons.mp h.ndl).1, fun z => ?_, fun z => ?_⟩
  · obtain ⟨p, hp, e⟩ := List.mem_map.mp z
    obtain ⟨i, hi⟩ := List.mem_iff_getElem?.mp hp
    exact kind_ne2 hL (h.rd i p hi).ins e.symm
  · obtain ⟨p, hp, e⟩ := List.mem_map.mp z
    obtain ⟨i, hi⟩ := List.mem_iff_getElem?.mp hp
    obtain ⟨kvs, h1, _⟩ := (h.rd i p hi).dct
    exact kind_ne hL h1 e.symm
theorem map_set_same {α β : Type} {f : α → β} {l : List α} {i : Nat} {p q : α} (hi : l[i]? = some p) (e : f q = f p) : (l.set i q).map f = l.map f := by
  rw [List.map_set, e]
  refine List.ext_getElem? fun k => ?_
  by_cases hk : i = k
  · subst hk
    have hlt := (List.getElem?_eq_some_iff.mp hi).1
    rw [List.getElem?_set_self (by rw [List.length_map]; exact hlt), List.getElem?_map, hi]; rfl
  · rw [List.getElem?_set_ne hk]
theorem nodup_at {α β : Type} {f : α → β} {l : List α} (h : (l.map f).Nodup) {i j : Nat} {p q : α} (hi : l[i]? = some p) (hj : l[j]? = some q) (n : i ≠ j) : f p ≠ f q := fun e => by
  obtain ⟨h1, h2⟩ := List.getElem?_eq_some_iff.mp hi
  obtain ⟨h3, h4⟩ := List.getElem?_eq_some_iff.mp hj
  have := (List.getElem_inj (h₀ := by rw [List.length_map]; omega) (h₁ := by rw [List.length_map]; omega) h (i := i) (j := j)).mp (by rw [List.getElem_map, List.getElem_map, h2, h4]; exact e)
  exact n this
theorem St69.list_ne (h : St69 s g RL WL VL IL U rs vs) {i : Nat} {p : P69} (hi : rs[i]? = some p) : p.r ≠ RL ∧ p.r ≠ WL ∧ p.r ≠ VL ∧ p.r ≠ IL ∧ p.r ≠ s.L ∧ (∀ (j : Nat) v, vs[j]? = some v → p.r ≠ v.v) ∧ (∀ (j : Nat) q, j ≠ i → rs[j]? = some q → p.r ≠ q.r) := by
  have hm := List.mem_map.mpr ⟨p, List.mem_of_getElem? hi, (rfl : p.r = p.r)⟩
  have hn := h.ndl
  simp only [List.nodup_cons, List.mem_cons, List.mem_append, not_or] at hn
  obtain ⟨⟨_, _, _, _, a1, _⟩, ⟨_, _, _, a2, _⟩, ⟨_, _, a3, _⟩, ⟨_, a4, _⟩, ⟨a5, _⟩, a6⟩ := hn
  rw [List.nodup_append] at a6
  refine ⟨fun e => a2 (e ▸ hm), fun e => a3 (e ▸ hm), fun e => a4 (e ▸ hm), fun e => a5 (e ▸ hm), fun e => a1 (e ▸ hm), fun j v hj e => a6.2.2 _ hm _ (List.mem_map.mpr ⟨v, List.mem_of_getElem? hj, rfl⟩) e, fun j q hj hq e => nodup_at a6.1 hi hq (Ne.symm hj) e⟩
theorem St69.setD (h : St69 s g RL WL VL IL U rs vs) {i : Nat} {p : P69} (hi : rs[i]? = some p) (u : Up [p.d] g g') {ids : List Idn} (new : RdAt g' p.a p.d ids) : St69 s g' RL WL VL IL U (rs.set i { p with ids := ids }) vs := by
  obtain ⟨kvs, hd, _⟩ := (h.rd i p hi).dct
  have nl : ∀ {y ds}, g y = some (.lst ds) → y ∉ [p.d] := fun hy z => kind_ne hy hd (List.mem_singleton.mp z)
  refine ⟨u.1 _ _ (nl h.il) h.il, ?_, ?_, u.1 _ _ (nl h.vl) h.vl, fun j q hj => ?_, fun j q hj => ?_, fun j v hj => u.1 _ _ (nl (h.vw j v hj)) (h.vw j v hj), ?_, ?_, ?_⟩
  · rw [map_set_same (q := { p with ids := ids }) hi rfl]; exact u.1 _ _ (nl h.rl) h.rl
  · rw [map_set_same (q := { p with ids := ids }) hi rfl]; exact u.1 _ _ (nl h.wl) h.wl
  · rw [List.getElem?_set] at hj
    split at hj
    · split at hj
      · cases hj; exact new
      · cases hj
    · rename_i hn
      refine (h.rd j q hj).up u (fun z => ?_) fun z => ?_
      · have hz : q.a = p.d := List.mem_singleton.mp z
        have := (h.rd j q hj).ins
        rw [hz, hd] at this; cases this
      · exact nodup_at h.ndd hi hj hn (List.mem_singleton.mp z).symm
  · rw [List.getElem?_set] at hj
    split at hj
    · split at hj
      · cases hj; exact u.1 _ _ (nl (h.ro i p hi)) (h.ro i p hi)
      · cases hj
    · exact u.1 _ _ (nl (h.ro j q hj)) (h.ro j q hj)
  · rw [map_set_same (q := { p with ids := ids }) hi rfl]; exact h.nda
  · rw [map_set_same (q := { p with ids := ids }) hi rfl]; exact h.ndd
  · rw [map_set_same (q := { p with ids := ids }) hi rfl]; exact h.ndl
theorem St69.setR (h : St69 s g RL WL VL IL U rs vs) {i : Nat} {p : P69} (hi : rs[i]? = some p) (u : Up [p.r] g g') {row : List Idn} (new : g' p.r = some (.lst (row.map idD))) : St69 s g' RL WL VL IL U (rs.set i { p with row := row }) vs := by
  have hr := h.ro i p hi
  obtain ⟨n1, n2, n3, n4, n5, n6, n7⟩ := h.list_ne hi
  have nn : ∀ {y}, p.r ≠ y → y ∉ [p.r] := fun n z => n (List.mem_singleton.mp z).symm
  have hd : ∀ (j : Nat) q, rs[j]? = some q → RdAt g' q.a q.d q.ids := fun j q hj => (h.rd j q hj).up u (nn (kind_ne2 hr (h.rd j q hj).ins)) (nn (let ⟨kvs, h1, _⟩ := (h.rd j q hj).dct; kind_ne hr h1))
  refine ⟨u.1 _ _ (nn n4) h.il, ?_, ?_, u.1 _ _ (nn n3) h.vl, fun j q hj => ?_, fun j q hj => ?_, fun j v hj => u.1 _ _ (nn (n6 j v hj)) (h.vw j v hj), ?_, ?_, ?_⟩
  · rw [map_set_same (q := { p with row := row }) hi rfl]; exact u.1 _ _ (nn n1) h.rl
  · rw [map_set_same (q := { p with row := row }) hi rfl]; exact u.1 _ _ (nn n2) h.wl
  · rw [List.getElem?_set] at hj
    split at hj
    · split at hj
      · cases hj; exact hd i p hi
      · cases hj
    · exact hd j q hj
  · rw [List.getElem?_set] at hj
    split at hj
    · split at hj
      · cases hj; exact new
      · cases hj
    · rename_i hn
      exact u.1 _ _ (nn (n7 j q (Ne.symm hn) hj)) (h.ro j q hj)
  · rw [map_set_same (q := { p with row := row }) hi rfl]; exact h.nda
  · rw [map_set_same (q := { p with row := row }) hi rfl]; exact h.ndd
  · rw [map_set_same (q := { p with row := row }) hi rfl]; exact h.ndl
theorem St69.look (h : St69 s g RL WL VL IL U rs vs) {i : Nat} {p : P69} (hi : rs[i]? = some p) (u : Up [s.L, p.d, p.r] g g') {m : Nat} (S : Src s g m) {ids row : List Idn} (new : RdAt g' p.a p.d ids) (newr : g' p.r = some (.lst (row.map idD))) : St69 s g' RL WL VL IL U ((rs.set i { p with ids := ids }).set i { p with ids := ids, row := row }) vs := by
  -- in three steps: through states that have the one change alone
  obtain ⟨dsL, hL⟩ := S.isL
  obtain ⟨kvs, hd, _⟩ := (h.rd i p hi).dct
  have hr := h.ro i p hi
  obtain ⟨n1, n2, n3, n4, n5, n6, n7⟩ := h.list_ne hi
  obtain ⟨m1, _⟩ := List.nodup_cons.mp h.ndl
  have out : ∀ {y}, y ≠ s.L → y ≠ p.d → y ≠ p.r → y ∉ [s.L, p.d, p.r] := fun a b c z => by
    simp only [List.mem_cons, List.not_mem_nil, or_false] at z
    rcases z with z | z | z
    · exact a z
    · exact b z
    · exact c z
  have lst : ∀ {y ds}, g y = some (.lst ds) → y ≠ p.d := fun hy => kind_ne hy hd
  have mL : ∀ {y}, y ∈ RL :: WL :: VL :: IL :: (rs.map (·.r) ++ vs.map (·.v)) → y ≠ s.L := fun hy e => m1 (e ▸ hy)
  rw [List.set_set]
  refine ⟨u.1 _ _ (out (mL (by simp)) (lst h.il) (Ne.symm n4)) h.il, ?_, ?_, u.1 _ _ (out (mL (by simp)) (lst h.vl) (Ne.symm n3)) h.vl, fun j q hj => ?_, fun j q hj => ?_, fun j v hj => u.1 _ _ (out (mL ?_) (lst (h.vw j v hj)) (Ne.symm (n6 j v hj))) (h.vw j v hj), ?_, ?_, ?_⟩
  · rw [map_set_same (q := { p with ids := ids, row := row }) hi rfl]; exact u.1 _ _ (out (mL (by simp)) (lst h.rl) (Ne.symm n1)) h.rl
  · rw [map_set_same (q := { p with ids := ids, row := row }) hi rfl]; exact u.1 _ _ (out (mL (by simp)) (lst h.wl) (Ne.symm n2)) h.wl
  · rw [List.getElem?_set] at hj
    split at hj
    · split at hj
      · cases hj; exact new
      · cases hj
    · rename_i hn
      have hq := h.rd j q hj
      obtain ⟨kv2, hd2, _⟩ := hq.dct
      refine hq.up u (out (Ne.symm (kind_ne2 hL hq.ins)) (fun e => ?_) (Ne.symm (kind_ne2 hr hq.ins))) (out (Ne.symm (kind_ne hL hd2)) (Ne.symm (nodup_at h.ndd hi hj hn)) (Ne.symm (kind_ne hr hd2)))
      have := hq.ins
      rw [e, hd] at this; cases this
  · rw [List.getElem?_set] at hj
    split at hj
    · split at hj
      · cases hj; exact newr
      · cases hj
    · rename_i hn
      have hq := h.ro j q hj
      exact u.1 _ _ (out (mL (by simp only [List.mem_cons, List.mem_append]; exact .inr (.inr (.inr (.inr (.inl (List.mem_map.mpr ⟨q, List.mem_of_getElem? hj, rfl⟩))))))) (lst hq) (Ne.symm (n7 j q (Ne.symm hn) hj))) hq
  · simp only [List.mem_cons, List.mem_append]
    exact .inr (.inr (.inr (.inr (.inr (List.mem_map.mpr ⟨v, List.mem_of_getElem? hj, rfl⟩)))))
  · rw [map_set_same (q := { p with ids := ids, row := row }) hi rfl]; exact h.nda
  · rw [map_set_same (q := { p with ids := ids, row := row }) hi rfl]; exact h.ndd
  · rw [map_set_same (q := { p with ids := ids, row := row }) hi rfl]; exact h.ndl
theorem St69.view_ne (h : St69 s g RL WL VL IL U rs vs) {i : Nat} {v : V69} (hi : vs[i]? = some v) : v.v ≠ RL ∧ v.v ≠ WL ∧ v.v ≠ VL ∧ v.v ≠ IL ∧ v.v ≠ s.L ∧ (∀ (j : Nat) p, rs[j]? = some p → v.v ≠ p.r) ∧ (∀ (j : Nat) q, j ≠ i → vs[j]? = some q → v.v ≠ q.v) := by
  have hm := List.mem_map.mpr ⟨v, List.mem_of_getElem? hi, (rfl : v.v = v.v)⟩
  have hn := h.ndl
  simp only [List.nodup_cons, List.mem_cons, List.mem_append, not_or] at hn
  obtain ⟨⟨_, _, _, _, _, a1⟩, ⟨_, _, _, _, a2⟩, ⟨_, _, _, a3⟩, ⟨_, _, a4⟩, ⟨_, a5⟩, a6⟩ := hn
  rw [List.nodup_append] at a6
  refine ⟨fun e => a2 (e ▸ hm), fun e => a3 (e ▸ hm), fun e => a4 (e ▸ hm), fun e => a5 (e ▸ hm), fun e => a1 (e ▸ hm), fun j p hj e => a6.2.2 _ (List.mem_map.mpr ⟨p, List.mem_of_getElem? hj, rfl⟩) _ hm e.symm, fun j q hj hq e => nodup_at a6.2.1 hi hq (Ne.symm hj) e⟩
theorem St69.setV (h : St69 s g RL WL VL IL U rs vs) {i : Nat} {v : V69} (hi : vs[i]? = some v) (u : Up [v.v] g g') {ps : List PrR} (new : g' v.v = some (.lst (ps.map prD))) : St69 s g' RL WL VL IL U rs (vs.set i { v with ps := ps }) := by
  have hr := h.vw i v hi
  obtain ⟨n1, n2, n3, n4, n5, n6, n7⟩ := h.view_ne hi
  have nn : ∀ {y}, v.v ≠ y → y ∉ [v.v] := fun n z => n (List.mem_singleton.mp z).symm
  refine ⟨u.1 _ _ (nn n4) h.il, u.1 _ _ (nn n1) h.rl, u.1 _ _ (nn n2) h.wl, ?_, fun j q hj => ?_, fun j q hj => ?_, fun j q hj => ?_, h.nda, h.ndd, ?_⟩
  · rw [map_set_same (q := { v with ps := ps }) hi rfl]; exact u.1 _ _ (nn n3) h.vl
  · exact (h.rd j q hj).up u (nn (kind_ne2 hr (h.rd j q hj).ins)) (nn (let ⟨kvs, h1, _⟩ := (h.rd j q hj).dct; kind_ne hr h1))
  · exact u.1 _ _ (nn (n6 j q hj)) (h.ro j q hj)
  · rw [List.getElem?_set] at hj
    split at hj
    · split at hj
      · cases hj; exact new
      · cases hj
    · rename_i hn
      exact u.1 _ _ (nn (n7 j q (Ne.symm hn) hj)) (h.vw j q hj)
  · rw [map_set_same (q := { v with ps := ps }) hi rfl]; exact h.ndl
end
end DL


namespace CK69
open PySem DL
open L2 (atI atI_nat)
/-- .law.mix(seed, turn): 0 seed, 1 turn, 2 number -/
abbrev N_Lmix : List Str := ["seed", "turn", "number"]
theorem st0_Lmix (a0 a1 : D) : dstart N_Lmix [a0, a1] = [some a0, some a1, none] := rfl
def w_Lmix : DTS := (dSeq (dAsg (dOp modD (dCB intF (dCons (dOp addD (dOp addD (dOp mulD (dVar 0) (dC (.int 48271))) (dOp mulD (dVar 1) (dC (.int 69621)))) (dC (.int 11))) dNil)) (dC (.int 2147483647))) (gNm 2))
  (dSeq (dAsg (dOp modD (dCB intF (dCons (dOp addD (dOp addD (dOp mulD (dVar 2) (dVar 2)) (dOp mulD (dVar 1) (dC (.int 16807)))) (dC (.int 7))) dNil)) (dC (.int 2147483629))) (gNm 2))
  (dSeq (dAsg (dOp modD (dCB intF (dCons (dOp addD (dOp addD (dOp mulD (dVar 2) (dC (.int 40692))) (dOp mulD (dOp mulD (dVar 1) (dVar 1)) (dC (.int 30269)))) (dC (.int 5))) dNil)) (dC (.int 2147483399))) (gNm 2))
  (dRet (dVar 2)))))
def sp_Lmix : DSp := fun ds g Q => match ds with
  | [.int seed, .int turn] => 0 ≤ seed ∧ seed < 8589934592 ∧ 0 ≤ turn ∧ turn < 2199023255552 ∧ ∀ v : Int, 0 ≤ v → v < 2147483399 → Q (.int v) g
  | _ => False
theorem len_Lmix : ∀ ds g Q, sp_Lmix ds g Q → ds.length = 2 := fun ds g Q h => by
  unfold sp_Lmix at h; split at h <;> first | rfl | exact h.elim
theorem rd_Lmix : ∀ ds g Q, sp_Lmix ds g Q → w_Lmix { nx := fun _ g => Q .non g, rt := Q } (dstart N_Lmix ds) g := fun ds g Q h => by
  unfold sp_Lmix at h; split at h
  case h_2 => exact h.elim
  obtain ⟨h1, h2, h3, h4, q⟩ := h
  rename_i seed turn
  rw [st0_Lmix]
  unfold w_Lmix
  walk_at "go"
  refine q _ ?_ ?_
  · omega
  · omega

/-- .law.source(script): 0 script, 1 seed, 2 k -/
abbrev N_Lsource : List Str := ["script", "seed", "k"]
theorem st0_Lsource (a0 : D) : dstart N_Lsource [a0] = [some a0, none, none] := rfl
def w_Lsource : DTS := (dSeq (dAsg (dC (.int 17)) (gNm 1))
  (dSeq (dFor (iRa1 (dCB lenD (dCons (dVar 0) dNil))) (gNm 2) (dAsg (dCall sp_Lmix [] (dCons (dOp addD (dVar 1) (dOp modD (dCB intF (dCons (dOp ixD (dVar 0) (dVar 2)) dNil)) (dC (.int 2147483647)))) (dCons (dVar 2) dNil))) (gNm 1)))
  (dRet (dLst (dCons (dCB lstF (dCons (dVar 0) dNil)) (dCons (dC (.int 0)) (dCons (dC (.int 0)) (dCons (dVar 1) (dCons (dC (.int 0)) dNil)))))))))
def sp_Lsource : DSp := fun ds g Q => match ds with
  | [.klst xs] => ∃ ns : List Int, xs = ns.map D.int ∧ ns.length ≤ 63 ∧ ∀ s g', s.ns = ns → Up [] g g' → Src s g' 0 → g s.L = none → g s.L0 = none → Q (.ref s.L) g'
  | _ => False
theorem len_Lsource : ∀ ds g Q, sp_Lsource ds g Q → ds.length = 1 := fun ds g Q h => by
  unfold sp_Lsource at h; split at h <;> first | rfl | exact h.elim
theorem rd_Lsource : ∀ ds g Q, sp_Lsource ds g Q → w_Lsource { nx := fun _ g => Q .non g, rt := Q } (dstart N_Lsource ds) g := fun ds g Q h => by
  unfold sp_Lsource at h; split at h
  case h_2 => exact h.elim
  obtain ⟨ns, rfl, hn, q⟩ := h
  rw [st0_Lsource]
  unfold w_Lsource
  walk_at "go"
  refine v_lenK ?_
  refine ⟨_, rfl, by omega, by rw [List.length_map]; omega, ?_⟩
  refine ⟨fun i e g' => g' = g ∧ ∃ sd x, e = [some (.klst (ns.map D.int)), some (.int sd), x] ∧ 0 ≤ sd ∧ sd < 2147483647, ⟨rfl, 17, none, rfl, by omega, by omega⟩, fun _ _ _ _ _ => trivial, ?_, ?_⟩
  · rintro i d e g' hd ⟨rfl, sd, x, rfl, b1, b2⟩
    obtain ⟨hi, rfl⟩ := ran_get hd
    have hi2 : i < ns.length := by rw [List.length_map] at hi; omega
    walk_at "go"
    refine v_ixK (atI_map (atI_at (List.getElem?_eq_getElem hi2))) ?_
    · walk_at "go"
      refine ⟨by omega, by omega, by omega, by omega, fun v v1 v2 => ?_⟩
      walk_at "go"
      exact ⟨rfl, v, _, rfl, v1, by omega⟩
  · rintro e g' ⟨rfl, sd, x, rfl, b1, b2⟩
    walk_at "go"
    refine v_lstK fun p hp => ?_
    walk_at "go"
    refine ⟨by rw [szl]; simp, fun p2 hp2 => ?_⟩
    have n12 : p ≠ p2 := fun z => by rw [← z, gup_same] at hp2; cases hp2
    have f2 : g' p2 = none := (Up.new (S := []) (o := .lst (ns.map D.int)) hp).fresh hp2
    exact q ⟨p2, p, ns⟩ _ rfl ((Up.new hp).trans (.new hp2)) ⟨by rw [gup_ne n12, gup_same], ⟨n12, hn⟩, 0, 0, sd, 0, by rw [gup_same], by omega, by omega, b1, b2, by omega, by omega⟩ f2 hp

/-- .law.draw(source, many): 0 source, 1 many, 2 cell, 3 value -/
abbrev N_Ldraw : List Str := ["source", "many", "cell", "value"]
theorem st0_Ldraw (a0 a1 : D) : dstart N_Ldraw [a0, a1] = [some a0, some a1, none, none] := rfl
def w_Ldraw : DTS := (dSeq (dIf (dAnd (dTest (dOp eqD (dOp ixD (dVar 0) (dC (.int 2))) (dC (.int 0)))) (dAnd (dTest (dOp ltD (dOp ixD (dVar 0) (dC (.int 1))) (dCB lenD (dCons (dOp ixD (dVar 0) (dC (.int 0))) dNil)))) (dTest (dOp eqD (dOp modD (dCB intF (dCons (dOp ixD (dVar 0) (dC (.int 4))) dNil)) (dC (.int 6))) (dC (.int 0)))))) (dSeq (dAsg (dOp ixD (dOp ixD (dVar 0) (dC (.int 0))) (dOp ixD (dVar 0) (dC (.int 1)))) (gNm 2))
  (dSeq (dAsg (dOp addD (dOp ixD (dVar 0) (dC (.int 1))) (dC (.int 1))) (gSb (dVar 0) (dC (.int 1))))
  (dIf (dTest (dOp geD (dCB absD (dCons (dVar 2) dNil)) (dOp powD (dC (.int 10)) (dC (.int 18))))) (dAsg (dOp andD (dCB absD (dCons (dVar 2) dNil)) (dOp subD (dOp shlD (dC (.int 1)) (dC (.int 12800))) (dC (.int 1)))) (gSb (dVar 0) (dC (.int 2)))) (dAsg (dCall sp_Lmix [] (dCons (dOp addD (dOp ixD (dVar 0) (dC (.int 3))) (dOp modD (dCB intF (dCons (dVar 2) dNil)) (dC (.int 2147483647)))) (dCons (dOp ixD (dVar 0) (dC (.int 1))) dNil))) (gSb (dVar 0) (dC (.int 3))))))) dNext)
  (dSeq (dIf (dTest (dOp gtD (dOp ixD (dVar 0) (dC (.int 2))) (dC (.int 0)))) (dSeq (dAsg (dOp modD (dCB intF (dCons (dOp ixD (dVar 0) (dC (.int 2))) dNil)) (dVar 1)) (gNm 3))
  (dSeq (dAsg (dOp fdivD (dCB intF (dCons (dOp ixD (dVar 0) (dC (.int 2))) dNil)) (dVar 1)) (gSb (dVar 0) (dC (.int 2))))
  (dRet (dVar 3)))) dNext)
  (dSeq (dAsg (dOp addD (dOp ixD (dVar 0) (dC (.int 4))) (dC (.int 1))) (gSb (dVar 0) (dC (.int 4))))
  (dRet (dOp modD (dCB intF (dCons (dOp fdivD (dCall sp_Lmix [] (dCons (dOp ixD (dVar 0) (dC (.int 3))) (dCons (dOp ixD (dVar 0) (dC (.int 4))) dNil))) (dC (.int 5))) dNil)) (dVar 1))))))
def sp_Ldraw : DSp := fun ds g Q => match ds with
  | [.ref L, .int k] => ∃ s m, s.L = L ∧ Src s g m ∧ m < 1099511627776 ∧ 0 < k ∧ k < 1073741824 ∧ ∀ (v : Int) g', 0 ≤ v → v < k → Go s g g' (m + 1) → Q (.int v) g'
  | _ => False
theorem len_Ldraw : ∀ ds g Q, sp_Ldraw ds g Q → ds.length = 2 := fun ds g Q h => by
  unfold sp_Ldraw at h; split at h <;> first | rfl | exact h.elim
theorem Ldraw_end {L : Addr} {k : Int} {s : SI} {g g' : GS} {Q : DK} {m : Nat} {c : Int} {cl : Option D} (L0 : Addr) (big seed n : Int) (hL0 : s.L0 = L0) (hL : s.L = L) (hu : Up [L] g g') (n0 : L0 ≠ L) (n63 : s.ns.length ≤ 63) (h0 : g' L0 = some (.lst (s.ns.map D.int)))
    (h : g' L = some (.lst [.ref L0, .int c, .int big, .int seed, .int n])) (b1 : 0 ≤ c) (b2 : 0 ≤ big) (b3 : 0 ≤ seed) (b4 : seed < 2147483647) (b5 : 0 ≤ n) (b6 : n ≤ m) (hm : m < 1099511627776) (hk : 0 < k) (hk2 : k < 1073741824)
    (q : ∀ (v : Int) g', 0 ≤ v → v < k → Go s g g' (m + 1) → Q (.int v) g') :
    dSeq (dIf (dTest (dOp gtD (dOp ixD (dVar 0) (dC (.int 2))) (dC (.int 0)))) (dSeq (dAsg (dOp modD (dCB intF (dCons (dOp ixD (dVar 0) (dC (.int 2))) dNil)) (dVar 1)) (gNm 3))
      (dSeq (dAsg (dOp fdivD (dCB intF (dCons (dOp ixD (dVar 0) (dC (.int 2))) dNil)) (dVar 1)) (gSb (dVar 0) (dC (.int 2)))) (dRet (dVar 3)))) dNext)
      (dSeq (dAsg (dOp addD (dOp ixD (dVar 0) (dC (.int 4))) (dC (.int 1))) (gSb (dVar 0) (dC (.int 4))))
        (dRet (dOp modD (dCB intF (dCons (dOp fdivD (dCall sp_Lmix [] (dCons (dOp ixD (dVar 0) (dC (.int 3))) (dCons (dOp ixD (dVar 0) (dC (.int 4))) dNil))) (dC (.int 5))) dNil)) (dVar 1)))) { nx := fun _ g => Q .non g, rt := Q } [some (.ref L), some (.int k), cl, none] g' := by
  subst hL0 hL
  walk_at "go"
  refine iteD (fun hb => ?_) (fun hb => ?_)
  · walk_at "go"
    refine v_set h rfl ?_
    walk_at "go"
    refine q _ _ (Int.emod_nonneg _ (by omega)) (Int.emod_lt_of_pos _ hk) ⟨hu.ins (List.mem_singleton.mpr rfl), by rw [gup_ne n0]; exact h0, ⟨n0, n63⟩, c, big / k, seed, n, by rw [gup_same]; rfl, b1, Int.ediv_nonneg b2 (by omega), b3, b4, b5, by omega⟩
  · walk_at "go"
    refine v_set h rfl ?_
    walk_at "go"
    have h2 : gup g' s.L (.lst ([.ref s.L0, .int c, .int big, .int seed, .int n].set 4 (.int (n + 1)))) s.L = some (.lst [.ref s.L0, .int c, .int big, .int seed, .int (n + 1)]) := by rw [gup_same]; rfl
    walk_at "go"
    refine ⟨b3, by omega, by omega, by omega, fun v v1 v2 => ?_⟩
    walk_at "go"
    refine q _ _ (Int.emod_nonneg _ (by omega)) (Int.emod_lt_of_pos _ hk) ⟨hu.ins (List.mem_singleton.mpr rfl), by rw [gup_ne n0]; exact h0, ⟨n0, n63⟩, c, big, seed, n + 1, h2, b1, b2, b3, b4, by omega, by omega⟩
theorem rd_Ldraw : ∀ ds g Q, sp_Ldraw ds g Q → w_Ldraw { nx := fun _ g => Q .non g, rt := Q } (dstart N_Ldraw ds) g := fun ds g Q h => by
  unfold sp_Ldraw at h; split at h
  case h_2 => exact h.elim
  obtain ⟨s, m, hL, hS, hm, hk, hk2, q⟩ := h
  rename_i L k
  subst hL
  obtain ⟨h0, ⟨n0, n63⟩, c, big, seed, n, h, b1, b2, b3, b4, b5, b6⟩ := hS
  rw [st0_Ldraw]
  unfold w_Ldraw
  have fin : ∀ g' c big seed cl, Up [s.L] g g' → g' s.L0 = some (.lst (s.ns.map D.int)) → g' s.L = some (.lst [.ref s.L0, .int c, .int big, .int seed, .int n]) → 0 ≤ c → 0 ≤ big → 0 ≤ seed → seed < 2147483647 → _ :=
    fun g' c big seed cl hu h0 h b1 b2 b3 b4 => Ldraw_end (cl := cl) (k := k) s.L0 big seed n rfl rfl hu n0 n63 h0 h b1 b2 b3 b4 b5 b6 hm hk hk2 q
  walk_at "go"
  refine iteD (fun e1 => ?_) (fun _ => ?_)
  · walk_at "go"
    refine iteD (fun e2 => ?_) (fun _ => ?_)
    · walk_at "go"
      refine iteD (fun e3 => ?_) (fun _ => ?_)
      · walk_at "go"
        rw [List.length_map] at e2
        obtain ⟨cell, _, hcell⟩ := atI_ex (xs := s.ns) b1 e2
        refine v_ixL h0 (atI_map hcell) ?_
        walk_at "go"
        refine v_set h rfl ?_
        walk_at "go"
        have h1 : gup g s.L (.lst ([.ref s.L0, .int c, .int big, .int seed, .int n].set 1 (.int (c + 1)))) s.L = some (.lst [.ref s.L0, .int (c + 1), .int big, .int seed, .int n]) := by rw [gup_same]; rfl
        have h10 : gup g s.L (.lst ([.ref s.L0, .int c, .int big, .int seed, .int n].set 1 (.int (c + 1)))) s.L0 = some (.lst (s.ns.map D.int)) := by rw [gup_ne n0]; exact h0
        refine v_pow ⟨by omega, by omega, by decide⟩ ?_
        walk_at "go"
        refine iteD (fun e4 => ?_) (fun _ => ?_)
        · walk_at "go"
          refine v_shl ⟨by omega, by omega, by decide⟩ ?_
          walk_at "go"
          refine v_set h1 rfl ?_
          refine fin _ (c + 1) (Builtin.bitAnd (if cell < 0 then -cell else cell) (1 * 2 ^ (12800 : Int).toNat - 1)) seed _ ((Up.refl.ins (List.mem_singleton.mpr rfl)).ins (List.mem_singleton.mpr rfl)) ?_ (by rw [gup_same]; rfl) (by omega) ?_ b3 b4
          · rw [gup_ne n0]; exact h10
          · exact bAnd_nn (by split <;> omega) (mask_nn _)
        · walk_at "go"
          refine ⟨by omega, by omega, by omega, by omega, fun v v1 v2 => ?_⟩
          walk_at "go"
          refine v_set h1 rfl ?_
          refine fin _ (c + 1) big v _ ((Up.refl.ins (List.mem_singleton.mpr rfl)).ins (List.mem_singleton.mpr rfl)) ?_ (by rw [gup_same]; rfl) (by omega) b2 v1 (by omega)
          rw [gup_ne n0]; exact h10
      · refine DL.s_next ?_
        exact fin g c big seed none .refl h0 h b1 b2 b3 b4
    · refine iteB (fun z => by cases z) (fun _ => ?_)
      refine DL.s_next ?_
      exact fin g c big seed none .refl h0 h b1 b2 b3 b4
  · refine iteB (fun z => by cases z) (fun _ => ?_)
    refine DL.s_next ?_
    exact fin g c big seed none .refl h0 h b1 b2 b3 b4

/-- .law.pick(source, row): 0 source, 1 row -/
abbrev N_Lpick : List Str := ["source", "row"]
theorem st0_Lpick (a0 a1 : D) : dstart N_Lpick [a0, a1] = [some a0, some a1] := rfl
def w_Lpick : DTS := (dRet (dOp ixD (dVar 1) (dCall sp_Ldraw [] (dCons (dVar 0) (dCons (dCB lenD (dCons (dVar 1) dNil)) dNil)))))
def sp_Lpick : DSp := fun ds g Q => match ds with
  | [.ref L, .ref p] => ∃ s m, ∃ xs : List D, s.L = L ∧ Src s g m ∧ m < 1000000000000 ∧ g p = some (.lst xs) ∧ p ≠ s.L ∧ xs ≠ [] ∧ xs.length < 1073741824 ∧ ∀ d g', d ∈ xs → Go s g g' (m + 1) → Q d g'
  | [.ref L, .tup xs] => ∃ s m, s.L = L ∧ Src s g m ∧ m < 1000000000000 ∧ xs ≠ [] ∧ xs.length < 1073741824 ∧ ∀ d g', d ∈ xs → Go s g g' (m + 1) → Q d g'
  | [.ref L, .str z] => ∃ s m, s.L = L ∧ Src s g m ∧ m < 1000000000000 ∧ TL.tl z ≠ [] ∧ (TL.tl z).length < 10000000 ∧ ∀ (c : Nat) g', c ∈ TL.tl z → Go s g g' (m + 1) → Q (.str (mk [c])) g'
  | _ => False
theorem len_Lpick : ∀ ds g Q, sp_Lpick ds g Q → ds.length = 2 := fun ds g Q h => by
  unfold sp_Lpick at h; split at h <;> first | rfl | exact h.elim
theorem rd_Lpick : ∀ ds g Q, sp_Lpick ds g Q → w_Lpick { nx := fun _ g => Q .non g, rt := Q } (dstart N_Lpick ds) g := fun ds g Q h => by
  unfold sp_Lpick at h; split at h
  · obtain ⟨s, m, xs, rfl, hS, hm, hp, np, hx, hl, q⟩ := h
    rename_i p
    have hpos := List.length_pos_iff.mpr hx
    rw [st0_Lpick]
    unfold w_Lpick
    walk_at "go"
    refine ⟨s, m, rfl, hS, by omega, by omega, by omega, fun v g1 a1 a2 G1 => ?_⟩
    obtain ⟨d, hd, hat⟩ := atI_ex a1 a2
    exact v_ixL (G1.get np hp) hat (q d g1 hd G1)
  · obtain ⟨s, m, rfl, hS, hm, hx, hl, q⟩ := h
    rename_i xs
    have hpos := List.length_pos_iff.mpr hx
    rw [st0_Lpick]
    unfold w_Lpick
    walk_at "go"
    refine ⟨s, m, rfl, hS, by omega, by omega, by omega, fun v g1 a1 a2 G1 => ?_⟩
    obtain ⟨d, hd, hat⟩ := atI_ex a1 a2
    exact v_ixT hat (q d g1 hd G1)
  · obtain ⟨s, m, rfl, hS, hm, hx, hl, q⟩ := h
    rename_i z
    have hpos := List.length_pos_iff.mpr hx
    rw [st0_Lpick]
    unfold w_Lpick
    walk_at "go"
    have e0 : z.length = (TL.tl z).length := TL.len_tl z
    refine v_lenS (by rw [szl]; omega) ?_
    walk_at "go"
    refine ⟨s, m, rfl, hS, by omega, by omega, by omega, fun v g1 a1 a2 G1 => ?_⟩
    obtain ⟨c, hc, hat⟩ := atI_ex (xs := z.cps.toList) a1 (by rw [e0] at a2; exact a2)
    exact v_ixS (by rw [szl]; omega) hat (q c g1 hc G1)
  · exact h.elim

/-- .law.shuffled(source, row): 0 source, 1 row, 2 left, 3 done, 4 k -/
abbrev N_Lshuffled : List Str := ["source", "row", "left", "done", "k"]
theorem st0_Lshuffled (a0 a1 : D) : dstart N_Lshuffled [a0, a1] = [some a0, some a1, none, none, none] := rfl
def w_Lshuffled : DTS := (dSeq (dAsg (dCB lstF (dCons (dVar 1) dNil)) (gNm 2))
  (dSeq (dAsg (dLst dNil) (gNm 3))
  (dSeq (dFor (iRa1 (dCB lenD (dCons (dVar 1) dNil))) (gNm 4) (dDrop (dBM "list" appD (dVar 3) (dCons (dBM "list" popD (dVar 2) (dCons (dCall sp_Ldraw [] (dCons (dVar 0) (dCons (dCB lenD (dCons (dVar 2) dNil)) dNil))) dNil)) dNil))))
  (dRet (dVar 3)))))
def sp_Lshuffled : DSp := fun ds g Q => match ds with
  | [.ref L, .ref P] => ∃ s m, ∃ xs : List D, s.L = L ∧ Src s g m ∧ m < 700000000000 ∧ g P = some (.lst xs) ∧ P ≠ s.L ∧ xs.length ≤ 100000 ∧ ∀ (ys : List D) p g', ys.Perm xs → g p = none → Go s g g' (m + 200000) → g' p = some (.lst ys) → Q (.ref p) g'
  | [.ref L, .tup xs] => ∃ s m, s.L = L ∧ Src s g m ∧ m < 700000000000 ∧ xs.length ≤ 100000 ∧ ∀ (ys : List D) p g', ys.Perm xs → g p = none → Go s g g' (m + 200000) → g' p = some (.lst ys) → Q (.ref p) g'
  | _ => False
theorem len_Lshuffled : ∀ ds g Q, sp_Lshuffled ds g Q → ds.length = 2 := fun ds g Q h => by
  unfold sp_Lshuffled at h; split at h <;> first | rfl | exact h.elim
theorem rd_Lshuffled : ∀ ds g Q, sp_Lshuffled ds g Q → w_Lshuffled { nx := fun _ g => Q .non g, rt := Q } (dstart N_Lshuffled ds) g := fun ds g Q h => by
  unfold sp_Lshuffled at h; split at h
  · obtain ⟨s, m, xs, rfl, hS, hm, hP, nP, hn, q⟩ := h
    rename_i P
    rw [st0_Lshuffled]
    unfold w_Lshuffled
    walk_at "go"
    refine v_lstL hP fun A hA => ?_
    have nPA : P ≠ A := fun z => by rw [z, hA] at hP; cases hP
    have nA := hS.neL hA
    walk_at "go"
    refine ⟨by rw [szl]; simp, fun B hB => ?_⟩
    have hB0 : g B = none := (Up.new (S := []) (o := .lst xs) hA).fresh hB
    have nAB : A ≠ B := fun z => by rw [← z, gup_same] at hB; cases hB
    have nPB : P ≠ B := fun z => by rw [z, hB0] at hP; cases hP
    have nB := hS.neL hB0
    walk_at "go"
    refine v_lenL (by rw [gup_ne nPB, gup_ne nPA]; exact hP) ?_
    walk_at "go"
    have G0 := ((Go.start hS).new (o := .lst xs) hA).new (o := .lst []) hB
    refine ⟨fun i e g' => ∃ (us vs : List D), ∃ x, e = [some (.ref s.L), some (.ref P), some (.ref A), some (.ref B), x] ∧ us.length + i = xs.length ∧ vs.length = i ∧ (us ++ vs).Perm xs ∧ Go s g g' (m + i) ∧ g' A = some (.lst us) ∧ g' B = some (.lst vs),
      ⟨xs, [], _, rfl, by simp, rfl, by simp, G0, by rw [gup_ne nAB, gup_same], gup_same⟩, fun _ _ _ _ _ => trivial, ?_, ?_⟩
    · rintro i d e g' hd ⟨us, vs, x, rfl, h1, h2, hp, G, hgA, hgB⟩
      obtain ⟨hi, rfl⟩ := ran_get hd
      walk_at "go"
      refine v_rcvL hgB ?_
      walk_at "go"
      refine v_rcvL hgA ?_
      walk_at "go"
      refine ⟨s, _, rfl, G.2, by omega, by omega, by omega, fun v g2 a1 a2 G2 => ?_⟩
      have hgA2 := G2.get nA hgA
      have hgB2 := G2.get nB hgB
      have hv : v.toNat < us.length := by omega
      walk_at "go"
      refine v_popAt hgA2 a1 (by omega) (List.getElem?_eq_getElem hv) ?_
      walk_at "go"
      refine v_app' (ds := vs) (by rw [gup_ne nAB.symm]; exact hgB2) (by rw [szl]; omega) ?_
      walk_at "go"
      refine ⟨us.eraseIdx v.toNat, vs ++ [us[v.toNat]], _, rfl, by rw [List.length_eraseIdx_of_lt hv]; omega, by rw [List.length_append, List.length_singleton, h2], ?_, ((((G.trans G2).mut hA hS).mut hB0 hS)).le (by omega), by rw [gup_ne nAB, gup_same], gup_same⟩
      refine List.Perm.trans ?_ hp
      have e1 : us.Perm (us[v.toNat] :: us.eraseIdx v.toNat) := (perm_erase us v.toNat hv).symm
      refine List.Perm.trans ?_ (List.Perm.append_right vs e1.symm)
      rw [← List.append_assoc]
      exact (List.perm_append_singleton _ _).trans (by rw [List.cons_append])
    · rintro e g' ⟨us, vs, x, rfl, h1, h2, hp, G, hgA, hgB⟩
      rw [ran_len] at h1 h2 G
      have hu : us = [] := List.length_eq_zero_iff.mp (by omega)
      subst hu
      walk_at "go"
      exact q vs B g' hp hB0 (G.le (by omega)) hgB
  · obtain ⟨s, m, rfl, hS, hm, hn, q⟩ := h
    rename_i xs
    rw [st0_Lshuffled]
    unfold w_Lshuffled
    walk_at "go"
    intro A hA
    have nA := hS.neL hA
    walk_at "go"
    refine ⟨by rw [szl]; simp, fun B hB => ?_⟩
    have hB0 : g B = none := (Up.new (S := []) (o := .lst xs) hA).fresh hB
    have nAB : A ≠ B := fun z => by rw [← z, gup_same] at hB; cases hB
    have nB := hS.neL hB0
    walk_at "go"
    have G0 := ((Go.start hS).new (o := .lst xs) hA).new (o := .lst []) hB
    refine ⟨fun i e g' => ∃ (us vs : List D), ∃ x, e = [some (.ref s.L), some (.tup xs), some (.ref A), some (.ref B), x] ∧ us.length + i = xs.length ∧ vs.length = i ∧ (us ++ vs).Perm xs ∧ Go s g g' (m + i) ∧ g' A = some (.lst us) ∧ g' B = some (.lst vs),
      ⟨xs, [], _, rfl, by simp, rfl, by simp, G0, by rw [gup_ne nAB, gup_same], gup_same⟩, fun _ _ _ _ _ => trivial, ?_, ?_⟩
    · rintro i d e g' hd ⟨us, vs, x, rfl, h1, h2, hp, G, hgA, hgB⟩
      obtain ⟨hi, rfl⟩ := ran_get hd
      walk_at "go"
      refine v_rcvL hgB ?_
      walk_at "go"
      refine v_rcvL hgA ?_
      walk_at "go"
      refine ⟨s, _, rfl, G.2, by omega, by omega, by omega, fun v g2 a1 a2 G2 => ?_⟩
      have hgA2 := G2.get nA hgA
      have hgB2 := G2.get nB hgB
      have hv : v.toNat < us.length := by omega
      walk_at "go"
      refine v_popAt hgA2 a1 (by omega) (List.getElem?_eq_getElem hv) ?_
      walk_at "go"
      refine v_app' (ds := vs) (by rw [gup_ne nAB.symm]; exact hgB2) (by rw [szl]; omega) ?_
      walk_at "go"
      refine ⟨us.eraseIdx v.toNat, vs ++ [us[v.toNat]], _, rfl, by rw [List.length_eraseIdx_of_lt hv]; omega, by rw [List.length_append, List.length_singleton, h2], ?_, ((((G.trans G2).mut hA hS).mut hB0 hS)).le (by omega), by rw [gup_ne nAB, gup_same], gup_same⟩
      refine List.Perm.trans ?_ hp
      have e1 : us.Perm (us[v.toNat] :: us.eraseIdx v.toNat) := (perm_erase us v.toNat hv).symm
      refine List.Perm.trans ?_ (List.Perm.append_right vs e1.symm)
      rw [← List.append_assoc]
      exact (List.perm_append_singleton _ _).trans (by rw [List.cons_append])
    · rintro e g' ⟨us, vs, x, rfl, h1, h2, hp, G, hgA, hgB⟩
      rw [ran_len] at h1 h2 G
      have hu : us = [] := List.length_eq_zero_iff.mp (by omega)
      subst hu
      walk_at "go"
      exact q vs B g' hp hB0 (G.le (by omega)) hgB
  · exact h.elim

/-- .law.new.name(source, used): 0 source, 1 used, 2 letters, 3 size, 4 name, 5 k, 6 tried -/
abbrev N_Lnew_name : List Str := ["source", "used", "letters", "size", "name", "k", "tried"]
theorem st0_Lnew_name (a0 a1 : D) : dstart N_Lnew_name [a0, a1] = [some a0, some a1, none, none, none, none, none] := rfl
def w_Lnew_name : DTS := (dSeq (dAsg (dC (.str "abcdefghijklmnopqrstuvwxyz")) (gNm 2))
  (dSeq (dAsg (dOp addD (dC (.int 1)) (dCall sp_Ldraw [] (dCons (dVar 0) (dCons (dC (.int 5)) dNil)))) (gNm 3))
  (dSeq (dAsg (dOp ixD (dVar 2) (dCall sp_Ldraw [] (dCons (dVar 0) (dCons (dC (.int 26)) dNil)))) (gNm 4))
  (dSeq (dFor (iRa1 (dOp subD (dVar 3) (dC (.int 1)))) (gNm 5) (dAsg (dOp addD (dVar 4) (dOp ixD (dOp addD (dVar 2) (dC (.str "0123456789"))) (dCall sp_Ldraw [] (dCons (dVar 0) (dCons (dC (.int 36)) dNil))))) (gNm 4)))
  (dSeq (dFor (iRa1 (dOp addD (dCB lenD (dCons (dVar 1) dNil)) (dC (.int 1)))) (gNm 5) (dSeq (dAsg (dOp addD (dVar 4) (dOp ixD (dLst (dCons (dC (.str "")) (dCons (dCB strF (dCons (dVar 5) dNil)) dNil))) (dCB intF (dCons (dOp gtD (dVar 5) (dC (.int 0))) dNil)))) (gNm 6))
  (dIf (dTest (dOp notInD (dVar 6) (dVar 1))) (dRet (dVar 6)) dNext)))
  (dRet (dVar 4)))))))
def sp_Lnew_name : DSp := fun ds g Q => match ds with
  | [.ref L, .ref U] => ∃ s m, ∃ us : List Str, s.L = L ∧ Src s g m ∧ m < 1000000000000 ∧ g U = some (.lst (us.map D.str)) ∧ us.length < 100 ∧ ∀ (nm : Str) g', NameOk nm → nm ∉ us → Go s g g' (m + 10) → Q (.str nm) g'
  | _ => False
theorem len_Lnew_name : ∀ ds g Q, sp_Lnew_name ds g Q → ds.length = 2 := fun ds g Q h => by
  unfold sp_Lnew_name at h; split at h <;> first | rfl | exact h.elim
def suf (k : Nat) : Str := if k = 0 then "" else Str.ofString (toString (k : Int))
theorem suf_inj {j k : Nat} {a : Str} (h : a ++ suf j = a ++ suf k) : j = k := by
  have h' := congrArg TL.tl h
  rw [TL.tl_append, TL.tl_append] at h'
  have h2 := List.append_cancel_left h'
  unfold suf at h2
  by_cases hj : j = 0
  · by_cases hk : k = 0
    · rw [hj, hk]
    · rw [if_pos hj, if_neg hk, TL.tl_num] at h2
      exact absurd h2.symm (TL.numL_ne k)
  · by_cases hk : k = 0
    · rw [if_neg hj, if_pos hk, TL.tl_num] at h2
      exact absurd h2 (TL.numL_ne j)
    · rw [if_neg hj, if_neg hk, TL.tl_num, TL.tl_num] at h2
      exact TL.numL_inj h2
theorem suf_some {nm : Str} {us : List Str} (h : ∀ j, j < us.length + 1 → nm ++ suf j ∈ us) : False := by
  have h1 : ((List.range (us.length + 1)).map fun j => nm ++ suf j).Nodup := nodup_map_on _ _ List.nodup_range fun x _ y _ e => suf_inj e
  have h2 := nodup_len _ us h1 fun x hx => by
    obtain ⟨j, hj, rfl⟩ := List.mem_map.mp hx
    exact h j (List.mem_range.mp hj)
  rw [List.length_map, List.length_range] at h2
  omega
theorem suf_name {nm : Str} {k : Nat} (h : NameL 4 (TL.tl nm)) (hk : k < 100) : NameOk (nm ++ suf k) := by
  unfold NameOk
  rw [TL.tl_append]
  refine h.app (m := 2) (fun x hx => ?_) ?_
  · unfold suf at hx
    split at hx
    · cases hx
    · rw [TL.tl_num] at hx; exact numL_dig x hx
  · unfold suf
    split
    · exact Nat.zero_le _
    · rw [TL.tl_num]; exact TL.numL_len (by decide) (by omega)
theorem letters_low : ∀ c ∈ (("abcdefghijklmnopqrstuvwxyz" : Str)).cps.toList, low c := by decide +kernel
theorem letters_len : (("abcdefghijklmnopqrstuvwxyz" : Str)).cps.toList.length = 26 := by decide +kernel
theorem alnum_ok : ∀ c ∈ (("abcdefghijklmnopqrstuvwxyz" : Str) ++ ("0123456789" : Str)).cps.toList, low c ∨ dig c := by decide +kernel
theorem alnum_len : (("abcdefghijklmnopqrstuvwxyz" : Str) ++ ("0123456789" : Str)).cps.toList.length = 36 := by decide +kernel
theorem rd_Lnew_name : ∀ ds g Q, sp_Lnew_name ds g Q → w_Lnew_name { nx := fun _ g => Q .non g, rt := Q } (dstart N_Lnew_name ds) g := fun ds g Q h => by
  unfold sp_Lnew_name at h; split at h
  case h_2 => exact h.elim
  obtain ⟨s, m, us, rfl, hS, hm, hU, hus, q⟩ := h
  rename_i U
  have nU : U ≠ s.L := hS.neStr hU
  rw [st0_Lnew_name]
  unfold w_Lnew_name
  walk_at "go"
  refine ⟨s, m, rfl, hS, by omega, by omega, by omega, fun v g1 a1 a2 G1 => ?_⟩
  walk_at "go"
  refine ⟨s, _, rfl, G1.2, by omega, by omega, by omega, fun v2 g2 b1 b2 G2 => ?_⟩
  have G2' := G1.trans G2
  walk_at "go"
  obtain ⟨c, hc, hat⟩ := atI_ex (xs := (("abcdefghijklmnopqrstuvwxyz" : Str)).cps.toList) b1 (by rw [letters_len]; omega)
  refine v_ixS (by rw [szl]; decide +kernel) hat ?_
  walk_at "go"
  refine ⟨fun i e g' => ∃ nm x, e = [some (.ref s.L), some (.ref U), some (.str "abcdefghijklmnopqrstuvwxyz"), some (.int (1 + v)), some (.str nm), x, none] ∧ NameL i (TL.tl nm) ∧ Go s g g' (m + 2 + i),
    ⟨_, _, rfl, ⟨c, [], rfl, letters_low c hc, (fun x hx => nomatch hx), Nat.zero_le _⟩, G2'⟩, fun _ _ _ _ _ => trivial, ?_, ?_⟩
  · rintro i d e g' hd ⟨nm, x, rfl, hn, G⟩
    obtain ⟨hi, rfl⟩ := ran_get hd
    walk_at "go"
    refine v_addS (by rw [szl]; decide +kernel) ?_
    walk_at "go"
    refine ⟨s, _, rfl, G.2, by omega, by omega, by omega, fun v3 g3 c1 c2 G3 => ?_⟩
    walk_at "go"
    obtain ⟨c3, hc3, hat3⟩ := atI_ex (xs := (("abcdefghijklmnopqrstuvwxyz" : Str) ++ ("0123456789" : Str)).cps.toList) c1 (by rw [alnum_len]; omega)
    refine v_ixS (by rw [szl]; decide +kernel) hat3 ?_
    refine v_addS (len2_le (n := 100) (by have := hn.len; rw [tl_one, List.length_singleton]; omega) (by omega)) ?_
    walk_at "go"
    refine ⟨_, _, rfl, ?_, (G.trans G3).le (by omega)⟩
    rw [TL.tl_append]
    exact hn.app (m := 1) (fun x hx => by rw [List.mem_singleton.mp hx]; exact alnum_ok c3 hc3) (Nat.le_refl _)
  · rintro e g3 ⟨nm, x, rfl, hn, G3⟩
    rw [ran_len] at hn G3
    have hn4 : NameL 4 (TL.tl nm) := hn.mono (by omega)
    walk_at "go"
    refine v_lenL (G3.get nU hU) ?_
    walk_at "go"
    rw [List.length_map]
    refine ⟨by omega, by omega, ?_⟩
    refine ⟨fun i e g' => ∃ x y, e = [some (.ref s.L), some (.ref U), some (.str "abcdefghijklmnopqrstuvwxyz"), some (.int (1 + v)), some (.str nm), x, y] ∧ (∀ j, j < i → nm ++ suf j ∈ us) ∧ Go s g g' (m + 8),
      ⟨_, _, rfl, fun j hj => absurd hj (Nat.not_lt_zero j), G3.le (by omega)⟩, fun _ _ _ _ _ => trivial, ?_, ?_⟩
    · rintro i d e g' hd ⟨x, y, rfl, hin, G⟩
      obtain ⟨hi, rfl⟩ := ran_get hd
      walk_at "go"
      refine v_str (logOk (by omega)) ?_
      walk_at "go"
      refine ⟨by rw [szl]; simp, fun p hp => ?_⟩
      walk_at "go"
      have e0 : (0 : Int) + (i : Int) = (i : Int) := Int.zero_add _
      rw [e0]
      refine v_ixL gup_same (d := .str (suf i)) ?_ ?_
      · by_cases h0 : i = 0
        · subst h0; rfl
        · have hp : (0 : Int) < (i : Int) := by omega
          rw [decide_eq_true hp]
          unfold suf
          rw [if_neg h0]
          rfl
      have hok := suf_name (nm := nm) (k := i) hn4 (by omega)
      have hz := hok.len
      rw [TL.tl_append, List.length_append] at hz
      refine v_addS (len2_le (n := 100) (by omega) (by omega)) ?_
      walk_at "go"
      have G' : Go s g (gup g' p _) (m + 8) := G.new (o := .lst [.str "", .str (Str.ofString (toString (i : Int)))]) hp
      refine v_notInLS (G'.get nU hU) ?_
      walk_at "go"
      refine iteN (fun hni => ?_) (fun hni => ?_)
      · walk_at "go"
        exact q _ _ hok hni (G'.le (by omega))
      · walk_at "go"
        refine ⟨_, _, rfl, fun j hj => ?_, G'⟩
        by_cases hji : j = i
        · subst hji; exact hni
        · exact hin j (by omega)
    · rintro e g' ⟨x, y, rfl, hin, G⟩
      rw [ran_len] at hin
      exact (suf_some (nm := nm) (us := us) fun j hj => hin j (by omega)).elim

/-- .law.names(source, many): 0 source, 1 many, 2 used, 3 k -/
abbrev N_Lnames : List Str := ["source", "many", "used", "k"]
theorem st0_Lnames (a0 a1 : D) : dstart N_Lnames [a0, a1] = [some a0, some a1, none, none] := rfl
def w_Lnames : DTS := (dSeq (dAsg (dLst dNil) (gNm 2))
  (dSeq (dFor (iRa1 (dVar 1)) (gNm 3) (dDrop (dBM "list" appD (dVar 2) (dCons (dCall sp_Lnew_name [] (dCons (dVar 0) (dCons (dVar 2) dNil))) dNil))))
  (dRet (dVar 2))))
def sp_Lnames : DSp := fun ds g Q => match ds with
  | [.ref L, .int k] => ∃ s m, s.L = L ∧ Src s g m ∧ m < 900000000000 ∧ 0 ≤ k ∧ k < 100 ∧ ∀ (us : List Str) p g', (us.length : Int) = k → us.Nodup → (∀ x ∈ us, NameOk x) → g p = none → Go s g g' (m + 1000) → g' p = some (.lst (us.map D.str)) → Q (.ref p) g'
  | _ => False
theorem len_Lnames : ∀ ds g Q, sp_Lnames ds g Q → ds.length = 2 := fun ds g Q h => by
  unfold sp_Lnames at h; split at h <;> first | rfl | exact h.elim
theorem rd_Lnames : ∀ ds g Q, sp_Lnames ds g Q → w_Lnames { nx := fun _ g => Q .non g, rt := Q } (dstart N_Lnames ds) g := fun ds g Q h => by
  unfold sp_Lnames at h; split at h
  case h_2 => exact h.elim
  obtain ⟨s, m, rfl, hS, hm, hk, hk2, q⟩ := h
  rename_i k
  rw [st0_Lnames]
  unfold w_Lnames
  walk_at "go"
  refine ⟨by rw [szl]; simp, fun p hp => ?_⟩
  walk_at "go"
  refine ⟨fun i e g' => ∃ (us : List Str) (x : Option D), e = [some (.ref s.L), some (.int k), some (.ref p), x] ∧ us.length = i ∧ us.Nodup ∧ (∀ x ∈ us, NameOk x) ∧ Go s g g' (m + 10 * i) ∧ g' p = some (.lst (us.map D.str)),
    ⟨[], _, rfl, rfl, List.nodup_nil, (fun x hx => nomatch hx), (Go.start hS).new hp, gup_same⟩, fun _ _ _ _ _ => trivial, ?_, ?_⟩
  · rintro i d e g' hd ⟨us, x, rfl, hl, hn, ho, G, hg⟩
    obtain ⟨hi, rfl⟩ := ran_get hd
    walk_at "go"
    refine v_rcvL hg ?_
    walk_at "go"
    refine ⟨s, _, us, rfl, G.2, by omega, hg, by omega, fun nm g2 h1 h2 G2 => ?_⟩
    have np : p ≠ s.L := hS.neL hp
    walk_at "go"
    refine v_app' (G2.get np hg) (by rw [szl, List.length_map]; omega) ?_
    refine ⟨us ++ [nm], _, rfl, by rw [List.length_append, hl]; rfl, ?_, fun x hx => ?_, ((G.trans G2).mut hp hS).le (by omega), ?_⟩
    · rw [List.nodup_append]
      exact ⟨hn, by simp, fun a ha b hb e => h2 (by rw [List.mem_singleton] at hb; rw [← hb, ← e]; exact ha)⟩
    · rcases List.mem_append.mp hx with hx | hx
      · exact ho x hx
      · rw [List.mem_singleton.mp hx]; exact h1
    · rw [gup_same, List.map_append]; rfl
  · rintro e g' ⟨us, x, rfl, hl, hn, ho, G, hg⟩
    rw [ran_len] at hl G
    walk_at "go"
    exact q us p g' (by omega) hn ho hp (G.le (by omega)) hg

/-- .law.is.int(value): 0 value -/
abbrev N_Lis_int : List Str := ["value"]
theorem st0_Lis_int (a0 : D) : dstart N_Lis_int [a0] = [some a0] := rfl
def w_Lis_int : DTS := (dRet (dAndV (dIsi "int" (dVar 0)) (dNotV (dIsi "bool" (dVar 0)))))
def isIntD : D → Bool
  | .int _ => true
  | _ => false
def norf : D → Prop
  | .ref _ => False
  | .klst _ => False
  | _ => True
def sp_Lis_int : DSp := fun ds g Q => match ds with
  | [a] => norf a ∧ Q (.bl (isIntD a)) g
  | _ => False
theorem len_Lis_int : ∀ ds g Q, sp_Lis_int ds g Q → ds.length = 1 := fun ds g Q h => by
  unfold sp_Lis_int at h; split at h <;> first | rfl | exact h.elim
theorem rd_Lis_int : ∀ ds g Q, sp_Lis_int ds g Q → w_Lis_int { nx := fun _ g => Q .non g, rt := Q } (dstart N_Lis_int ds) g := fun ds g Q h => by
  unfold sp_Lis_int at h; split at h
  case h_2 => exact h.elim
  obtain ⟨hn, q⟩ := h
  rename_i a
  rw [st0_Lis_int]
  unfold w_Lis_int
  walk_at "go"
  cases a with
  | ref _ => exact hn.elim
  | klst _ => exact hn.elim
  | int i =>
    refine ⟨_, true, rfl, by decide +kernel, ?_⟩
    walk_at "go"
    refine iteB (fun _ => ?_) (fun z => by cases z)
    walk_at "go"
    refine ⟨_, false, rfl, by decide +kernel, ?_⟩
    walk_at "go"
    exact q
  | bl b =>
    refine ⟨_, true, rfl, by decide +kernel, ?_⟩
    walk_at "go"
    refine iteB (fun _ => ?_) (fun z => by cases z)
    walk_at "go"
    refine ⟨_, true, rfl, by decide +kernel, ?_⟩
    walk_at "go"
    exact q
  | _ =>
    refine ⟨_, false, rfl, by decide +kernel, ?_⟩
    walk_at "go"
    refine iteB (fun z => by cases z) (fun _ => ?_)
    exact q

/-- .law.same(actual, due): 0 actual, 1 due, 2 k -/
abbrev N_Lsame : List Str := ["actual", "due", "k"]
theorem st0_Lsame (a0 a1 : D) : dstart N_Lsame [a0, a1] = [some a0, some a1, none] := rfl
def w_Lsame (sp : DSp) : DTS := (dSeq (dIf (dTru (dIsi "tuple" (dVar 1))) (dSeq (dIf (dOr (dNot (dTru (dIsi "tuple" (dVar 0)))) (dTest (dOp neD (dCB lenD (dCons (dVar 0) dNil)) (dCB lenD (dCons (dVar 1) dNil))))) (dRet (dC (.bl false))) dNext)
  (dSeq (dFor (iRa1 (dCB lenD (dCons (dVar 1) dNil))) (gNm 2) (dIf (dNot (dTru (dCall sp [] (dCons (dOp ixD (dVar 0) (dVar 2)) (dCons (dOp ixD (dVar 1) (dVar 2)) dNil))))) (dRet (dC (.bl false))) dNext))
  (dRet (dC (.bl true))))) dNext)
  (dSeq (dIf (dTest (dOp isND (dVar 1) (dC .non))) (dRet (dOp isND (dVar 0) (dC .non))) dNext)
  (dSeq (dIf (dTru (dIsi "bool" (dVar 1))) (dRet (dAndV (dIsi "bool" (dVar 0)) (dOp eqD (dVar 0) (dVar 1)))) dNext)
  (dSeq (dIf (dTru (dIsi "int" (dVar 1))) (dRet (dAndV (dCall sp_Lis_int [] (dCons (dVar 0) dNil)) (dOp eqD (dVar 0) (dVar 1)))) dNext)
  (dRet (dAndV (dIsi "str" (dVar 0)) (dOp eqD (dVar 0) (dVar 1))))))))
/-- data without references, at most n deep, of bounded breadth -/
def okT : Nat → D → Prop
  | _, .ref _ => False
  | _, .klst _ => False
  | 0, .tup _ => False
  | n + 1, .tup ds => ds.length ≤ 16777216 ∧ ∀ x ∈ ds, okT n x
  | _, _ => True
theorem okT_norf {n : Nat} {d : D} (h : okT n d) : norf d := by
  cases d with
  | ref _ => cases n <;> exact h.elim
  | klst _ => cases n <;> exact h.elim
  | _ => trivial
def spS (n : Nat) : DSp := fun ds g Q => match ds with
  | [a, d] => (∃ k, okT k a) ∧ okT n d ∧ ∀ b : Bool, (b = true ↔ a = d) → Q (.bl b) g
  | _ => False
def sp_same : Nat → DSp
  | 0 => fun _ _ _ => False
  | n + 1 => spS n
abbrev sp_Lsame : DSp := sp_same 13
theorem len_same (n : Nat) : ∀ ds g Q, sp_same n ds g Q → ds.length = 2 := fun ds g Q h => by
  cases n with
  | zero => exact h.elim
  | succ n =>
    have h : spS n ds g Q := h
    unfold spS at h; split at h <;> first | rfl | exact h.elim
theorem D.str_eq {a b : Str} : (b = a) ↔ (D.str b = D.str a) := ⟨fun h => by rw [h], fun h => by injection h⟩
theorem rd_same (n : Nat) : ∀ ds g Q, sp_same (n + 1) ds g Q → w_Lsame (sp_same n) { nx := fun _ g => Q .non g, rt := Q } (dstart N_Lsame ds) g := fun ds g Q h => by
  have h : spS n ds g Q := h
  unfold spS at h; split at h
  case h_2 => exact h.elim
  obtain ⟨⟨k, ha⟩, hd, q⟩ := h
  rename_i a d
  rw [st0_Lsame]
  unfold w_Lsame
  have hna := okT_norf ha
  walk_at "go"
  cases d with
  | ref _ => cases n <;> exact hd.elim
  | klst _ => cases n <;> exact hd.elim
  | tup ds =>
    refine ⟨_, true, rfl, by decide +kernel, ?_⟩
    walk_at "go"
    refine iteB (fun _ => ?_) (fun z => by cases z)
    walk_at "go"
    cases a with
    | ref _ => exact hna.elim
    | klst _ => exact hna.elim
    | tup as =>
      refine ⟨_, true, rfl, by decide +kernel, ?_⟩
      walk_at "go"
      refine iteNB (fun z => by cases z) (fun _ => ?_)
      walk_at "go"
      refine iteN (fun hl => ?_) (fun hl => ?_)
      · walk_at "go"
        refine q false ⟨(fun z => by cases z), fun z => ?_⟩
        cases z
        exact (hl rfl).elim
      have hl' : as.length = ds.length := by omega
      cases k with
      | zero => exact ha.elim
      | succ k => cases n with
        | zero => exact hd.elim
        | succ n =>
          have hbd := hd.1
          walk_at "go"
          refine ⟨fun i e g' => g' = g ∧ ∃ x, e = [some (.tup as), some (.tup ds), x] ∧ as.take i = ds.take i, ⟨rfl, _, rfl, rfl⟩, fun _ _ _ _ _ => trivial, ?_, ?_⟩
          · rintro i x e g' hx ⟨rfl, y, rfl, ht⟩
            obtain ⟨hi, rfl⟩ := ran_get hx
            have hi2 : i < ds.length := by omega
            have hi1 : i < as.length := by omega
            walk_at "go"
            refine v_ixT (atI_at (List.getElem?_eq_getElem hi1)) ?_
            walk_at "go"
            refine v_ixT (atI_at (List.getElem?_eq_getElem hi2)) ?_
            walk_at "go"
            refine ⟨⟨k, ha.2 _ (List.getElem_mem hi1)⟩, hd.2 _ (List.getElem_mem hi2), fun b hb => ?_⟩
            walk_at "go"
            refine iteNB (fun e => ?_) (fun e => ?_)
            · walk_at "go"
              refine q false ⟨(fun z => by cases z), fun z => ?_⟩
              cases z
              rw [e] at hb
              exact hb.mpr rfl
            · walk_at "go"
              refine ⟨rfl, _, rfl, ?_⟩
              rw [List.take_add_one, List.take_add_one, ht, List.getElem?_eq_getElem hi1, List.getElem?_eq_getElem hi2, hb.mp e]
          · rintro e g' ⟨rfl, y, rfl, ht⟩
            rw [ran_len] at ht
            walk_at "go"
            refine q true ⟨fun _ => ?_, fun _ => rfl⟩
            have e1 : as.take (Int.toNat (ds.length : Int)) = as := List.take_of_length_le (by omega)
            have e2 : ds.take (Int.toNat (ds.length : Int)) = ds := List.take_of_length_le (by omega)
            rw [e1, e2] at ht
            rw [ht]
    | _ =>
      refine ⟨_, false, rfl, by decide +kernel, ?_⟩
      walk_at "go"
      refine iteNB (fun _ => ?_) (fun z => by cases z)
      walk_at "go"
      exact q false ⟨fun z => (by cases z), fun z => (by cases z)⟩
  | non =>
    refine ⟨_, false, rfl, by decide +kernel, ?_⟩
    walk_at "go"
    refine iteB (fun z => by cases z) (fun _ => ?_)
    walk_at "go"
    refine iteB (fun _ => ?_) (fun z => by cases z)
    walk_at "go"
    cases a with
    | ref _ => exact hna.elim
    | klst _ => exact hna.elim
    | non => exact ⟨rfl, q _ ⟨fun _ => rfl, fun _ => rfl⟩⟩
    | _ => exact ⟨rfl, q _ ⟨fun z => (by cases z), fun z => (by cases z)⟩⟩
  | bl b =>
    refine ⟨_, false, rfl, by decide +kernel, ?_⟩
    walk_at "go"
    refine iteB (fun z => by cases z) (fun _ => ?_)
    walk_at "go"
    refine ⟨rfl, ?_⟩
    walk_at "go"
    refine iteB (fun z => by cases z) (fun _ => ?_)
    walk_at "go"
    refine ⟨_, true, rfl, by decide +kernel, ?_⟩
    walk_at "go"
    refine iteB (fun _ => ?_) (fun z => by cases z)
    walk_at "go"
    cases a with
    | ref _ => exact hna.elim
    | klst _ => exact hna.elim
    | bl a =>
      refine ⟨_, true, rfl, by decide +kernel, ?_⟩
      walk_at "go"
      refine iteB (fun _ => ?_) (fun z => by cases z)
      walk_at "go"
      refine q _ ⟨fun z => ?_, fun z => ?_⟩
      · rw [of_decide_eq_true z]
      · cases z; exact decide_eq_true rfl
    | _ =>
      refine ⟨_, false, rfl, by decide +kernel, ?_⟩
      walk_at "go"
      refine iteB (fun z => by cases z) (fun _ => ?_)
      exact q false ⟨fun z => (by cases z), fun z => (by cases z)⟩
  | int b =>
    refine ⟨_, false, rfl, by decide +kernel, ?_⟩
    walk_at "go"
    refine iteB (fun z => by cases z) (fun _ => ?_)
    walk_at "go"
    refine ⟨rfl, ?_⟩
    walk_at "go"
    refine iteB (fun z => by cases z) (fun _ => ?_)
    walk_at "go"
    refine ⟨_, false, rfl, by decide +kernel, ?_⟩
    walk_at "go"
    refine iteB (fun z => by cases z) (fun _ => ?_)
    walk_at "go"
    refine ⟨_, true, rfl, by decide +kernel, ?_⟩
    walk_at "go"
    refine iteB (fun _ => ?_) (fun z => by cases z)
    walk_at "go"
    refine ⟨hna, ?_⟩
    walk_at "go"
    cases a with
    | ref _ => exact hna.elim
    | klst _ => exact hna.elim
    | int a =>
      refine iteB (fun _ => ?_) (fun z => by cases z)
      walk_at "go"
      refine q _ ⟨fun z => ?_, fun z => ?_⟩
      · rw [of_decide_eq_true z]
      · cases z; exact decide_eq_true rfl
    | _ =>
      refine iteB (fun z => by cases z) (fun _ => ?_)
      exact q false ⟨fun z => (by cases z), fun z => (by cases z)⟩
  | str b =>
    refine ⟨_, false, rfl, by decide +kernel, ?_⟩
    walk_at "go"
    refine iteB (fun z => by cases z) (fun _ => ?_)
    walk_at "go"
    refine ⟨rfl, ?_⟩
    walk_at "go"
    refine iteB (fun z => by cases z) (fun _ => ?_)
    walk_at "go"
    refine ⟨_, false, rfl, by decide +kernel, ?_⟩
    walk_at "go"
    refine iteB (fun z => by cases z) (fun _ => ?_)
    walk_at "go"
    refine ⟨_, false, rfl, by decide +kernel, ?_⟩
    walk_at "go"
    refine iteB (fun z => by cases z) (fun _ => ?_)
    walk_at "go"
    cases a with
    | ref _ => exact hna.elim
    | klst _ => exact hna.elim
    | str a =>
      refine ⟨_, true, rfl, by decide +kernel, ?_⟩
      walk_at "go"
      refine iteB (fun _ => ?_) (fun z => by cases z)
      walk_at "go"
      refine q _ ⟨fun z => ?_, fun z => ?_⟩
      · rw [of_decide_eq_true z]
      · cases z; exact decide_eq_true rfl
    | _ =>
      refine ⟨_, false, rfl, by decide +kernel, ?_⟩
      walk_at "go"
      refine iteB (fun z => by cases z) (fun _ => ?_)
      exact q false ⟨fun z => (by cases z), fun z => (by cases z)⟩
theorem okT_mono : ∀ {n : Nat} {d : D}, okT n d → okT (n + 1) d := fun {n d} => by
  induction n generalizing d with
  | zero => intro h; cases d <;> first | exact h.elim | trivial
  | succ n ih =>
    intro h
    cases d with
    | tup ds => exact ⟨h.1, fun x hx => ih (h.2 x hx)⟩
    | ref _ => exact h.elim
    | klst _ => exact h.elim
    | _ => trivial
theorem okT_add {n k : Nat} {d : D} (h : okT n d) : okT (n + k) d := by
  induction k with
  | zero => exact h
  | succ k ih => exact okT_mono ih
theorem okT_le {n k : Nat} {d : D} (h : okT n d) (hk : n ≤ k) : okT k d := by
  have := okT_add (k := k - n) h
  rwa [Nat.add_sub_cancel' hk] at this
theorem ok_strs {ss : List Str} (h : ss.length ≤ 16777216) : okT 1 (.tup (ss.map D.str)) := ⟨by rw [List.length_map]; exact h, fun x hx => by
  obtain ⟨z, _, rfl⟩ := List.mem_map.mp hx
  trivial⟩
theorem ok_sortS {ss : List Str} (h : ss.length ≤ 16777216) : okT 1 (.tup (sortS ss)) := ⟨by
  unfold sortS
  rw [List.length_mergeSort, List.length_map]; exact h, fun x hx => by
  obtain ⟨z, _, rfl⟩ := sortS_mem hx
  trivial⟩
theorem ok_flat {ds : List D} (h : ds.length ≤ 16777216) (h2 : ∀ x ∈ ds, okT 0 x) : okT 1 (.tup ds) := ⟨h, h2⟩
theorem ok_site (s : SiteR) : okT 1 s.d := ⟨by simp, fun x hx => by
  simp only [List.mem_cons, List.not_mem_nil, or_false] at hx
  rcases hx with rfl | rfl | rfl | rfl | rfl | rfl <;> trivial⟩
theorem ok_feed (s : FeedR) : okT 1 s.d := ⟨by simp, fun x hx => by
  simp only [List.mem_cons, List.not_mem_nil, or_false] at hx
  rcases hx with rfl | rfl | rfl | rfl | rfl | rfl <;> trivial⟩
theorem ok_opt (o : Option Str) : okT 0 (optD o) := by cases o <;> trivial
theorem use_same {g : GS} {Q : DK} {a : D} (h1 : okT 12 a) (h : Q (.bl true) g) : sp_Lsame [a, a] g Q :=
  ⟨⟨12, h1⟩, h1, fun b hb => by rw [hb.mpr rfl]; exact h⟩

/-- Reader...init..(self): 0 self -/
abbrev N_Reader_init : List Str := ["self"]
theorem st0_Reader_init (a0 : D) : dstart N_Reader_init [a0] = [some a0] := rfl
def w_Reader_init : DTS := (dSFld "Reader" "read_ids" (dVar 0) dTNew)
def sp_Reader_init : DSp := fun ds g Q => match ds with
  | [.ref a] => g a = some (.ins "Reader" []) ∧ ∀ d g', RdAt g' a d [] → Up [a] g g' → g d = none → Q .non g'
  | _ => False
theorem len_Reader_init : ∀ ds g Q, sp_Reader_init ds g Q → ds.length = 1 := fun ds g Q h => by
  unfold sp_Reader_init at h; split at h <;> first | rfl | exact h.elim
theorem rd_Reader_init : ∀ ds g Q, sp_Reader_init ds g Q → w_Reader_init { nx := fun _ g => Q .non g, rt := Q } (dstart N_Reader_init ds) g := fun ds g Q h => by
  unfold sp_Reader_init at h; split at h
  case h_2 => exact h.elim
  obtain ⟨ha, q⟩ := h
  rename_i a
  rw [st0_Reader_init]
  unfold w_Reader_init
  walk_at "wk"
  intro d hd
  have nad : a ≠ d := fun z => by rw [z, hd] at ha; cases ha
  walk_at "wk"
  refine ⟨a, [], rfl, by rw [gup_ne nad]; exact ha, by simp, ?_⟩
  exact q d _ ⟨gup_same, [], by rw [gup_ne nad.symm, gup_same], rfl⟩ ((Up.new hd).ins (List.mem_singleton.mpr rfl)) hd

/-- Reader.new(self, view): 0 self, 1 view, 2 pair -/
abbrev N_Reader_new : List Str := ["self", "view", "pair"]
theorem st0_Reader_new (a0 a1 : D) : dstart N_Reader_new [a0, a1] = [some a0, some a1, none] := rfl
def w_Reader_new : DTS := (dRet (dCB tupF (dCons (dLc (iAny (dVar 1)) 2 (dTest (dTNotIn (dOp ixD (dVar 2) (dC (.int 1))) (dFld "Reader" "read_ids" (dVar 0)))) (dVar 2)) dNil)))
def sp_Reader_new : DSp := fun ds g Q => match ds with
  | [.ref a, .tup x] => ∃ (d : Addr) (ids : List Idn) (ps : List PrR), RdAt g a d ids ∧ x = ps.map prD ∧ ps.length ≤ 100000 ∧ ∀ g', Up [] g g' → Q (.tup ((newP ps ids).map prD)) g'
  | _ => False
theorem len_Reader_new : ∀ ds g Q, sp_Reader_new ds g Q → ds.length = 2 := fun ds g Q h => by
  unfold sp_Reader_new at h; split at h <;> first | rfl | exact h.elim
theorem rd_Reader_new : ∀ ds g Q, sp_Reader_new ds g Q → w_Reader_new { nx := fun _ g => Q .non g, rt := Q } (dstart N_Reader_new ds) g := fun ds g Q h => by
  unfold sp_Reader_new at h; split at h
  case h_2 => exact h.elim
  obtain ⟨d, ids, ps, hR, rfl, hl, q⟩ := h
  rename_i a
  obtain ⟨kvs, hd, hk⟩ := hR.dct
  rw [st0_Reader_new]
  unfold w_Reader_new
  walk_at "wk"
  refine s_anyT ?_
  walk_at "wk"
  refine lc_filt ps prD prD (fun p => !decide (p.2 ∈ ids)) rfl (fun _ _ => trivial) (by omega) ?_ ?_ ?_
  · intro i p g' Q' hi U k
    walk_at "wk"
    refine ⟨a, _, _, rfl, U.get0 hR.ins, rf_look, d, kvs, idK p.2, rfl, U.get0 hd, rfl, ?_⟩
    rw [key_has p.2 hk]
    exact ⟨_, rfl, k _ .refl⟩
  · intro i p g' Q' hi hb U k
    walk_at "wk"
    exact k _ .refl
  intro B g1 hB U1 hg1
  walk_at "wk"
  exact q g1 U1

/-- Reader.read(self, ident): 0 self, 1 ident -/
abbrev N_Reader_read : List Str := ["self", "ident"]
theorem st0_Reader_read (a0 a1 : D) : dstart N_Reader_read [a0, a1] = [some a0, some a1] := rfl
def w_Reader_read : DTS := (dTPut (dFld "Reader" "read_ids" (dVar 0)) (dVar 1) (dC (.bl true)))
def sp_Reader_read : DSp := fun ds g Q => match ds with
  | [.ref a, .tup t] => ∃ (d : Addr) (ids : List Idn) (x : Idn), RdAt g a d ids ∧ t = [.str x.1, .int x.2] ∧ ids.length ≤ 100000 ∧ ∀ g', Up [d] g g' → RdAt g' a d (addI ids x) → Q .non g'
  | _ => False
theorem len_Reader_read : ∀ ds g Q, sp_Reader_read ds g Q → ds.length = 2 := fun ds g Q h => by
  unfold sp_Reader_read at h; split at h <;> first | rfl | exact h.elim
theorem rd_Reader_read : ∀ ds g Q, sp_Reader_read ds g Q → w_Reader_read { nx := fun _ g => Q .non g, rt := Q } (dstart N_Reader_read ds) g := fun ds g Q h => by
  unfold sp_Reader_read at h; split at h
  case h_2 => exact h.elim
  obtain ⟨d, ids, x, hR, rfl, hl, q⟩ := h
  rename_i a
  obtain ⟨kvs, hd, hk⟩ := hR.dct
  have hkl : kvs.length ≤ 100000 := by
    have := congrArg List.length hk
    rw [List.length_map, List.length_map] at this
    omega
  rw [st0_Reader_read]
  unfold w_Reader_read
  walk_at "wk"
  refine ⟨a, _, _, rfl, hR.ins, rf_look, ?_⟩
  walk_at "wk"
  refine ⟨d, kvs, idK x, rfl, hd, rfl, by rw [szl]; omega, ?_⟩
  exact q _ (Up.refl.ins (List.mem_singleton.mpr rfl)) ⟨by rw [gup_ne hR.ne]; exact hR.ins, _, gup_same, keys_put hk⟩

/-- Reader.meet(self, other): 0 self, 1 other, 2 ident -/
abbrev N_Reader_meet : List Str := ["self", "other", "ident"]
theorem st0_Reader_meet (a0 a1 : D) : dstart N_Reader_meet [a0, a1] = [some a0, some a1, none] := rfl
def w_Reader_meet : DTS := (dSeq (dFor (iAny (dCB lstKD (dCons (dFld "Reader" "read_ids" (dVar 1)) dNil))) (gNm 2) (dTPut (dFld "Reader" "read_ids" (dVar 0)) (dVar 2) (dC (.bl true))))
  (dFor (iAny (dCB lstKD (dCons (dFld "Reader" "read_ids" (dVar 0)) dNil))) (gNm 2) (dTPut (dFld "Reader" "read_ids" (dVar 1)) (dVar 2) (dC (.bl true)))))
def sp_Reader_meet : DSp := fun ds g Q => match ds with
  | [.ref a, .ref b] => ∃ (d e : Addr) (ids ids2 : List Idn), RdAt g a d ids ∧ RdAt g b e ids2 ∧ a ≠ b ∧ d ≠ e ∧ ids.length + ids2.length ≤ 10000 ∧ ∀ g1 g', Up [d] g g1 → RdAt g1 a d (ids2.foldl addI ids) → Up [e] g1 g' → RdAt g' b e ((ids2.foldl addI ids).foldl addI ids2) → Q .non g'
  | _ => False
theorem len_Reader_meet : ∀ ds g Q, sp_Reader_meet ds g Q → ds.length = 2 := fun ds g Q h => by
  unfold sp_Reader_meet at h; split at h <;> first | rfl | exact h.elim
theorem addAll_len : ∀ (xs ids : List Idn), (xs.foldl addI ids).length ≤ ids.length + xs.length
  | [], ids => Nat.le_refl _
  | x :: xs, ids => by
    rw [List.foldl_cons, List.length_cons]
    have := addAll_len xs (addI ids x)
    have := addI_len (ids := ids) (x := x)
    omega
theorem keysD {kvs : List (List L2.Key × D)} {ids : List Idn} (h : kvs.map (·.1) = ids.map idK) : kvs.map (fun kv => kT kv.1) = ids.map idD := by
  have := congrArg (List.map fun k : List L2.Key => kT k) h
  rw [List.map_map, List.map_map] at this
  exact this
theorem key_len {kvs : List (List L2.Key × D)} {ids : List Idn} (h : kvs.map (·.1) = ids.map idK) : kvs.length = ids.length := by
  have := congrArg List.length h
  rwa [List.length_map, List.length_map] at this
theorem rd_Reader_meet : ∀ ds g Q, sp_Reader_meet ds g Q → w_Reader_meet { nx := fun _ g => Q .non g, rt := Q } (dstart N_Reader_meet ds) g := fun ds g Q h => by
  unfold sp_Reader_meet at h; split at h
  case h_2 => exact h.elim
  obtain ⟨d, e, ids, ids2, hA, hB, nab, nde, hl, q⟩ := h
  rename_i a b
  obtain ⟨kvs, hd, hk⟩ := hA.dct
  obtain ⟨kvs2, he, hk2⟩ := hB.dct
  have nbd : b ≠ d := fun z => by have := hB.ins; rw [z, hd] at this; cases this
  have nae : a ≠ e := fun z => by have := hA.ins; rw [z, he] at this; cases this
  rw [st0_Reader_meet]
  unfold w_Reader_meet
  walk_at "wk"
  refine s_anyL ?_
  walk_at "wk"
  refine ⟨b, _, _, rfl, hB.ins, rf_look, ?_⟩
  refine .inr ⟨kvs2, he, fun R hR => ?_⟩
  have n1 : a ≠ R := fun z => by have := hA.ins; rw [z, hR] at this; cases this
  have n2 : b ≠ R := fun z => by have := hB.ins; rw [z, hR] at this; cases this
  have n3 : d ≠ R := fun z => by rw [z, hR] at hd; cases hd
  have n4 : e ≠ R := fun z => by rw [z, hR] at he; cases he
  rw [keysD hk2]
  have U1 : Up [] g (gup g R (.lst (ids2.map idD))) := .new hR
  have hg1 : gup g R (.lst (ids2.map idD)) R = some (.lst (ids2.map idD)) := gup_same
  have hR0 := hR
  generalize gup g R (.lst (ids2.map idD)) = g1 at U1 hg1
  walk_at "wk"
  have nRd : R ≠ d := Ne.symm n3
  refine for1 2 (fun i x2 g' => Up [d] g g' ∧ RdAt g' a d ((ids2.take i).foldl addI ids) ∧ g' R = some (.lst (ids2.map idD))) ⟨_, rfl, U1.of0, hA.up U1 (by simp) (by simp), hg1⟩ (fun i x2 g' _ h => .inl h.2.2) ?_ ?_
  · rintro i w x2 g2 hw ⟨U, hR2, hgR⟩
    rw [List.getElem?_map] at hw
    cases hi : ids2[i]? with
    | none => rw [hi] at hw; cases hw
    | some x =>
    rw [hi] at hw
    cases hw
    obtain ⟨kv, h1, h2⟩ := hR2.dct
    have hlen := addAll_len (ids2.take i) ids
    rw [List.length_take] at hlen
    have hkl := key_len h2
    walk_at "wk"
    refine ⟨a, _, _, rfl, hR2.ins, rf_look, ?_⟩
    walk_at "wk"
    refine ⟨d, kv, idK x, rfl, h1, rfl, by rw [szl]; omega, ?_⟩
    refine ⟨_, rfl, U.ins (List.mem_singleton.mpr rfl), ⟨by rw [gup_ne hA.ne]; exact hR2.ins, _, gup_same, ?_⟩, by rw [gup_ne nRd]; exact hgR⟩
    rw [foldl_snoc addI ids ids2 hi]
    exact keys_put h2
  rintro x2 g2 ⟨U, hR2, hgR⟩
  rw [List.length_map, List.take_length] at hR2
  have hlen := addAll_len ids2 ids
  have hB2 : RdAt g2 b e ids2 := hB.up U (fun z => nbd (List.mem_singleton.mp z)) (fun z => nde (List.mem_singleton.mp z).symm)
  obtain ⟨kv3, h31, h32⟩ := hR2.dct
  have hkl3 := key_len h32
  walk_at "wk"
  refine s_anyL ?_
  walk_at "wk"
  refine ⟨a, _, _, rfl, hR2.ins, rf_look, ?_⟩
  refine .inr ⟨kv3, h31, fun T hT => ?_⟩
  rw [keysD h32]
  have U3 : Up [] g2 (gup g2 T (.lst ((ids2.foldl addI ids).map idD))) := .new hT
  have hg3 : gup g2 T (.lst ((ids2.foldl addI ids).map idD)) T = some (.lst ((ids2.foldl addI ids).map idD)) := gup_same
  have nTe : T ≠ e := fun z => by
    obtain ⟨_, h, _⟩ := hB2.dct
    rw [← z, hT] at h; cases h
  generalize gup g2 T (.lst ((ids2.foldl addI ids).map idD)) = g3 at U3 hg3
  walk_at "wk"
  refine for1 2 (fun i x2 g' => Up [e] g2 g' ∧ RdAt g' b e (((ids2.foldl addI ids).take i).foldl addI ids2) ∧ g' T = some (.lst ((ids2.foldl addI ids).map idD))) ⟨_, rfl, U3.of0, hB2.up U3 (by simp) (by simp), hg3⟩ (fun i x2 g' _ h => .inl h.2.2) ?_ ?_
  · rintro i w x2 g4 hw ⟨U4, hR4, hgT⟩
    rw [List.getElem?_map] at hw
    cases hi : (ids2.foldl addI ids)[i]? with
    | none => rw [hi] at hw; cases hw
    | some x =>
    rw [hi] at hw
    cases hw
    obtain ⟨kv, h1, h2⟩ := hR4.dct
    have hlen2 := addAll_len ((ids2.foldl addI ids).take i) ids2
    rw [List.length_take] at hlen2
    have hkl := key_len h2
    walk_at "wk"
    refine ⟨b, _, _, rfl, hR4.ins, rf_look, ?_⟩
    walk_at "wk"
    refine ⟨e, kv, idK x, rfl, h1, rfl, by rw [szl]; omega, ?_⟩
    refine ⟨_, rfl, U4.ins (List.mem_singleton.mpr rfl), ⟨by rw [gup_ne hB.ne]; exact hR4.ins, _, gup_same, ?_⟩, by rw [gup_ne nTe]; exact hgT⟩
    rw [foldl_snoc addI ids2 (ids2.foldl addI ids) hi]
    exact keys_put h2
  rintro x2 g4 ⟨U4, hR4, hgT⟩
  rw [List.length_map, List.take_length] at hR4
  walk_at "wk"
  exact q g2 g4 U hR2 U4 hR4

/-- Reader.ids(self): 0 self -/
abbrev N_Reader_ids : List Str := ["self"]
theorem st0_Reader_ids (a0 : D) : dstart N_Reader_ids [a0] = [some a0] := rfl
def w_Reader_ids : DTS := (dRet (dCB tupF (dCons (dCB sortedTD (dCons (dFld "Reader" "read_ids" (dVar 0)) dNil)) dNil)))
def sp_Reader_ids : DSp := fun ds g Q => match ds with
  | [.ref a] => ∃ (d : Addr) (ids : List Idn), RdAt g a d ids ∧ (∀ x ∈ ids, sOk x.1) ∧ ∀ g', Up [] g g' → Q (.tup (sortD (ids.map idD))) g'
  | _ => False
theorem len_Reader_ids : ∀ ds g Q, sp_Reader_ids ds g Q → ds.length = 1 := fun ds g Q h => by
  unfold sp_Reader_ids at h; split at h <;> first | rfl | exact h.elim
theorem rd_Reader_ids : ∀ ds g Q, sp_Reader_ids ds g Q → w_Reader_ids { nx := fun _ g => Q .non g, rt := Q } (dstart N_Reader_ids ds) g := fun ds g Q h => by
  unfold sp_Reader_ids at h; split at h
  case h_2 => exact h.elim
  obtain ⟨d, ids, hA, hs, q⟩ := h
  rename_i a
  obtain ⟨kvs, hd, hk⟩ := hA.dct
  rw [st0_Reader_ids]
  unfold w_Reader_ids
  walk_at "wk"
  refine ⟨a, _, _, rfl, hA.ins, rf_look, ?_⟩
  have e := keysD hk
  refine ⟨kvs, hd, by rw [e]; exact srt_ids hs, fun r hr => ?_⟩
  rw [e]
  walk_at "wk"
  refine v_tupL gup_same ?_
  exact q _ (.new hr)

/-- .law.idents(source): 0 source, 1 names, 2 found, 3 k, 4 number, 5 ident -/
abbrev N_Lidents : List Str := ["source", "names", "found", "k", "number", "ident"]
theorem st0_Lidents (a0 : D) : dstart N_Lidents [a0] = [some a0, none, none, none, none, none] := rfl
def w_Lidents : DTS := (dSeq (dAsg (dCall sp_Lnames [] (dCons (dVar 0) (dCons (dC (.int 2)) dNil))) (gNm 1))
  (dSeq (dAsg (dLst dNil) (gNm 2))
  (dSeq (dFor (iRa1 (dOp addD (dC (.int 1)) (dCall sp_Ldraw [] (dCons (dVar 0) (dCons (dC (.int 8)) dNil))))) (gNm 3) (dSeq (dAsg (dOp ixD (dLst (dCons (dOp addD (dVar 3) (dC (.int 1))) (dCons (dC (.int 9)) (dCons (dC (.int 10)) (dCons (dOp addD (dC (.int 100)) (dVar 3)) (dCons (dOp addD (dC (.int 1)) (dCall sp_Ldraw [] (dCons (dVar 0) (dCons (dC (.int 999999)) dNil)))) dNil)))))) (dCall sp_Ldraw [] (dCons (dVar 0) (dCons (dC (.int 5)) dNil)))) (gNm 4))
  (dSeq (dAsg (dTup (dCons (dCall sp_Lpick [] (dCons (dVar 0) (dCons (dVar 1) dNil))) (dCons (dVar 4) dNil))) (gNm 5))
  (dIf (dTest (dOp notInD (dVar 5) (dVar 2))) (dDrop (dBM "list" appD (dVar 2) (dCons (dVar 5) dNil))) dNext))))
  (dRet (dVar 2)))))
def sp_Lidents : DSp := fun ds g Q => match ds with
  | [.ref L] => ∃ s m, s.L = L ∧ Src s g m ∧ m < 500000000000 ∧ ∀ (U : List Idn) p g', U ≠ [] → U.length ≤ 10 → U.Nodup → (∀ x ∈ U, sOk x.1) → g p = none → Go s g g' (m + 2000) → g' p = some (.lst (U.map idD)) → Q (.ref p) g'
  | _ => False
theorem len_Lidents : ∀ ds g Q, sp_Lidents ds g Q → ds.length = 1 := fun ds g Q h => by
  unfold sp_Lidents at h; split at h <;> first | rfl | exact h.elim
theorem rd_Lidents : ∀ ds g Q, sp_Lidents ds g Q → w_Lidents { nx := fun _ g => Q .non g, rt := Q } (dstart N_Lidents ds) g := fun ds g Q h => by
  unfold sp_Lidents at h; split at h
  case h_2 => exact h.elim
  obtain ⟨s, m, rfl, hS, hm, q⟩ := h
  rw [st0_Lidents]
  unfold w_Lidents
  walk_at "wk"
  refine ⟨s, m, rfl, hS, (by omega), (by omega), (by omega), fun ns N g1 hl hnd hns hN G1 hgN => ?_⟩
  have nN := hS.neL hN
  have hn0 : ns.map D.str ≠ [] := fun z => by rw [List.map_eq_nil_iff.mp z] at hl; simp at hl
  walk_at "wk"
  intro F hF
  have G2 := G1.new (o := .lst []) hF
  have hF0 := G1.1.fresh hF
  have nF := G1.2.neL hF
  have nNF : N ≠ F := fun z => by rw [z, hF] at hgN; cases hgN
  walk_at "wk"
  refine ⟨s, _, rfl, G2.2, (by omega), (by omega), (by omega), fun v g3 a1 a2 G3 => ?_⟩
  have G03 := G2.trans G3
  walk_at "wk"
  refine for3 3 4 5 (fun i x3 x4 x5 g' => ∃ U : List Idn, U.length ≤ i ∧ (0 < i → U ≠ []) ∧ U.Nodup ∧ (∀ x ∈ U, sOk x.1) ∧ Go s g g' (m + 1001 + 3 * i) ∧ g' F = some (.lst (U.map idD)) ∧ g' N = some (.lst (ns.map D.str)))
    ⟨_, _, _, rfl, [], by simp, (fun z => by omega), List.nodup_nil, (fun a z => by cases z), G03.le (by omega), G3.get nF gup_same, G3.get nN (by rw [gup_ne nNF]; exact hgN)⟩ (fun _ _ _ _ _ _ _ => trivial) ?_ ?_
  · rintro i d x3 x4 x5 g4 hd ⟨U, hl2, h0, hnd2, hok, G, hgF, hgN4⟩
    obtain ⟨hi, rfl⟩ := ran_get hd
    walk_at "wk"
    refine ⟨s, _, rfl, G.2, (by omega), (by omega), (by omega), fun v2 g5 b1 b2 G5 => ?_⟩
    walk_at "wk"
    intro B hB
    have G6 := G5.new (o := .lst [.int (0 + (i : Int) + 1), .int 9, .int 10, .int (100 + (0 + (i : Int))), .int (1 + v2)]) hB
    have nB := G5.2.neL hB
    walk_at "wk"
    refine ⟨s, _, rfl, G6.2, (by omega), (by omega), (by omega), fun v3 g7 c1 c2 G7 => ?_⟩
    obtain ⟨nu, hnu⟩ : ∃ nu : Int, L2.atI [D.int (0 + (i : Int) + 1), .int 9, .int 10, .int (100 + (0 + (i : Int))), .int (1 + v2)] v3 = some (.int nu) := by
      rcases (by omega : v3 = 0 ∨ v3 = 1 ∨ v3 = 2 ∨ v3 = 3 ∨ v3 = 4) with rfl | rfl | rfl | rfl | rfl <;> exact ⟨_, rfl⟩
    refine v_ixL (G7.get nB gup_same) hnu ?_
    have G47 := G6.trans G7
    walk_at "wk"
    refine ⟨s, _, _, rfl, G7.2, (by omega), G47.get nN hgN4, nN, hn0, by rw [List.length_map]; omega, fun d2 g8 hd2 G8 => ?_⟩
    obtain ⟨z, hz, rfl⟩ := List.mem_map.mp hd2
    have hzo := (hns z hz).sOk
    have G48 := G47.trans G8
    walk_at "wk"
    refine v_notInIds (t := (z, nu)) (G48.get nF hgF) hzo hok ?_
    walk_at "wk"
    refine iteN (fun hni => ?_) (fun hin => ?_)
    · walk_at "wk"
      refine v_rcvL (G48.get nF hgF) ?_
      walk_at "wk"
      refine v_app' (G48.get nF hgF) (by rw [szl, List.length_map]; omega) ?_
      refine ⟨_, _, _, rfl, U ++ [(z, nu)], by rw [List.length_append, List.length_singleton]; omega, (fun _ => by simp), ?_, fun x hx => ?_, ((G.trans G48).mut hF0 hS).le (by omega), by rw [gup_same, List.map_append]; rfl, by rw [gup_ne nNF]; exact G48.get nN hgN4⟩
      · rw [List.nodup_append]
        exact ⟨hnd2, by simp, fun a ha b hb e => hni (by rw [List.mem_singleton] at hb; rw [← hb, ← e]; exact ha)⟩
      · rcases List.mem_append.mp hx with hx | hx
        · exact hok x hx
        · rw [List.mem_singleton.mp hx]; exact hzo
    · walk_at "wk"
      exact ⟨_, _, _, rfl, U, by omega, (fun _ z => by rw [z] at hin; cases hin), hnd2, hok, (G.trans G48).le (by omega), G48.get nF hgF, G48.get nN hgN4⟩
  · rintro x3 x4 x5 g4 ⟨U, hl2, h0, hnd2, hok, G, hgF, hgN4⟩
    rw [ran_len] at hl2 h0 G
    walk_at "wk"
    exact q U F g4 (h0 (by omega)) (by omega) hnd2 hok hF0 (G.le (by omega)) hgF

/-- .law.view(source, idents): 0 source, 1 idents, 2 left, 3 number, 4 view, 5 ident -/
abbrev N_Lview : List Str := ["source", "idents", "left", "number", "view", "ident"]
theorem st0_Lview (a0 a1 : D) : dstart N_Lview [a0, a1] = [some a0, some a1, none, none, none, none] := rfl
def w_Lview : DTS := (dSeq (dAsg (dCall sp_Lshuffled [] (dCons (dVar 0) (dCons (dVar 1) dNil))) (gNm 2))
  (dSeq (dAsg (dC (.int 0)) (gNm 3))
  (dSeq (dAsg (dLst dNil) (gNm 4))
  (dSeq (dFor (iAny (dSl (dVar 2) dNo (dPart (dCall sp_Ldraw [] (dCons (dVar 0) (dCons (dOp addD (dCB lenD (dCons (dVar 2) dNil)) (dC (.int 1))) dNil)))))) (gNm 5) (dSeq (dAsg (dOp addD (dOp addD (dVar 3) (dC (.int 1))) (dCall sp_Ldraw [] (dCons (dVar 0) (dCons (dC (.int 3)) dNil)))) (gNm 3))
  (dDrop (dBM "list" appD (dVar 4) (dCons (dTup (dCons (dVar 3) (dCons (dVar 5) dNil))) dNil)))))
  (dRet (dVar 4))))))
def sp_Lview : DSp := fun ds g Q => match ds with
  | [.ref L, .ref I] => ∃ s m, ∃ U : List Idn, s.L = L ∧ Src s g m ∧ m < 500000000000 ∧ g I = some (.lst (U.map idD)) ∧ I ≠ s.L ∧ U.Nodup ∧ U.length ≤ 100 ∧ ∀ (ps : List PrR) p g', VwOk U ps → g p = none → Go s g g' (m + 201000) → g' p = some (.lst (ps.map prD)) → Q (.ref p) g'
  | _ => False
theorem len_Lview : ∀ ds g Q, sp_Lview ds g Q → ds.length = 2 := fun ds g Q h => by
  unfold sp_Lview at h; split at h <;> first | rfl | exact h.elim
theorem rd_Lview : ∀ ds g Q, sp_Lview ds g Q → w_Lview { nx := fun _ g => Q .non g, rt := Q } (dstart N_Lview ds) g := fun ds g Q h => by
  unfold sp_Lview at h; split at h
  case h_2 => exact h.elim
  obtain ⟨s, m, U, rfl, hS, hm, hI, nI, hnd, hl, q⟩ := h
  rename_i I
  rw [st0_Lview]
  unfold w_Lview
  walk_at "wk"
  refine ⟨s, m, _, rfl, hS, (by omega), hI, nI, by rw [List.length_map]; omega, fun ys P g1 hy hP G1 hgP => ?_⟩
  obtain ⟨us, rfl, hus⟩ := perm_map_inv hy U rfl
  have nP := hS.neL hP
  have hlen := hus.length_eq
  walk_at "wk"
  intro F hF
  have nPF : P ≠ F := fun z => by rw [z, hF] at hgP; cases hgP
  have nF := G1.2.neL hF
  have hF0 := G1.1.fresh hF
  have G2 := G1.new (o := .lst []) hF
  walk_at "wk"
  refine s_anyL ?_
  walk_at "wk"
  refine v_lenL (by rw [gup_ne nPF]; exact hgP) ?_
  rw [List.length_map]
  walk_at "wk"
  refine ⟨s, _, rfl, G2.2, (by omega), (by omega), (by omega), fun v g3 a1 a2 G3 => ?_⟩
  have G03 := G2.trans G3
  walk_at "wk"
  refine v_slToL (G3.get nP (by rw [gup_ne nPF]; exact hgP)) a1 fun B hB => ?_
  have eB : (us.map idD).take v.toNat = (us.take v.toNat).map idD := by rw [List.map_take]
  rw [eB]
  have G4 := G03.new (o := .lst ((us.take v.toNat).map idD)) hB
  have nB := G03.2.neL hB
  have hFB : F ≠ B := fun z => by rw [← z, G3.get nF gup_same] at hB; cases hB
  walk_at "wk"
  refine ⟨B, _, rfl, .inl gup_same, ?_⟩
  refine for2 3 5 (fun i x3 x5 g' => ∃ (n : Int) (ps : List PrR), x3 = some (.int n) ∧ ps.map (·.2) = us.take i ∧ Go s g g' (m + 200001 + i) ∧ g' F = some (.lst (ps.map prD)) ∧ g' B = some (.lst ((us.take v.toNat).map idD)))
    ⟨_, _, rfl, 0, [], rfl, rfl, G4.le (by omega), by rw [gup_ne hFB]; exact G3.get nF gup_same, gup_same⟩ (fun i x3 x5 g' _ ⟨_, _, _, _, _, _, h⟩ => .inl h) ?_ ?_
  · rintro i d x3 x5 g4 hd ⟨n, ps, rfl, hps, G, hgF, hgB⟩
    rw [List.getElem?_map] at hd
    cases hi : (us.take v.toNat)[i]? with
    | none => rw [hi] at hd; cases hd
    | some x =>
    rw [hi] at hd
    cases hd
    have hiv : i < v.toNat := by
      have := (List.getElem?_eq_some_iff.mp hi).1
      rw [List.length_take] at this
      omega
    have hi2 : us[i]? = some x := by rw [List.getElem?_take] at hi; rw [if_pos hiv] at hi; exact hi
    have hil := (List.getElem?_eq_some_iff.mp hi2).1
    have hpl : ps.length = i := by
      have := congrArg List.length hps
      rw [List.length_map, List.length_take] at this
      omega
    walk_at "wk"
    refine ⟨s, _, rfl, G.2, (by omega), (by omega), (by omega), fun v2 g5 b1 b2 G5 => ?_⟩
    walk_at "wk"
    refine v_rcvL (G5.get nF hgF) ?_
    walk_at "wk"
    refine v_app' (G5.get nF hgF) (by rw [szl, List.length_map]; omega) ?_
    refine ⟨_, _, rfl, _, ps ++ [(n + 1 + v2, x)], rfl, ?_, ((G.trans G5).mut hF0 hS).le (by omega), by rw [gup_same, List.map_append]; rfl, by rw [gup_ne hFB.symm]; exact G5.get nB hgB⟩
    rw [List.map_append, hps, List.take_add_one, hi2]
    rfl
  · rintro x3 x5 g4 ⟨n, ps, rfl, hps, G, hgF, hgB⟩
    rw [List.length_map, List.length_take] at hps G
    walk_at "wk"
    refine q ps F g4 ⟨?_, fun p hp => ?_⟩ hF0 (G.le (by omega)) hgF
    · rw [hps]
      exact (hus.nodup_iff.mpr hnd).sublist (List.take_sublist _ _)
    · have : p.2 ∈ us.take (min v.toNat us.length) := by rw [← hps]; exact List.mem_map_of_mem hp
      exact hus.mem_iff.mp (List.mem_of_mem_take this)

/-- .law.change(source, view, idents): 0 source, 1 view, 2 idents, 3 there, 4 left, 5 last, 6 pair, 7 ident -/
abbrev N_Lchange : List Str := ["source", "view", "idents", "there", "left", "last", "pair", "ident"]
theorem st0_Lchange (a0 a1 a2 : D) : dstart N_Lchange [a0, a1, a2] = [some a0, some a1, some a2, none, none, none, none, none] := rfl
def w_Lchange : DTS := (dSeq (dIf (dAnd (dTest (dOp gtD (dCB lenD (dCons (dVar 1) dNil)) (dC (.int 0)))) (dTest (dOp eqD (dCall sp_Ldraw [] (dCons (dVar 0) (dCons (dC (.int 2)) dNil))) (dC (.int 1))))) (dSeq (dDrop (dBM "list" popD (dVar 1) (dCons (dCall sp_Ldraw [] (dCons (dVar 0) (dCons (dCB lenD (dCons (dVar 1) dNil)) dNil))) dNil)))
  dRetN) dNext)
  (dSeq (dAsg (dLc (iAny (dVar 1)) 6 dYes (dOp ixD (dVar 6) (dC (.int 1)))) (gNm 3))
  (dSeq (dAsg (dLc (iAny (dVar 2)) 7 (dTest (dOp notInD (dVar 7) (dVar 3))) (dVar 7)) (gNm 4))
  (dIf (dTest (dOp gtD (dCB lenD (dCons (dVar 4) dNil)) (dC (.int 0)))) (dSeq (dAsg (dCB maxLD (dCons (dOp addD (dLst (dCons (dC (.int 0)) dNil)) (dLc (iAny (dVar 1)) 6 dYes (dOp ixD (dVar 6) (dC (.int 0))))) dNil)) (gNm 5))
  (dDrop (dBM "list" appD (dVar 1) (dCons (dTup (dCons (dOp addD (dOp addD (dVar 5) (dC (.int 1))) (dCall sp_Ldraw [] (dCons (dVar 0) (dCons (dC (.int 3)) dNil)))) (dCons (dCall sp_Lpick [] (dCons (dVar 0) (dCons (dVar 4) dNil))) dNil))) dNil)))) dNext))))
def sp_Lchange : DSp := fun ds g Q => match ds with
  | [.ref L, .ref V, .ref I] => ∃ s m, ∃ (U : List Idn) (ps : List PrR), s.L = L ∧ Src s g m ∧ m < 500000000000 ∧ g I = some (.lst (U.map idD)) ∧ I ≠ s.L ∧ g V = some (.lst (ps.map prD)) ∧ V ≠ s.L ∧ V ≠ s.L0 ∧ VwOk U ps ∧ ps.length ≤ 1000 ∧ (∀ x ∈ U, sOk x.1) ∧ U.length ≤ 1000 ∧ ∀ (ps2 : List PrR) g1 g', VwOk U ps2 → Go s g g1 (m + 10) → Src s g' (m + 10) → Up [V] g1 g' → g' V = some (.lst (ps2.map prD)) → Q .non g'
  | _ => False
theorem len_Lchange : ∀ ds g Q, sp_Lchange ds g Q → ds.length = 3 := fun ds g Q h => by
  unfold sp_Lchange at h; split at h <;> first | rfl | exact h.elim
theorem src_upV {s : SI} {g g' : GS} {m : Nat} {V : Addr} (h : Src s g m) (U : Up [V] g g') (n1 : V ≠ s.L) (n2 : V ≠ s.L0) : Src s g' m := by
  obtain ⟨h1, h2, c, big, seed, n, h3, h4⟩ := h
  exact ⟨U.get1 (Ne.symm n2) h1, h2, c, big, seed, n, U.get1 (Ne.symm n1) h3, h4⟩
theorem vw_len {U : List Idn} {ps : List PrR} (h : VwOk U ps) : ps.length ≤ U.length := by
  have := nodup_len _ _ h.nd fun x hx => by
    obtain ⟨p, hp, rfl⟩ := List.mem_map.mp hx
    exact h.sub p hp
  rwa [List.length_map] at this
theorem map_erase' {α β : Type} (f : α → β) : ∀ (l : List α) (j : Nat), (l.eraseIdx j).map f = (l.map f).eraseIdx j
  | [], _ => rfl
  | _ :: _, 0 => rfl
  | x :: l, j + 1 => by
    show f x :: (l.eraseIdx j).map f = f x :: (l.map f).eraseIdx j
    rw [map_erase' f l j]
theorem rd_Lchange : ∀ ds g Q, sp_Lchange ds g Q → w_Lchange { nx := fun _ g => Q .non g, rt := Q } (dstart N_Lchange ds) g := fun ds g Q h => by
  unfold sp_Lchange at h; split at h
  case h_2 => exact h.elim
  obtain ⟨s, m, U, ps, rfl, hS, hm, hI, nI, hV, nV, nV0, hvw, hpl, hso, hul, q⟩ := h
  rename_i V I
  rw [st0_Lchange]
  unfold w_Lchange
  walk_at "wk"
  rw [List.length_map]
  have o1 : m < 1099511627776 := by omega
  have o2 : (0 : Int) < 2 := by omega
  have o3 : (2 : Int) < 1073741824 := by omega
  have G00 := (Go.start hS).le (Nat.le_succ m)
  apply two
  case main =>
    intro hy hn
    refine iteD (fun h0 => ?_) (fun _ => ?_)
    · walk_at "wk"
      refine ⟨s, m, rfl, hS, o1, o2, o3, fun v1 g1 a1 a2 G1 => ?_⟩
      walk_at "wk"
      refine iteD (fun _ => ?_) (fun _ => ?_)
      · revert G1
        revert g1
        revert h0
        exact hy
      · revert G1
        revert g1
        exact hn
    · walk_at "wk"
      refine iteB (fun z => by cases z) (fun _ => ?_)
      exact hn _ G00
  case y =>
    intro h0 g1 G1
    have hV1 := G1.get nV hV
    walk_at "wk"
    rw [List.length_map]
    refine ⟨s, _, rfl, G1.2, (by omega), (by omega), (by omega), fun v2 g2 b1 b2 G2 => ?_⟩
    have hV2 := G2.get nV hV1
    walk_at "wk"
    obtain ⟨p, hp⟩ : ∃ p, ps[v2.toNat]? = some p := ⟨_, List.getElem?_eq_getElem (by omega)⟩
    refine v_popAt hV2 b1 (by rw [List.length_map]; omega) (show (ps.map prD)[v2.toNat]? = some (prD p) from by rw [List.getElem?_map, hp]; rfl) ?_
    walk_at "wk"
    have e : (ps.map prD).eraseIdx v2.toNat = (ps.eraseIdx v2.toNat).map prD := (map_erase' prD ps v2.toNat).symm
    have U2 : Up [V] g2 (gup g2 V (.lst ((ps.map prD).eraseIdx v2.toNat))) := Up.refl.ins (List.mem_singleton.mpr rfl)
    refine q (ps.eraseIdx v2.toNat) g2 _ ⟨?_, fun x hx => hvw.sub x (List.mem_of_mem_eraseIdx hx)⟩ ((G1.trans G2).le (by omega)) (src_upV ((G1.trans G2).le (show m + 1 + 1 ≤ m + 10 by omega)).2 U2 nV nV0) U2 (by rw [gup_same, e])
    exact hvw.nd.sublist (List.Sublist.map _ (List.eraseIdx_sublist ..))
  case n =>
    intro g1 G1
    have hV1 := G1.get nV hV
    have hI1 := G1.get nI hI
    walk_at "wk"
    refine s_anyL ?_
    walk_at "wk"
    refine lc_map ps prD (fun p => idD p.2) rfl (fun g' U => .inl (U.get0 hV1)) (by omega) ?_ ?_
    · intro i p g' Q' hi U k
      walk_at "wk"
      exact k _ .refl
    intro T g2 hT U2 hgT
    have G2 := G1.up U2
    have hso2 : ∀ x ∈ ps.map (·.2), sOk x.1 := fun x hx => by
      obtain ⟨p, hp, rfl⟩ := List.mem_map.mp hx
      exact hso _ (hvw.sub p hp)
    walk_at "wk"
    refine s_anyL ?_
    walk_at "wk"
    refine ⟨I, _, rfl, .inl (U2.get0 hI1), ?_⟩
    refine lc_filt U idD idD (fun x => !decide (x ∈ ps.map (·.2))) rfl (fun g' U' => .inl (U'.get0 (U2.get0 hI1))) (by omega) ?_ ?_ ?_
    · intro i x g' Q' hi U' k
      walk_at "wk"
      refine v_notInIds (us := ps.map (·.2)) (by rw [U'.get0 hgT, List.map_map]; rfl) (hso x (List.mem_of_getElem? hi)) hso2 ?_
      exact ⟨_, rfl, k _ .refl⟩
    · intro i x g' Q' hi hb U' k
      walk_at "wk"
      exact k _ .refl
    intro B g3 hB U3 hgB
    have G3 := G2.up U3
    have hfl := List.length_filter_le (fun x => !decide (x ∈ ps.map (·.2))) U
    have hsel : ∀ x ∈ U.filter (fun x => !decide (x ∈ ps.map (·.2))), x ∈ U ∧ x ∉ ps.map (·.2) := fun x hx => by
      obtain ⟨h1, h2⟩ := List.mem_filter.mp hx
      exact ⟨h1, by simpa using h2⟩
    generalize U.filter (fun x => !decide (x ∈ ps.map (·.2))) = sel at hgB hfl hsel
    have nB := G2.2.neL hB
    have hV3 := U3.get0 (U2.get0 hV1)
    walk_at "wk"
    rw [List.length_map]
    refine iteD (fun h0 => ?_) (fun h0 => ?_)
    · walk_at "wk"
      intro Z hZ
      have G4 := G3.new (o := .lst [.int 0]) hZ
      walk_at "wk"
      refine s_anyL ?_
      walk_at "wk"
      have nVZ : V ≠ Z := fun z => by rw [z, hZ] at hV3; cases hV3
      have nBZ : B ≠ Z := fun z => by rw [z, hZ] at hgB; cases hgB
      refine ⟨V, _, rfl, .inl (by rw [gup_ne nVZ]; exact hV3), ?_⟩
      refine lc_map ps prD (fun p => .int p.1) rfl (fun g' U => .inl (U.get0 (by rw [gup_ne nVZ]; exact hV3))) (by omega) ?_ ?_
      · intro i p g' Q' hi U k
        walk_at "wk"
        exact k _ .refl
      intro Y g5 hY U5 hgY
      have G5 := G4.up U5
      walk_at "wk"
      refine v_addL (U5.get0 gup_same) hgY (by rw [szl, List.length_map]; simp; omega) fun X hX => ?_
      have G6 := G5.new (o := .lst ([.int 0] ++ ps.map fun p => .int p.1)) hX
      have hgX : gup g5 X (.lst ([.int 0] ++ ps.map fun p => .int p.1)) X = some (.lst ((((0 : Int) :: ps.map fun p : PrR => p.1)).map D.int)) := by rw [gup_same, List.map_cons, List.map_map]; rfl
      have hV6 : gup g5 X (.lst ([.int 0] ++ ps.map fun p => .int p.1)) V = some (.lst (ps.map prD)) := by
        rw [gup_ne (fun z => by rw [← z, U5.get0 (by rw [gup_ne nVZ]; exact hV3)] at hX; cases hX)]
        exact U5.get0 (by rw [gup_ne nVZ]; exact hV3)
      have hB6 : gup g5 X (.lst ([.int 0] ++ ps.map fun p => .int p.1)) B = some (.lst (sel.map idD)) := by
        rw [gup_ne (fun z => by rw [← z, U5.get0 (by rw [gup_ne nBZ]; exact hgB)] at hX; cases hX)]
        exact U5.get0 (by rw [gup_ne nBZ]; exact hgB)
      generalize gup g5 X (.lst ([.int 0] ++ ps.map fun p => .int p.1)) = g6 at G6 hgX hV6 hB6
      walk_at "wk"
      refine v_maxL hgX (by simp) fun mx _ _ => ?_
      walk_at "wk"
      refine ⟨s, _, rfl, G6.2, (by omega), (by omega), (by omega), fun v2 g7 b1 b2 G7 => ?_⟩
      walk_at "wk"
      refine ⟨s, _, _, rfl, G7.2, (by omega), G7.get nB hB6, nB, (fun z => by have := congrArg List.length z; rw [List.length_map, List.length_nil] at this; omega), by rw [List.length_map]; omega, fun d g8 hd G8 => ?_⟩
      obtain ⟨x, hx, rfl⟩ := List.mem_map.mp hd
      have G78 := G7.trans G8
      have hV8 := G78.get nV hV6
      walk_at "wk"
      refine v_app' hV8 (by rw [szl, List.length_map]; omega) ?_
      have U8 : Up [V] g8 (gup g8 V (.lst (ps.map prD ++ [prD (mx + 1 + v2, x)]))) := Up.refl.ins (List.mem_singleton.mpr rfl)
      have G08 := (G6.trans G78).le (show m + 1 + 1 + 1 ≤ m + 10 by omega)
      refine q (ps ++ [(mx + 1 + v2, x)]) g8 _ ⟨?_, fun y hy => ?_⟩ G08 (src_upV G08.2 U8 nV nV0) U8 (by rw [gup_same, List.map_append]; rfl)
      · rw [List.map_append, List.nodup_append]
        refine ⟨hvw.nd, by simp, fun a ha b hb e => ?_⟩
        have hb : b = x := by simpa using hb
        exact (hsel x hx).2 (by rw [← hb, ← e]; exact ha)
      · rcases List.mem_append.mp hy with hy | hy
        · exact hvw.sub y hy
        · rw [List.mem_singleton.mp hy]; exact (hsel x hx).1
    · walk_at "wk"
      exact q ps g3 g3 hvw (G3.le (by omega)) (G3.le (show m + 1 ≤ m + 10 by omega)).2 .refl hV3

/-- .law.new.due(view, ids): 0 view, 1 ids, 2 pair -/
abbrev N_Lnew_due : List Str := ["view", "ids", "pair"]
theorem st0_Lnew_due (a0 a1 : D) : dstart N_Lnew_due [a0, a1] = [some a0, some a1, none] := rfl
def w_Lnew_due : DTS := (dRet (dCB tupF (dCons (dLc (iAny (dVar 0)) 2 (dTest (dOp notInD (dOp ixD (dVar 2) (dC (.int 1))) (dVar 1))) (dVar 2)) dNil)))
def sp_Lnew_due : DSp := fun ds g Q => match ds with
  | [.ref V, .ref r] => ∃ (ps : List PrR) (ids : List Idn), g V = some (.lst (ps.map prD)) ∧ g r = some (.lst (ids.map idD)) ∧ ps.length ≤ 100000 ∧ (∀ x ∈ ids, sOk x.1) ∧ (∀ p ∈ ps, sOk p.2.1) ∧ ∀ g', Up [] g g' → Q (.tup ((newP ps ids).map prD)) g'
  | _ => False
theorem len_Lnew_due : ∀ ds g Q, sp_Lnew_due ds g Q → ds.length = 2 := fun ds g Q h => by
  unfold sp_Lnew_due at h; split at h <;> first | rfl | exact h.elim
theorem rd_Lnew_due : ∀ ds g Q, sp_Lnew_due ds g Q → w_Lnew_due { nx := fun _ g => Q .non g, rt := Q } (dstart N_Lnew_due ds) g := fun ds g Q h => by
  unfold sp_Lnew_due at h; split at h
  case h_2 => exact h.elim
  obtain ⟨ps, ids, hV, hr, hl, hi, hp, q⟩ := h
  rename_i V r
  rw [st0_Lnew_due]
  unfold w_Lnew_due
  walk_at "wk"
  refine s_anyL ?_
  walk_at "wk"
  refine lc_filt ps prD prD (fun p => !decide (p.2 ∈ ids)) rfl (fun g' U => .inl (U.get0 hV)) (by omega) ?_ ?_ ?_
  · intro i p g' Q' hi2 U k
    walk_at "wk"
    refine v_notInIds (U.get0 hr) (hp p (List.mem_of_getElem? hi2)) hi ?_
    exact ⟨_, rfl, k _ .refl⟩
  · intro i p g' Q' hi2 hb U k
    walk_at "wk"
    exact k _ .refl
  intro B g1 hB U1 hg1
  walk_at "wk"
  exact q g1 U1

/-- .law.look(source, reader, ids, view, share): 0 source, 1 reader, 2 ids, 3 view, 4 share, 5 due, 6 pair -/
abbrev N_Llook : List Str := ["source", "reader", "ids", "view", "share", "due", "pair"]
theorem st0_Llook (a0 a1 a2 a3 a4 : D) : dstart N_Llook [a0, a1, a2, a3, a4] = [some a0, some a1, some a2, some a3, some a4, none, none] := rfl
def w_Llook : DTS := (dSeq (dAsg (dCall sp_Lnew_due [] (dCons (dVar 3) (dCons (dVar 2) dNil))) (gNm 5))
  (dSeq (dIf (dNot (dTru (dCall sp_Lsame [] (dCons (dMeth "Reader" "new" sp_Reader_new (dVar 1) (dCons (dCB tupF (dCons (dVar 3) dNil)) dNil)) (dCons (dVar 5) dNil))))) (dRet (dC (.bl false))) dNext)
  (dSeq (dFor (iAny (dCall sp_Lshuffled [] (dCons (dVar 0) (dCons (dVar 5) dNil)))) (gNm 6) (dIf (dTest (dOp ltD (dCall sp_Ldraw [] (dCons (dVar 0) (dCons (dC (.int 2)) dNil))) (dVar 4))) (dSeq (dIf (dTest (dOp notND (dMeth "Reader" "read" sp_Reader_read (dVar 1) (dCons (dOp ixD (dVar 6) (dC (.int 1))) dNil)) (dC .non))) (dRet (dC (.bl false))) dNext)
  (dDrop (dBM "list" appD (dVar 2) (dCons (dOp ixD (dVar 6) (dC (.int 1))) dNil)))) dNext))
  (dRet (dCall sp_Lsame [] (dCons (dMeth "Reader" "new" sp_Reader_new (dVar 1) (dCons (dCB tupF (dCons (dVar 3) dNil)) dNil)) (dCons (dCall sp_Lnew_due [] (dCons (dVar 3) (dCons (dVar 2) dNil))) dNil)))))))
theorem ok_prs {ps : List PrR} (h : ps.length ≤ 1000000) : okT 3 (.tup (ps.map prD)) := by
  refine ⟨by rw [List.length_map]; omega, fun d hd => ?_⟩
  obtain ⟨p, _, rfl⟩ := List.mem_map.mp hd
  exact ⟨by simp, fun y hy => by
    simp only [List.mem_cons, List.not_mem_nil, or_false] at hy
    rcases hy with rfl | rfl
    · trivial
    · exact ⟨by simp, fun y hy => by
        simp only [List.mem_cons, List.not_mem_nil, or_false] at hy
        rcases hy with rfl | rfl <;> trivial⟩⟩
/-- what a look leaves: ids and row, from those before -/
structure LookR (ps : List PrR) (row row2 : List Idn) (ids2 : List Idn) : Prop where
  perm : ids2.Perm row2
  nd : row2.Nodup
  sup : ∀ x ∈ row, x ∈ row2
  sub : ∀ x ∈ row2, x ∈ row ∨ x ∈ ps.map (·.2)
def sp_Llook : DSp := fun ds g Q => match ds with
  | [.ref L, .ref a, .ref r, .ref V, .int share] => ∃ s m, ∃ (d : Addr) (U ids row : List Idn) (ps : List PrR), s.L = L ∧ Src s g m ∧ m < 500000000000 ∧ RdAt g a d ids ∧ g r = some (.lst (row.map idD)) ∧ g V = some (.lst (ps.map prD)) ∧ r ≠ s.L ∧ r ≠ s.L0 ∧ V ≠ s.L ∧ V ≠ r ∧ ids.Perm row ∧ row.Nodup ∧ (∀ x ∈ row, sOk x.1) ∧ VwOk U ps ∧ (∀ x ∈ U, sOk x.1) ∧ U.length ≤ 100 ∧ row.length ≤ 100 ∧
      ∀ (ids2 row2 : List Idn) g', LookR ps row row2 ids2 → (share = 2 → ∀ x ∈ ps.map (·.2), x ∈ row2) → Up [s.L, d, r] g g' → Src s g' (m + 300000) → RdAt g' a d ids2 → g' r = some (.lst (row2.map idD)) → Q (.bl true) g'
  | _ => False
theorem len_Llook : ∀ ds g Q, sp_Llook ds g Q → ds.length = 5 := fun ds g Q h => by
  unfold sp_Llook at h; split at h <;> first | rfl | exact h.elim
theorem src_upS3 {s : SI} {g g' : GS} {m : Nat} {S : List Addr} (h : Src s g m) (U : Up S g g') (n1 : s.L ∉ S) (n2 : s.L0 ∉ S) : Src s g' m := by
  obtain ⟨h1, h2, c, big, seed, n, h3, h4⟩ := h
  exact ⟨U.1 _ _ n2 h1, h2, c, big, seed, n, U.1 _ _ n1 h3, h4⟩
theorem rd_Llook : ∀ ds g Q, sp_Llook ds g Q → w_Llook { nx := fun _ g => Q .non g, rt := Q } (dstart N_Llook ds) g := fun ds g Q h => by
  unfold sp_Llook at h; split at h
  case h_2 => exact h.elim
  obtain ⟨s, m, d, U, ids, row, ps, rfl, hS, hm, hR, hr, hV, nr, nr0, nV, nVr, hpm, hnd, hrs, hvw, hU, hUl, hrl, q⟩ := h
  rename_i a r V share
  have hpl := vw_len hvw
  have hps : ∀ p ∈ ps, sOk p.2.1 := fun p hp => hU _ (hvw.sub p hp)
  obtain ⟨kvs0, hd0, _⟩ := hR.dct
  obtain ⟨dsL, hLL⟩ := hS.isL
  have nLa : s.L ≠ a := kind_ne2 hLL hR.ins
  have nLd : s.L ≠ d := kind_ne hLL hd0
  have nra : r ≠ a := kind_ne2 hr hR.ins
  have nrd : r ≠ d := kind_ne hr hd0
  have nL0d : s.L0 ≠ d := kind_ne hS.1 hd0
  rw [st0_Llook]
  unfold w_Llook
  walk_at "wk"
  refine ⟨ps, row, hV, hr, by omega, hrs, hps, fun g1 U1 => ?_⟩
  have e0 : newP ps ids = newP ps row := newP_congr fun x => hpm.mem_iff
  walk_at "wk"
  refine ⟨a, _, rfl, U1.get0 hR.ins, rf_none (by decide +kernel), ?_⟩
  walk_at "wk"
  refine v_tupL (U1.get0 hV) ?_
  walk_at "wk"
  refine ⟨d, ids, ps, hR.up U1 (by simp) (by simp), rfl, by omega, fun g2 U2 => ?_⟩
  rw [e0]
  have hnl : (newP ps row).length ≤ ps.length := List.length_filter_le ..
  walk_at "wk"
  refine use_same (okT_le (ok_prs (by omega)) (by omega)) ?_
  walk_at "wk"
  refine iteNB (fun z => by cases z) (fun _ => ?_)
  have U02 := U1.trans U2
  walk_at "wk"
  refine s_anyL ?_
  walk_at "wk"
  have S2 := hS.up U02
  refine ⟨s, m, rfl, S2, (by omega), by rw [List.length_map]; omega, fun ys P g3 hy hP G3 hgP => ?_⟩
  obtain ⟨qs, rfl, hqs⟩ := perm_map_inv hy (newP ps row) rfl
  have hql := hqs.length_eq
  have hqmem : ∀ p ∈ qs, p ∈ ps ∧ p.2 ∉ row := fun p hp => by
    obtain ⟨h1, h2⟩ := List.mem_filter.mp (hqs.mem_iff.mp hp)
    exact ⟨h1, by simpa using h2⟩
  have hqnd : (qs.map (·.2)).Nodup := ((hqs.map (·.2)).nodup_iff).mpr (hvw.nd.sublist (List.Sublist.map _ List.filter_sublist))
  have G03 : Go s g g3 (m + 200000) := ((Go.start hS).up U02).trans G3
  have nP := S2.neL hP
  have hr3 := G03.get nr hr
  have hV3 := G03.get nV hV
  have hR3 : RdAt g3 a d ids := hR.up G03.1 (fun z => nLa (List.mem_singleton.mp z).symm) (fun z => nLd (List.mem_singleton.mp z).symm)
  have nPr : P ≠ r := fun z => by rw [z, U02.get0 hr] at hP; cases hP
  have nPd : P ≠ d := fun z => by rw [z, U02.get0 hd0] at hP; cases hP
  walk_at "wk"
  refine for1 6 (fun i x6 g' => ∃ (ids2 row2 : List Idn), LookR ps row row2 ids2 ∧ (∀ x ∈ row2, x ∈ row ∨ x ∈ (qs.take i).map (·.2)) ∧ (share = 2 → ∀ x ∈ (qs.take i).map (·.2), x ∈ row2) ∧ row2.length ≤ row.length + i ∧ Up [s.L, d, r] g g' ∧ Src s g' (m + 200000 + i) ∧ RdAt g' a d ids2 ∧ g' r = some (.lst (row2.map idD)) ∧ g' V = some (.lst (ps.map prD)) ∧ g' P = some (.lst (qs.map prD)))
    ⟨_, rfl, ids, row, ⟨hpm, hnd, fun x h => h, fun x h => .inl h⟩, fun x h => .inl h, (fun _ x h => by simp at h), by omega, G03.1.sub (fun x hx => by rw [List.mem_singleton.mp hx]; simp), G03.2, hR3, hr3, hV3, hgP⟩ (fun i x6 g' _ ⟨_, _, _, _, _, _, _, _, _, _, _, h⟩ => .inl h) ?_ ?_
  · rintro i w x6 g4 hw ⟨ids2, row2, hLk, hs2, hsh, hl2, U4, S4, hR4, hr4, hV4, hP4⟩
    rw [List.getElem?_map] at hw
    cases hi : qs[i]? with
    | none => rw [hi] at hw; cases hw
    | some p =>
    rw [hi] at hw
    cases hw
    have hpq := hqmem p (List.mem_of_getElem? hi)
    have hil := (List.getElem?_eq_some_iff.mp hi).1
    have hni : p.2 ∉ row2 := fun z => by
      rcases hs2 _ z with z | z
      · exact hpq.2 z
      · obtain ⟨p2, hp2, e⟩ := List.mem_map.mp z
        obtain ⟨j, hj⟩ := List.mem_iff_getElem?.mp hp2
        have hj2 : j < i ∧ qs[j]? = some p2 := by
          rw [List.getElem?_take] at hj
          split at hj
          · exact ⟨by assumption, hj⟩
          · cases hj
        exact nodup_at (f := fun p : PrR => p.2) hqnd hj2.2 hi (by omega) e
    have tk : (qs.take (i + 1)).map (·.2) = (qs.take i).map (·.2) ++ [p.2] := by rw [List.take_add_one, hi, List.map_append]; rfl
    walk_at "wk"
    refine ⟨s, _, rfl, S4, (by omega), (by omega), (by omega), fun v g5 b1 b2 G5 => ?_⟩
    have hR5 : RdAt g5 a d ids2 := hR4.up G5.1 (fun z => nLa (List.mem_singleton.mp z).symm) (fun z => nLd (List.mem_singleton.mp z).symm)
    have U5 : Up [s.L, d, r] g g5 := U4.trans (G5.1.sub fun x hx => by rw [List.mem_singleton.mp hx]; simp)
    have hil2 : ids2.length ≤ 1000 := by have := hLk.perm.length_eq; omega
    walk_at "wk"
    refine iteD (fun hv => ?_) (fun hv => ?_)
    · walk_at "wk"
      refine ⟨a, _, rfl, hR5.ins, rf_none (by decide +kernel), ?_⟩
      walk_at "wk"
      refine ⟨d, ids2, p.2, hR5, rfl, by omega, fun g6 U6 hR6 => ?_⟩
      have nin : ∀ {y}, y ≠ d → y ∉ [d] := fun n z => n (List.mem_singleton.mp z)
      have hr6 := U6.1 _ _ (nin nrd) (G5.get nr hr4)
      have hV6 := U6.1 _ _ (nin (kind_ne hV hd0)) (G5.get nV hV4)
      have hP6 := U6.1 _ _ (nin nPd) (G5.get nP hP4)
      have S6 : Src s g6 (m + 200000 + i + 1) := src_upS3 G5.2 U6 (nin nLd) (nin nL0d)
      walk_at "wk"
      refine iteB (fun z => by cases z) (fun _ => ?_)
      walk_at "wk"
      refine v_app' hr6 (by rw [szl, List.length_map]; omega) ?_
      have eI : addI ids2 p.2 = ids2 ++ [p.2] := by
        unfold addI
        rw [if_neg (fun z => hni (hLk.perm.mem_iff.mp z))]
      rw [eI] at hR6
      have U7 : Up [r] g6 (gup g6 r (.lst (row2.map idD ++ [idD p.2]))) := Up.refl.ins (List.mem_singleton.mpr rfl)
      refine ⟨_, rfl, ids2 ++ [p.2], row2 ++ [p.2], ⟨hLk.perm.append_right _, ?_, fun x hx => List.mem_append_left _ (hLk.sup x hx), fun x hx => ?_⟩, fun x hx => ?_, fun h2 x hx => ?_, by rw [List.length_append, List.length_singleton]; omega, (U5.trans (U6.sub fun x hx => by rw [List.mem_singleton.mp hx]; simp)).ins (by simp), ?_, ?_, by rw [gup_same, List.map_append]; rfl, by rw [gup_ne nVr]; exact hV6, by rw [gup_ne nPr]; exact hP6⟩
      · rw [List.nodup_append]
        exact ⟨hLk.nd, by simp, fun x hx y hy e => hni (by rw [List.mem_singleton] at hy; rw [← hy, ← e]; exact hx)⟩
      · rcases List.mem_append.mp hx with hx | hx
        · exact hLk.sub x hx
        · rw [List.mem_singleton.mp hx]; exact .inr (List.mem_map_of_mem hpq.1)
      · rw [tk]
        rcases List.mem_append.mp hx with hx | hx
        · exact (hs2 x hx).imp id fun h => List.mem_append_left _ h
        · exact .inr (List.mem_append_right _ hx)
      · rw [tk] at hx
        rcases List.mem_append.mp hx with hx | hx
        · exact List.mem_append_left _ (hsh h2 x hx)
        · exact List.mem_append_right _ hx
      · exact (src_upS3 S6 U7 (fun z => nr (List.mem_singleton.mp z).symm) (fun z => nr0 (List.mem_singleton.mp z).symm)).le (by omega)
      · exact hR6.up U7 (fun z => nra (List.mem_singleton.mp z).symm) (fun z => nrd (List.mem_singleton.mp z).symm)
    · walk_at "wk"
      refine ⟨_, rfl, ids2, row2, hLk, fun x hx => ?_, fun h2 => ?_, by omega, U5, G5.2.le (by omega), hR5, G5.get nr hr4, G5.get nV hV4, G5.get nP hP4⟩
      · rw [tk]; exact (hs2 x hx).imp id fun h => List.mem_append_left _ h
      · exact absurd (show v < share by omega) hv
  · rintro x6 g4 ⟨ids2, row2, hLk, hs2, hsh, hl2, U4, S4, hR4, hr4, hV4, hP4⟩
    rw [List.length_map] at S4 hl2
    rw [List.length_map, List.take_length] at hsh
    have hrs2 : ∀ x ∈ row2, sOk x.1 := fun x hx => by
      rcases hLk.sub x hx with h | h
      · exact hrs x h
      · obtain ⟨p, hp, rfl⟩ := List.mem_map.mp h
        exact hps p hp
    walk_at "wk"
    refine ⟨a, _, rfl, hR4.ins, rf_none (by decide +kernel), ?_⟩
    walk_at "wk"
    refine ⟨d, ids2, ps, hR4, rfl, by omega, fun g5 U5 => ?_⟩
    walk_at "wk"
    refine ⟨ps, row2, U5.get0 hV4, U5.get0 hr4, by omega, hrs2, hps, fun g6 U6 => ?_⟩
    rw [show newP ps ids2 = newP ps row2 from newP_congr fun x => hLk.perm.mem_iff]
    have hnl2 : (newP ps row2).length ≤ ps.length := List.length_filter_le ..
    have U46 := U5.trans U6
    refine use_same (okT_le (ok_prs (by omega)) (by omega)) ?_
    refine q ids2 row2 g6 hLk (fun h2 x hx => ?_) (U4.trans U46.of0) ((S4.up U46).le (by omega)) (hR4.up U46 (by simp) (by simp)) (U46.get0 hr4)
    obtain ⟨p, hp, rfl⟩ := List.mem_map.mp hx
    by_cases hin : p.2 ∈ row
    · exact hLk.sup _ hin
    · exact hsh h2 _ (List.mem_map_of_mem (f := fun p : PrR => p.2) (hqs.mem_iff.mpr (List.mem_filter.mpr ⟨hp, by simpa using hin⟩)))

/-- .law.join(readers, rows, one, two): 0 readers, 1 rows, 2 one, 3 two, 4 ident -/
abbrev N_Ljoin : List Str := ["readers", "rows", "one", "two", "ident"]
theorem st0_Ljoin (a0 a1 a2 a3 : D) : dstart N_Ljoin [a0, a1, a2, a3] = [some a0, some a1, some a2, some a3, none] := rfl
def w_Ljoin : DTS := (dSeq (dIf (dTest (dOp notND (dMeth "Reader" "meet" sp_Reader_meet (dOp ixD (dVar 0) (dVar 2)) (dCons (dOp ixD (dVar 0) (dVar 3)) dNil)) (dC .non))) (dRet (dC (.bl false))) dNext)
  (dSeq (dFor (iAny (dCB lstF (dCons (dOp ixD (dVar 1) (dVar 2)) dNil))) (gNm 4) (dIf (dTest (dOp notInD (dVar 4) (dOp ixD (dVar 1) (dVar 3)))) (dDrop (dBM "list" appD (dOp ixD (dVar 1) (dVar 3)) (dCons (dVar 4) dNil))) dNext))
  (dSeq (dFor (iAny (dCB lstF (dCons (dOp ixD (dVar 1) (dVar 3)) dNil))) (gNm 4) (dIf (dTest (dOp notInD (dVar 4) (dOp ixD (dVar 1) (dVar 2)))) (dDrop (dBM "list" appD (dOp ixD (dVar 1) (dVar 2)) (dCons (dVar 4) dNil))) dNext))
  (dRet (dC (.bl true))))))
theorem atI_n {α : Type} {xs : List α} {i : Nat} {x : α} (h : xs[i]? = some x) : L2.atI xs (i : Int) = some x := L2.atI_nat h
theorem get_map {α β : Type} {f : α → β} {l : List α} {i : Nat} {a : α} (h : l[i]? = some a) : (l.map f)[i]? = some (f a) := by rw [List.getElem?_map, h]; rfl
structure JoinR (U : List Idn) (rs rs2 : List P69) (i j : Nat) : Prop where
  len : rs2.length = rs.length
  ok : ∀ (k : Nat) p, rs2[k]? = some p → Rok U p
  at_ : ∀ (k : Nat) p2, rs2[k]? = some p2 → ∃ p pi pj, rs[k]? = some p ∧ rs[i]? = some pi ∧ rs[j]? = some pj ∧ p2.a = p.a ∧ p2.d = p.d ∧ p2.r = p.r ∧ ((k = i ∨ k = j) → ∀ x, x ∈ p2.row ↔ x ∈ pi.row ∨ x ∈ pj.row) ∧ (¬ (k = i ∨ k = j) → p2.row = p.row)
def sp_Ljoin : DSp := fun ds g Q => match ds with
  | [.ref RL, .ref WL, .int one, .int two] => ∃ s m, ∃ (VL IL : Addr) (U : List Idn) (rs : List P69) (vs : List V69) (i j : Nat), one = i ∧ two = j ∧ i ≠ j ∧ i < rs.length ∧ j < rs.length ∧ Src s g m ∧ (∀ p ∈ rs, p.r ≠ s.L0) ∧ St69 s g RL WL VL IL U rs vs ∧ (∀ (k : Nat) p, rs[k]? = some p → Rok U p) ∧ U.length ≤ 100 ∧ (∀ x ∈ U, sOk x.1) ∧
      ∀ (rs2 : List P69) g', JoinR U rs rs2 i j → St69 s g' RL WL VL IL U rs2 vs → Src s g' m → Up (rs.map (·.d) ++ rs.map (·.r)) g g' → Q (.bl true) g'
  | _ => False
theorem len_Ljoin : ∀ ds g Q, sp_Ljoin ds g Q → ds.length = 4 := fun ds g Q h => by
  unfold sp_Ljoin at h; split at h <;> first | rfl | exact h.elim
theorem rok_len {U : List Idn} {p : P69} (h : Rok U p) : p.row.length ≤ U.length ∧ p.ids.length ≤ U.length := by
  have := nodup_len _ _ h.nd h.sub
  exact ⟨this, by rw [h.perm.length_eq]; exact this⟩
theorem set2_i {rs : List P69} {i j : Nat} {p q : P69} (n : i ≠ j) (hi : i < rs.length) : ((rs.set i p).set j q)[i]? = some p := by
  rw [List.getElem?_set_ne (Ne.symm n), List.getElem?_set_self hi]
theorem set2_j {rs : List P69} {i j : Nat} {p q : P69} (hj : j < rs.length) : ((rs.set i p).set j q)[j]? = some q := List.getElem?_set_self (by rw [List.length_set]; exact hj)
theorem rd_Ljoin : ∀ ds g Q, sp_Ljoin ds g Q → w_Ljoin { nx := fun _ g => Q .non g, rt := Q } (dstart N_Ljoin ds) g := fun ds g Q h => by
  unfold sp_Ljoin at h; split at h
  case h_2 => exact h.elim
  obtain ⟨s, m, VL, IL, U, rs, vs, i, j, rfl, rfl, nij, hil, hjl, hS, hL0, hst, hok, hUl, hUs, q⟩ := h
  rename_i RL WL
  have hi : rs[i]? = some rs[i] := List.getElem?_eq_getElem hil
  have hj : rs[j]? = some rs[j] := List.getElem?_eq_getElem hjl
  have hpiL := hL0 _ (List.mem_of_getElem? hi)
  have hpjL := hL0 _ (List.mem_of_getElem? hj)
  have mi : ∀ {f : P69 → Addr}, f rs[i] ∈ rs.map f := List.mem_map_of_mem (List.mem_of_getElem? hi)
  have mj : ∀ {f : P69 → Addr}, f rs[j] ∈ rs.map f := List.mem_map_of_mem (List.mem_of_getElem? hj)
  have mdi := mi (f := P69.d)
  have mdj := mj (f := P69.d)
  have mri := mi (f := P69.r)
  have mrj := mj (f := P69.r)
  clear mi mj
  have nd := nodup_at hst.ndd hi hj nij
  have na := nodup_at hst.nda hi hj nij
  have nr := (hst.list_ne hi).2.2.2.2.2.2 j _ (Ne.symm nij) hj
  have nriL := (hst.list_ne hi).2.2.2.2.1
  have nrjL := (hst.list_ne hj).2.2.2.2.1
  have oki := hok i _ hi
  have okj := hok j _ hj
  obtain ⟨li1, li2⟩ := rok_len oki
  obtain ⟨lj1, lj2⟩ := rok_len okj
  generalize rs[i] = p at *
  generalize rs[j] = r at *
  have h1 := hst.rl
  have h2 := hst.rd i p hi
  have h3 := hst.rd j r hj
  obtain ⟨dsL, hLL⟩ := hS.isL
  obtain ⟨kv1, hd1, _⟩ := h2.dct
  obtain ⟨kv2, hd2, _⟩ := h3.dct
  rw [st0_Ljoin]
  unfold w_Ljoin
  walk_at "wk"
  refine v_ixL h1 (atI_n (get_map hi)) ?_
  refine ⟨p.a, _, rfl, h2.ins, rf_none (by decide +kernel), ?_⟩
  walk_at "wk"
  refine v_ixL h1 (atI_n (get_map hj)) ?_
  walk_at "wk"
  refine ⟨p.d, r.d, p.ids, r.ids, h2, h3, na, nd, by omega, fun g1 g2 U1 hR1 U2 hR2 => ?_⟩
  have st1 := hst.setD hi U1 hR1
  have hj1 : (rs.set i { p with ids := r.ids.foldl addI p.ids })[j]? = some r := by rw [List.getElem?_set_ne nij]; exact hj
  have st2 := st1.setD hj1 U2 hR2
  have U02 : Up (rs.map (·.d) ++ rs.map (·.r)) g g2 := (U1.sub fun x hx => by rw [List.mem_singleton.mp hx]; exact List.mem_append_left _ mdi).trans (U2.sub fun x hx => by rw [List.mem_singleton.mp hx]; exact List.mem_append_left _ mdj)
  have nin : ∀ {y z : Addr}, y ≠ z → y ∉ [z] := fun n h => n (List.mem_singleton.mp h)
  have S1 : Src s g1 m := src_upS3 hS U1 (nin (kind_ne hLL hd1)) (nin (kind_ne hS.1 hd1))
  have S2 : Src s g2 m := src_upS3 S1 U2 (nin (kind_ne (U1.1 _ _ (nin (kind_ne hLL hd1)) hLL) (U1.1 _ _ (nin (Ne.symm nd)) hd2))) (nin (kind_ne (U1.1 _ _ (nin (kind_ne hS.1 hd1)) hS.1) (U1.1 _ _ (nin (Ne.symm nd)) hd2)))
  walk_at "wk"
  refine iteB (fun z => by cases z) (fun _ => ?_)
  generalize hP1 : ({ p with ids := r.ids.foldl addI p.ids } : P69) = p1 at st1 st2
  generalize hQ1 : ({ r with ids := (r.ids.foldl addI p.ids).foldl addI r.ids } : P69) = q1 at st2
  have ep : p1.row = p.row ∧ p1.r = p.r := by subst hP1; exact ⟨rfl, rfl⟩
  have eq1 : q1.row = r.row ∧ q1.r = r.r := by subst hQ1; exact ⟨rfl, rfl⟩
  have hlen2 : ((rs.set i p1).set j q1).length = rs.length := by rw [List.length_set, List.length_set]
  have gi := set2_i (p := p1) (q := q1) nij hil
  have gj := set2_j (i := i) (p := p1) (q := q1) hjl
  walk_at "wk"
  refine s_anyL ?_
  walk_at "wk"
  refine v_ixL st2.wl (atI_n (get_map gi)) ?_
  walk_at "wk"
  refine v_lstL (st2.ro i p1 gi) fun T hT => ?_
  rw [ep.1]
  have st3 : St69 s (gup g2 T (.lst (p.row.map idD))) RL WL VL IL U ((rs.set i p1).set j q1) vs := st2.up (.new hT)
  have S3 := S2.up (.new (o := .lst (p.row.map idD)) hT)
  have hgT : gup g2 T (.lst (p.row.map idD)) T = some (.lst (p.row.map idD)) := gup_same
  have U03 := U02.trans (Up.new (S := rs.map (·.d) ++ rs.map (·.r)) (o := .lst (p.row.map idD)) hT)
  have nTr : T ≠ r.r := fun z => by rw [← eq1.2] at z; rw [z, st2.ro j q1 gj] at hT; cases hT
  generalize gup g2 T (.lst (p.row.map idD)) = g3 at st3 S3 hgT U03
  clear st2 st1 S2 S1 U02 U1 U2 hR1 hR2
  walk_at "wk"
  refine for1 4 (fun k x4 g' => St69 s g' RL WL VL IL U ((rs.set i p1).set j { q1 with row := (p.row.take k).foldl addI r.row }) vs ∧ Src s g' m ∧ Up (rs.map (·.d) ++ rs.map (·.r)) g g' ∧ g' T = some (.lst (p.row.map idD)))
    ⟨_, rfl, by rw [List.take_zero, List.foldl_nil, ← eq1.1]; exact st3, S3, U03, hgT⟩ (fun k x4 g' _ h => .inl h.2.2.2) ?_ ?_
  · rintro k w x4 g4 hw ⟨st, S4, U4, hT4⟩
    rw [List.getElem?_map] at hw
    cases hk : p.row[k]? with
    | none => rw [hk] at hw; cases hw
    | some x =>
    rw [hk] at hw
    cases hw
    have hx := oki.sub x (List.mem_of_getElem? hk)
    have gj4 := set2_j (rs := rs) (i := i) (j := j) (p := p1) (q := { q1 with row := (p.row.take k).foldl addI r.row }) hjl
    have hw4 := st.wl
    have hr4 : g4 r.r = some (.lst (((p.row.take k).foldl addI r.row).map idD)) := by rw [← eq1.2]; exact st.ro j _ gj4
    have hsr : ∀ y ∈ (p.row.take k).foldl addI r.row, sOk y.1 := fun y hy => by
      rcases (addAll_mem _ _).mp hy with h | h
      · exact hUs y (okj.sub y h)
      · exact hUs y (oki.sub y (List.mem_of_mem_take h))
    have hal := addAll_len (p.row.take k) r.row
    rw [List.length_take] at hal
    have aW : ∀ {Q' : DK}, Q' (.ref r.r) g4 → ixD (.ref WL) (.int (j : Int)) g4 Q' := fun h => v_ixL hw4 (atI_n (get_map gj4)) (by show _; rw [eq1.2]; exact h)
    have ef := foldl_snoc addI r.row p.row hk
    walk_at "wk"
    refine aW ?_
    refine v_notInIds hr4 (hUs x hx) hsr ?_
    walk_at "wk"
    refine iteN (fun hni => ?_) (fun hin => ?_)
    · walk_at "wk"
      refine aW ?_
      walk_at "wk"
      refine v_app' hr4 (by rw [szl, List.length_map]; omega) ?_
      have e1 : addI ((p.row.take k).foldl addI r.row) x = (p.row.take k).foldl addI r.row ++ [x] := if_neg hni
      have U5 : Up [r.r] g4 (gup g4 r.r (.lst (((p.row.take k).foldl addI r.row).map idD ++ [idD x]))) := Up.refl.ins (List.mem_singleton.mpr rfl)
      refine ⟨_, rfl, ?_, src_upS3 S4 U5 (nin (Ne.symm nrjL)) (nin (Ne.symm hpjL)), U4.trans (U5.sub fun y hy => by rw [List.mem_singleton.mp hy]; exact List.mem_append_right _ mrj), by rw [gup_ne nTr]; exact hT4⟩
      have := st.setR gj4 (row := (p.row.take (k + 1)).foldl addI r.row) (by show Up [q1.r] _ _; rw [eq1.2]; exact U5) (by show gup g4 r.r _ q1.r = _; rw [eq1.2, gup_same, ef, e1, List.map_append]; rfl)
      rw [List.set_set] at this
      exact this
    · walk_at "wk"
      have e1 : addI ((p.row.take k).foldl addI r.row) x = (p.row.take k).foldl addI r.row := if_pos hin
      refine ⟨_, rfl, ?_, S4, U4, hT4⟩
      rw [ef, e1]
      exact st
  rintro x4 g4 ⟨st4, S4, U4, _⟩
  rw [List.length_map, List.take_length] at st4
  generalize hrw : p.row.foldl addI r.row = row2 at st4
  have hrow2 : ∀ x, x ∈ row2 ↔ x ∈ r.row ∨ x ∈ p.row := fun x => by rw [← hrw]; exact addAll_mem _ _
  have hnd2 : row2.Nodup := by rw [← hrw]; exact addAll_nodup _ _ okj.nd
  have hl2 : row2.length ≤ 200 := by rw [← hrw]; have := addAll_len p.row r.row; omega
  generalize hQ2 : ({ q1 with row := row2 } : P69) = q2 at st4
  have eq2 : q2.row = row2 ∧ q2.r = r.r ∧ q2.ids = q1.ids ∧ q2.a = q1.a ∧ q2.d = q1.d := by subst hQ2; exact ⟨rfl, eq1.2, rfl, rfl, rfl⟩
  have gj2 := set2_j (rs := rs) (i := i) (j := j) (p := p1) (q := q2) hjl
  walk_at "wk"
  refine s_anyL ?_
  walk_at "wk"
  refine v_ixL st4.wl (atI_n (get_map gj2)) ?_
  walk_at "wk"
  refine v_lstL (st4.ro j q2 gj2) fun T2 hT2 => ?_
  rw [eq2.1]
  have st5 : St69 s (gup g4 T2 (.lst (row2.map idD))) RL WL VL IL U ((rs.set i p1).set j q2) vs := st4.up (.new hT2)
  have S5 := S4.up (.new (o := .lst (row2.map idD)) hT2)
  have hgT2 : gup g4 T2 (.lst (row2.map idD)) T2 = some (.lst (row2.map idD)) := gup_same
  have U05 := U4.trans (Up.new (S := rs.map (·.d) ++ rs.map (·.r)) (o := .lst (row2.map idD)) hT2)
  have gi2 := set2_i (rs := rs) (p := p1) (q := q2) nij hil
  have nTp : T2 ≠ p.r := fun z => by rw [← ep.2] at z; rw [z, st4.ro i p1 gi2] at hT2; cases hT2
  generalize gup g4 T2 (.lst (row2.map idD)) = g5 at st5 S5 hgT2 U05
  walk_at "wk"
  refine for1 4 (fun k x4 g' => St69 s g' RL WL VL IL U ((rs.set i { p1 with row := (row2.take k).foldl addI p.row }).set j q2) vs ∧ Src s g' m ∧ Up (rs.map (·.d) ++ rs.map (·.r)) g g' ∧ g' T2 = some (.lst (row2.map idD)))
    ⟨_, rfl, by rw [List.take_zero, List.foldl_nil, ← ep.1]; exact st5, S5, U05, hgT2⟩ (fun k x4 g' _ h => .inl h.2.2.2) ?_ ?_
  · rintro k w x4 g6 hw ⟨st, S6, U6, hT6⟩
    rw [List.getElem?_map] at hw
    cases hk : row2[k]? with
    | none => rw [hk] at hw; cases hw
    | some x =>
    rw [hk] at hw
    cases hw
    have hxU : ∀ y ∈ row2, y ∈ U := fun y hy => ((hrow2 y).mp hy).elim (okj.sub y) (oki.sub y)
    have hx := hxU x (List.mem_of_getElem? hk)
    have gi6 := set2_i (rs := rs) (i := i) (j := j) (p := { p1 with row := (row2.take k).foldl addI p.row }) (q := q2) nij hil
    have hw6 := st.wl
    have hr6 : g6 p.r = some (.lst (((row2.take k).foldl addI p.row).map idD)) := by rw [← ep.2]; exact st.ro i _ gi6
    have hsr : ∀ y ∈ (row2.take k).foldl addI p.row, sOk y.1 := fun y hy => by
      rcases (addAll_mem _ _).mp hy with h | h
      · exact hUs y (oki.sub y h)
      · exact hUs y (hxU y (List.mem_of_mem_take h))
    have hal := addAll_len (row2.take k) p.row
    rw [List.length_take] at hal
    have aW : ∀ {Q' : DK}, Q' (.ref p.r) g6 → ixD (.ref WL) (.int (i : Int)) g6 Q' := fun h => v_ixL hw6 (atI_n (get_map gi6)) (by show _; rw [ep.2]; exact h)
    have ef := foldl_snoc addI p.row row2 hk
    walk_at "wk"
    refine aW ?_
    refine v_notInIds hr6 (hUs x hx) hsr ?_
    walk_at "wk"
    refine iteN (fun hni => ?_) (fun hin => ?_)
    · walk_at "wk"
      refine aW ?_
      walk_at "wk"
      refine v_app' hr6 (by rw [szl, List.length_map]; omega) ?_
      have e1 : addI ((row2.take k).foldl addI p.row) x = (row2.take k).foldl addI p.row ++ [x] := if_neg hni
      have U7 : Up [p.r] g6 (gup g6 p.r (.lst (((row2.take k).foldl addI p.row).map idD ++ [idD x]))) := Up.refl.ins (List.mem_singleton.mpr rfl)
      refine ⟨_, rfl, ?_, src_upS3 S6 U7 (nin (Ne.symm nriL)) (nin (Ne.symm hpiL)), U6.trans (U7.sub fun y hy => by rw [List.mem_singleton.mp hy]; exact List.mem_append_right _ mri), by rw [gup_ne nTp]; exact hT6⟩
      have := st.setR gi6 (row := (row2.take (k + 1)).foldl addI p.row) (by show Up [p1.r] _ _; rw [ep.2]; exact U7) (by show gup g6 p.r _ p1.r = _; rw [ep.2, gup_same, ef, e1, List.map_append]; rfl)
      rw [List.set_comm _ _ (Ne.symm nij), List.set_set] at this
      exact this
    · walk_at "wk"
      have e1 : addI ((row2.take k).foldl addI p.row) x = (row2.take k).foldl addI p.row := if_pos hin
      refine ⟨_, rfl, ?_, S6, U6, hT6⟩
      rw [ef, e1]
      exact st
  rintro x4 g6 ⟨st6, S6, U6, _⟩
  rw [List.length_map, List.take_length] at st6
  have e1 : p1.ids = r.ids.foldl addI p.ids ∧ p1.a = p.a ∧ p1.d = p.d := by subst hP1; exact ⟨rfl, rfl, rfl⟩
  have e2 : q1.ids = (r.ids.foldl addI p.ids).foldl addI r.ids ∧ q1.a = r.a ∧ q1.d = r.d := by subst hQ1; exact ⟨rfl, rfl, rfl⟩
  have mp : ∀ x, x ∈ row2.foldl addI p.row ↔ x ∈ p.row ∨ x ∈ r.row := fun x => by
    rw [addAll_mem, hrow2]
    exact ⟨fun h => by rcases h with h | h | h <;> simp [h], fun h => by rcases h with h | h <;> simp [h]⟩
  have ndp : (row2.foldl addI p.row).Nodup := addAll_nodup _ _ oki.nd
  have okp : Rok U { p1 with row := row2.foldl addI p.row } := ⟨(List.perm_ext_iff_of_nodup (by show p1.ids.Nodup; rw [e1.1]; exact addAll_nodup _ _ (oki.perm.nodup_iff.mpr oki.nd)) ndp).mpr fun x => by
      show x ∈ p1.ids ↔ _
      rw [e1.1, addAll_mem, mp, oki.perm.mem_iff, okj.perm.mem_iff], ndp, fun x hx => ((mp x).mp hx).elim (oki.sub x) (okj.sub x)⟩
  have okq : Rok U q2 := ⟨by
      rw [eq2.2.2.1, eq2.1, e2.1]
      exact (List.perm_ext_iff_of_nodup (addAll_nodup _ _ (okj.perm.nodup_iff.mpr okj.nd)) hnd2).mpr fun x => by
        rw [addAll_mem, addAll_mem, hrow2, oki.perm.mem_iff, okj.perm.mem_iff]
        exact ⟨fun h => by rcases h with h | h | h <;> simp [h], fun h => by rcases h with h | h <;> simp [h]⟩, by rw [eq2.1]; exact hnd2, fun x hx => ((hrow2 x).mp (by rw [← eq2.1]; exact hx)).elim (okj.sub x) (oki.sub x)⟩
  have cases3 : ∀ (k : Nat) p2, ((rs.set i { p1 with row := row2.foldl addI p.row }).set j q2)[k]? = some p2 → (k = j ∧ p2 = q2) ∨ (k = i ∧ k ≠ j ∧ p2 = { p1 with row := row2.foldl addI p.row }) ∨ (k ≠ i ∧ k ≠ j ∧ rs[k]? = some p2) := fun k p2 h => by
    by_cases h1 : k = j
    · subst h1
      rw [set2_j hjl] at h
      exact .inl ⟨rfl, (Option.some.inj h).symm⟩
    · rw [List.getElem?_set_ne (Ne.symm h1)] at h
      by_cases h2 : k = i
      · subst h2
        rw [List.getElem?_set_self hil] at h
        exact .inr (.inl ⟨rfl, h1, (Option.some.inj h).symm⟩)
      · rw [List.getElem?_set_ne (Ne.symm h2)] at h
        exact .inr (.inr ⟨h2, h1, h⟩)
  walk_at "wk"
  refine q _ g6 ⟨by rw [List.length_set, List.length_set], fun k p2 h => ?_, fun k p2 h => ?_⟩ st6 S6 U6
  · rcases cases3 k p2 h with ⟨_, rfl⟩ | ⟨_, _, rfl⟩ | ⟨_, _, h⟩
    · exact okq
    · exact okp
    · exact hok k p2 h
  · rcases cases3 k p2 h with ⟨rfl, rfl⟩ | ⟨rfl, n, rfl⟩ | ⟨n1, n2, h⟩
    · exact ⟨r, p, r, hj, hi, hj, eq2.2.2.2.1.trans e2.2.1, eq2.2.2.2.2.trans e2.2.2, eq2.2.1, fun _ x => by rw [eq2.1, hrow2]; exact Or.comm, fun n => absurd (.inr rfl) n⟩
    · exact ⟨p, p, r, hi, hi, hj, e1.2.1, e1.2.2, ep.2, fun _ x => mp x, fun n => absurd (.inl rfl) n⟩
    · exact ⟨p2, p, r, h, hi, hj, rfl, rfl, rfl, fun z => (z.elim n1 n2).elim, fun _ => rfl⟩

/-- .law.all.right(readers, rows): 0 readers, 1 rows, 2 k -/
abbrev N_Lall_right : List Str := ["readers", "rows", "k"]
theorem st0_Lall_right (a0 a1 : D) : dstart N_Lall_right [a0, a1] = [some a0, some a1, none] := rfl
def w_Lall_right : DTS := (dSeq (dFor (iRa1 (dCB lenD (dCons (dVar 0) dNil))) (gNm 2) (dIf (dNot (dTru (dCall sp_Lsame [] (dCons (dMeth "Reader" "ids" sp_Reader_ids (dOp ixD (dVar 0) (dVar 2)) dNil) (dCons (dCB tupF (dCons (dCB sortedD (dCons (dOp ixD (dVar 1) (dVar 2)) dNil)) dNil)) dNil))))) (dRet (dC (.bl false))) dNext))
  (dRet (dC (.bl true))))
def sp_Lall_right : DSp := fun ds g Q => match ds with
  | [.ref RL, .ref WL] => ∃ s, ∃ (VL IL : Addr) (U : List Idn) (rs : List P69) (vs : List V69), St69 s g RL WL VL IL U rs vs ∧ (∀ (k : Nat) p, rs[k]? = some p → Rok U p) ∧ U.length ≤ 100 ∧ (∀ x ∈ U, sOk x.1) ∧ rs.length ≤ 1000 ∧ ∀ g', Up [] g g' → Q (.bl true) g'
  | _ => False
theorem len_Lall_right : ∀ ds g Q, sp_Lall_right ds g Q → ds.length = 2 := fun ds g Q h => by
  unfold sp_Lall_right at h; split at h <;> first | rfl | exact h.elim
theorem ok_sids {xs : List Idn} (h : xs.length ≤ 16777216) : okT 2 (.tup (sortD (xs.map idD))) := ⟨by rw [sortD_len, List.length_map]; exact h, fun d hd => by
  obtain ⟨x, _, rfl⟩ := List.mem_map.mp (sortD_mem.mp hd)
  exact ⟨by simp, fun y hy => by
    simp only [List.mem_cons, List.not_mem_nil, or_false] at hy
    rcases hy with rfl | rfl <;> trivial⟩⟩
theorem rd_Lall_right : ∀ ds g Q, sp_Lall_right ds g Q → w_Lall_right { nx := fun _ g => Q .non g, rt := Q } (dstart N_Lall_right ds) g := fun ds g Q h => by
  unfold sp_Lall_right at h; split at h
  case h_2 => exact h.elim
  obtain ⟨s, VL, IL, U, rs, vs, hst, hok, hUl, hUs, hrl, q⟩ := h
  rename_i RL WL
  have h0 := hst.rl
  rw [st0_Lall_right]
  unfold w_Lall_right
  walk_at "wk"
  rw [List.length_map]
  refine ⟨by omega, by omega, ?_⟩
  refine for1 2 (fun i x2 g' => Up [] g g') ⟨_, rfl, .refl⟩ (fun _ _ _ _ _ => trivial) ?_ ?_
  · intro i d x2 g1 hd U1
    obtain ⟨hi, rfl⟩ := ran_get hd
    have hi : i < rs.length := by omega
    have hp : rs[i]? = some rs[i] := List.getElem?_eq_getElem hi
    generalize rs[i] = p at hp
    have st := hst.up U1
    have okp := hok i p hp
    have hs : ∀ x ∈ p.row, sOk x.1 := fun x hx => hUs x (okp.sub x hx)
    have hlen := nodup_len _ _ okp.nd okp.sub
    have h1 := st.rl
    have e0 : (0 : Int) + (i : Int) = (i : Int) := by omega
    rw [e0]
    walk_at "wk"
    refine v_ixL h1 (L2.atI_nat (show (rs.map fun p => D.ref p.a)[i]? = some (.ref p.a) from by rw [List.getElem?_map, hp]; rfl)) ?_
    refine ⟨p.a, _, rfl, (st.rd i p hp).ins, rf_none (by decide +kernel), ?_⟩
    walk_at "wk"
    refine ⟨p.d, p.ids, st.rd i p hp, fun x hx => hs x (okp.perm.mem_iff.mp hx), fun g2 U2 => ?_⟩
    have st2 := st.up U2
    have h2 := st2.wl
    walk_at "wk"
    refine v_ixL h2 (L2.atI_nat (show (rs.map fun p => D.ref p.r)[i]? = some (.ref p.r) from by rw [List.getElem?_map, hp]; rfl)) ?_
    walk_at "wk"
    refine v_sortIds (st2.ro i p hp) hs fun r hr => ?_
    walk_at "wk"
    refine v_tupL gup_same ?_
    rw [sortIds_perm okp.perm]
    walk_at "wk"
    refine use_same (okT_le (ok_sids (xs := p.row) (by omega)) (by omega)) ?_
    walk_at "wk"
    refine iteNB (fun z => by cases z) (fun _ => ?_)
    walk_at "wk"
    exact ⟨_, rfl, (U1.trans U2).trans (.new hr)⟩
  · intro x2 g1 U1
    walk_at "wk"
    exact q g1 U1

/-- .law.step(source, readers, rows, many, views, idents): 0 source, 1 readers, 2 rows, 3 many, 4 views, 5 idents, 6 way, 7 who, 8 view, 9 one, 10 two, 11 ident -/
abbrev N_Lstep : List Str := ["source", "readers", "rows", "many", "views", "idents", "way", "who", "view", "one", "two", "ident"]
theorem st0_Lstep (a0 a1 a2 a3 a4 a5 : D) : dstart N_Lstep [a0, a1, a2, a3, a4, a5] = [some a0, some a1, some a2, some a3, some a4, some a5, none, none, none, none, none, none] := rfl
def w_Lstep : DTS := (dSeq (dAsg (dCall sp_Ldraw [] (dCons (dVar 0) (dCons (dC (.int 6)) dNil))) (gNm 6))
  (dSeq (dAsg (dCall sp_Ldraw [] (dCons (dVar 0) (dCons (dCB lenD (dCons (dVar 1) dNil)) dNil))) (gNm 7))
  (dSeq (dAsg (dCall sp_Lpick [] (dCons (dVar 0) (dCons (dVar 4) dNil))) (gNm 8))
  (dSeq (dIf (dTest (dOp ltD (dVar 6) (dC (.int 2)))) (dRet (dCall sp_Llook [] (dCons (dVar 0) (dCons (dOp ixD (dVar 1) (dVar 7)) (dCons (dOp ixD (dVar 2) (dVar 7)) (dCons (dVar 8) (dCons (dCall sp_Ldraw [] (dCons (dVar 0) (dCons (dC (.int 3)) dNil))) dNil))))))) dNext)
  (dSeq (dIf (dTest (dOp eqD (dVar 6) (dC (.int 2)))) (dSeq (dAsg (dCall sp_Lpick [] (dCons (dVar 0) (dCons (dVar 5) dNil))) (gNm 11))
  (dSeq (dIf (dTest (dOp notInD (dVar 11) (dOp ixD (dVar 2) (dVar 7)))) (dDrop (dBM "list" appD (dOp ixD (dVar 2) (dVar 7)) (dCons (dVar 11) dNil))) dNext)
  (dRet (dOp isND (dMeth "Reader" "read" sp_Reader_read (dOp ixD (dVar 1) (dVar 7)) (dCons (dVar 11) dNil)) (dC .non))))) dNext)
  (dSeq (dIf (dTest (dOp eqD (dVar 6) (dC (.int 3)))) (dSeq (dDrop (dCall sp_Lchange [] (dCons (dVar 0) (dCons (dVar 8) (dCons (dVar 5) dNil)))))
  (dRet (dC (.bl true)))) dNext)
  (dSeq (dIf (dAnd (dTest (dOp eqD (dCall sp_Ldraw [] (dCons (dVar 0) (dCons (dC (.int 4)) dNil))) (dC (.int 1)))) (dTest (dOp gtD (dOp subD (dCB lenD (dCons (dVar 1) dNil)) (dVar 3)) (dC (.int 1))))) (dRet (dCall sp_Ljoin [] (dCons (dVar 1) (dCons (dVar 2) (dCons (dVar 3) (dCons (dOp addD (dVar 3) (dC (.int 1))) dNil)))))) dNext)
  (dSeq (dAsg (dCall sp_Ldraw [] (dCons (dVar 0) (dCons (dVar 3) dNil))) (gNm 9))
  (dSeq (dAsg (dOp modD (dCB intF (dCons (dOp addD (dOp addD (dVar 9) (dC (.int 1))) (dCall sp_Ldraw [] (dCons (dVar 0) (dCons (dOp subD (dVar 3) (dC (.int 1))) dNil)))) dNil)) (dVar 3)) (gNm 10))
  (dRet (dCall sp_Ljoin [] (dCons (dVar 1) (dCons (dVar 2) (dCons (dVar 9) (dCons (dVar 10) dNil)))))))))))))))
/-- all heap facts that a step keeps -/
structure AllOk (U : List Idn) (rs : List P69) (vs : List V69) : Prop where
  ok : ∀ (k : Nat) p, rs[k]? = some p → Rok U p
  vw : ∀ (k : Nat) v, vs[k]? = some v → VwOk U v.ps
  ul : U.length ≤ 100
  us : ∀ x ∈ U, sOk x.1
def sp_Lstep : DSp := fun ds g Q => match ds with
  | [.ref L, .ref RL, .ref WL, .int many, .ref VL, .ref IL] => ∃ s m, ∃ (U : List Idn) (rs : List P69) (vs : List V69), s.L = L ∧ Src s g m ∧ m < 300000000000 ∧ (∀ p ∈ rs, p.r ≠ s.L0) ∧ (∀ v ∈ vs, v.v ≠ s.L0) ∧ St69 s g RL WL VL IL U rs vs ∧ AllOk U rs vs ∧ U ≠ [] ∧ vs ≠ [] ∧ vs.length ≤ 100 ∧ 2 ≤ many ∧ many < rs.length ∧ rs.length ≤ 100 ∧
      ∀ (rs2 : List P69) (vs2 : List V69) g', AllOk U rs2 vs2 → rs2.length = rs.length → vs2.length = vs.length → (∀ p ∈ rs2, p.r ≠ s.L0) → (∀ v ∈ vs2, v.v ≠ s.L0) → St69 s g' RL WL VL IL U rs2 vs2 → Src s g' (m + 400000) → Q (.bl true) g'
  | _ => False
theorem len_Lstep : ∀ ds g Q, sp_Lstep ds g Q → ds.length = 6 := fun ds g Q h => by
  unfold sp_Lstep at h; split at h <;> first | rfl | exact h.elim
theorem rs_at {rs : List P69} {i : Nat} (h : i < rs.length) : ∃ p, rs[i]? = some p := ⟨_, List.getElem?_eq_getElem h⟩
theorem set_mem {α : Type} {P : α → Prop} {l : List α} {i : Nat} {a : α} (h : ∀ x ∈ l, P x) (ha : P a) : ∀ x ∈ l.set i a, P x := fun x hx => by
  rcases List.mem_or_eq_of_mem_set hx with h1 | h1
  · exact h x h1
  · rw [h1]; exact ha
theorem set_get {α : Type} {P : α → Prop} {l : List α} {i : Nat} {a : α} (h : ∀ (k : Nat) x, l[k]? = some x → P x) (ha : P a) : ∀ (k : Nat) x, (l.set i a)[k]? = some x → P x := fun k x hx => by
  rcases List.mem_or_eq_of_mem_set (List.mem_of_getElem? hx) with h1 | h1
  · obtain ⟨j, hj⟩ := List.mem_iff_getElem?.mp h1
    exact h j x hj
  · rw [h1]; exact ha
theorem joinR_mem {U : List Idn} {rs rs2 : List P69} {i j : Nat} {P : Addr → Prop} (J : JoinR U rs rs2 i j) (h : ∀ p ∈ rs, P p.r) : ∀ p ∈ rs2, P p.r := fun p hp => by
  obtain ⟨k, hk⟩ := List.mem_iff_getElem?.mp hp
  obtain ⟨p0, _, _, h1, _, _, _, _, h2, _⟩ := J.at_ k p hk
  rw [h2]; exact h p0 (List.mem_of_getElem? h1)
theorem rd_Lstep : ∀ ds g Q, sp_Lstep ds g Q → w_Lstep { nx := fun _ g => Q .non g, rt := Q } (dstart N_Lstep ds) g := fun ds g Q h => by
  unfold sp_Lstep at h; split at h
  case h_2 => exact h.elim
  obtain ⟨s, m, U, rs, vs, rfl, hS, hm, hr0, hv0, hst, hok, hU0, hvs0, hvl, hm2, hmr, hrl, q⟩ := h
  rename_i RL WL many VL IL
  have hnd := hst.ndl
  simp only [List.nodup_cons, List.mem_cons, List.mem_append, not_or] at hnd
  obtain ⟨⟨nRL, nWL, nVL, nIL, _⟩, _⟩ := hnd
  have h1 := hst.rl
  have h2 := hst.wl
  have h3 := hst.vl
  have h4 := hst.il
  rw [st0_Lstep]
  unfold w_Lstep
  walk_at "wk"
  refine ⟨s, m, rfl, hS, (by omega), (by omega), (by omega), fun way g1 a1 a2 G1 => ?_⟩
  walk_at "wk"
  refine v_lenL (G1.get (Ne.symm nRL) h1) ?_
  rw [List.length_map]
  walk_at "wk"
  refine ⟨s, _, rfl, G1.2, (by omega), (by omega), (by omega), fun who g2 b1 b2 G2 => ?_⟩
  have G02 := G1.trans G2
  walk_at "wk"
  refine ⟨s, _, _, rfl, G2.2, (by omega), G02.get (Ne.symm nVL) h3, Ne.symm nVL, (fun z => hvs0 (List.map_eq_nil_iff.mp z)), by rw [List.length_map]; omega, fun d g3 hd G3 => ?_⟩
  obtain ⟨v, hv, rfl⟩ := List.mem_map.mp hd
  obtain ⟨iv, hiv⟩ := List.mem_iff_getElem?.mp hv
  have G03 := G02.trans G3
  have st3 := hst.go hS G03
  have S3 := G03.2
  have c1 := st3.rl
  have c2 := st3.wl
  have c3 := st3.vl
  have c4 := st3.il
  obtain ⟨p, hp⟩ := rs_at (rs := rs) (i := who.toNat) (by omega)
  have ewho : ((who.toNat : Nat) : Int) = who := by omega
  have atR : ∀ {α : Type} (f : P69 → α), L2.atI (rs.map f) who = some (f p) := fun f => by rw [← ewho]; exact L2.atI_nat (get_map hp)
  have hpL := hr0 p (List.mem_of_getElem? hp)
  have hvL := hv0 v hv
  have okp := hok.ok _ p hp
  have okv := hok.vw _ v hiv
  obtain ⟨lp1, lp2⟩ := rok_len okp
  have lv := vw_len okv
  have hUl := hok.ul
  have hUs := hok.us
  have nrL := (st3.list_ne hp).2.2.2.2.1
  have nvL := (st3.view_ne hiv).2.2.2.2.1
  have nvr := (st3.view_ne hiv).2.2.2.2.2.1 _ p hp
  clear h1 h2 h3 h4 G1 G2 G3 G02 hd
  walk_at "wk"
  refine iteD (fun _ => ?_) (fun _ => ?_)
  · walk_at "wk"
    refine v_ixL c1 (atR _) ?_
    walk_at "wk"
    refine v_ixL c2 (atR _) ?_
    walk_at "wk"
    refine ⟨s, _, rfl, S3, (by omega), (by omega), (by omega), fun sh g4 d1 d2 G4 => ?_⟩
    have st4 := st3.go S3 G4
    walk_at "wk"
    refine ⟨s, _, p.d, U, p.ids, p.row, v.ps, rfl, G4.2, (by omega), st4.rd _ p hp, st4.ro _ p hp, st4.vw _ v hiv, nrL, hpL, nvL, nvr, okp.perm, okp.nd, fun x hx => hUs x (okp.sub x hx), okv, hUs, hUl, (by omega), fun ids2 row2 g5 hLk _ U5 S5 hR5 hr5 => ?_⟩
    -- from the state behind: three places changed
    have hst5 : St69 s g5 RL WL VL IL U ((rs.set who.toNat { p with ids := ids2 }).set who.toNat { p with ids := ids2, row := row2 }) vs := St69.look st4 hp U5 G4.2 hR5 hr5
    rw [List.set_set] at hst5
    refine q (rs.set who.toNat { p with ids := ids2, row := row2 }) vs g5 ⟨set_get hok.ok ⟨hLk.perm, hLk.nd, fun x hx => (hLk.sub x hx).elim (okp.sub x) fun h => by obtain ⟨y, hy, rfl⟩ := List.mem_map.mp h; exact okv.sub y hy⟩, hok.vw, hok.ul, hok.us⟩ (List.length_set ..) rfl (set_mem hr0 hpL) hv0 hst5 (S5.le (by omega))
  walk_at "wk"
  refine iteD (fun _ => ?_) (fun _ => ?_)
  · walk_at "wk"
    refine ⟨s, _, _, rfl, S3, (by omega), c4, Ne.symm nIL, (fun z => hU0 (List.map_eq_nil_iff.mp z)), by rw [List.length_map]; omega, fun d g4 hd G4 => ?_⟩
    obtain ⟨x, hx, rfl⟩ := List.mem_map.mp hd
    have st4 := st3.go S3 G4
    have e2 := st4.wl
    have er := st4.ro _ p hp
    have ea := st4.rl
    have hsp : ∀ y ∈ p.row, sOk y.1 := fun y hy => hUs y (okp.sub y hy)
    walk_at "wk"
    refine v_ixL e2 (atR _) ?_
    refine v_notInIds er (hUs x hx) hsp ?_
    walk_at "wk"
    apply two
    case main =>
      intro hy hn
      refine iteN (fun hni => ?_) (fun hin => ?_)
      · revert hni
        exact hy
      · revert hin
        exact hn
    case y =>
      intro hni
      walk_at "wk"
      refine v_ixL e2 (atR _) ?_
      walk_at "wk"
      refine v_app' er (by rw [szl, List.length_map]; omega) ?_
      have U5 : Up [p.r] g4 (gup g4 p.r (.lst (p.row.map idD ++ [idD x]))) := Up.refl.ins (List.mem_singleton.mpr rfl)
      have st5 := st4.setR hp U5 (row := p.row ++ [x]) (by rw [gup_same, List.map_append]; rfl)
      have S5 : Src s (gup g4 p.r (.lst (p.row.map idD ++ [idD x]))) (m + 1 + 1 + 1 + 1) := src_upS3 G4.2 U5 (fun z => nrL (List.mem_singleton.mp z).symm) (fun z => hpL (List.mem_singleton.mp z).symm)
      generalize gup g4 p.r (.lst (p.row.map idD ++ [idD x])) = g5 at st5 S5
      have hp5 : (rs.set who.toNat { p with row := p.row ++ [x] })[who.toNat]? = some { p with row := p.row ++ [x] } := List.getElem?_set_self (by omega)
      have f1 := st5.rl
      walk_at "wk"
      refine v_ixL f1 (by rw [← ewho]; exact L2.atI_nat (get_map hp5)) ?_
      refine ⟨p.a, _, rfl, (st5.rd _ _ hp5).ins, rf_none (by decide +kernel), ?_⟩
      walk_at "wk"
      refine ⟨p.d, p.ids, x, st5.rd _ _ hp5, rfl, by omega, fun g6 U6 hR6 => ?_⟩
      have eI : addI p.ids x = p.ids ++ [x] := by
        unfold addI
        rw [if_neg (fun z => hni (okp.perm.mem_iff.mp z))]
      have st6 := st5.setD hp5 U6 hR6
      rw [List.set_set] at st6
      obtain ⟨dsL, hLL⟩ := S5.isL
      obtain ⟨kv, hd5, _⟩ := (st5.rd _ _ hp5).dct
      have S6 := src_upS3 S5 U6 (fun z => kind_ne hLL hd5 (List.mem_singleton.mp z)) (fun z => kind_ne S5.1 hd5 (List.mem_singleton.mp z))
      refine ⟨rfl, ?_⟩
      refine q (rs.set who.toNat { p with ids := addI p.ids x, row := p.row ++ [x] }) vs g6 ⟨set_get hok.ok ⟨by show (addI p.ids x).Perm (p.row ++ [x]); rw [eI]; exact okp.perm.append_right _, ?_, fun y hy => ?_⟩, hok.vw, hok.ul, hok.us⟩ (List.length_set ..) rfl (set_mem hr0 hpL) hv0 st6 (S6.le (by omega))
      · show (p.row ++ [x]).Nodup
        rw [List.nodup_append]
        exact ⟨okp.nd, by simp, fun a ha b hb e => hni (by rw [List.mem_singleton] at hb; rw [← hb, ← e]; exact ha)⟩
      · rcases List.mem_append.mp hy with hy | hy
        · exact okp.sub y hy
        · rw [List.mem_singleton.mp hy]; exact hx
    case n =>
      intro hin
      walk_at "wk"
      refine v_ixL ea (atR _) ?_
      refine ⟨p.a, _, rfl, (st4.rd _ _ hp).ins, rf_none (by decide +kernel), ?_⟩
      walk_at "wk"
      refine ⟨p.d, p.ids, x, st4.rd _ _ hp, rfl, by omega, fun g6 U6 hR6 => ?_⟩
      have eI : addI p.ids x = p.ids := if_pos (okp.perm.mem_iff.mpr hin)
      rw [eI] at hR6
      have st6 := st4.setD hp U6 hR6
      rw [show rs.set who.toNat { p with ids := p.ids } = rs from by
        refine List.ext_getElem? fun k => ?_
        rw [List.getElem?_set]
        split
        · rename_i e; subst e; rw [if_pos (by omega), hp]
        · rfl] at st6
      obtain ⟨dsL, hLL⟩ := G4.2.isL
      obtain ⟨kv, hd5, _⟩ := (st4.rd _ _ hp).dct
      have S6 := src_upS3 G4.2 U6 (fun z => kind_ne hLL hd5 (List.mem_singleton.mp z)) (fun z => kind_ne G4.2.1 hd5 (List.mem_singleton.mp z))
      refine ⟨rfl, ?_⟩
      exact q rs vs g6 hok rfl rfl hr0 hv0 st6 (S6.le (by omega))
  walk_at "wk"
  refine iteD (fun _ => ?_) (fun _ => ?_)
  · walk_at "wk"
    refine ⟨s, _, U, v.ps, rfl, S3, (by omega), c4, Ne.symm nIL, st3.vw _ v hiv, nvL, hvL, okv, by omega, hUs, by omega, fun ps2 g4 g5 hps G4 S5 U5 h5 => ?_⟩
    walk_at "wk"
    have st5 := (st3.go S3 G4).setV hiv U5 h5
    refine q rs (vs.set iv { v with ps := ps2 }) g5 ⟨hok.ok, set_get hok.vw hps, hok.ul, hok.us⟩ rfl (List.length_set ..) hr0 (set_mem hv0 hvL) st5 (S5.le (by omega))
  have join : ∀ (i j : Nat) (g' : GS) (mm : Nat) (e : EV), i ≠ j → i < rs.length → j < rs.length → Src s g' mm → mm ≤ m + 400000 → St69 s g' RL WL VL IL U rs vs → sp_Ljoin [.ref RL, .ref WL, .int i, .int j] g' Q := fun i j g' mm e n h1 h2 S' hmm st => by
    refine ⟨s, mm, VL, IL, U, rs, vs, i, j, rfl, rfl, n, h1, h2, S', hr0, st, hok.ok, hUl, hUs, fun rs2 g6 J st6 S6 _ => ?_⟩
    exact q rs2 vs g6 ⟨J.ok, hok.vw, hok.ul, hok.us⟩ J.len rfl (joinR_mem (P := fun a => a ≠ s.L0) J hr0) hv0 st6 (S6.le hmm)
  walk_at "wk"
  refine ⟨s, _, rfl, S3, (by omega), (by omega), (by omega), fun v4 g4 d1 d2 G4 => ?_⟩
  have st4 := st3.go S3 G4
  have e1 := st4.rl
  have o1 : m + 1 + 1 + 1 + 1 < 1099511627776 := by omega
  have o2 : 0 < many := by omega
  have o3 : many < 1073741824 := by omega
  walk_at "wk"
  apply two
  case main =>
    intro hy hn
    refine iteD (fun _ => ?_) (fun _ => ?_)
    · walk_at "wk"
      refine v_lenL e1 ?_
      rw [List.length_map]
      walk_at "wk"
      exact iteD hy (fun _ => hn)
    · walk_at "wk"
      exact iteB (fun z => by cases z) (fun _ => hn)
  case y =>
    intro hgt
    walk_at "wk"
    have := join many.toNat (many + 1).toNat g4 _ [] (by omega) (by omega) (by omega) G4.2 (by omega) st4
    rw [show ((many.toNat : Nat) : Int) = many from by omega, show (((many + 1).toNat : Nat) : Int) = many + 1 from by omega] at this
    exact this
  case n =>
    walk_at "wk"
    refine ⟨s, _, rfl, G4.2, (by omega), (by omega), (by omega), fun one g5 f1 f2 G5 => ?_⟩
    walk_at "wk"
    refine ⟨s, _, rfl, G5.2, (by omega), (by omega), (by omega), fun v6 g6 f3 f4 G6 => ?_⟩
    walk_at "wk"
    have st6 := st4.go G4.2 (G5.trans G6)
    have h6 : (one + 1 + v6) % many ≠ one ∧ 0 ≤ (one + 1 + v6) % many ∧ (one + 1 + v6) % many < many := by
      have h1 : one + 1 + v6 < 2 * many := by omega
      by_cases h : one + 1 + v6 < many
      · rw [Int.emod_eq_of_lt (by omega) h]; omega
      · have : (one + 1 + v6) % many = one + 1 + v6 - many := by
          rw [← Int.sub_emod_right, Int.emod_eq_of_lt (by omega) (by omega)]
        omega
    have := join one.toNat ((one + 1 + v6) % many).toNat g6 _ [] (by omega) (by omega) (by omega) G6.2 (by omega) st6
    rw [show ((one.toNat : Nat) : Int) = one from by omega, show ((((one + 1 + v6) % many).toNat : Nat) : Int) = (one + 1 + v6) % many from by omega] at this
    exact this

/-- .law.chain(readers, rows, many): 0 readers, 1 rows, 2 many, 3 k -/
abbrev N_Lchain : List Str := ["readers", "rows", "many", "k"]
theorem st0_Lchain (a0 a1 a2 : D) : dstart N_Lchain [a0, a1, a2] = [some a0, some a1, some a2, none] := rfl
def w_Lchain : DTS := (dSeq (dFor (iRa2 (dC (.int 1)) (dVar 2)) (gNm 3) (dIf (dNot (dTru (dCall sp_Ljoin [] (dCons (dVar 0) (dCons (dVar 1) (dCons (dOp subD (dVar 3) (dC (.int 1))) (dCons (dVar 3) dNil))))))) (dRet (dC (.bl false))) dNext))
  (dSeq (dFor (iRa2 (dC (.int 1)) (dVar 2)) (gNm 3) (dIf (dNot (dTru (dCall sp_Ljoin [] (dCons (dVar 0) (dCons (dVar 1) (dCons (dOp subD (dVar 2) (dVar 3)) (dCons (dOp subD (dOp subD (dVar 2) (dVar 3)) (dC (.int 1))) dNil))))))) (dRet (dC (.bl false))) dNext))
  (dRet (dC (.bl true)))))
def Sub69 (a b : P69) : Prop := ∀ x ∈ a.row, x ∈ b.row
structure Ch69 (s : SI) (g : GS) (RL WL VL IL : Addr) (U : List Idn) (rs : List P69) (vs : List V69) : Prop where
  st : St69 s g RL WL VL IL U rs vs
  ok : AllOk U rs vs
  r0 : ∀ p ∈ rs, p.r ≠ s.L0
def sp_Lchain : DSp := fun ds g Q => match ds with
  | [.ref RL, .ref WL, .int many] => ∃ s m, ∃ (VL IL : Addr) (U : List Idn) (rs : List P69) (vs : List V69), Src s g m ∧ Ch69 s g RL WL VL IL U rs vs ∧ 2 ≤ many ∧ many < rs.length ∧ rs.length ≤ 100 ∧
      ∀ (rs2 : List P69) g', Ch69 s g' RL WL VL IL U rs2 vs → rs2.length = rs.length → Src s g' m → (∀ (k : Nat) p p0, (k : Int) < many → rs2[k]? = some p → rs2[0]? = some p0 → Sub69 p p0) → Q (.bl true) g'
  | _ => False
theorem len_Lchain : ∀ ds g Q, sp_Lchain ds g Q → ds.length = 3 := fun ds g Q h => by
  unfold sp_Lchain at h; split at h <;> first | rfl | exact h.elim
theorem rd_Lchain : ∀ ds g Q, sp_Lchain ds g Q → w_Lchain { nx := fun _ g => Q .non g, rt := Q } (dstart N_Lchain ds) g := fun ds g Q h => by
  unfold sp_Lchain at h; split at h
  case h_2 => exact h.elim
  obtain ⟨s, m, VL, IL, U, rs, vs, hS, hc, hm2, hmr, hrl, q⟩ := h
  rename_i RL WL many
  have hUl := hc.ok.ul
  have hUs := hc.ok.us
  have join : ∀ (rs1 : List P69) (i j : Nat) (g' : GS) (Q' : DK), i ≠ j → i < rs1.length → j < rs1.length → Src s g' m → Ch69 s g' RL WL VL IL U rs1 vs → (∀ rs2 g2, JoinR U rs1 rs2 i j → Ch69 s g2 RL WL VL IL U rs2 vs → Src s g2 m → Q' (.bl true) g2) → sp_Ljoin [.ref RL, .ref WL, .int i, .int j] g' Q' := fun rs1 i j g' Q' n h1 h2 S' c k => by
    refine ⟨s, m, VL, IL, U, rs1, vs, i, j, rfl, rfl, n, h1, h2, S', c.r0, c.st, c.ok.ok, hUl, hUs, fun rs2 g6 J st6 S6 _ => ?_⟩
    exact k rs2 g6 J ⟨st6, ⟨J.ok, c.ok.vw, c.ok.ul, c.ok.us⟩, joinR_mem (P := fun a => a ≠ s.L0) J c.r0⟩ S6
  rw [st0_Lchain]
  unfold w_Lchain
  walk_at "wk"
  refine for1 3 (fun i x3 g' => ∃ rs1 : List P69, Ch69 s g' RL WL VL IL U rs1 vs ∧ rs1.length = rs.length ∧ Src s g' m ∧ ∀ (k : Nat) p pi, k ≤ i → rs1[k]? = some p → rs1[i]? = some pi → Sub69 p pi)
    ⟨_, rfl, rs, hc, rfl, hS, fun k p pi hk h1 h2 => by
      have : k = 0 := by omega
      subst this
      rw [h1] at h2
      cases h2
      exact fun x h => h⟩ (fun _ _ _ _ _ => trivial) ?_ ?_
  · rintro i d x3 g1 hd ⟨rs1, c1, hl1, S1, hsub⟩
    obtain ⟨hi, rfl⟩ := ran_get hd
    walk_at "wk"
    have e1 : (1 : Int) + (i : Int) - 1 = ((i : Nat) : Int) := by omega
    have e2 : (1 : Int) + (i : Int) = ((i + 1 : Nat) : Int) := by omega
    rw [e1, e2]
    refine join rs1 i (i + 1) g1 _ (by omega) (by omega) (by omega) S1 c1 fun rs2 g2 J c2 S2 => ?_
    walk_at "wk"
    refine iteNB (fun z => by cases z) (fun _ => ?_)
    walk_at "wk"
    refine ⟨_, rfl, rs2, c2, J.len.trans hl1, S2, fun k p pi hk h1 h2 x hx => ?_⟩
    obtain ⟨q0, a, b, e3, e4, e5, _, _, _, e6, _⟩ := J.at_ (i + 1) pi h2
    refine (e6 (.inr rfl) x).mpr ?_
    obtain ⟨q1, a', b', f3, f4, f5, _, _, _, f6, f7⟩ := J.at_ k p h1
    rw [e4] at f4
    rw [e5] at f5
    cases f4
    cases f5
    by_cases hk2 : k = i ∨ k = i + 1
    · exact (f6 hk2 x).mp hx
    · rw [f7 hk2] at hx
      exact .inl (hsub k q1 a (by omega) f3 e4 x hx)
  rintro x3 g1 ⟨rs1, c1, hl1, S1, hsub⟩
  rw [ran_len] at hsub
  walk_at "wk"
  refine for1 3 (fun i x3 g' => ∃ rs1 : List P69, Ch69 s g' RL WL VL IL U rs1 vs ∧ rs1.length = rs.length ∧ Src s g' m ∧ ∀ (k : Nat) p pi, (k : Int) < many → rs1[k]? = some p → rs1[(many - 1).toNat - i]? = some pi → Sub69 p pi)
    ⟨_, rfl, rs1, c1, hl1, S1, fun k p pi hk h1 h2 => hsub k p pi (by omega) h1 h2⟩ (fun _ _ _ _ _ => trivial) ?_ ?_
  · rintro i d x3 g2 hd ⟨rs2, c2, hl2, S2, hsub2⟩
    obtain ⟨hi, rfl⟩ := ran_get hd
    walk_at "wk"
    have e1 : many - ((1 : Int) + (i : Int)) = (((many - 1).toNat - i : Nat) : Int) := by omega
    have e2 : many - ((1 : Int) + (i : Int)) - 1 = (((many - 1).toNat - (i + 1) : Nat) : Int) := by omega
    rw [e2, e1]
    refine join rs2 ((many - 1).toNat - i) ((many - 1).toNat - (i + 1)) g2 _ (by omega) (by omega) (by omega) S2 c2 fun rs3 g3 J c3 S3 => ?_
    walk_at "wk"
    refine iteNB (fun z => by cases z) (fun _ => ?_)
    walk_at "wk"
    refine ⟨_, rfl, rs3, c3, J.len.trans hl2, S3, fun k p pi hk h1 h2 x hx => ?_⟩
    obtain ⟨q0, a, b, e3, e4, e5, _, _, _, e6, _⟩ := J.at_ _ pi h2
    refine (e6 (.inr rfl) x).mpr ?_
    obtain ⟨q1, a', b', f3, f4, f5, _, _, _, f6, f7⟩ := J.at_ k p h1
    rw [e4] at f4
    rw [e5] at f5
    cases f4
    cases f5
    by_cases hk2 : k = (many - 1).toNat - i ∨ k = (many - 1).toNat - (i + 1)
    · exact (f6 hk2 x).mp hx
    · rw [f7 hk2] at hx
      exact .inl (hsub2 k q1 a hk f3 e4 x hx)
  · rintro x3 g2 ⟨rs2, c2, hl2, S2, hsub2⟩
    rw [ran_len] at hsub2
    walk_at "wk"
    refine q rs2 g2 c2 hl2 S2 fun k p p0 hk h1 h2 => hsub2 k p p0 hk h1 ?_
    rw [show (many - 1).toNat - (many - 1).toNat = 0 from by omega]
    exact h2

/-- .law.tour(source, readers, rows, many, views): 0 source, 1 readers, 2 rows, 3 many, 4 views, 5 known, 6 told, 7 last, 8 view, 9 who, 10 fresh, 11 pair, 12 k -/
abbrev N_Ltour : List Str := ["source", "readers", "rows", "many", "views", "known", "told", "last", "view", "who", "fresh", "pair", "k"]
theorem st0_Ltour (a0 a1 a2 a3 a4 : D) : dstart N_Ltour [a0, a1, a2, a3, a4] = [some a0, some a1, some a2, some a3, some a4, none, none, none, none, none, none, none, none] := rfl
def w_Ltour : DTS := (dSeq (dAsg (dCB lstF (dCons (dOp ixD (dVar 2) (dC (.int 0))) dNil)) (gNm 5))
  (dSeq (dAsg (dLst dNil) (gNm 6))
  (dSeq (dAsg (dC (.int 0)) (gNm 7))
  (dSeq (dFor (iAny (dCall sp_Lshuffled [] (dCons (dVar 0) (dCons (dVar 4) dNil)))) (gNm 8) (dSeq (dAsg (dCall sp_Ldraw [] (dCons (dVar 0) (dCons (dVar 3) dNil))) (gNm 9))
  (dSeq (dIf (dAnd (dTest (dOp neD (dVar 9) (dVar 7))) (dNot (dTru (dCall sp_Ljoin [] (dCons (dVar 1) (dCons (dVar 2) (dCons (dVar 7) (dCons (dVar 9) dNil)))))))) (dRet (dC (.bl false))) dNext)
  (dSeq (dAsg (dMeth "Reader" "new" sp_Reader_new (dOp ixD (dVar 1) (dVar 9)) (dCons (dCB tupF (dCons (dVar 8) dNil)) dNil)) (gNm 10))
  (dSeq (dIf (dNot (dTru (dCall sp_Lsame [] (dCons (dVar 10) (dCons (dCall sp_Lnew_due [] (dCons (dVar 8) (dCons (dOp ixD (dVar 2) (dVar 9)) dNil))) dNil))))) (dRet (dC (.bl false))) dNext)
  (dSeq (dDrop (dBM "list" extD (dVar 6) (dCons (dLc (iAny (dVar 10)) 11 dYes (dOp ixD (dVar 11) (dC (.int 1)))) dNil)))
  (dSeq (dIf (dNot (dTru (dCall sp_Llook [] (dCons (dVar 0) (dCons (dOp ixD (dVar 1) (dVar 9)) (dCons (dOp ixD (dVar 2) (dVar 9)) (dCons (dVar 8) (dCons (dC (.int 2)) dNil)))))))) (dRet (dC (.bl false))) dNext)
  (dAsg (dVar 9) (gNm 7)))))))))
  (dSeq (dFor (iAny (dVar 4)) (gNm 8) (dFor (iAny (dVar 8)) (gNm 11) (dIf (dTest (dOp neD (dBM "list" countD (dVar 6) (dCons (dOp ixD (dVar 11) (dC (.int 1))) dNil)) (dCB intF (dCons (dOp notInD (dOp ixD (dVar 11) (dC (.int 1))) (dVar 5)) dNil)))) (dRet (dC (.bl false))) dNext)))
  (dRet (dOp eqD (dCB lenD (dCons (dVar 6) dNil)) (dCB lenD (dCons (dLc (iRa1 (dCB lenD (dCons (dVar 6) dNil))) 12 (dTest (dOp notInD (dOp ixD (dVar 6) (dVar 12)) (dOp addD (dVar 5) (dSl (dVar 6) dNo (dPart (dVar 12)))))) (dVar 12)) dNil)))))))))
theorem JoinR.maps {U : List Idn} {rs rs2 : List P69} {i j : Nat} (J : JoinR U rs rs2 i j) : rs2.map (fun p => (p.a, p.d, p.r)) = rs.map (fun p => (p.a, p.d, p.r)) := by
  refine List.ext_getElem? fun k => ?_
  rw [List.getElem?_map, List.getElem?_map]
  cases h : rs2[k]? with
  | none =>
    have : rs[k]? = none := by
      rw [List.getElem?_eq_none_iff] at h ⊢
      rw [← J.len]; exact h
    rw [this]
  | some p2 =>
    obtain ⟨p, _, _, h1, _, _, a, b, c, _⟩ := J.at_ k p2 h
    rw [h1]
    show some (p2.a, p2.d, p2.r) = some (p.a, p.d, p.r)
    rw [a, b, c]
def allA (RL WL VL IL : Addr) (ts : List (Addr × Addr × Addr)) (vs : List V69) : List Addr := RL :: WL :: VL :: IL :: (ts.flatMap (fun t => [t.1, t.2.1, t.2.2]) ++ vs.map (·.v))
abbrev tri (rs : List P69) : List (Addr × Addr × Addr) := rs.map fun p => (p.a, p.d, p.r)
section
variable {s : SI} {g g' : GS} {RL WL VL IL X K T P : Addr} {U kn td : List Idn} {rs rs2 : List P69} {vs vp : List V69} {many : Int} {m m' : Nat}
theorem mem_a {p : P69} (h : p ∈ rs) : p.a ∈ allA RL WL VL IL (tri rs) vs ∧ p.d ∈ allA RL WL VL IL (tri rs) vs ∧ p.r ∈ allA RL WL VL IL (tri rs) vs := by
  have : ∀ y ∈ [p.a, p.d, p.r], y ∈ allA RL WL VL IL (tri rs) vs := fun y hy => by
    unfold allA
    simp only [List.mem_cons, List.mem_append]
    exact .inr (.inr (.inr (.inr (.inl (List.mem_flatMap.mpr ⟨(p.a, p.d, p.r), List.mem_map_of_mem h, hy⟩)))))
  exact ⟨this _ (by simp), this _ (by simp), this _ (by simp)⟩
theorem apart_of (h : St69 s g RL WL VL IL U rs vs) (hX : g X = none) : X ∉ allA RL WL VL IL (tri rs) vs := fun z => by
  unfold allA at z
  simp only [List.mem_cons, List.mem_append] at z
  rcases z with e | e | e | e | z | z
  · have := h.rl; rw [← e, hX] at this; cases this
  · have := h.wl; rw [← e, hX] at this; cases this
  · have := h.vl; rw [← e, hX] at this; cases this
  · have := h.il; rw [← e, hX] at this; cases this
  · obtain ⟨t, ht, hz⟩ := List.mem_flatMap.mp z
    obtain ⟨p, hp, rfl⟩ := List.mem_map.mp ht
    obtain ⟨i, hi⟩ := List.mem_iff_getElem?.mp hp
    have h1 := h.rd i p hi
    obtain ⟨kvs, h2, _⟩ := h1.dct
    have h3 := h.ro i p hi
    simp only [List.mem_cons, List.not_mem_nil, or_false] at hz
    rcases hz with e | e | e
    · have := h1.ins; rw [← e, hX] at this; cases this
    · rw [← e, hX] at h2; cases h2
    · rw [← e, hX] at h3; cases h3
  · obtain ⟨v, hv, e⟩ := List.mem_map.mp z
    obtain ⟨i, hi⟩ := List.mem_iff_getElem?.mp hv
    have := h.vw i v hi
    rw [e, hX] at this; cases this
theorem apart_dr (h : X ∉ allA RL WL VL IL (tri rs) vs) : X ∉ rs.map (·.d) ++ rs.map (·.r) := fun z => by
  rcases List.mem_append.mp z with z | z
  · obtain ⟨p, hp, rfl⟩ := List.mem_map.mp z
    exact h (mem_a hp).2.1
  · obtain ⟨p, hp, rfl⟩ := List.mem_map.mp z
    exact h (mem_a hp).2.2
theorem upA (h : St69 s g RL WL VL IL U rs vs) (u : Up [X] g g') (hX : X ∉ allA RL WL VL IL (tri rs) vs) : St69 s g' RL WL VL IL U rs vs := h.upS u fun x hx => by
  rw [List.mem_singleton.mp hx]
  refine ⟨fun z => hX ?_, fun z => ?_, fun z => ?_⟩
  · simp only [List.mem_cons, List.mem_append] at z
    unfold allA
    simp only [List.mem_cons, List.mem_append]
    rcases z with e | e | e | e | z | z
    · exact .inl e
    · exact .inr (.inl e)
    · exact .inr (.inr (.inl e))
    · exact .inr (.inr (.inr (.inl e)))
    · obtain ⟨p, hp, rfl⟩ := List.mem_map.mp z
      exact .inr (.inr (.inr (.inr (.inl (List.mem_flatMap.mpr ⟨(p.a, p.d, p.r), List.mem_map_of_mem hp, by simp⟩)))))
    · exact .inr (.inr (.inr (.inr (.inr z))))
  · obtain ⟨p, hp, rfl⟩ := List.mem_map.mp z
    exact hX (mem_a hp).1
  · obtain ⟨p, hp, rfl⟩ := List.mem_map.mp z
    exact hX (mem_a hp).2.1
/-- where the tour stands -/
structure Tr (s : SI) (g : GS) (RL WL VL IL K T P : Addr) (many : Int) (U kn td : List Idn) (rs : List P69) (vs vp : List V69) (m : Nat) : Prop where
  ch : Ch69 s g RL WL VL IL U rs vs
  src : Src s g m
  k : g K = some (.lst (kn.map idD))
  t : g T = some (.lst (td.map idD))
  p : g P = some (.lst (vp.map fun v => .ref v.v))
  aK : K ∉ allA RL WL VL IL (tri rs) vs
  aT : T ∉ allA RL WL VL IL (tri rs) vs
  aP : P ∉ allA RL WL VL IL (tri rs) vs
  nK : K ≠ s.L
  nT : T ≠ s.L
  nT0 : T ≠ s.L0
  nP : P ≠ s.L
  nTK : T ≠ K
  nTP : T ≠ P
  sub : ∀ (k : Nat) p, (k : Int) < many → rs[k]? = some p → ∀ x ∈ p.row, x ∈ kn ∨ x ∈ td
  nd : td.Nodup
  dis : ∀ x ∈ td, x ∉ kn
  tU : ∀ x ∈ td, x ∈ U
  kU : ∀ x ∈ kn, x ∈ U
theorem Ch69.up (h : Ch69 s g RL WL VL IL U rs vs) (u : Up [] g g') : Ch69 s g' RL WL VL IL U rs vs := ⟨h.st.up u, h.ok, h.r0⟩
theorem Tr.up (h : Tr s g RL WL VL IL K T P many U kn td rs vs vp m) (u : Up [] g g') : Tr s g' RL WL VL IL K T P many U kn td rs vs vp m :=
  { h with ch := h.ch.up u, src := h.src.up u, k := u.get0 h.k, t := u.get0 h.t, p := u.get0 h.p }
theorem Tr.go (h : Tr s g RL WL VL IL K T P many U kn td rs vs vp m) (G : Go s g g' m') : Tr s g' RL WL VL IL K T P many U kn td rs vs vp m' :=
  { h with ch := ⟨h.ch.st.go h.src G, h.ch.ok, h.ch.r0⟩, src := G.2, k := G.get h.nK h.k, t := G.get h.nT h.t, p := G.get h.nP h.p }
end
def sp_Ltour : DSp := fun ds g Q => match ds with
  | [.ref L, .ref RL, .ref WL, .int many, .ref VL] => ∃ s m, ∃ (IL : Addr) (U : List Idn) (rs : List P69) (vs : List V69), s.L = L ∧ Src s g m ∧ m < 300000000000 ∧ (∀ v ∈ vs, v.v ≠ s.L0) ∧ Ch69 s g RL WL VL IL U rs vs ∧ 2 ≤ many ∧ many < rs.length ∧ rs.length ≤ 100 ∧ vs.length ≤ 100 ∧ (∀ (k : Nat) p p0, (k : Int) < many → rs[k]? = some p → rs[0]? = some p0 → Sub69 p p0) ∧
      ∀ (rs2 : List P69) g', Ch69 s g' RL WL VL IL U rs2 vs → rs2.length = rs.length → Q (.bl true) g'
  | _ => False
theorem len_Ltour : ∀ ds g Q, sp_Ltour ds g Q → ds.length = 5 := fun ds g Q h => by
  unfold sp_Ltour at h; split at h <;> first | rfl | exact h.elim
theorem ok_tl {U : List Idn} {td : List Idn} (h : td.Nodup) (h2 : ∀ x ∈ td, x ∈ U) : td.length ≤ U.length := nodup_len _ _ h h2
theorem rd_Ltour : ∀ ds g Q, sp_Ltour ds g Q → w_Ltour { nx := fun _ g => Q .non g, rt := Q } (dstart N_Ltour ds) g := fun ds g Q h => by
  unfold sp_Ltour at h; split at h
  case h_2 => exact h.elim
  obtain ⟨s, m, IL, U, rs, vs, rfl, hS, hm, hv0, hc, hm2, hmr, hrl, hvl, hch, q⟩ := h
  rename_i RL WL many VL
  have hUl := hc.ok.ul
  have hUs := hc.ok.us
  obtain ⟨p0, hp0⟩ := rs_at (rs := rs) (i := 0) (by omega)
  have ok0 := hc.ok.ok _ _ hp0
  have hnd := hc.st.ndl
  simp only [List.nodup_cons, List.mem_cons, List.mem_append, not_or] at hnd
  obtain ⟨⟨nRL, nWL, nVL, nIL, _⟩, _⟩ := hnd
  have h2 := hc.st.wl
  rw [st0_Ltour]
  unfold w_Ltour
  walk_at "wk"
  refine v_ixL h2 (show L2.atI (rs.map fun p => D.ref p.r) 0 = some (.ref p0.r) from L2.atI_nat (j := 0) (by rw [List.getElem?_map, hp0]; rfl)) ?_
  walk_at "wk"
  refine v_lstL (hc.st.ro _ _ hp0) fun K hK => ?_
  have aK := apart_of hc.st hK
  have nK := hS.neL hK
  have c1 : Ch69 s (gup g K (.lst (p0.row.map idD))) RL WL VL IL U rs vs := hc.up (.new hK)
  have S1 := hS.up (.new (o := .lst (p0.row.map idD)) hK)
  have hgK : gup g K (.lst (p0.row.map idD)) K = some (.lst (p0.row.map idD)) := gup_same
  generalize gup g K (.lst (p0.row.map idD)) = g1 at c1 S1 hgK
  walk_at "wk"
  intro T hT
  have aT := apart_of c1.st hT
  have nT := S1.neL hT
  have nT0 := S1.neL0 hT
  have nTK : T ≠ K := fun e => by rw [e, hgK] at hT; cases hT
  have c2 : Ch69 s (gup g1 T (.lst [])) RL WL VL IL U rs vs := c1.up (.new hT)
  have S2 := S1.up (.new (o := .lst []) hT)
  have hgK2 : gup g1 T (.lst []) K = some (.lst (p0.row.map idD)) := by rw [gup_ne nTK.symm]; exact hgK
  have hgT : gup g1 T (.lst []) T = some (.lst []) := gup_same
  generalize gup g1 T (.lst []) = g2 at c2 S2 hgK2 hgT
  have hV2 := c2.st.vl
  walk_at "wk"
  refine s_anyL ?_
  walk_at "wk"
  refine ⟨s, m, _, rfl, S2, (by omega), hV2, Ne.symm nVL, by rw [List.length_map]; omega, fun ys P g3 hy hP G3 hgP => ?_⟩
  obtain ⟨vp, rfl, hvp⟩ := perm_map_inv hy vs rfl
  have aP := apart_of c2.st hP
  have nP := S2.neL hP
  have nTP : T ≠ P := fun e => by rw [← e, hgT] at hP; cases hP
  have hvpl := hvp.length_eq
  have tr3 : Tr s g3 RL WL VL IL K T P many U p0.row [] rs vs vp (m + 200000) := ⟨⟨c2.st.go S2 G3, c2.ok, c2.r0⟩, G3.2, G3.get nK hgK2, G3.get nT hgT, hgP, aK, aT, aP, nK, nT, nT0, nP, nTK, nTP,
    fun k p hk hp x hx => .inl (hch k p p0 hk hp hp0 x hx), List.nodup_nil, (fun x h => by cases h), (fun x h => by cases h), ok0.sub⟩
  walk_at "wk"
  refine for4 7 8 9 10 (fun i x7 x8 x9 x10 g' => ∃ (rs' : List P69) (td : List Idn) (l : Nat), x7 = some (.int (l : Int)) ∧ (l : Int) < many ∧ rs'.length = rs.length ∧ tri rs' = tri rs ∧ Tr s g' RL WL VL IL K T P many U p0.row td rs' vs vp (m + 200000 + 300001 * i) ∧ (∀ p, rs'[l]? = some p → ∀ x, x ∈ p0.row ∨ x ∈ td → x ∈ p.row) ∧ (∀ v ∈ vp.take i, ∀ x ∈ v.ps.map (·.2), x ∈ p0.row ∨ x ∈ td))
    ⟨_, _, _, _, rfl, rs, [], 0, rfl, by omega, rfl, rfl, tr3, (fun p hp x hx => by rw [hp0] at hp; cases hp; exact hx.elim id fun h => by cases h), (fun v h => by simp at h)⟩ (fun i x7 x8 x9 x10 g' _ ⟨_, _, _, _, _, _, _, tr, _⟩ => .inl tr.p) ?_ ?_
  · rintro i d x7 x8 x9 x10 g4 hd ⟨rs1, td, l, rfl, hlm, hl1, ht1, tr, hlast, hvis⟩
    rw [List.getElem?_map] at hd
    cases hi : vp[i]? with
    | none => rw [hi] at hd; cases hd
    | some v =>
    rw [hi] at hd
    cases hd
    have hil := (List.getElem?_eq_some_iff.mp hi).1
    have hvm := hvp.mem_iff.mp (List.mem_of_getElem? hi)
    obtain ⟨iv, hiv⟩ := List.mem_iff_getElem?.mp hvm
    have okv := tr.ch.ok.vw iv v hiv
    have lv := vw_len okv
    have hvs : ∀ p ∈ v.ps, sOk p.2.1 := fun p hp => hUs _ (okv.sub p hp)
    walk_at "w0"
    (with_reducible refine DL.s_seq ?_); walk_at "w0"
    refine ⟨s, _, rfl, tr.src, (by omega), (by omega), (by omega), fun who g5 b1 b2 G5 => ?_⟩
    have tr5 := tr.go G5
    have ewho : ((who.toNat : Nat) : Int) = who := by omega
    walk_at "w0"
    refine cut0 (fun g' => ∃ rs2, rs2.length = rs.length ∧ tri rs2 = tri rs ∧ Tr s g' RL WL VL IL K T P many U p0.row td rs2 vs vp (m + 200000 + 300001 * i + 1) ∧ ∀ p, rs2[who.toNat]? = some p → ∀ x, x ∈ p0.row ∨ x ∈ td → x ∈ p.row) ?_ ?_
    · walk_at "wk"
      refine iteN (fun hne => ?_) (fun heq => ?_)
      · walk_at "wk"
        rw [← ewho]
        refine ⟨s, _, VL, IL, U, rs1, vs, l, who.toNat, rfl, rfl, by omega, by omega, by omega, tr5.src, tr5.ch.r0, tr5.ch.st, tr5.ch.ok.ok, hUl, hUs, fun rs2 g6 J st6 S6 U6 => ?_⟩
        walk_at "wk"
        refine iteNB (fun z => by cases z) (fun _ => ?_)
        walk_at "wk"
        have e3 : tri rs2 = tri rs1 := J.maps
        refine ⟨rfl, rs2, J.len.trans hl1, e3.trans ht1, { tr5 with ch := ⟨st6, ⟨J.ok, tr5.ch.ok.vw, tr5.ch.ok.ul, tr5.ch.ok.us⟩, joinR_mem (P := fun a => a ≠ s.L0) J tr5.ch.r0⟩, src := S6, k := U6.1 _ _ (apart_dr tr5.aK) tr5.k, t := U6.1 _ _ (apart_dr tr5.aT) tr5.t, p := U6.1 _ _ (apart_dr tr5.aP) tr5.p, aK := by rw [e3]; exact tr5.aK, aT := by rw [e3]; exact tr5.aT, aP := by rw [e3]; exact tr5.aP, sub := fun k p hk hp x hx => ?_ }, fun p hp x hx => ?_⟩
        · obtain ⟨q0, a, b, e4, e5, e6, _, _, _, e7, e8⟩ := J.at_ k p hp
          by_cases hk2 : k = l ∨ k = who.toNat
          · rcases (e7 hk2 x).mp hx with h | h
            · exact tr5.sub l a hlm e5 x h
            · exact tr5.sub who.toNat b (by omega) e6 x h
          · rw [e8 hk2] at hx
            exact tr5.sub k q0 hk e4 x hx
        · obtain ⟨q0, a, b, e4, e5, e6, _, _, _, e7, e8⟩ := J.at_ _ p hp
          exact (e7 (.inr rfl) x).mpr (.inl (hlast a e5 x hx))
      · walk_at "wk"
        refine iteB (fun z => by cases z) (fun _ => ?_)
        walk_at "wk"
        have e1 : who.toNat = l := by omega
        exact ⟨rfl, rs1, hl1, ht1, tr5, fun p hp x hx => hlast p (by rw [← e1]; exact hp) x hx⟩
    rintro g6 ⟨rs2, hl2, ht2, tr6, hall⟩
    obtain ⟨p, hp⟩ := rs_at (rs := rs2) (i := who.toNat) (by omega)
    have okp := tr6.ch.ok.ok _ p hp
    obtain ⟨lp1, lp2⟩ := rok_len okp
    have hsp : ∀ y ∈ p.row, sOk y.1 := fun y hy => hUs y (okp.sub y hy)
    have hrow : ∀ x, x ∈ p.row ↔ x ∈ p0.row ∨ x ∈ td := fun x => ⟨fun h => tr6.sub who.toNat p (by omega) hp x h, fun h => hall p hp x h⟩
    have atR : ∀ {α : Type} (f : P69 → α), L2.atI (rs2.map f) who = some (f p) := fun f => by rw [← ewho]; exact L2.atI_nat (get_map hp)
    have d1 := tr6.ch.st.rl
    have htl := ok_tl tr6.nd tr6.tU
    walk_at "wk"
    refine v_ixL d1 (atR _) ?_
    refine ⟨p.a, _, rfl, (tr6.ch.st.rd _ p hp).ins, rf_none (by decide +kernel), ?_⟩
    walk_at "wk"
    refine v_tupL (tr6.ch.st.vw iv v hiv) ?_
    walk_at "wk"
    refine ⟨p.d, p.ids, v.ps, tr6.ch.st.rd _ p hp, rfl, by omega, fun g7 U7 => ?_⟩
    have tr7 := tr6.up U7
    have d2 := tr7.ch.st.wl
    rw [newP_congr fun x => okp.perm.mem_iff]
    have hfl : (newP v.ps p.row).length ≤ v.ps.length := List.length_filter_le ..
    have hfn : ∀ x ∈ newP v.ps p.row, x ∈ v.ps ∧ x.2 ∉ p.row := fun x hx => by
      obtain ⟨h1, h2⟩ := List.mem_filter.mp hx
      exact ⟨h1, by simpa using h2⟩
    have hfa : ∀ x ∈ v.ps, x.2 ∈ p.row ∨ x ∈ newP v.ps p.row := fun x hx => by
      by_cases h : x.2 ∈ p.row
      · exact .inl h
      · exact .inr (List.mem_filter.mpr ⟨hx, by simpa using h⟩)
    have hfd : ((newP v.ps p.row).map (·.2)).Nodup := okv.nd.sublist (List.Sublist.map _ List.filter_sublist)
    walk_at "wk"
    refine v_ixL d2 (atR _) ?_
    walk_at "wk"
    refine ⟨v.ps, p.row, tr7.ch.st.vw iv v hiv, tr7.ch.st.ro _ p hp, by omega, hsp, hvs, fun g8 U8 => ?_⟩
    have tr8 := tr7.up U8
    generalize newP v.ps p.row = fr at hfl hfn hfa hfd
    walk_at "wk"
    refine use_same (okT_le (ok_prs (ps := fr) (by omega)) (by omega)) ?_
    walk_at "wk"
    refine iteNB (fun z => by cases z) (fun _ => ?_)
    walk_at "wk"
    refine v_rcvL tr8.t ?_
    walk_at "wk"
    refine s_anyT ?_
    walk_at "wk"
    refine lc_map fr prD (fun p => idD p.2) rfl (fun _ _ => trivial) (by omega) ?_ ?_
    · intro j y g' Q' hj U k
      walk_at "wk"
      exact k _ .refl
    intro B g9 hB U9 hgB
    have tr9 := tr8.up U9
    walk_at "wk"
    refine ⟨_, _, tr9.t, hgB, by rw [szl, List.length_map, List.length_map]; omega, ?_⟩
    have U10 : Up [T] g9 (gup g9 T (.lst (td.map idD ++ fr.map fun p => idD p.2))) := Up.refl.ins (List.mem_singleton.mpr rfl)
    have hgT10 : gup g9 T (.lst (td.map idD ++ fr.map fun p => idD p.2)) T = some (.lst ((td ++ fr.map (·.2)).map idD)) := by rw [gup_same, List.map_append, List.map_map]; rfl
    have nin : ∀ {y z : Addr}, y ≠ z → y ∉ [z] := fun n h => n (List.mem_singleton.mp h)
    have frd : ∀ x ∈ fr.map (·.2), x ∉ p0.row ∧ x ∉ td ∧ x ∈ U := fun x hx => by
      obtain ⟨y, hy, rfl⟩ := List.mem_map.mp hx
      have := (hfn y hy).2
      exact ⟨fun z => this ((hrow _).mpr (.inl z)), fun z => this ((hrow _).mpr (.inr z)), okv.sub y (hfn y hy).1⟩
    have tr10 : Tr s (gup g9 T (.lst (td.map idD ++ fr.map fun p => idD p.2))) RL WL VL IL K T P many U p0.row (td ++ fr.map (·.2)) rs2 vs vp (m + 200000 + 300001 * i + 1) :=
      { tr9 with ch := ⟨upA tr9.ch.st U10 tr9.aT, tr9.ch.ok, tr9.ch.r0⟩, src := src_upS3 tr9.src U10 (nin tr9.nT.symm) (nin tr9.nT0.symm), k := U10.1 _ _ (nin tr9.nTK.symm) tr9.k, t := hgT10, p := U10.1 _ _ (nin tr9.nTP.symm) tr9.p, sub := fun k p hk hp x hx => (tr9.sub k p hk hp x hx).imp id fun h => List.mem_append_left _ h, nd := List.nodup_append.mpr ⟨tr9.nd, hfd, fun a ha b hb e => (frd b hb).2.1 (e ▸ ha)⟩, dis := fun x hx => (List.mem_append.mp hx).elim (tr9.dis x) fun h => (frd x h).1, tU := fun x hx => (List.mem_append.mp hx).elim (tr9.tU x) fun h => (frd x h).2.2 }
    generalize gup g9 T (.lst (td.map idD ++ fr.map fun p => idD p.2)) = g10 at tr10
    have d3 := tr10.ch.st.rl
    have d4 := tr10.ch.st.wl
    have hrm := List.mem_of_getElem? hp
    walk_at "wk"
    refine v_ixL d3 (atR _) ?_
    walk_at "wk"
    refine v_ixL d4 (atR _) ?_
    walk_at "wk"
    refine ⟨s, _, p.d, U, p.ids, p.row, v.ps, rfl, tr10.src, by omega, tr10.ch.st.rd _ p hp, tr10.ch.st.ro _ p hp, tr10.ch.st.vw iv v hiv, (tr10.ch.st.list_ne hp).2.2.2.2.1, tr10.ch.r0 p hrm, (tr10.ch.st.view_ne hiv).2.2.2.2.1, (tr10.ch.st.view_ne hiv).2.2.2.2.2.1 _ p hp, okp.perm, okp.nd, hsp, okv, hUs, hUl, by omega, fun ids2 row2 g11 hLk hall2 U11 S11 hR11 hr11 => ?_⟩
    have hall2 := hall2 rfl
    have hst := St69.look tr10.ch.st hp U11 tr10.src hR11 hr11
    rw [List.set_set] at hst
    have mm := mem_a (RL := RL) (WL := WL) (VL := VL) (IL := IL) (vs := vs) hrm
    have out : ∀ {y}, y ∉ allA RL WL VL IL (tri rs2) vs → y ≠ s.L → y ∉ [s.L, p.d, p.r] := fun a b z => by
      simp only [List.mem_cons, List.not_mem_nil, or_false] at z
      rcases z with z | z | z
      · exact b z
      · exact a (z ▸ mm.2.1)
      · exact a (z ▸ mm.2.2)
    have e3 : tri (rs2.set who.toNat { p with ids := ids2, row := row2 }) = tri rs2 := map_set_same (f := fun p : P69 => (p.a, p.d, p.r)) hp rfl
    have hin2 : ∀ x ∈ row2, x ∈ p0.row ∨ x ∈ td ++ fr.map (·.2) := fun x hx => by
      rcases hLk.sub x hx with h | h
      · exact ((hrow x).mp h).imp id fun h => List.mem_append_left _ h
      · obtain ⟨y, hy, rfl⟩ := List.mem_map.mp h
        rcases hfa y hy with h | h
        · exact ((hrow _).mp h).imp id fun h => List.mem_append_left _ h
        · exact .inr (List.mem_append_right _ (List.mem_map_of_mem h))
    walk_at "wk"
    refine iteNB (fun z => by cases z) (fun _ => ?_)
    walk_at "wk"
    refine ⟨_, _, _, _, rfl, rs2.set who.toNat { p with ids := ids2, row := row2 }, td ++ fr.map (·.2), who.toNat, by rw [ewho], by omega, by rw [List.length_set]; exact hl2, e3.trans ht2,
      { tr10 with ch := ⟨hst, ⟨set_get tr10.ch.ok.ok ⟨hLk.perm, hLk.nd, fun x hx => (hLk.sub x hx).elim (okp.sub x) fun h => by obtain ⟨y, hy, rfl⟩ := List.mem_map.mp h; exact okv.sub y hy⟩, tr10.ch.ok.vw, tr10.ch.ok.ul, tr10.ch.ok.us⟩, set_mem tr10.ch.r0 (tr10.ch.r0 p hrm)⟩, src := S11.le (by omega), k := U11.1 _ _ (out tr10.aK tr10.nK) tr10.k, t := U11.1 _ _ (out tr10.aT tr10.nT) tr10.t, p := U11.1 _ _ (out tr10.aP tr10.nP) tr10.p, aK := by rw [e3]; exact tr10.aK, aT := by rw [e3]; exact tr10.aT, aP := by rw [e3]; exact tr10.aP, sub := fun k p2 hk hp2 x hx => ?_ }, fun p2 hp2 x hx => ?_, fun w hw x hx => ?_⟩
    · by_cases hkw : k = who.toNat
      · subst hkw
        rw [List.getElem?_set_self (by omega)] at hp2
        cases hp2
        exact hin2 x hx
      · rw [List.getElem?_set_ne (Ne.symm hkw)] at hp2
        exact tr10.sub k p2 hk hp2 x hx
    · rw [List.getElem?_set_self (by omega)] at hp2
      cases hp2
      show x ∈ row2
      rcases hx with h | h
      · exact hLk.sup x ((hrow x).mpr (.inl h))
      · rcases List.mem_append.mp h with h | h
        · exact hLk.sup x ((hrow x).mpr (.inr h))
        · obtain ⟨y, hy, rfl⟩ := List.mem_map.mp h
          exact hall2 _ (List.mem_map_of_mem (hfn y hy).1)
    · rw [List.take_add_one, hi] at hw
      rcases List.mem_append.mp hw with hw | hw
      · exact (hvis w hw x hx).imp id fun h => List.mem_append_left _ h
      · have hw : w = v := by simpa using hw
        subst hw
        obtain ⟨y, hy, rfl⟩ := List.mem_map.mp hx
        rcases hfa y hy with h | h
        · exact ((hrow _).mp h).imp id fun h => List.mem_append_left _ h
        · exact .inr (List.mem_append_right _ (List.mem_map_of_mem h))
  rintro x7 x8 x9 x10 g4 ⟨rs1, td, l, rfl, hlm, hl1, ht1, tr, hlast, hvis⟩
  rw [List.length_map, List.take_length] at hvis
  have hV4 := tr.ch.st.vl
  have htl := ok_tl tr.nd tr.tU
  have hts : ∀ x ∈ td, sOk x.1 := fun x hx => hUs x (tr.tU x hx)
  have hks : ∀ x ∈ p0.row, sOk x.1 := fun x hx => hUs x (tr.kU x hx)
  have hk4 := tr.k
  have ht4 := tr.t
  walk_at "wk"
  refine s_anyL ?_
  walk_at "wk"
  refine for2 8 11 (fun i x8 x11 g' => g' = g4) ⟨_, _, rfl, rfl⟩ (fun i x8 x11 g' _ h => by rw [h]; exact .inl hV4) ?_ ?_
  · rintro i d x8 x11 g5 hd rfl
    rw [List.getElem?_map] at hd
    cases hi : vs[i]? with
    | none => rw [hi] at hd; cases hd
    | some v =>
    rw [hi] at hd
    cases hd
    have hvw := tr.ch.st.vw i v hi
    have okv := tr.ch.ok.vw i v hi
    have hvm := hvp.mem_iff.mpr (List.mem_of_getElem? hi)
    walk_at "wk"
    refine s_anyL ?_
    walk_at "wk"
    refine for1 11 (fun j x11 g' => g' = g5) ⟨_, rfl, rfl⟩ (fun j x11 g' _ h => by rw [h]; exact .inl hvw) ?_ ?_
    · rintro j d x11 g6 hd rfl
      rw [List.getElem?_map] at hd
      cases hj : v.ps[j]? with
      | none => rw [hj] at hd; cases hd
      | some y =>
      rw [hj] at hd
      cases hd
      have hy := List.mem_of_getElem? hj
      have hys := hUs _ (okv.sub y hy)
      have hyv := hvis v hvm y.2 (List.mem_map_of_mem hy)
      walk_at "wk"
      refine v_countIds ht4 hys hts ?_
      walk_at "wk"
      refine v_notInIds hk4 hys hks ?_
      walk_at "wk"
      have e : ((td.count y.2 : Nat) : Int) = if (!decide (y.2 ∈ p0.row)) = true then 1 else 0 := by
        by_cases hk : y.2 ∈ p0.row
        · rw [if_neg (by simpa using hk), List.count_eq_zero.mpr fun z => tr.dis _ z hk]; rfl
        · rw [if_pos (by simpa using hk), tr.nd.count, if_pos (hyv.resolve_left hk)]; rfl
      refine iteN (fun hne => absurd e hne) (fun _ => ?_)
      walk_at "wk"
      exact ⟨_, rfl, rfl⟩
    · rintro x11 g6 rfl
      walk_at "wk"
      exact ⟨_, _, rfl, rfl⟩
  rintro x8 x11 g5 rfl
  have ein : ∀ (k : Nat) x, td[k]? = some x → x ∉ p0.row ++ td.take k := fun k x hk z => by
    rcases List.mem_append.mp z with z | z
    · exact tr.dis x (List.mem_of_getElem? hk) z
    · obtain ⟨j, hj⟩ := List.mem_iff_getElem?.mp z
      rw [List.getElem?_take] at hj
      split at hj
      · rename_i h
        exact nodup_at (f := fun z : Idn => z) (by rw [List.map_id'']; exact tr.nd; intro z; rfl) hj hk (by omega) rfl
      · cases hj
  walk_at "wk"
  rw [List.length_map]
  refine ⟨by omega, by omega, ?_⟩
  refine lc_filt (List.range td.length) (fun i : Nat => .int (0 + (i : Int))) (fun i : Nat => .int (0 + (i : Int))) (fun _ => true) rfl (fun _ _ => trivial) (by rw [List.length_range]; omega) ?_ ?_ ?_
  · intro i k g' Q' hi U kk
    have hik : i = k := by
      have h1 := (List.getElem?_eq_some_iff.mp hi).1
      rw [List.length_range] at h1
      rw [List.getElem?_range h1] at hi
      exact Option.some.inj hi
    have hkl : k < td.length := by
      have h1 := (List.getElem?_eq_some_iff.mp hi).1
      rw [List.length_range] at h1
      omega
    have hk : td[k]? = some td[k] := List.getElem?_eq_getElem hkl
    generalize td[k] = x at hk
    have e0 : (0 : Int) + (k : Int) = (k : Int) := by omega
    have ht' := U.get0 ht4
    have hk' := U.get0 hk4
    rw [e0]
    walk_at "wk"
    refine v_ixL ht' (L2.atI_nat (get_map hk)) ?_
    walk_at "wk"
    refine v_slToL ht' (by omega) fun B hB => ?_
    have eB : (td.map idD).take (k : Int).toNat = (td.take k).map idD := by rw [List.map_take, Int.toNat_natCast]
    rw [eB]
    have hKB : K ≠ B := fun e => by rw [← e, hk'] at hB; cases hB
    refine v_addL (by rw [gup_ne hKB]; exact hk') gup_same (by rw [szl, List.length_map, List.length_map, List.length_take]; have := nodup_len _ _ ok0.nd ok0.sub; omega) fun C hC => ?_
    refine v_notInIds (us := p0.row ++ td.take k) (by rw [gup_same, List.map_append]) (hts x (List.mem_of_getElem? hk)) (fun y hy => (List.mem_append.mp hy).elim (hks y) fun h => hts y (List.mem_of_mem_take h)) ?_
    refine ⟨_, rfl, ?_⟩
    rw [decide_eq_false (ein k x hk)]
    exact kk _ ((Up.new hB).trans (.new hC))
  · intro i k g' Q' hi hb U kk
    walk_at "wk"
    exact kk _ .refl
  intro B g6 hB U6 hg6
  rw [List.filter_eq_self.mpr (fun _ _ => rfl)] at hg6
  walk_at "wk"
  rw [List.length_map, List.length_range]
  rw [decide_eq_true rfl]
  exact q rs1 g6 (tr.ch.up U6) hl1

/-- law(script): 0 script, 1 source, 2 idents, 3 views, 4 many, 5 readers, 6 rows, 7 step, 8 k, 9 reader -/
abbrev N_law : List Str := ["script", "source", "idents", "views", "many", "readers", "rows", "step", "k", "reader"]
theorem st0_law (a0 : D) : dstart N_law [a0] = [some a0, none, none, none, none, none, none, none, none, none] := rfl
def w_law : DTS := (dSeq (dAsg (dCall sp_Lsource [] (dCons (dVar 0) dNil)) (gNm 1))
  (dSeq (dAsg (dCall sp_Lidents [] (dCons (dVar 1) dNil)) (gNm 2))
  (dSeq (dAsg (dLc (iRa1 (dOp addD (dC (.int 1)) (dCall sp_Ldraw [] (dCons (dVar 1) (dCons (dC (.int 4)) dNil))))) 8 dYes (dCall sp_Lview [] (dCons (dVar 1) (dCons (dVar 2) dNil)))) (gNm 3))
  (dSeq (dAsg (dOp addD (dC (.int 2)) (dCall sp_Ldraw [] (dCons (dVar 1) (dCons (dC (.int 3)) dNil)))) (gNm 4))
  (dSeq (dAsg (dLc (iRa1 (dOp addD (dOp addD (dVar 4) (dC (.int 1))) (dCall sp_Ldraw [] (dCons (dVar 1) (dCons (dC (.int 2)) dNil))))) 8 dYes (dMake "Reader" sp_Reader_init dNil)) (gNm 5))
  (dSeq (dAsg (dLc (iAny (dVar 5)) 9 dYes (dLst dNil)) (gNm 6))
  (dSeq (dFor (iRa1 (dCall sp_Ldraw [] (dCons (dVar 1) (dCons (dC (.int 15)) dNil)))) (gNm 7) (dIf (dOr (dNot (dTru (dCall sp_Lstep [] (dCons (dVar 1) (dCons (dVar 5) (dCons (dVar 6) (dCons (dVar 4) (dCons (dVar 3) (dCons (dVar 2) dNil))))))))) (dNot (dTru (dCall sp_Lall_right [] (dCons (dVar 5) (dCons (dVar 6) dNil)))))) (dRet (dC (.bl false))) dNext))
  (dSeq (dIf (dOr (dNot (dTru (dCall sp_Lchain [] (dCons (dVar 5) (dCons (dVar 6) (dCons (dVar 4) dNil)))))) (dNot (dTru (dCall sp_Lall_right [] (dCons (dVar 5) (dCons (dVar 6) dNil)))))) (dRet (dC (.bl false))) dNext)
  (dRet (dAndV (dCall sp_Ltour [] (dCons (dVar 1) (dCons (dVar 5) (dCons (dVar 6) (dCons (dVar 4) (dCons (dVar 3) dNil)))))) (dCall sp_Lall_right [] (dCons (dVar 5) (dCons (dVar 6) dNil)))))))))))))
theorem nd_shape {a b c d e f : Addr} {rr vv : List Addr} (h : (rr ++ (c :: b :: d :: e :: a :: f :: vv)).Nodup) : (a :: b :: c :: d :: e :: (rr ++ vv)).Nodup := by
  have p : (rr ++ (c :: b :: d :: e :: a :: f :: vv)).Perm (f :: (a :: b :: c :: d :: e :: (rr ++ vv))) := by
    have h1 : (rr ++ (c :: b :: d :: e :: a :: f :: vv)).Perm ((c :: b :: d :: e :: a :: f :: vv) ++ rr) := List.perm_append_comm
    refine h1.trans ?_
    have h2 : (f :: a :: b :: c :: d :: e :: (rr ++ vv)).Perm (f :: a :: b :: c :: d :: e :: (vv ++ rr)) := by
      repeat refine List.Perm.cons _ ?_
      exact List.perm_append_comm
    refine List.Perm.trans ?_ h2.symm
    show ([c, b, d, e, a, f] ++ (vv ++ rr)).Perm ([f, a, b, c, d, e] ++ (vv ++ rr))
    refine List.Perm.append_right _ ?_
    rw [List.perm_iff_count]
    intro x
    simp only [List.count_cons, List.count_nil]
    omega
  exact (List.nodup_cons.mp (p.nodup_iff.mp h)).2
def sp_law : DSp := fun ds g Q => match ds with
  | [.klst xs] => ∃ ns : List Int, xs = ns.map D.int ∧ ns.length ≤ 63 ∧ ∀ g', Q (.bl true) g'
  | _ => False
theorem len_law : ∀ ds g Q, sp_law ds g Q → ds.length = 1 := fun ds g Q h => by
  unfold sp_law at h; split at h <;> first | rfl | exact h.elim
theorem fin (K : PySem.W.Frag) (H : L2.Hp) (a : Addr) (ns : List Int) (hn : ns.length ≤ 63) (hO : L2.Only H) (hS : L2.SqL K H a (ns.map L2.V.int)) : lSp K sp_law [.ref a] H (fun v _ => v = .bl true) fun _ _ _ => False :=
  fin_of (sp := sp_law) (fun ns g hn _ => ⟨ns, rfl, hn, fun _ => rfl⟩) K H a ns hn hO hS
theorem rd_law : ∀ ds g Q, sp_law ds g Q → w_law { nx := fun _ g => Q .non g, rt := Q } (dstart N_law ds) g := fun ds g Q h => by
  unfold sp_law at h; split at h
  case h_2 => exact h.elim
  obtain ⟨ns, rfl, hn, q⟩ := h
  rw [st0_law]
  unfold w_law
  walk_at "wk"
  refine ⟨ns, rfl, hn, fun s g1 _ U1 S1 _ _ => ?_⟩
  walk_at "wk"
  refine ⟨s, _, rfl, S1, (by omega), fun U I g2 hU0 hUl hUn hUs hI0 G2 hI => ?_⟩
  have nI := S1.neL hI0
  have nI0 := S1.neL0 hI0
  walk_at "wk"
  refine ⟨s, _, rfl, G2.2, (by omega), (by omega), (by omega), fun v g3 a1 a2 G3 => ?_⟩
  have hI3 := G3.get nI hI
  have S3 := G3.2
  walk_at "wk"
  refine lc_iv (fun p i acc g' => ∃ vs : List V69, acc = vs.map (fun v => D.ref v.v) ∧ vs.length = i ∧ Go s g3 g' (10000 + 201000 * i) ∧ g' p = some (.lst acc) ∧ g' I = some (.lst (U.map idD)) ∧ (∀ (k : Nat) v, vs[k]? = some v → g' v.v = some (.lst (v.ps.map prD)) ∧ VwOk U v.ps) ∧ (p :: I :: s.L :: s.L0 :: vs.map (·.v)).Nodup) (fun p hp => ?_) (fun _ _ _ _ _ _ _ => trivial) ?_ ?_
  · refine ⟨[], rfl, rfl, ((Go.start S3).new hp).le (by omega), gup_same, by rw [gup_ne (fun e => by rw [e, hp] at hI3; cases hI3)]; exact hI3, (fun k v h => by simp at h), ?_⟩
    have n1 := S3.neL hp
    have n2 := S3.neL0 hp
    have n3 : p ≠ I := fun e => by rw [← e, hp] at hI3; cases hI3
    have n4 := S3.2.1.1
    simp only [List.map_nil, List.nodup_cons, List.mem_cons, List.not_mem_nil, or_false, not_or, not_false_eq_true, List.nodup_nil, and_true]
    exact ⟨⟨n3, n1, n2⟩, ⟨nI, nI0⟩, Ne.symm n4⟩
  · rintro p i d acc g4 hp hd ⟨vs, rfl, hl, G, hgp, hgI, hvs, hnd⟩
    have hi := (ran_get hd).1
    walk_at "wk"
    refine ⟨s, _, U, rfl, G.2, by omega, hgI, nI, hUn, by omega, fun ps r g5 hps hr G5 hgr => ?_⟩
    have np := S3.neL hp
    have hnr : r ∉ p :: I :: s.L :: s.L0 :: vs.map (·.v) := fun z => by
      simp only [List.mem_cons] at z
      rcases z with e | e | e | e | z
      · rw [e, hgp] at hr; cases hr
      · rw [e, hgI] at hr; cases hr
      · exact G.2.neL hr e
      · exact G.2.neL0 hr e
      · obtain ⟨w, hw, e⟩ := List.mem_map.mp z
        obtain ⟨k, hk⟩ := List.mem_iff_getElem?.mp hw
        rw [← e, (hvs k w hk).1] at hr; cases hr
    have nv : ∀ (k : Nat) w, vs[k]? = some w → w.v ≠ s.L ∧ w.v ≠ p := fun k w hk => by
      have hm := List.mem_map.mpr ⟨w, List.mem_of_getElem? hk, (rfl : w.v = w.v)⟩
      simp only [List.nodup_cons, List.mem_cons, not_or] at hnd
      exact ⟨fun e => hnd.2.2.1.2 (e ▸ hm), fun e => hnd.1.2.2.2 (e ▸ hm)⟩
    have nrp : r ≠ p := fun e => hnr (e ▸ List.mem_cons_self)
    refine ⟨G5.get np hgp, by rw [szl, List.length_map]; omega, vs ++ [⟨r, ps⟩], by rw [List.map_append]; rfl, by rw [List.length_append, List.length_singleton, hl], (((G.trans G5).mut hp S3).le (by omega)), gup_same, by rw [gup_ne (fun e => by rw [e, hp] at hI3; cases hI3)]; exact G5.get nI hgI, fun k w hk => ?_, ?_⟩
    · by_cases hkl : k < vs.length
      · rw [List.getElem?_append_left hkl] at hk
        rw [gup_ne (nv k w hk).2]
        exact ⟨G5.get (nv k w hk).1 (hvs k w hk).1, (hvs k w hk).2⟩
      · rw [List.getElem?_append_right (by omega)] at hk
        have : k - vs.length = 0 := by
          have := (List.getElem?_eq_some_iff.mp hk).1
          simp at this; omega
        rw [this] at hk
        cases hk
        rw [gup_ne nrp]
        exact ⟨hgr, hps⟩
    · rw [List.map_append]
      show ((p :: I :: s.L :: s.L0 :: vs.map (·.v)) ++ [r]).Nodup
      rw [List.nodup_append]
      exact ⟨hnd, by simp, fun a ha b hb e => hnr (by rw [List.mem_singleton] at hb; rw [← hb, ← e]; exact ha)⟩
  rintro VL acc g4 hVL ⟨vs, rfl, hvl, G4, hgV, hgI, hvs, hnd⟩
  rw [ran_len] at hvl G4
  have S4 := G4.2
  walk_at "wk"
  refine ⟨s, _, rfl, S4, (by omega), (by omega), (by omega), fun v2 g5 b1 b2 G5 => ?_⟩
  walk_at "wk"
  refine ⟨s, _, rfl, G5.2, (by omega), (by omega), (by omega), fun v3 g6 c1 c2 G6 => ?_⟩
  have G46 := G5.trans G6
  have nVL := S3.neL hVL
  have nvs : ∀ (k : Nat) w, vs[k]? = some w → w.v ≠ s.L := fun k w hk e => by
    have hm := List.mem_map.mpr ⟨w, List.mem_of_getElem? hk, (rfl : w.v = w.v)⟩
    simp only [List.nodup_cons, List.mem_cons, not_or] at hnd
    exact hnd.2.2.1.2 (e ▸ hm)
  have hvs0 : ∀ w ∈ vs, w.v ≠ s.L0 := fun w hw e => by
    have hm := List.mem_map.mpr ⟨w, hw, (rfl : w.v = w.v)⟩
    simp only [List.nodup_cons, List.mem_cons, not_or] at hnd
    exact hnd.2.2.2.1 (e ▸ hm)
  have i6 := G46.get nI hgI
  have v6 := G46.get nVL hgV
  have vs6 : ∀ (k : Nat) w, vs[k]? = some w → g6 w.v = some (.lst (w.ps.map prD)) ∧ VwOk U w.ps := fun k w hk => ⟨G46.get (nvs k w hk) (hvs k w hk).1, (hvs k w hk).2⟩
  have S6 := G6.2
  obtain ⟨dsL, hLL⟩ := S6.isL
  have all6 : ∀ x ∈ VL :: I :: s.L :: s.L0 :: vs.map (·.v), g6 x ≠ none := fun x hx => by
    simp only [List.mem_cons] at hx
    rcases hx with rfl | rfl | rfl | rfl | hx
    · rw [v6]; exact fun z => nomatch z
    · rw [i6]; exact fun z => nomatch z
    · rw [hLL]; exact fun z => nomatch z
    · rw [S6.1]; exact fun z => nomatch z
    · obtain ⟨w, hw, rfl⟩ := List.mem_map.mp hx
      obtain ⟨k, hk⟩ := List.mem_iff_getElem?.mp hw
      rw [(vs6 k w hk).1]; exact fun z => nomatch z
  walk_at "wk"
  clear hvs hgV hgI S4 G4 G5 G6 G46 G2 G3 hI3 hI S1 S3
  refine lc_iv (fun p i acc g' => ∃ ads : List (Addr × Addr), acc = ads.map (fun x => D.ref x.1) ∧ ads.length = i ∧ Up [] g6 g' ∧ g' p = some (.lst acc) ∧ (∀ (k : Nat) x, ads[k]? = some x → RdAt g' x.1 x.2 []) ∧ (ads.map (·.1)).Nodup ∧ (ads.map (·.2)).Nodup) (fun p hp => ?_) (fun _ _ _ _ _ _ _ => trivial) ?_ ?_
  · exact ⟨[], rfl, rfl, .new hp, gup_same, (fun k x h => by simp at h), List.nodup_nil, List.nodup_nil⟩
  · rintro p i d acc g7 hp hd ⟨ads, rfl, hl, U7, hgp, hrd, hn1, hn2⟩
    have hi := (ran_get hd).1
    walk_at "wk"
    intro a ha
    refine ⟨gup_same, fun dd g8 hR U8 hdd => ?_⟩
    have U78 := up_make ha U8
    have hdd7 : g7 dd = none := by
      by_cases e : dd = a
      · rw [e]; exact ha
      · rw [gup_ne e] at hdd; exact hdd
    refine ⟨rfl, U78.get0 hgp, by rw [szl, List.length_map]; omega, ads ++ [(a, dd)], by rw [List.map_append]; rfl, by rw [List.length_append, List.length_singleton, hl], (U7.trans U78).mut hp, gup_same, fun k x hk => ?_, ?_, ?_⟩
    · have key : RdAt g8 x.1 x.2 [] := by
        by_cases hkl : k < ads.length
        · rw [List.getElem?_append_left hkl] at hk
          exact (hrd k x hk).up U78 (by simp) (by simp)
        · rw [List.getElem?_append_right (by omega)] at hk
          have : k - ads.length = 0 := by
            have := (List.getElem?_eq_some_iff.mp hk).1
            simp at this; omega
          rw [this] at hk
          cases hk
          exact hR
      have hgp8 := U78.get0 hgp
      obtain ⟨kv, h1, h2⟩ := key.dct
      exact ⟨by rw [gup_ne (Ne.symm (kind_ne2 hgp8 key.ins))]; exact key.ins, kv, by rw [gup_ne (Ne.symm (kind_ne hgp8 h1))]; exact h1, h2⟩
    · rw [List.map_append, List.nodup_append]
      refine ⟨hn1, by simp, fun x hx y hy e => ?_⟩
      have hy : y = a := by simpa using hy
      obtain ⟨z, hz, e2⟩ := List.mem_map.mp hx
      obtain ⟨k, hk⟩ := List.mem_iff_getElem?.mp hz
      have := (hrd k z hk).ins
      rw [e2, e, hy, ha] at this; cases this
    · rw [List.map_append, List.nodup_append]
      refine ⟨hn2, by simp, fun x hx y hy e => ?_⟩
      have hy : y = dd := by simpa using hy
      obtain ⟨z, hz, e2⟩ := List.mem_map.mp hx
      obtain ⟨k, hk⟩ := List.mem_iff_getElem?.mp hz
      obtain ⟨kv, h1, _⟩ := (hrd k z hk).dct
      rw [e2, e, hy, hdd7] at h1; cases h1
  rintro RL acc g7 hRL ⟨ads, rfl, hal, U7, hgR, hrd, hn1, hn2⟩
  rw [ran_len] at hal
  have S7 := S6.up U7
  walk_at "wk"
  refine s_anyL ?_
  walk_at "wk"
  refine lc_iv (fun p i acc g' => ∃ rs : List P69, acc = rs.map (fun x => D.ref x.r) ∧ rs.length = i ∧ rs.map (fun x => (x.a, x.d)) = ads.take i ∧ (∀ x ∈ rs, x.ids = [] ∧ x.row = []) ∧ Up [] g7 g' ∧ g' p = some (.lst acc) ∧ (∀ (k : Nat) x, rs[k]? = some x → g' x.r = some (.lst [])) ∧ (rs.map (·.r) ++ (p :: RL :: VL :: I :: s.L :: s.L0 :: vs.map (·.v))).Nodup ∧ (∀ x ∈ rs.map (·.r) ++ (p :: RL :: VL :: I :: s.L :: s.L0 :: vs.map (·.v)), g' x ≠ none)) (fun p hp => ?_) (fun p i acc g' _ _ ⟨_, _, _, _, _, U, _⟩ => .inl (U.get0 hgR)) ?_ ?_
  · have a7 : ∀ x ∈ RL :: VL :: I :: s.L :: s.L0 :: vs.map (·.v), g7 x ≠ none := fun x hx => by
      rcases List.mem_cons.mp hx with rfl | hx
      · rw [hgR]; exact fun z => nomatch z
      · exact U7.2 x (all6 x hx)
    refine ⟨[], rfl, rfl, rfl, (fun x h => by cases h), .new hp, gup_same, (fun k x h => by simp at h), ?_, fun x hx => ?_⟩
    · refine List.nodup_cons.mpr ⟨fun z => a7 p z hp, List.nodup_cons.mpr ⟨fun z => all6 RL z hRL, hnd⟩⟩
    · rcases List.mem_cons.mp hx with rfl | hx
      · rw [gup_same]; exact fun z => nomatch z
      · exact gup_some (a7 x hx) p
  · rintro p i d acc g8 hp hd ⟨rs, rfl, hl, hads, hem, U8, hgp, hro, hnd8, hall⟩
    rw [List.getElem?_map] at hd
    have hi : i < ads.length := by
      cases hc : ads[i]? with
      | none => rw [hc] at hd; cases hd
      | some x => exact (List.getElem?_eq_some_iff.mp hc).1
    walk_at "wk"
    intro r hr
    have hnr : r ∉ rs.map (·.r) ++ (p :: RL :: VL :: I :: s.L :: s.L0 :: vs.map (·.v)) := fun z => hall r z hr
    have nrp : p ≠ r := fun e => hnr (List.mem_append_right _ (e ▸ List.mem_cons_self))
    refine ⟨by rw [gup_ne nrp]; exact hgp, by rw [szl, List.length_map]; omega, rs ++ [⟨(ads[i]).1, (ads[i]).2, r, [], []⟩], by rw [List.map_append]; rfl, by rw [List.length_append, List.length_singleton, hl], ?_, fun x hx => ?_, (U8.trans (.new hr)).mut hp, gup_same, fun k x hk => ?_, ?_, fun x hx => ?_⟩
    · rw [List.map_append, hads, List.take_add_one, List.getElem?_eq_getElem hi]; rfl
    · rcases List.mem_append.mp hx with hx | hx
      · exact hem x hx
      · rw [List.mem_singleton.mp hx]; exact ⟨rfl, rfl⟩
    · by_cases hkl : k < rs.length
      · rw [List.getElem?_append_left hkl] at hk
        have hm := List.mem_map.mpr ⟨x, List.mem_of_getElem? hk, (rfl : x.r = x.r)⟩
        rw [gup_ne (fun e => by rw [List.nodup_append] at hnd8; exact hnd8.2.2 _ hm _ List.mem_cons_self e), gup_ne (fun e => hnr (List.mem_append_left _ (by rw [← e]; exact hm)))]
        exact hro k x hk
      · rw [List.getElem?_append_right (by omega)] at hk
        have : k - rs.length = 0 := by
          have := (List.getElem?_eq_some_iff.mp hk).1
          simp at this; omega
        rw [this] at hk
        cases hk
        rw [gup_ne nrp.symm, gup_same]
    · rw [List.map_append, List.append_assoc]
      rw [List.nodup_append] at hnd8 ⊢
      refine ⟨hnd8.1, List.nodup_cons.mpr ⟨fun z => hnr (List.mem_append_right _ z), hnd8.2.1⟩, fun a ha b hb e => ?_⟩
      rcases List.mem_cons.mp hb with h | h
      · have h : b = r := h
        exact hnr (List.mem_append_left _ (by rw [← h, ← e]; exact ha))
      · exact hnd8.2.2 a ha b h e
    · rw [List.map_append, List.append_assoc] at hx
      rcases List.mem_append.mp hx with hx | hx
      · exact gup_some (gup_some (hall x (List.mem_append_left _ hx)) r) p
      · rcases List.mem_cons.mp hx with rfl | hx
        · exact gup_some (by rw [gup_same]; exact fun z => nomatch z) p
        · exact gup_some (gup_some (hall x (List.mem_append_right _ hx)) r) p
  rintro WL acc g8 hWL ⟨rs, rfl, hl, hads, hem, U8, hgW, hro, hnd8, hall⟩
  rw [List.length_map] at hl
  rw [List.length_map, List.take_length] at hads
  have hadA : rs.map (·.a) = ads.map (·.1) := by rw [← hads, List.map_map]; rfl
  have hadD : rs.map (·.d) = ads.map (·.2) := by rw [← hads, List.map_map]; rfl
  have st8 : St69 s g8 RL WL VL I U rs vs := ⟨U8.get0 (U7.get0 i6), by
      rw [U8.get0 hgR, ← hads, List.map_map]; rfl, hgW, U8.get0 (U7.get0 v6), fun k p hk => by
      have hx : ads[k]? = some (p.a, p.d) := by rw [← hads, List.getElem?_map, hk]; rfl
      have := (hrd k _ hx).up U8 (by simp) (by simp)
      rw [(hem p (List.mem_of_getElem? hk)).1]; exact this, fun k p hk => by rw [(hem p (List.mem_of_getElem? hk)).2]; exact hro k p hk, fun k w hk => U8.get0 (U7.get0 (vs6 k w hk).1), by rw [hadA]; exact hn1, by rw [hadD]; exact hn2, nd_shape hnd8⟩
  have hr0 : ∀ p ∈ rs, p.r ≠ s.L0 := fun p hp e => by
    have hm := List.mem_map.mpr ⟨p, hp, (rfl : p.r = p.r)⟩
    rw [List.nodup_append] at hnd8
    exact hnd8.2.2 _ hm _ (by simp) e
  have ok8 : AllOk U rs vs := ⟨fun k p hk => by
      obtain ⟨e1, e2⟩ := hem p (List.mem_of_getElem? hk)
      exact ⟨by rw [e1, e2], by rw [e2]; exact List.nodup_nil, (fun x hx => by rw [e2] at hx; cases hx)⟩, fun k w hk => (vs6 k w hk).2, by omega, hUs⟩
  have S8 := S7.up U8
  have hv0 : vs ≠ [] := fun z => by rw [z] at hvl; simp at hvl; omega
  have hrs0 : rs.length ≤ 100 := by omega
  walk_at "wk"
  refine ⟨s, _, rfl, S8, (by omega), (by omega), (by omega), fun steps g9 e1 e2 G9 => ?_⟩
  have ch9 : Ch69 s g9 RL WL VL I U rs vs := ⟨st8.go S8 G9, ok8, hr0⟩
  have S9 := G9.2
  walk_at "wk"
  refine for1 7 (fun i x7 g' => ∃ (rs2 : List P69) (vs2 : List V69), Ch69 s g' RL WL VL I U rs2 vs2 ∧ rs2.length = rs.length ∧ vs2.length = vs.length ∧ (∀ v ∈ vs2, v.v ≠ s.L0) ∧ Src s g' (10000000 + 500000 * i)) ⟨_, rfl, rs, vs, ch9, rfl, rfl, hvs0, S9.le (by omega)⟩ (fun _ _ _ _ _ => trivial) ?_ ?_
  · rintro i d x7 g10 hd ⟨rs2, vs2, c, hl1, hl2, hv2, S10⟩
    have hi := (ran_get hd).1
    have hvs2 : vs2 ≠ [] := fun z => by rw [z] at hl2; exact hv0 (List.eq_nil_of_length_eq_zero hl2.symm)
    walk_at "wk"
    refine ⟨s, _, U, rs2, vs2, rfl, S10, by omega, c.r0, hv2, c.st, c.ok, hU0, hvs2, by omega, by omega, by omega, by omega, fun rs3 vs3 g11 ok3 h1 h2 hr3 hv3 st3 S11 => ?_⟩
    walk_at "wk"
    refine iteB (fun z => by cases z) (fun _ => ?_)
    walk_at "wk"
    refine ⟨s, VL, I, U, rs3, vs3, st3, ok3.ok, by omega, hUs, by omega, fun g12 U12 => ?_⟩
    walk_at "wk"
    refine iteNB (fun z => by cases z) (fun _ => ?_)
    walk_at "wk"
    exact ⟨_, rfl, rs3, vs3, ⟨st3.up U12, ok3, hr3⟩, h1.trans hl1, h2.trans hl2, hv3, (S11.up U12).le (by omega)⟩
  rintro x7 g10 ⟨rs2, vs2, c, hl1, hl2, hv2, S10⟩
  rw [ran_len] at S10
  walk_at "wk"
  refine ⟨s, _, VL, I, U, rs2, vs2, S10, c, by omega, by omega, by omega, fun rs3 g11 c3 h3 S11 hsub => ?_⟩
  walk_at "wk"
  refine iteB (fun z => by cases z) (fun _ => ?_)
  walk_at "wk"
  refine ⟨s, VL, I, U, rs3, vs2, c3.st, c3.ok.ok, by omega, hUs, by omega, fun g12 U12 => ?_⟩
  walk_at "wk"
  refine iteNB (fun z => by cases z) (fun _ => ?_)
  walk_at "wk"
  refine ⟨s, _, I, U, rs3, vs2, rfl, S11.up U12, by omega, hv2, c3.up U12, by omega, by omega, by omega, by omega, hsub, fun rs4 g13 c4 h4 => ?_⟩
  refine ⟨true, rfl, ?_⟩
  refine iteB (fun _ => ?_) (fun z => by cases z)
  walk_at "wk"
  refine ⟨s, VL, I, U, rs4, vs2, c4.st, c4.ok.ok, by omega, hUs, by omega, fun g14 U14 => ?_⟩
  exact q _

open PySem PySem.Spec PyProof.Rows L2 DL
def topS (i : Nat) : Stmt := PySem.Challenge.pw_criermoot_k69_whole_readers.main.body.getD i (.Pass ⟨0, 0, 0, 0⟩)
def clsB : Stmt → List Stmt
  | .ClassDef (body := b) .. => b
  | _ => []
abbrev s_Lmix : Stmt := topS 3
theorem sc_Lmix : FnScope N_Lmix ["seed", "turn"] (defScope s_Lmix) := ⟨rfl, rfl, rfl, by decide +kernel, rfl, by decide +kernel, by decide +kernel⟩
abbrev s_Lsource : Stmt := topS 4
theorem sc_Lsource : FnScope N_Lsource ["script"] (defScope s_Lsource) := ⟨rfl, rfl, rfl, by decide +kernel, rfl, by decide +kernel, by decide +kernel⟩
abbrev s_Ldraw : Stmt := topS 5
theorem sc_Ldraw : FnScope N_Ldraw ["source", "many"] (defScope s_Ldraw) := ⟨rfl, rfl, rfl, by decide +kernel, rfl, by decide +kernel, by decide +kernel⟩
abbrev s_Lpick : Stmt := topS 6
theorem sc_Lpick : FnScope N_Lpick ["source", "row"] (defScope s_Lpick) := ⟨rfl, rfl, rfl, by decide +kernel, rfl, by decide +kernel, by decide +kernel⟩
abbrev s_Lshuffled : Stmt := topS 7
theorem sc_Lshuffled : FnScope N_Lshuffled ["source", "row"] (defScope s_Lshuffled) := ⟨rfl, rfl, rfl, by decide +kernel, rfl, by decide +kernel, by decide +kernel⟩
abbrev s_Lnew_name : Stmt := topS 8
theorem sc_Lnew_name : FnScope N_Lnew_name ["source", "used"] (defScope s_Lnew_name) := ⟨rfl, rfl, rfl, by decide +kernel, rfl, by decide +kernel, by decide +kernel⟩
abbrev s_Lnames : Stmt := topS 9
theorem sc_Lnames : FnScope N_Lnames ["source", "many"] (defScope s_Lnames) := ⟨rfl, rfl, rfl, by decide +kernel, rfl, by decide +kernel, by decide +kernel⟩
abbrev s_Lis_int : Stmt := topS 10
theorem sc_Lis_int : FnScope N_Lis_int ["value"] (defScope s_Lis_int) := ⟨rfl, rfl, rfl, by decide +kernel, rfl, by decide +kernel, by decide +kernel⟩
abbrev s_Lsame : Stmt := topS 11
theorem sc_Lsame : FnScope N_Lsame ["actual", "due"] (defScope s_Lsame) := ⟨rfl, rfl, rfl, by decide +kernel, rfl, by decide +kernel, by decide +kernel⟩
abbrev s_Reader_init : Stmt := (clsB (topS 1)).getD 0 (.Pass ⟨0, 0, 0, 0⟩)
theorem sc_Reader_init : FnScope N_Reader_init ["self"] (defScope s_Reader_init) := ⟨rfl, rfl, rfl, by decide +kernel, rfl, by decide +kernel, by decide +kernel⟩
abbrev s_Reader_new : Stmt := (clsB (topS 1)).getD 1 (.Pass ⟨0, 0, 0, 0⟩)
theorem sc_Reader_new : FnScope N_Reader_new ["self", "view"] (defScope s_Reader_new) := ⟨rfl, rfl, rfl, by decide +kernel, rfl, by decide +kernel, by decide +kernel⟩
abbrev s_Reader_read : Stmt := (clsB (topS 1)).getD 2 (.Pass ⟨0, 0, 0, 0⟩)
theorem sc_Reader_read : FnScope N_Reader_read ["self", "ident"] (defScope s_Reader_read) := ⟨rfl, rfl, rfl, by decide +kernel, rfl, by decide +kernel, by decide +kernel⟩
abbrev s_Reader_meet : Stmt := (clsB (topS 1)).getD 3 (.Pass ⟨0, 0, 0, 0⟩)
theorem sc_Reader_meet : FnScope N_Reader_meet ["self", "other"] (defScope s_Reader_meet) := ⟨rfl, rfl, rfl, by decide +kernel, rfl, by decide +kernel, by decide +kernel⟩
abbrev s_Reader_ids : Stmt := (clsB (topS 1)).getD 4 (.Pass ⟨0, 0, 0, 0⟩)
theorem sc_Reader_ids : FnScope N_Reader_ids ["self"] (defScope s_Reader_ids) := ⟨rfl, rfl, rfl, by decide +kernel, rfl, by decide +kernel, by decide +kernel⟩
abbrev s_Lidents : Stmt := topS 12
theorem sc_Lidents : FnScope N_Lidents ["source"] (defScope s_Lidents) := ⟨rfl, rfl, rfl, by decide +kernel, rfl, by decide +kernel, by decide +kernel⟩
abbrev s_Lview : Stmt := topS 13
theorem sc_Lview : FnScope N_Lview ["source", "idents"] (defScope s_Lview) := ⟨rfl, rfl, rfl, by decide +kernel, rfl, by decide +kernel, by decide +kernel⟩
abbrev s_Lchange : Stmt := topS 14
theorem sc_Lchange : FnScope N_Lchange ["source", "view", "idents"] (defScope s_Lchange) := ⟨rfl, rfl, rfl, by decide +kernel, rfl, by decide +kernel, by decide +kernel⟩
abbrev s_Lnew_due : Stmt := topS 15
theorem sc_Lnew_due : FnScope N_Lnew_due ["view", "ids"] (defScope s_Lnew_due) := ⟨rfl, rfl, rfl, by decide +kernel, rfl, by decide +kernel, by decide +kernel⟩
abbrev s_Llook : Stmt := topS 16
theorem sc_Llook : FnScope N_Llook ["source", "reader", "ids", "view", "share"] (defScope s_Llook) := ⟨rfl, rfl, rfl, by decide +kernel, rfl, by decide +kernel, by decide +kernel⟩
abbrev s_Ljoin : Stmt := topS 17
theorem sc_Ljoin : FnScope N_Ljoin ["readers", "rows", "one", "two"] (defScope s_Ljoin) := ⟨rfl, rfl, rfl, by decide +kernel, rfl, by decide +kernel, by decide +kernel⟩
abbrev s_Lall_right : Stmt := topS 18
theorem sc_Lall_right : FnScope N_Lall_right ["readers", "rows"] (defScope s_Lall_right) := ⟨rfl, rfl, rfl, by decide +kernel, rfl, by decide +kernel, by decide +kernel⟩
abbrev s_Lstep : Stmt := topS 19
theorem sc_Lstep : FnScope N_Lstep ["source", "readers", "rows", "many", "views", "idents"] (defScope s_Lstep) := ⟨rfl, rfl, rfl, by decide +kernel, rfl, by decide +kernel, by decide +kernel⟩
abbrev s_Lchain : Stmt := topS 20
theorem sc_Lchain : FnScope N_Lchain ["readers", "rows", "many"] (defScope s_Lchain) := ⟨rfl, rfl, rfl, by decide +kernel, rfl, by decide +kernel, by decide +kernel⟩
abbrev s_Ltour : Stmt := topS 21
theorem sc_Ltour : FnScope N_Ltour ["source", "readers", "rows", "many", "views"] (defScope s_Ltour) := ⟨rfl, rfl, rfl, by decide +kernel, rfl, by decide +kernel, by decide +kernel⟩
abbrev s_law : Stmt := topS 22
theorem sc_law : FnScope N_law ["script"] (defScope s_law) := ⟨rfl, rfl, rfl, by decide +kernel, rfl, by decide +kernel, by decide +kernel⟩
structure Fx (K : PySem.W.Frag) (mg : Str → Option Value) where
  c_Reader : Cls K (clsA K "Reader")
  g_Reader : mg "Reader" = some (.ref (clsA K "Reader"))
  n_Reader_read_ids : NoAttr K (clsA K "Reader") "read_ids"
  a_Lmix : Addr
  d_Lmix : FuncData
  F_Lmix : Fun K "_law_mix" "_law_mix" s_Lmix a_Lmix d_Lmix
  g_Lmix : mg "_law_mix" = some (.ref a_Lmix)
  b_Lmix : Binds K d_Lmix ["seed", "turn"] []
  a_Lsource : Addr
  d_Lsource : FuncData
  F_Lsource : Fun K "_law_source" "_law_source" s_Lsource a_Lsource d_Lsource
  g_Lsource : mg "_law_source" = some (.ref a_Lsource)
  b_Lsource : Binds K d_Lsource ["script"] []
  a_Ldraw : Addr
  d_Ldraw : FuncData
  F_Ldraw : Fun K "_law_draw" "_law_draw" s_Ldraw a_Ldraw d_Ldraw
  g_Ldraw : mg "_law_draw" = some (.ref a_Ldraw)
  b_Ldraw : Binds K d_Ldraw ["source", "many"] []
  a_Lpick : Addr
  d_Lpick : FuncData
  F_Lpick : Fun K "_law_pick" "_law_pick" s_Lpick a_Lpick d_Lpick
  g_Lpick : mg "_law_pick" = some (.ref a_Lpick)
  b_Lpick : Binds K d_Lpick ["source", "row"] []
  a_Lshuffled : Addr
  d_Lshuffled : FuncData
  F_Lshuffled : Fun K "_law_shuffled" "_law_shuffled" s_Lshuffled a_Lshuffled d_Lshuffled
  g_Lshuffled : mg "_law_shuffled" = some (.ref a_Lshuffled)
  b_Lshuffled : Binds K d_Lshuffled ["source", "row"] []
  a_Lnew_name : Addr
  d_Lnew_name : FuncData
  F_Lnew_name : Fun K "_law_new_name" "_law_new_name" s_Lnew_name a_Lnew_name d_Lnew_name
  g_Lnew_name : mg "_law_new_name" = some (.ref a_Lnew_name)
  b_Lnew_name : Binds K d_Lnew_name ["source", "used"] []
  a_Lnames : Addr
  d_Lnames : FuncData
  F_Lnames : Fun K "_law_names" "_law_names" s_Lnames a_Lnames d_Lnames
  g_Lnames : mg "_law_names" = some (.ref a_Lnames)
  b_Lnames : Binds K d_Lnames ["source", "many"] []
  a_Lis_int : Addr
  d_Lis_int : FuncData
  F_Lis_int : Fun K "_law_is_int" "_law_is_int" s_Lis_int a_Lis_int d_Lis_int
  g_Lis_int : mg "_law_is_int" = some (.ref a_Lis_int)
  b_Lis_int : Binds K d_Lis_int ["value"] []
  a_Lsame : Addr
  d_Lsame : FuncData
  F_Lsame : Fun K "_law_same" "_law_same" s_Lsame a_Lsame d_Lsame
  g_Lsame : mg "_law_same" = some (.ref a_Lsame)
  b_Lsame : Binds K d_Lsame ["actual", "due"] []
  a_Reader_init : Addr
  d_Reader_init : FuncData
  F_Reader_init : Fun K "__init__" "Reader.__init__" s_Reader_init a_Reader_init d_Reader_init
  b_Reader_init : Binds K d_Reader_init ["self"] []
  MK_Reader : Mk K (clsA K "Reader") a_Reader_init
  a_Reader_new : Addr
  d_Reader_new : FuncData
  F_Reader_new : Fun K "new" "Reader.new" s_Reader_new a_Reader_new d_Reader_new
  b_Reader_new : Binds K d_Reader_new ["self", "view"] []
  M_Reader_new : Meth K (clsA K "Reader") "new" a_Reader_new
  a_Reader_read : Addr
  d_Reader_read : FuncData
  F_Reader_read : Fun K "read" "Reader.read" s_Reader_read a_Reader_read d_Reader_read
  b_Reader_read : Binds K d_Reader_read ["self", "ident"] []
  M_Reader_read : Meth K (clsA K "Reader") "read" a_Reader_read
  a_Reader_meet : Addr
  d_Reader_meet : FuncData
  F_Reader_meet : Fun K "meet" "Reader.meet" s_Reader_meet a_Reader_meet d_Reader_meet
  b_Reader_meet : Binds K d_Reader_meet ["self", "other"] []
  M_Reader_meet : Meth K (clsA K "Reader") "meet" a_Reader_meet
  a_Reader_ids : Addr
  d_Reader_ids : FuncData
  F_Reader_ids : Fun K "ids" "Reader.ids" s_Reader_ids a_Reader_ids d_Reader_ids
  b_Reader_ids : Binds K d_Reader_ids ["self"] []
  M_Reader_ids : Meth K (clsA K "Reader") "ids" a_Reader_ids
  a_Lidents : Addr
  d_Lidents : FuncData
  F_Lidents : Fun K "_law_idents" "_law_idents" s_Lidents a_Lidents d_Lidents
  g_Lidents : mg "_law_idents" = some (.ref a_Lidents)
  b_Lidents : Binds K d_Lidents ["source"] []
  a_Lview : Addr
  d_Lview : FuncData
  F_Lview : Fun K "_law_view" "_law_view" s_Lview a_Lview d_Lview
  g_Lview : mg "_law_view" = some (.ref a_Lview)
  b_Lview : Binds K d_Lview ["source", "idents"] []
  a_Lchange : Addr
  d_Lchange : FuncData
  F_Lchange : Fun K "_law_change" "_law_change" s_Lchange a_Lchange d_Lchange
  g_Lchange : mg "_law_change" = some (.ref a_Lchange)
  b_Lchange : Binds K d_Lchange ["source", "view", "idents"] []
  a_Lnew_due : Addr
  d_Lnew_due : FuncData
  F_Lnew_due : Fun K "_law_new_due" "_law_new_due" s_Lnew_due a_Lnew_due d_Lnew_due
  g_Lnew_due : mg "_law_new_due" = some (.ref a_Lnew_due)
  b_Lnew_due : Binds K d_Lnew_due ["view", "ids"] []
  a_Llook : Addr
  d_Llook : FuncData
  F_Llook : Fun K "_law_look" "_law_look" s_Llook a_Llook d_Llook
  g_Llook : mg "_law_look" = some (.ref a_Llook)
  b_Llook : Binds K d_Llook ["source", "reader", "ids", "view", "share"] []
  a_Ljoin : Addr
  d_Ljoin : FuncData
  F_Ljoin : Fun K "_law_join" "_law_join" s_Ljoin a_Ljoin d_Ljoin
  g_Ljoin : mg "_law_join" = some (.ref a_Ljoin)
  b_Ljoin : Binds K d_Ljoin ["readers", "rows", "one", "two"] []
  a_Lall_right : Addr
  d_Lall_right : FuncData
  F_Lall_right : Fun K "_law_all_right" "_law_all_right" s_Lall_right a_Lall_right d_Lall_right
  g_Lall_right : mg "_law_all_right" = some (.ref a_Lall_right)
  b_Lall_right : Binds K d_Lall_right ["readers", "rows"] []
  a_Lstep : Addr
  d_Lstep : FuncData
  F_Lstep : Fun K "_law_step" "_law_step" s_Lstep a_Lstep d_Lstep
  g_Lstep : mg "_law_step" = some (.ref a_Lstep)
  b_Lstep : Binds K d_Lstep ["source", "readers", "rows", "many", "views", "idents"] []
  a_Lchain : Addr
  d_Lchain : FuncData
  F_Lchain : Fun K "_law_chain" "_law_chain" s_Lchain a_Lchain d_Lchain
  g_Lchain : mg "_law_chain" = some (.ref a_Lchain)
  b_Lchain : Binds K d_Lchain ["readers", "rows", "many"] []
  a_Ltour : Addr
  d_Ltour : FuncData
  F_Ltour : Fun K "_law_tour" "_law_tour" s_Ltour a_Ltour d_Ltour
  g_Ltour : mg "_law_tour" = some (.ref a_Ltour)
  b_Ltour : Binds K d_Ltour ["source", "readers", "rows", "many", "views"] []
  a_law : Addr
  d_law : FuncData
  F_law : Fun K "law" "law" s_law a_law d_law
  g_law : mg "law" = some (.ref a_law)
  b_law : Binds K d_law ["script"] []
  m_abs : mg "abs" = none
  m_bool : mg "bool" = none
  m_int : mg "int" = none
  m_isinstance : mg "isinstance" = none
  m_len : mg "len" = none
  m_list : mg "list" = none
  m_max : mg "max" = none
  m_range : mg "range" = none
  m_sorted : mg "sorted" = none
  m_str : mg "str" = none
  m_tuple : mg "tuple" = none
section
variable {P : Program} {w : World} {K : PySem.W.Frag} {mg : Str → Option Value} {base : Heap}
theorem ok_Lmix (T : Fx K mg) : FnOk P w K mg base CX0 1 T.a_Lmix T.d_Lmix ["seed", "turn"] (lSp K sp_Lmix) :=
  okD T.F_Lmix sc_Lmix len_Lmix rd_Lmix fun cdv A outer s H E hr =>
    (dss_cons (ds_set (i := 2) (fun _ h => ps_set sc_Lmix.nd rfl (by first | exact .inl rfl | exact .inr rfl) h) (de_op op_modD (de_callTy call_intF (by rfl) T.m_int (by decide +kernel) (da_cons (de_op op_addD (de_op op_addD (de_op op_mulD (de_var (pv 0)) de_int) (de_op op_mulD (de_var (pv 1)) de_int)) de_int) da_nil)) de_int))
    (dss_cons (ds_set (i := 2) (fun _ h => ps_set sc_Lmix.nd rfl (by first | exact .inl rfl | exact .inr rfl) h) (de_op op_modD (de_callTy call_intF (by rfl) T.m_int (by decide +kernel) (da_cons (de_op op_addD (de_op op_addD (de_op op_mulD (de_var (pv 2)) (de_var (pv 2))) (de_op op_mulD (de_var (pv 1)) de_int)) de_int) da_nil)) de_int))
    (dss_cons (ds_set (i := 2) (fun _ h => ps_set sc_Lmix.nd rfl (by first | exact .inl rfl | exact .inr rfl) h) (de_op op_modD (de_callTy call_intF (by rfl) T.m_int (by decide +kernel) (da_cons (de_op op_addD (de_op op_addD (de_op op_mulD (de_var (pv 2)) de_int) (de_op op_mulD (de_op op_mulD (de_var (pv 1)) (de_var (pv 1))) de_int)) de_int) da_nil)) de_int))
    (dss_one (ds_ret (de_var (pv 2)))))))
theorem ok_Lsource (T : Fx K mg) : FnOk P w K mg base CX0 2 T.a_Lsource T.d_Lsource ["script"] (lSp K sp_Lsource) :=
  okD T.F_Lsource sc_Lsource len_Lsource rd_Lsource fun cdv A outer s H E hr =>
    (dss_cons (ds_set (i := 1) (fun _ h => ps_set sc_Lsource.nd rfl (by first | exact .inl rfl | exact .inr rfl) h) de_int)
    (dss_cons (ds_for PassesOwn.never rfl (di_range1 (by rfl) T.m_range (de_callB call_lenD (by rfl) T.m_len (by decide +kernel) (da_cons (de_var (pv 0)) da_nil))) (dg_name (pg_name (i := 2) sc_Lsource.nd rfl (by first | exact .inl rfl | exact .inr rfl))) (dss_one (ds_set (i := 1) (fun _ h => ps_set sc_Lsource.nd rfl (by first | exact .inl rfl | exact .inr rfl) h) (de_call ((ok_Lmix T).mono (by decide)) hr (by rfl) T.g_Lmix T.F_Lmix.kp T.b_Lmix .nil (fun _ => .nil) (da_cons (de_op op_addD (de_var (pv 1)) (de_op op_modD (de_callTy call_intF (by rfl) T.m_int (by decide +kernel) (da_cons (de_ix (de_var (pv 0)) (de_var (pv 2)) (fun _ _ => rfl)) da_nil)) de_int)) (da_cons (de_var (pv 2)) da_nil))))))
    (dss_one (ds_ret (de_lst (da_cons (de_callTy call_lstF (by rfl) T.m_list (by decide +kernel) (da_cons (de_var (pv 0)) da_nil)) (da_cons de_int (da_cons de_int (da_cons (de_var (pv 1)) (da_cons de_int da_nil))))))))))
theorem ok_Ldraw (T : Fx K mg) : FnOk P w K mg base CX0 2 T.a_Ldraw T.d_Ldraw ["source", "many"] (lSp K sp_Ldraw) :=
  okD T.F_Ldraw sc_Ldraw len_Ldraw rd_Ldraw fun cdv A outer s H E hr =>
    (dss_cons (ds_if (DW.dt (dw_and (dt_cmp (op_eqDD hr.units) (de_ix (de_var (pv 0)) de_int (fun _ _ => rfl)) de_int (nomark _)) (dw_and (dt_cmp (op_ltD hr.units) (de_ix (de_var (pv 0)) de_int (fun _ _ => rfl)) (de_callB call_lenD (by rfl) T.m_len (by decide +kernel) (da_cons (de_ix (de_var (pv 0)) de_int (fun _ _ => rfl)) da_nil)) (nomark _)) (dw_and1 (dt_cmp (op_eqDD hr.units) (de_op op_modD (de_callTy call_intF (by rfl) T.m_int (by decide +kernel) (da_cons (de_ix (de_var (pv 0)) de_int (fun _ _ => rfl)) da_nil)) de_int) de_int (nomark _)))))) (dss_cons (ds_set (i := 2) (fun _ h => ps_set sc_Ldraw.nd rfl (by first | exact .inl rfl | exact .inr rfl) h) (de_ix (de_ix (de_var (pv 0)) de_int (fun _ _ => rfl)) (de_ix (de_var (pv 0)) de_int (fun _ _ => rfl)) (fun _ _ => rfl)))
    (dss_cons (ds_asg (de_op op_addD (de_ix (de_var (pv 0)) de_int (fun _ _ => rfl)) de_int) (dg_sub (de_var (pv 0)) de_int))
    (dss_one (ds_if (dt_cmp (op_geD hr.units) (de_callB call_absD (by rfl) T.m_abs (by decide +kernel) (da_cons (de_var (pv 2)) da_nil)) (de_op op_powD de_int de_int) (nomark _)) (dss_one (ds_asg (de_op op_andD (de_callB call_absD (by rfl) T.m_abs (by decide +kernel) (da_cons (de_var (pv 2)) da_nil)) (de_op op_subD (de_op op_shlD de_int de_int) de_int)) (dg_sub (de_var (pv 0)) de_int))) (dss_one (ds_asg (de_call ((ok_Lmix T).mono (by decide)) hr (by rfl) T.g_Lmix T.F_Lmix.kp T.b_Lmix .nil (fun _ => .nil) (da_cons (de_op op_addD (de_ix (de_var (pv 0)) de_int (fun _ _ => rfl)) (de_op op_modD (de_callTy call_intF (by rfl) T.m_int (by decide +kernel) (da_cons (de_var (pv 2)) da_nil)) de_int)) (da_cons (de_ix (de_var (pv 0)) de_int (fun _ _ => rfl)) da_nil))) (dg_sub (de_var (pv 0)) de_int))))))) dss_nil)
    (dss_cons (ds_if (dt_cmp (op_gtD hr.units) (de_ix (de_var (pv 0)) de_int (fun _ _ => rfl)) de_int (nomark _)) (dss_cons (ds_set (i := 3) (fun _ h => ps_set sc_Ldraw.nd rfl (by first | exact .inl rfl | exact .inr rfl) h) (de_op op_modD (de_callTy call_intF (by rfl) T.m_int (by decide +kernel) (da_cons (de_ix (de_var (pv 0)) de_int (fun _ _ => rfl)) da_nil)) (de_var (pv 1))))
    (dss_cons (ds_asg (de_op op_fdivD (de_callTy call_intF (by rfl) T.m_int (by decide +kernel) (da_cons (de_ix (de_var (pv 0)) de_int (fun _ _ => rfl)) da_nil)) (de_var (pv 1))) (dg_sub (de_var (pv 0)) de_int))
    (dss_one (ds_ret (de_var (pv 3)))))) dss_nil)
    (dss_cons (ds_asg (de_op op_addD (de_ix (de_var (pv 0)) de_int (fun _ _ => rfl)) de_int) (dg_sub (de_var (pv 0)) de_int))
    (dss_one (ds_ret (de_op op_modD (de_callTy call_intF (by rfl) T.m_int (by decide +kernel) (da_cons (de_op op_fdivD (de_call ((ok_Lmix T).mono (by decide)) hr (by rfl) T.g_Lmix T.F_Lmix.kp T.b_Lmix .nil (fun _ => .nil) (da_cons (de_ix (de_var (pv 0)) de_int (fun _ _ => rfl)) (da_cons (de_ix (de_var (pv 0)) de_int (fun _ _ => rfl)) da_nil))) de_int) da_nil)) (de_var (pv 1))))))))
theorem ok_Lpick (T : Fx K mg) : FnOk P w K mg base CX0 3 T.a_Lpick T.d_Lpick ["source", "row"] (lSp K sp_Lpick) :=
  okD T.F_Lpick sc_Lpick len_Lpick rd_Lpick fun cdv A outer s H E hr =>
    (dss_one (ds_ret (de_ix (de_var (pv 1)) (de_call ((ok_Ldraw T).mono (by decide)) hr (by rfl) T.g_Ldraw T.F_Ldraw.kp T.b_Ldraw .nil (fun _ => .nil) (da_cons (de_var (pv 0)) (da_cons (de_callB call_lenD (by rfl) T.m_len (by decide +kernel) (da_cons (de_var (pv 1)) da_nil)) da_nil))) (fun _ _ => rfl))))
theorem ok_Lshuffled (T : Fx K mg) : FnOk P w K mg base CX0 3 T.a_Lshuffled T.d_Lshuffled ["source", "row"] (lSp K sp_Lshuffled) :=
  okD T.F_Lshuffled sc_Lshuffled len_Lshuffled rd_Lshuffled fun cdv A outer s H E hr =>
    (dss_cons (ds_set (i := 2) (fun _ h => ps_set sc_Lshuffled.nd rfl (by first | exact .inl rfl | exact .inr rfl) h) (de_callTy call_lstF (by rfl) T.m_list (by decide +kernel) (da_cons (de_var (pv 1)) da_nil)))
    (dss_cons (ds_set (i := 3) (fun _ h => ps_set sc_Lshuffled.nd rfl (by first | exact .inl rfl | exact .inr rfl) h) (de_lst da_nil))
    (dss_cons (ds_for PassesOwn.never rfl (di_range1 (by rfl) T.m_range (de_callB call_lenD (by rfl) T.m_len (by decide +kernel) (da_cons (de_var (pv 1)) da_nil))) (dg_name (pg_name (i := 4) sc_Lshuffled.nd rfl (by first | exact .inl rfl | exact .inr rfl))) (dss_one (ds_expr (de_bm PySem.F.plainAttrs_list PySem.F.slot_list_append PySem.F.type_list_append mt_appD (de_var (pv 3)) (da_cons (de_bm PySem.F.plainAttrs_list PySem.F.slot_list_pop PySem.F.type_list_pop mt_popD (de_var (pv 2)) (da_cons (de_call ((ok_Ldraw T).mono (by decide)) hr (by rfl) T.g_Ldraw T.F_Ldraw.kp T.b_Ldraw .nil (fun _ => .nil) (da_cons (de_var (pv 0)) (da_cons (de_callB call_lenD (by rfl) T.m_len (by decide +kernel) (da_cons (de_var (pv 2)) da_nil)) da_nil))) da_nil)) da_nil)))))
    (dss_one (ds_ret (de_var (pv 3)))))))
theorem ok_Lnew_name (T : Fx K mg) : FnOk P w K mg base CX0 3 T.a_Lnew_name T.d_Lnew_name ["source", "used"] (lSp K sp_Lnew_name) :=
  okD T.F_Lnew_name sc_Lnew_name len_Lnew_name rd_Lnew_name fun cdv A outer s H E hr =>
    (dss_cons (ds_set (i := 2) (fun _ h => ps_set sc_Lnew_name.nd rfl (by first | exact .inl rfl | exact .inr rfl) h) de_str)
    (dss_cons (ds_set (i := 3) (fun _ h => ps_set sc_Lnew_name.nd rfl (by first | exact .inl rfl | exact .inr rfl) h) (de_op op_addD de_int (de_call ((ok_Ldraw T).mono (by decide)) hr (by rfl) T.g_Ldraw T.F_Ldraw.kp T.b_Ldraw .nil (fun _ => .nil) (da_cons (de_var (pv 0)) (da_cons de_int da_nil)))))
    (dss_cons (ds_set (i := 4) (fun _ h => ps_set sc_Lnew_name.nd rfl (by first | exact .inl rfl | exact .inr rfl) h) (de_ix (de_var (pv 2)) (de_call ((ok_Ldraw T).mono (by decide)) hr (by rfl) T.g_Ldraw T.F_Ldraw.kp T.b_Ldraw .nil (fun _ => .nil) (da_cons (de_var (pv 0)) (da_cons de_int da_nil))) (fun _ _ => rfl)))
    (dss_cons (ds_for PassesOwn.never rfl (di_range1 (by rfl) T.m_range (de_op op_subD (de_var (pv 3)) de_int)) (dg_name (pg_name (i := 5) sc_Lnew_name.nd rfl (by first | exact .inl rfl | exact .inr rfl))) (dss_one (ds_set (i := 4) (fun _ h => ps_set sc_Lnew_name.nd rfl (by first | exact .inl rfl | exact .inr rfl) h) (de_op op_addD (de_var (pv 4)) (de_ix (de_op op_addD (de_var (pv 2)) de_str) (de_call ((ok_Ldraw T).mono (by decide)) hr (by rfl) T.g_Ldraw T.F_Ldraw.kp T.b_Ldraw .nil (fun _ => .nil) (da_cons (de_var (pv 0)) (da_cons de_int da_nil))) (fun _ _ => rfl))))))
    (dss_cons (ds_for PassesOwn.never rfl (di_range1 (by rfl) T.m_range (de_op op_addD (de_callB call_lenD (by rfl) T.m_len (by decide +kernel) (da_cons (de_var (pv 1)) da_nil)) de_int)) (dg_name (pg_name (i := 5) sc_Lnew_name.nd rfl (by first | exact .inl rfl | exact .inr rfl))) (dss_cons (ds_set (i := 6) (fun _ h => ps_set sc_Lnew_name.nd rfl (by first | exact .inl rfl | exact .inr rfl) h) (de_op op_addD (de_var (pv 4)) (de_ix (de_lst (da_cons de_str (da_cons (de_callTy call_strF (by rfl) T.m_str (by decide +kernel) (da_cons (de_var (pv 5)) da_nil)) da_nil))) (de_callTy call_intF (by rfl) T.m_int (by decide +kernel) (da_cons (de_cmp (op_gtD hr.units) (de_var (pv 5)) de_int (nomark _)) da_nil)) (fun _ _ => rfl))))
    (dss_one (ds_if (dt_cmp (op_notInDD (u65 hr)) (de_var (pv 6)) (de_var (pv 1)) (by rfl)) (dss_one (ds_ret (de_var (pv 6)))) dss_nil))))
    (dss_one (ds_ret (de_var (pv 4)))))))))
theorem ok_Lnames (T : Fx K mg) : FnOk P w K mg base CX0 4 T.a_Lnames T.d_Lnames ["source", "many"] (lSp K sp_Lnames) :=
  okD T.F_Lnames sc_Lnames len_Lnames rd_Lnames fun cdv A outer s H E hr =>
    (dss_cons (ds_set (i := 2) (fun _ h => ps_set sc_Lnames.nd rfl (by first | exact .inl rfl | exact .inr rfl) h) (de_lst da_nil))
    (dss_cons (ds_for PassesOwn.never rfl (di_range1 (by rfl) T.m_range (de_var (pv 1))) (dg_name (pg_name (i := 3) sc_Lnames.nd rfl (by first | exact .inl rfl | exact .inr rfl))) (dss_one (ds_expr (de_bm PySem.F.plainAttrs_list PySem.F.slot_list_append PySem.F.type_list_append mt_appD (de_var (pv 2)) (da_cons (de_call ((ok_Lnew_name T).mono (by decide)) hr (by rfl) T.g_Lnew_name T.F_Lnew_name.kp T.b_Lnew_name .nil (fun _ => .nil) (da_cons (de_var (pv 0)) (da_cons (de_var (pv 2)) da_nil))) da_nil)))))
    (dss_one (ds_ret (de_var (pv 2))))))
theorem ok_Lis_int (T : Fx K mg) : FnOk P w K mg base CX0 1 T.a_Lis_int T.d_Lis_int ["value"] (lSp K sp_Lis_int) :=
  okD T.F_Lis_int sc_Lis_int len_Lis_int rd_Lis_int fun cdv A outer s H E hr =>
    (dss_one (ds_ret (de_and (de_isi (T := "int") (by rfl) T.m_isinstance (de_var (pv 0)) (by rfl) T.m_int (by decide +kernel)) (de_one (de_not (de_isi (T := "bool") (by rfl) T.m_isinstance (de_var (pv 0)) (by rfl) T.m_bool (by decide +kernel)))))))
theorem st_Lsame (T : Fx K mg) {k : Nat} {sp sp2 : DSp} (G_Lsame : FnOk P w K mg base CX0 k T.a_Lsame T.d_Lsame ["actual", "due"] (lSp K sp)) (hl : ∀ ds g Q, sp2 ds g Q → ds.length = 2) (hrd : ∀ ds g Q, sp2 ds g Q → w_Lsame sp { nx := fun _ g => Q .non g, rt := Q } (dstart N_Lsame ds) g) (hk : 1 ≤ k) : FnOk P w K mg base CX0 (k + 1) T.a_Lsame T.d_Lsame ["actual", "due"] (lSp K sp2) :=
  okD T.F_Lsame sc_Lsame hl hrd fun cdv A outer s H E hr =>
    (dss_cons (ds_if (dt_tru (de_isi (T := "tuple") (by rfl) T.m_isinstance (de_var (pv 1)) (by rfl) T.m_tuple (by decide +kernel))) (dss_cons (ds_if (DW.dt (dw_or (dt_not (dt_tru (de_isi (T := "tuple") (by rfl) T.m_isinstance (de_var (pv 0)) (by rfl) T.m_tuple (by decide +kernel)))) (dw_or1 (dt_cmp (op_neDD hr.units) (de_callB call_lenD (by rfl) T.m_len (by decide +kernel) (da_cons (de_var (pv 0)) da_nil)) (de_callB call_lenD (by rfl) T.m_len (by decide +kernel) (da_cons (de_var (pv 1)) da_nil)) (nomark _))))) (dss_one (ds_ret de_bl)) dss_nil)
    (dss_cons (ds_for PassesOwn.never rfl (di_range1 (by rfl) T.m_range (de_callB call_lenD (by rfl) T.m_len (by decide +kernel) (da_cons (de_var (pv 1)) da_nil))) (dg_name (pg_name (i := 2) sc_Lsame.nd rfl (by first | exact .inl rfl | exact .inr rfl))) (dss_one (ds_if (dt_not (dt_tru (de_call G_Lsame hr (by rfl) T.g_Lsame T.F_Lsame.kp T.b_Lsame .nil (fun _ => .nil) (da_cons (de_ix (de_var (pv 0)) (de_var (pv 2)) (fun _ _ => rfl)) (da_cons (de_ix (de_var (pv 1)) (de_var (pv 2)) (fun _ _ => rfl)) da_nil))))) (dss_one (ds_ret de_bl)) dss_nil)))
    (dss_one (ds_ret de_bl)))) dss_nil)
    (dss_cons (ds_if (dt_cmp op_isND (de_var (pv 1)) de_non (nomark _)) (dss_one (ds_ret (de_cmp op_isND (de_var (pv 0)) de_non (nomark _)))) dss_nil)
    (dss_cons (ds_if (dt_tru (de_isi (T := "bool") (by rfl) T.m_isinstance (de_var (pv 1)) (by rfl) T.m_bool (by decide +kernel))) (dss_one (ds_ret (de_and (de_isi (T := "bool") (by rfl) T.m_isinstance (de_var (pv 0)) (by rfl) T.m_bool (by decide +kernel)) (de_one (de_cmp (op_eqDD hr.units) (de_var (pv 0)) (de_var (pv 1)) (nomark _)))))) dss_nil)
    (dss_cons (ds_if (dt_tru (de_isi (T := "int") (by rfl) T.m_isinstance (de_var (pv 1)) (by rfl) T.m_int (by decide +kernel))) (dss_one (ds_ret (de_and (de_call ((ok_Lis_int T).mono (Nat.le_trans (by decide) hk)) hr (by rfl) T.g_Lis_int T.F_Lis_int.kp T.b_Lis_int .nil (fun _ => .nil) (da_cons (de_var (pv 0)) da_nil)) (de_one (de_cmp (op_eqDD hr.units) (de_var (pv 0)) (de_var (pv 1)) (nomark _)))))) dss_nil)
    (dss_one (ds_ret (de_and (de_isi (T := "str") (by rfl) T.m_isinstance (de_var (pv 0)) (by rfl) T.m_str (by decide +kernel)) (de_one (de_cmp (op_eqDD hr.units) (de_var (pv 0)) (de_var (pv 1)) (nomark _))))))))))
theorem fl_Lsame (T : Fx K mg) : ∀ n, FnOk P w K mg base CX0 (n + 1) T.a_Lsame T.d_Lsame ["actual", "due"] (lSp K (sp_same n))
  | 0 => ⟨fun vs H Q E h => (by obtain ⟨_, _, _, _, _, z, _⟩ := h; exact z.elim), fun A outer s H args us vs Q E _ _ _ _ h => (by obtain ⟨_, _, _, _, _, z, _⟩ := h; exact z.elim)⟩
  | n + 1 => st_Lsame T (fl_Lsame T n) (len_same _) (rd_same n) (by omega)
theorem ok_Lsame (T : Fx K mg) : FnOk P w K mg base CX0 14 T.a_Lsame T.d_Lsame ["actual", "due"] (lSp K sp_Lsame) := fl_Lsame T 13
theorem ok_Reader_init (T : Fx K mg) : FnOk P w K mg base CX0 1 T.a_Reader_init T.d_Reader_init ["self"] (lSp K sp_Reader_init) :=
  okD T.F_Reader_init sc_Reader_init len_Reader_init rd_Reader_init fun cdv A outer s H E hr =>
    (dss_one (ds_fld T.c_Reader T.n_Reader_read_ids (de_var (pv 0)) de_tnew))
theorem ok_Reader_new (T : Fx K mg) : FnOk P w K mg base CX0 1 T.a_Reader_new T.d_Reader_new ["self", "view"] (lSp K sp_Reader_new) :=
  okD T.F_Reader_new sc_Reader_new len_Reader_new rd_Reader_new fun cdv A outer s H E hr =>
    (dss_one (ds_ret (de_callTy call_tupF (by rfl) T.m_tuple (by decide +kernel) (da_cons (de_lc (x := "pair") (j := 2) rfl sc_Reader_new.nd (di_any (de_var (pv 1))) (blkOk_by (own := [("pair", 2)]) (N := N_Reader_new) (sc := defScope s_Reader_new) (by decide +kernel)) (fun _ _ _ _ _ => pg_name (i := 2) sc_Reader_new.nd rfl (by first | exact .inl rfl | exact .inr rfl)) (fun _ _ _ _ _ => (dts_one (dt_tnotin (hu_of hr) (de_ix (de_var (pv 2)) de_int (fun _ _ => rfl)) (de_fld T.c_Reader T.n_Reader_read_ids (de_var (pv 0))) (by rfl)))) (fun _ _ _ _ _ => (de_var (pv 2)))) da_nil))))
theorem ok_Reader_read (T : Fx K mg) : FnOk P w K mg base CX0 1 T.a_Reader_read T.d_Reader_read ["self", "ident"] (lSp K sp_Reader_read) :=
  okD T.F_Reader_read sc_Reader_read len_Reader_read rd_Reader_read fun cdv A outer s H E hr =>
    (dss_one (ds_tput (hu_of hr) (de_fld T.c_Reader T.n_Reader_read_ids (de_var (pv 0))) (de_var (pv 1)) de_bl))
theorem ok_Reader_meet (T : Fx K mg) : FnOk P w K mg base CX0 1 T.a_Reader_meet T.d_Reader_meet ["self", "other"] (lSp K sp_Reader_meet) :=
  okD T.F_Reader_meet sc_Reader_meet len_Reader_meet rd_Reader_meet fun cdv A outer s H E hr =>
    (dss_cons (ds_for PassesOwn.never rfl (di_any (de_callTy (DL.call_lstKD rfl) (by rfl) T.m_list (by decide +kernel) (da_cons (de_fld T.c_Reader T.n_Reader_read_ids (de_var (pv 1))) da_nil))) (dg_name (pg_name (i := 2) sc_Reader_meet.nd rfl (by first | exact .inl rfl | exact .inr rfl))) (dss_one (ds_tput (hu_of hr) (de_fld T.c_Reader T.n_Reader_read_ids (de_var (pv 0))) (de_var (pv 2)) de_bl)))
    (dss_one (ds_for PassesOwn.never rfl (di_any (de_callTy (DL.call_lstKD rfl) (by rfl) T.m_list (by decide +kernel) (da_cons (de_fld T.c_Reader T.n_Reader_read_ids (de_var (pv 0))) da_nil))) (dg_name (pg_name (i := 2) sc_Reader_meet.nd rfl (by first | exact .inl rfl | exact .inr rfl))) (dss_one (ds_tput (hu_of hr) (de_fld T.c_Reader T.n_Reader_read_ids (de_var (pv 1))) (de_var (pv 2)) de_bl)))))
theorem ok_Reader_ids (T : Fx K mg) : FnOk P w K mg base CX0 1 T.a_Reader_ids T.d_Reader_ids ["self"] (lSp K sp_Reader_ids) :=
  okD T.F_Reader_ids sc_Reader_ids len_Reader_ids rd_Reader_ids fun cdv A outer s H E hr =>
    (dss_one (ds_ret (de_callTy call_tupF (by rfl) T.m_tuple (by decide +kernel) (da_cons (de_callB (DL.call_sortedTD rfl (u65 hr)) (by rfl) T.m_sorted (by decide +kernel) (da_cons (de_fld T.c_Reader T.n_Reader_read_ids (de_var (pv 0))) da_nil)) da_nil))))
theorem ok_Lidents (T : Fx K mg) : FnOk P w K mg base CX0 5 T.a_Lidents T.d_Lidents ["source"] (lSp K sp_Lidents) :=
  okD T.F_Lidents sc_Lidents len_Lidents rd_Lidents fun cdv A outer s H E hr =>
    (dss_cons (ds_set (i := 1) (fun _ h => ps_set sc_Lidents.nd rfl (by first | exact .inl rfl | exact .inr rfl) h) (de_call ((ok_Lnames T).mono (by decide)) hr (by rfl) T.g_Lnames T.F_Lnames.kp T.b_Lnames .nil (fun _ => .nil) (da_cons (de_var (pv 0)) (da_cons de_int da_nil))))
    (dss_cons (ds_set (i := 2) (fun _ h => ps_set sc_Lidents.nd rfl (by first | exact .inl rfl | exact .inr rfl) h) (de_lst da_nil))
    (dss_cons (ds_for PassesOwn.never rfl (di_range1 (by rfl) T.m_range (de_op op_addD de_int (de_call ((ok_Ldraw T).mono (by decide)) hr (by rfl) T.g_Ldraw T.F_Ldraw.kp T.b_Ldraw .nil (fun _ => .nil) (da_cons (de_var (pv 0)) (da_cons de_int da_nil))))) (dg_name (pg_name (i := 3) sc_Lidents.nd rfl (by first | exact .inl rfl | exact .inr rfl))) (dss_cons (ds_set (i := 4) (fun _ h => ps_set sc_Lidents.nd rfl (by first | exact .inl rfl | exact .inr rfl) h) (de_ix (de_lst (da_cons (de_op op_addD (de_var (pv 3)) de_int) (da_cons de_int (da_cons de_int (da_cons (de_op op_addD de_int (de_var (pv 3))) (da_cons (de_op op_addD de_int (de_call ((ok_Ldraw T).mono (by decide)) hr (by rfl) T.g_Ldraw T.F_Ldraw.kp T.b_Ldraw .nil (fun _ => .nil) (da_cons (de_var (pv 0)) (da_cons de_int da_nil)))) da_nil)))))) (de_call ((ok_Ldraw T).mono (by decide)) hr (by rfl) T.g_Ldraw T.F_Ldraw.kp T.b_Ldraw .nil (fun _ => .nil) (da_cons (de_var (pv 0)) (da_cons de_int da_nil))) (fun _ _ => rfl)))
    (dss_cons (ds_set (i := 5) (fun _ h => ps_set sc_Lidents.nd rfl (by first | exact .inl rfl | exact .inr rfl) h) (de_tup (da_cons (de_call ((ok_Lpick T).mono (by decide)) hr (by rfl) T.g_Lpick T.F_Lpick.kp T.b_Lpick .nil (fun _ => .nil) (da_cons (de_var (pv 0)) (da_cons (de_var (pv 1)) da_nil))) (da_cons (de_var (pv 4)) da_nil))))
    (dss_one (ds_if (dt_cmp (op_notInDD (u65 hr)) (de_var (pv 5)) (de_var (pv 2)) (by rfl)) (dss_one (ds_expr (de_bm PySem.F.plainAttrs_list PySem.F.slot_list_append PySem.F.type_list_append mt_appD (de_var (pv 2)) (da_cons (de_var (pv 5)) da_nil)))) dss_nil)))))
    (dss_one (ds_ret (de_var (pv 2)))))))
theorem ok_Lview (T : Fx K mg) : FnOk P w K mg base CX0 4 T.a_Lview T.d_Lview ["source", "idents"] (lSp K sp_Lview) :=
  okD T.F_Lview sc_Lview len_Lview rd_Lview fun cdv A outer s H E hr =>
    (dss_cons (ds_set (i := 2) (fun _ h => ps_set sc_Lview.nd rfl (by first | exact .inl rfl | exact .inr rfl) h) (de_call ((ok_Lshuffled T).mono (by decide)) hr (by rfl) T.g_Lshuffled T.F_Lshuffled.kp T.b_Lshuffled .nil (fun _ => .nil) (da_cons (de_var (pv 0)) (da_cons (de_var (pv 1)) da_nil))))
    (dss_cons (ds_set (i := 3) (fun _ h => ps_set sc_Lview.nd rfl (by first | exact .inl rfl | exact .inr rfl) h) de_int)
    (dss_cons (ds_set (i := 4) (fun _ h => ps_set sc_Lview.nd rfl (by first | exact .inl rfl | exact .inr rfl) h) (de_lst da_nil))
    (dss_cons (ds_for PassesOwn.never rfl (di_any (de_sl (de_var (pv 2)) do_no (do_some (de_call ((ok_Ldraw T).mono (by decide)) hr (by rfl) T.g_Ldraw T.F_Ldraw.kp T.b_Ldraw .nil (fun _ => .nil) (da_cons (de_var (pv 0)) (da_cons (de_op op_addD (de_callB call_lenD (by rfl) T.m_len (by decide +kernel) (da_cons (de_var (pv 2)) da_nil)) de_int) da_nil)))))) (dg_name (pg_name (i := 5) sc_Lview.nd rfl (by first | exact .inl rfl | exact .inr rfl))) (dss_cons (ds_set (i := 3) (fun _ h => ps_set sc_Lview.nd rfl (by first | exact .inl rfl | exact .inr rfl) h) (de_op op_addD (de_op op_addD (de_var (pv 3)) de_int) (de_call ((ok_Ldraw T).mono (by decide)) hr (by rfl) T.g_Ldraw T.F_Ldraw.kp T.b_Ldraw .nil (fun _ => .nil) (da_cons (de_var (pv 0)) (da_cons de_int da_nil)))))
    (dss_one (ds_expr (de_bm PySem.F.plainAttrs_list PySem.F.slot_list_append PySem.F.type_list_append mt_appD (de_var (pv 4)) (da_cons (de_tup (da_cons (de_var (pv 3)) (da_cons (de_var (pv 5)) da_nil))) da_nil))))))
    (dss_one (ds_ret (de_var (pv 4))))))))
theorem ok_Lchange (T : Fx K mg) : FnOk P w K mg base CX0 4 T.a_Lchange T.d_Lchange ["source", "view", "idents"] (lSp K sp_Lchange) :=
  okD T.F_Lchange sc_Lchange len_Lchange rd_Lchange fun cdv A outer s H E hr =>
    (dss_cons (ds_if (DW.dt (dw_and (dt_cmp (op_gtD hr.units) (de_callB call_lenD (by rfl) T.m_len (by decide +kernel) (da_cons (de_var (pv 1)) da_nil)) de_int (nomark _)) (dw_and1 (dt_cmp (op_eqDD hr.units) (de_call ((ok_Ldraw T).mono (by decide)) hr (by rfl) T.g_Ldraw T.F_Ldraw.kp T.b_Ldraw .nil (fun _ => .nil) (da_cons (de_var (pv 0)) (da_cons de_int da_nil))) de_int (nomark _))))) (dss_cons (ds_expr (de_bm PySem.F.plainAttrs_list PySem.F.slot_list_pop PySem.F.type_list_pop mt_popD (de_var (pv 1)) (da_cons (de_call ((ok_Ldraw T).mono (by decide)) hr (by rfl) T.g_Ldraw T.F_Ldraw.kp T.b_Ldraw .nil (fun _ => .nil) (da_cons (de_var (pv 0)) (da_cons (de_callB call_lenD (by rfl) T.m_len (by decide +kernel) (da_cons (de_var (pv 1)) da_nil)) da_nil))) da_nil)))
    (dss_one ds_retN)) dss_nil)
    (dss_cons (ds_set (i := 3) (fun _ h => ps_set sc_Lchange.nd rfl (by first | exact .inl rfl | exact .inr rfl) h) (de_lc (x := "pair") (j := 6) rfl sc_Lchange.nd (di_any (de_var (pv 1))) (blkOk_by (own := [("pair", 6)]) (N := N_Lchange) (sc := defScope s_Lchange) (by decide +kernel)) (fun _ _ _ _ _ => pg_name (i := 6) sc_Lchange.nd rfl (by first | exact .inl rfl | exact .inr rfl)) (fun _ _ _ _ _ => dts_nil) (fun _ _ _ _ _ => (de_ix (de_var (pv 6)) de_int (fun _ _ => rfl)))))
    (dss_cons (ds_setLc (x := "ident") (j := 7) (i := 4) rfl sc_Lchange.nd rfl rfl (sw_true rfl rfl rfl (by decide +kernel)) (di_any (de_var (pv 2))) (blkOk_by (own := [("ident", 7)]) (N := N_Lchange) (sc := defScope s_Lchange) (by decide +kernel)) (fun _ _ _ _ _ => pg_name (i := 7) sc_Lchange.nd rfl (by first | exact .inl rfl | exact .inr rfl)) (fun _ _ _ _ _ => (dts_one (dt_cmp (op_notInDD (u65 hr)) (de_var (pv 7)) (de_var (pv 3)) (by rfl)))) (fun _ _ _ _ _ => (de_var (pv 7))))
    (dss_one (ds_if (dt_cmp (op_gtD hr.units) (de_callB call_lenD (by rfl) T.m_len (by decide +kernel) (da_cons (de_var (pv 4)) da_nil)) de_int (nomark _)) (dss_cons (ds_set (i := 5) (fun _ h => ps_set sc_Lchange.nd rfl (by first | exact .inl rfl | exact .inr rfl) h) (de_callB (call_maxLD rfl) (by rfl) T.m_max (by decide +kernel) (da_cons (de_op op_addD (de_lst (da_cons de_int da_nil)) (de_lc (x := "pair") (j := 6) rfl sc_Lchange.nd (di_any (de_var (pv 1))) (blkOk_by (own := [("pair", 6)]) (N := N_Lchange) (sc := defScope s_Lchange) (by decide +kernel)) (fun _ _ _ _ _ => pg_name (i := 6) sc_Lchange.nd rfl (by first | exact .inl rfl | exact .inr rfl)) (fun _ _ _ _ _ => dts_nil) (fun _ _ _ _ _ => (de_ix (de_var (pv 6)) de_int (fun _ _ => rfl))))) da_nil)))
    (dss_one (ds_expr (de_bm PySem.F.plainAttrs_list PySem.F.slot_list_append PySem.F.type_list_append mt_appD (de_var (pv 1)) (da_cons (de_tup (da_cons (de_op op_addD (de_op op_addD (de_var (pv 5)) de_int) (de_call ((ok_Ldraw T).mono (by decide)) hr (by rfl) T.g_Ldraw T.F_Ldraw.kp T.b_Ldraw .nil (fun _ => .nil) (da_cons (de_var (pv 0)) (da_cons de_int da_nil)))) (da_cons (de_call ((ok_Lpick T).mono (by decide)) hr (by rfl) T.g_Lpick T.F_Lpick.kp T.b_Lpick .nil (fun _ => .nil) (da_cons (de_var (pv 0)) (da_cons (de_var (pv 4)) da_nil))) da_nil))) da_nil))))) dss_nil)))))
theorem ok_Lnew_due (T : Fx K mg) : FnOk P w K mg base CX0 1 T.a_Lnew_due T.d_Lnew_due ["view", "ids"] (lSp K sp_Lnew_due) :=
  okD T.F_Lnew_due sc_Lnew_due len_Lnew_due rd_Lnew_due fun cdv A outer s H E hr =>
    (dss_one (ds_ret (de_callTy call_tupF (by rfl) T.m_tuple (by decide +kernel) (da_cons (de_lc (x := "pair") (j := 2) rfl sc_Lnew_due.nd (di_any (de_var (pv 0))) (blkOk_by (own := [("pair", 2)]) (N := N_Lnew_due) (sc := defScope s_Lnew_due) (by decide +kernel)) (fun _ _ _ _ _ => pg_name (i := 2) sc_Lnew_due.nd rfl (by first | exact .inl rfl | exact .inr rfl)) (fun _ _ _ _ _ => (dts_one (dt_cmp (op_notInDD (u65 hr)) (de_ix (de_var (pv 2)) de_int (fun _ _ => rfl)) (de_var (pv 1)) (by rfl)))) (fun _ _ _ _ _ => (de_var (pv 2)))) da_nil))))
theorem ok_Llook (T : Fx K mg) : FnOk P w K mg base CX0 15 T.a_Llook T.d_Llook ["source", "reader", "ids", "view", "share"] (lSp K sp_Llook) :=
  okD T.F_Llook sc_Llook len_Llook rd_Llook fun cdv A outer s H E hr =>
    (dss_cons (ds_set (i := 5) (fun _ h => ps_set sc_Llook.nd rfl (by first | exact .inl rfl | exact .inr rfl) h) (de_call ((ok_Lnew_due T).mono (by decide)) hr (by rfl) T.g_Lnew_due T.F_Lnew_due.kp T.b_Lnew_due .nil (fun _ => .nil) (da_cons (de_var (pv 3)) (da_cons (de_var (pv 2)) da_nil))))
    (dss_cons (ds_if (dt_not (dt_tru (de_call ((ok_Lsame T).mono (by decide)) hr (by rfl) T.g_Lsame T.F_Lsame.kp T.b_Lsame .nil (fun _ => .nil) (da_cons (de_meth T.c_Reader T.M_Reader_new ((ok_Reader_new T).mono (by decide)) hr T.b_Reader_new (de_var (pv 1)) (da_cons (de_callTy call_tupF (by rfl) T.m_tuple (by decide +kernel) (da_cons (de_var (pv 3)) da_nil)) da_nil)) (da_cons (de_var (pv 5)) da_nil))))) (dss_one (ds_ret de_bl)) dss_nil)
    (dss_cons (ds_for PassesOwn.never rfl (di_any (de_call ((ok_Lshuffled T).mono (by decide)) hr (by rfl) T.g_Lshuffled T.F_Lshuffled.kp T.b_Lshuffled .nil (fun _ => .nil) (da_cons (de_var (pv 0)) (da_cons (de_var (pv 5)) da_nil)))) (dg_name (pg_name (i := 6) sc_Llook.nd rfl (by first | exact .inl rfl | exact .inr rfl))) (dss_one (ds_if (dt_cmp (op_ltD hr.units) (de_call ((ok_Ldraw T).mono (by decide)) hr (by rfl) T.g_Ldraw T.F_Ldraw.kp T.b_Ldraw .nil (fun _ => .nil) (da_cons (de_var (pv 0)) (da_cons de_int da_nil))) (de_var (pv 4)) (nomark _)) (dss_cons (ds_if (dt_cmp op_notND (de_meth T.c_Reader T.M_Reader_read ((ok_Reader_read T).mono (by decide)) hr T.b_Reader_read (de_var (pv 1)) (da_cons (de_ix (de_var (pv 6)) de_int (fun _ _ => rfl)) da_nil)) de_non (nomark _)) (dss_one (ds_ret de_bl)) dss_nil)
    (dss_one (ds_expr (de_bm PySem.F.plainAttrs_list PySem.F.slot_list_append PySem.F.type_list_append mt_appD (de_var (pv 2)) (da_cons (de_ix (de_var (pv 6)) de_int (fun _ _ => rfl)) da_nil))))) dss_nil)))
    (dss_one (ds_ret (de_call ((ok_Lsame T).mono (by decide)) hr (by rfl) T.g_Lsame T.F_Lsame.kp T.b_Lsame .nil (fun _ => .nil) (da_cons (de_meth T.c_Reader T.M_Reader_new ((ok_Reader_new T).mono (by decide)) hr T.b_Reader_new (de_var (pv 1)) (da_cons (de_callTy call_tupF (by rfl) T.m_tuple (by decide +kernel) (da_cons (de_var (pv 3)) da_nil)) da_nil)) (da_cons (de_call ((ok_Lnew_due T).mono (by decide)) hr (by rfl) T.g_Lnew_due T.F_Lnew_due.kp T.b_Lnew_due .nil (fun _ => .nil) (da_cons (de_var (pv 3)) (da_cons (de_var (pv 2)) da_nil))) da_nil))))))))
theorem ok_Ljoin (T : Fx K mg) : FnOk P w K mg base CX0 2 T.a_Ljoin T.d_Ljoin ["readers", "rows", "one", "two"] (lSp K sp_Ljoin) :=
  okD T.F_Ljoin sc_Ljoin len_Ljoin rd_Ljoin fun cdv A outer s H E hr =>
    (dss_cons (ds_if (dt_cmp op_notND (de_meth T.c_Reader T.M_Reader_meet ((ok_Reader_meet T).mono (by decide)) hr T.b_Reader_meet (de_ix (de_var (pv 0)) (de_var (pv 2)) (fun _ _ => rfl)) (da_cons (de_ix (de_var (pv 0)) (de_var (pv 3)) (fun _ _ => rfl)) da_nil)) de_non (nomark _)) (dss_one (ds_ret de_bl)) dss_nil)
    (dss_cons (ds_for PassesOwn.never rfl (di_any (de_callTy call_lstF (by rfl) T.m_list (by decide +kernel) (da_cons (de_ix (de_var (pv 1)) (de_var (pv 2)) (fun _ _ => rfl)) da_nil))) (dg_name (pg_name (i := 4) sc_Ljoin.nd rfl (by first | exact .inl rfl | exact .inr rfl))) (dss_one (ds_if (dt_cmp (op_notInDD (u65 hr)) (de_var (pv 4)) (de_ix (de_var (pv 1)) (de_var (pv 3)) (fun _ _ => rfl)) (by rfl)) (dss_one (ds_expr (de_bm PySem.F.plainAttrs_list PySem.F.slot_list_append PySem.F.type_list_append mt_appD (de_ix (de_var (pv 1)) (de_var (pv 3)) (fun _ _ => rfl)) (da_cons (de_var (pv 4)) da_nil)))) dss_nil)))
    (dss_cons (ds_for PassesOwn.never rfl (di_any (de_callTy call_lstF (by rfl) T.m_list (by decide +kernel) (da_cons (de_ix (de_var (pv 1)) (de_var (pv 3)) (fun _ _ => rfl)) da_nil))) (dg_name (pg_name (i := 4) sc_Ljoin.nd rfl (by first | exact .inl rfl | exact .inr rfl))) (dss_one (ds_if (dt_cmp (op_notInDD (u65 hr)) (de_var (pv 4)) (de_ix (de_var (pv 1)) (de_var (pv 2)) (fun _ _ => rfl)) (by rfl)) (dss_one (ds_expr (de_bm PySem.F.plainAttrs_list PySem.F.slot_list_append PySem.F.type_list_append mt_appD (de_ix (de_var (pv 1)) (de_var (pv 2)) (fun _ _ => rfl)) (da_cons (de_var (pv 4)) da_nil)))) dss_nil)))
    (dss_one (ds_ret de_bl)))))
theorem ok_Lall_right (T : Fx K mg) : FnOk P w K mg base CX0 15 T.a_Lall_right T.d_Lall_right ["readers", "rows"] (lSp K sp_Lall_right) :=
  okD T.F_Lall_right sc_Lall_right len_Lall_right rd_Lall_right fun cdv A outer s H E hr =>
    (dss_cons (ds_for PassesOwn.never rfl (di_range1 (by rfl) T.m_range (de_callB call_lenD (by rfl) T.m_len (by decide +kernel) (da_cons (de_var (pv 0)) da_nil))) (dg_name (pg_name (i := 2) sc_Lall_right.nd rfl (by first | exact .inl rfl | exact .inr rfl))) (dss_one (ds_if (dt_not (dt_tru (de_call ((ok_Lsame T).mono (by decide)) hr (by rfl) T.g_Lsame T.F_Lsame.kp T.b_Lsame .nil (fun _ => .nil) (da_cons (de_meth0 T.c_Reader T.M_Reader_ids ((ok_Reader_ids T).mono (by decide)) hr T.b_Reader_ids (de_ix (de_var (pv 0)) (de_var (pv 2)) (fun _ _ => rfl))) (da_cons (de_callTy call_tupF (by rfl) T.m_tuple (by decide +kernel) (da_cons (de_callB (DL.call_sortedD (u65 hr)) (by rfl) T.m_sorted (by decide +kernel) (da_cons (de_ix (de_var (pv 1)) (de_var (pv 2)) (fun _ _ => rfl)) da_nil)) da_nil)) da_nil))))) (dss_one (ds_ret de_bl)) dss_nil)))
    (dss_one (ds_ret de_bl)))
theorem ok_Lstep (T : Fx K mg) : FnOk P w K mg base CX0 16 T.a_Lstep T.d_Lstep ["source", "readers", "rows", "many", "views", "idents"] (lSp K sp_Lstep) :=
  okD T.F_Lstep sc_Lstep len_Lstep rd_Lstep fun cdv A outer s H E hr =>
    (dss_cons (ds_set (i := 6) (fun _ h => ps_set sc_Lstep.nd rfl (by first | exact .inl rfl | exact .inr rfl) h) (de_call ((ok_Ldraw T).mono (by decide)) hr (by rfl) T.g_Ldraw T.F_Ldraw.kp T.b_Ldraw .nil (fun _ => .nil) (da_cons (de_var (pv 0)) (da_cons de_int da_nil))))
    (dss_cons (ds_set (i := 7) (fun _ h => ps_set sc_Lstep.nd rfl (by first | exact .inl rfl | exact .inr rfl) h) (de_call ((ok_Ldraw T).mono (by decide)) hr (by rfl) T.g_Ldraw T.F_Ldraw.kp T.b_Ldraw .nil (fun _ => .nil) (da_cons (de_var (pv 0)) (da_cons (de_callB call_lenD (by rfl) T.m_len (by decide +kernel) (da_cons (de_var (pv 1)) da_nil)) da_nil))))
    (dss_cons (ds_set (i := 8) (fun _ h => ps_set sc_Lstep.nd rfl (by first | exact .inl rfl | exact .inr rfl) h) (de_call ((ok_Lpick T).mono (by decide)) hr (by rfl) T.g_Lpick T.F_Lpick.kp T.b_Lpick .nil (fun _ => .nil) (da_cons (de_var (pv 0)) (da_cons (de_var (pv 4)) da_nil))))
    (dss_cons (ds_if (dt_cmp (op_ltD hr.units) (de_var (pv 6)) de_int (nomark _)) (dss_one (ds_ret (de_call ((ok_Llook T).mono (by decide)) hr (by rfl) T.g_Llook T.F_Llook.kp T.b_Llook .nil (fun _ => .nil) (da_cons (de_var (pv 0)) (da_cons (de_ix (de_var (pv 1)) (de_var (pv 7)) (fun _ _ => rfl)) (da_cons (de_ix (de_var (pv 2)) (de_var (pv 7)) (fun _ _ => rfl)) (da_cons (de_var (pv 8)) (da_cons (de_call ((ok_Ldraw T).mono (by decide)) hr (by rfl) T.g_Ldraw T.F_Ldraw.kp T.b_Ldraw .nil (fun _ => .nil) (da_cons (de_var (pv 0)) (da_cons de_int da_nil))) da_nil)))))))) dss_nil)
    (dss_cons (ds_if (dt_cmp (op_eqDD hr.units) (de_var (pv 6)) de_int (nomark _)) (dss_cons (ds_set (i := 11) (fun _ h => ps_set sc_Lstep.nd rfl (by first | exact .inl rfl | exact .inr rfl) h) (de_call ((ok_Lpick T).mono (by decide)) hr (by rfl) T.g_Lpick T.F_Lpick.kp T.b_Lpick .nil (fun _ => .nil) (da_cons (de_var (pv 0)) (da_cons (de_var (pv 5)) da_nil))))
    (dss_cons (ds_if (dt_cmp (op_notInDD (u65 hr)) (de_var (pv 11)) (de_ix (de_var (pv 2)) (de_var (pv 7)) (fun _ _ => rfl)) (by rfl)) (dss_one (ds_expr (de_bm PySem.F.plainAttrs_list PySem.F.slot_list_append PySem.F.type_list_append mt_appD (de_ix (de_var (pv 2)) (de_var (pv 7)) (fun _ _ => rfl)) (da_cons (de_var (pv 11)) da_nil)))) dss_nil)
    (dss_one (ds_ret (de_cmp op_isND (de_meth T.c_Reader T.M_Reader_read ((ok_Reader_read T).mono (by decide)) hr T.b_Reader_read (de_ix (de_var (pv 1)) (de_var (pv 7)) (fun _ _ => rfl)) (da_cons (de_var (pv 11)) da_nil)) de_non (nomark _)))))) dss_nil)
    (dss_cons (ds_if (dt_cmp (op_eqDD hr.units) (de_var (pv 6)) de_int (nomark _)) (dss_cons (ds_expr (de_call ((ok_Lchange T).mono (by decide)) hr (by rfl) T.g_Lchange T.F_Lchange.kp T.b_Lchange .nil (fun _ => .nil) (da_cons (de_var (pv 0)) (da_cons (de_var (pv 8)) (da_cons (de_var (pv 5)) da_nil)))))
    (dss_one (ds_ret de_bl))) dss_nil)
    (dss_cons (ds_if (DW.dt (dw_and (dt_cmp (op_eqDD hr.units) (de_call ((ok_Ldraw T).mono (by decide)) hr (by rfl) T.g_Ldraw T.F_Ldraw.kp T.b_Ldraw .nil (fun _ => .nil) (da_cons (de_var (pv 0)) (da_cons de_int da_nil))) de_int (nomark _)) (dw_and1 (dt_cmp (op_gtD hr.units) (de_op op_subD (de_callB call_lenD (by rfl) T.m_len (by decide +kernel) (da_cons (de_var (pv 1)) da_nil)) (de_var (pv 3))) de_int (nomark _))))) (dss_one (ds_ret (de_call ((ok_Ljoin T).mono (by decide)) hr (by rfl) T.g_Ljoin T.F_Ljoin.kp T.b_Ljoin .nil (fun _ => .nil) (da_cons (de_var (pv 1)) (da_cons (de_var (pv 2)) (da_cons (de_var (pv 3)) (da_cons (de_op op_addD (de_var (pv 3)) de_int) da_nil))))))) dss_nil)
    (dss_cons (ds_set (i := 9) (fun _ h => ps_set sc_Lstep.nd rfl (by first | exact .inl rfl | exact .inr rfl) h) (de_call ((ok_Ldraw T).mono (by decide)) hr (by rfl) T.g_Ldraw T.F_Ldraw.kp T.b_Ldraw .nil (fun _ => .nil) (da_cons (de_var (pv 0)) (da_cons (de_var (pv 3)) da_nil))))
    (dss_cons (ds_set (i := 10) (fun _ h => ps_set sc_Lstep.nd rfl (by first | exact .inl rfl | exact .inr rfl) h) (de_op op_modD (de_callTy call_intF (by rfl) T.m_int (by decide +kernel) (da_cons (de_op op_addD (de_op op_addD (de_var (pv 9)) de_int) (de_call ((ok_Ldraw T).mono (by decide)) hr (by rfl) T.g_Ldraw T.F_Ldraw.kp T.b_Ldraw .nil (fun _ => .nil) (da_cons (de_var (pv 0)) (da_cons (de_op op_subD (de_var (pv 3)) de_int) da_nil)))) da_nil)) (de_var (pv 3))))
    (dss_one (ds_ret (de_call ((ok_Ljoin T).mono (by decide)) hr (by rfl) T.g_Ljoin T.F_Ljoin.kp T.b_Ljoin .nil (fun _ => .nil) (da_cons (de_var (pv 1)) (da_cons (de_var (pv 2)) (da_cons (de_var (pv 9)) (da_cons (de_var (pv 10)) da_nil))))))))))))))))
theorem ok_Lchain (T : Fx K mg) : FnOk P w K mg base CX0 3 T.a_Lchain T.d_Lchain ["readers", "rows", "many"] (lSp K sp_Lchain) :=
  okD T.F_Lchain sc_Lchain len_Lchain rd_Lchain fun cdv A outer s H E hr =>
    (dss_cons (ds_for PassesOwn.never rfl (di_range2 (by rfl) T.m_range de_int (de_var (pv 2))) (dg_name (pg_name (i := 3) sc_Lchain.nd rfl (by first | exact .inl rfl | exact .inr rfl))) (dss_one (ds_if (dt_not (dt_tru (de_call ((ok_Ljoin T).mono (by decide)) hr (by rfl) T.g_Ljoin T.F_Ljoin.kp T.b_Ljoin .nil (fun _ => .nil) (da_cons (de_var (pv 0)) (da_cons (de_var (pv 1)) (da_cons (de_op op_subD (de_var (pv 3)) de_int) (da_cons (de_var (pv 3)) da_nil))))))) (dss_one (ds_ret de_bl)) dss_nil)))
    (dss_cons (ds_for PassesOwn.never rfl (di_range2 (by rfl) T.m_range de_int (de_var (pv 2))) (dg_name (pg_name (i := 3) sc_Lchain.nd rfl (by first | exact .inl rfl | exact .inr rfl))) (dss_one (ds_if (dt_not (dt_tru (de_call ((ok_Ljoin T).mono (by decide)) hr (by rfl) T.g_Ljoin T.F_Ljoin.kp T.b_Ljoin .nil (fun _ => .nil) (da_cons (de_var (pv 0)) (da_cons (de_var (pv 1)) (da_cons (de_op op_subD (de_var (pv 2)) (de_var (pv 3))) (da_cons (de_op op_subD (de_op op_subD (de_var (pv 2)) (de_var (pv 3))) de_int) da_nil))))))) (dss_one (ds_ret de_bl)) dss_nil)))
    (dss_one (ds_ret de_bl))))
theorem ok_Ltour (T : Fx K mg) : FnOk P w K mg base CX0 16 T.a_Ltour T.d_Ltour ["source", "readers", "rows", "many", "views"] (lSp K sp_Ltour) :=
  okD T.F_Ltour sc_Ltour len_Ltour rd_Ltour fun cdv A outer s H E hr =>
    (dss_cons (ds_set (i := 5) (fun _ h => ps_set sc_Ltour.nd rfl (by first | exact .inl rfl | exact .inr rfl) h) (de_callTy call_lstF (by rfl) T.m_list (by decide +kernel) (da_cons (de_ix (de_var (pv 2)) de_int (fun _ _ => rfl)) da_nil)))
    (dss_cons (ds_set (i := 6) (fun _ h => ps_set sc_Ltour.nd rfl (by first | exact .inl rfl | exact .inr rfl) h) (de_lst da_nil))
    (dss_cons (ds_set (i := 7) (fun _ h => ps_set sc_Ltour.nd rfl (by first | exact .inl rfl | exact .inr rfl) h) de_int)
    (dss_cons (ds_for PassesOwn.never rfl (di_any (de_call ((ok_Lshuffled T).mono (by decide)) hr (by rfl) T.g_Lshuffled T.F_Lshuffled.kp T.b_Lshuffled .nil (fun _ => .nil) (da_cons (de_var (pv 0)) (da_cons (de_var (pv 4)) da_nil)))) (dg_name (pg_name (i := 8) sc_Ltour.nd rfl (by first | exact .inl rfl | exact .inr rfl))) (dss_cons (ds_set (i := 9) (fun _ h => ps_set sc_Ltour.nd rfl (by first | exact .inl rfl | exact .inr rfl) h) (de_call ((ok_Ldraw T).mono (by decide)) hr (by rfl) T.g_Ldraw T.F_Ldraw.kp T.b_Ldraw .nil (fun _ => .nil) (da_cons (de_var (pv 0)) (da_cons (de_var (pv 3)) da_nil))))
    (dss_cons (ds_if (DW.dt (dw_and (dt_cmp (op_neDD hr.units) (de_var (pv 9)) (de_var (pv 7)) (nomark _)) (dw_and1 (dt_not (dt_tru (de_call ((ok_Ljoin T).mono (by decide)) hr (by rfl) T.g_Ljoin T.F_Ljoin.kp T.b_Ljoin .nil (fun _ => .nil) (da_cons (de_var (pv 1)) (da_cons (de_var (pv 2)) (da_cons (de_var (pv 7)) (da_cons (de_var (pv 9)) da_nil)))))))))) (dss_one (ds_ret de_bl)) dss_nil)
    (dss_cons (ds_set (i := 10) (fun _ h => ps_set sc_Ltour.nd rfl (by first | exact .inl rfl | exact .inr rfl) h) (de_meth T.c_Reader T.M_Reader_new ((ok_Reader_new T).mono (by decide)) hr T.b_Reader_new (de_ix (de_var (pv 1)) (de_var (pv 9)) (fun _ _ => rfl)) (da_cons (de_callTy call_tupF (by rfl) T.m_tuple (by decide +kernel) (da_cons (de_var (pv 8)) da_nil)) da_nil)))
    (dss_cons (ds_if (dt_not (dt_tru (de_call ((ok_Lsame T).mono (by decide)) hr (by rfl) T.g_Lsame T.F_Lsame.kp T.b_Lsame .nil (fun _ => .nil) (da_cons (de_var (pv 10)) (da_cons (de_call ((ok_Lnew_due T).mono (by decide)) hr (by rfl) T.g_Lnew_due T.F_Lnew_due.kp T.b_Lnew_due .nil (fun _ => .nil) (da_cons (de_var (pv 8)) (da_cons (de_ix (de_var (pv 2)) (de_var (pv 9)) (fun _ _ => rfl)) da_nil))) da_nil))))) (dss_one (ds_ret de_bl)) dss_nil)
    (dss_cons (ds_expr (de_bm PySem.F.plainAttrs_list PySem.F.slot_list_extend PySem.F.type_list_extend mt_extD (de_var (pv 6)) (da_cons (de_lc (x := "pair") (j := 11) rfl sc_Ltour.nd (di_any (de_var (pv 10))) (blkOk_by (own := [("pair", 11)]) (N := N_Ltour) (sc := defScope s_Ltour) (by decide +kernel)) (fun _ _ _ _ _ => pg_name (i := 11) sc_Ltour.nd rfl (by first | exact .inl rfl | exact .inr rfl)) (fun _ _ _ _ _ => dts_nil) (fun _ _ _ _ _ => (de_ix (de_var (pv 11)) de_int (fun _ _ => rfl)))) da_nil)))
    (dss_cons (ds_if (dt_not (dt_tru (de_call ((ok_Llook T).mono (by decide)) hr (by rfl) T.g_Llook T.F_Llook.kp T.b_Llook .nil (fun _ => .nil) (da_cons (de_var (pv 0)) (da_cons (de_ix (de_var (pv 1)) (de_var (pv 9)) (fun _ _ => rfl)) (da_cons (de_ix (de_var (pv 2)) (de_var (pv 9)) (fun _ _ => rfl)) (da_cons (de_var (pv 8)) (da_cons de_int da_nil)))))))) (dss_one (ds_ret de_bl)) dss_nil)
    (dss_one (ds_set (i := 7) (fun _ h => ps_set sc_Ltour.nd rfl (by first | exact .inl rfl | exact .inr rfl) h) (de_var (pv 9)))))))))))
    (dss_cons (ds_for PassesOwn.never rfl (di_any (de_var (pv 4))) (dg_name (pg_name (i := 8) sc_Ltour.nd rfl (by first | exact .inl rfl | exact .inr rfl))) (dss_one (ds_for PassesOwn.never rfl (di_any (de_var (pv 8))) (dg_name (pg_name (i := 11) sc_Ltour.nd rfl (by first | exact .inl rfl | exact .inr rfl))) (dss_one (ds_if (dt_cmp (op_neDD hr.units) (de_bm PySem.F.plainAttrs_list PySem.F.slot_list_count PySem.F.type_list_count (mt_countD (u65 hr)) (de_var (pv 6)) (da_cons (de_ix (de_var (pv 11)) de_int (fun _ _ => rfl)) da_nil)) (de_callTy call_intF (by rfl) T.m_int (by decide +kernel) (da_cons (de_cmp (op_notInDD (u65 hr)) (de_ix (de_var (pv 11)) de_int (fun _ _ => rfl)) (de_var (pv 5)) (by rfl)) da_nil)) (nomark _)) (dss_one (ds_ret de_bl)) dss_nil)))))
    (dss_one (ds_ret (de_cmp (op_eqDD hr.units) (de_callB call_lenD (by rfl) T.m_len (by decide +kernel) (da_cons (de_var (pv 6)) da_nil)) (de_callB call_lenD (by rfl) T.m_len (by decide +kernel) (da_cons (de_lc (x := "k") (j := 12) rfl sc_Ltour.nd (di_range1 (by rfl) T.m_range (de_callB call_lenD (by rfl) T.m_len (by decide +kernel) (da_cons (de_var (pv 6)) da_nil))) (blkOk_by (own := [("k", 12)]) (N := N_Ltour) (sc := defScope s_Ltour) (by decide +kernel)) (fun _ _ _ _ _ => pg_name (i := 12) sc_Ltour.nd rfl (by first | exact .inl rfl | exact .inr rfl)) (fun _ _ _ _ _ => (dts_one (dt_cmp (op_notInDD (u65 hr)) (de_ix (de_var (pv 6)) (de_var (pv 12)) (fun _ _ => rfl)) (de_op op_addD (de_var (pv 5)) (de_sl (de_var (pv 6)) do_no (do_some (de_var (pv 12))))) (by rfl)))) (fun _ _ _ _ _ => (de_var (pv 12)))) da_nil)) (nomark _)))))))))
theorem ok_law (T : Fx K mg) : FnOk P w K mg base CX0 17 T.a_law T.d_law ["script"] (lSp K sp_law) :=
  okD T.F_law sc_law len_law rd_law fun cdv A outer s H E hr =>
    (dss_cons (ds_set (i := 1) (fun _ h => ps_set sc_law.nd rfl (by first | exact .inl rfl | exact .inr rfl) h) (de_call ((ok_Lsource T).mono (by decide)) hr (by rfl) T.g_Lsource T.F_Lsource.kp T.b_Lsource .nil (fun _ => .nil) (da_cons (de_var (pv 0)) da_nil)))
    (dss_cons (ds_set (i := 2) (fun _ h => ps_set sc_law.nd rfl (by first | exact .inl rfl | exact .inr rfl) h) (de_call ((ok_Lidents T).mono (by decide)) hr (by rfl) T.g_Lidents T.F_Lidents.kp T.b_Lidents .nil (fun _ => .nil) (da_cons (de_var (pv 1)) da_nil)))
    (dss_cons (ds_setLc (x := "k") (j := 8) (i := 3) rfl sc_law.nd rfl rfl (sw_true rfl rfl rfl (by decide +kernel)) (di_range1 (by rfl) T.m_range (de_op op_addD de_int (de_call ((ok_Ldraw T).mono (by decide)) hr (by rfl) T.g_Ldraw T.F_Ldraw.kp T.b_Ldraw .nil (fun _ => .nil) (da_cons (de_var (pv 1)) (da_cons de_int da_nil))))) (blkOk_by (own := [("k", 8)]) (N := N_law) (sc := defScope s_law) (by decide +kernel)) (fun _ _ _ _ _ => pg_name (i := 8) sc_law.nd rfl (by first | exact .inl rfl | exact .inr rfl)) (fun _ _ _ _ _ => dts_nil) (fun _ _ _ _ _ => (de_call ((ok_Lview T).mono (by decide)) hr (by rfl) T.g_Lview T.F_Lview.kp T.b_Lview .nil (fun _ => .nil) (da_cons (de_var (pv 1)) (da_cons (de_var (pv 2)) da_nil)))))
    (dss_cons (ds_set (i := 4) (fun _ h => ps_set sc_law.nd rfl (by first | exact .inl rfl | exact .inr rfl) h) (de_op op_addD de_int (de_call ((ok_Ldraw T).mono (by decide)) hr (by rfl) T.g_Ldraw T.F_Ldraw.kp T.b_Ldraw .nil (fun _ => .nil) (da_cons (de_var (pv 1)) (da_cons de_int da_nil)))))
    (dss_cons (ds_setLc (x := "k") (j := 8) (i := 5) rfl sc_law.nd rfl rfl (sw_true rfl rfl rfl (by decide +kernel)) (di_range1 (by rfl) T.m_range (de_op op_addD (de_op op_addD (de_var (pv 4)) de_int) (de_call ((ok_Ldraw T).mono (by decide)) hr (by rfl) T.g_Ldraw T.F_Ldraw.kp T.b_Ldraw .nil (fun _ => .nil) (da_cons (de_var (pv 1)) (da_cons de_int da_nil))))) (blkOk_by (own := [("k", 8)]) (N := N_law) (sc := defScope s_law) (by decide +kernel)) (fun _ _ _ _ _ => pg_name (i := 8) sc_law.nd rfl (by first | exact .inl rfl | exact .inr rfl)) (fun _ _ _ _ _ => dts_nil) (fun _ _ _ _ _ => (de_make0 T.MK_Reader ((ok_Reader_init T).mono (by decide)) hr (by rfl) T.g_Reader T.b_Reader_init)))
    (dss_cons (ds_setLc (x := "reader") (j := 9) (i := 6) rfl sc_law.nd rfl rfl (sw_true rfl rfl rfl (by decide +kernel)) (di_any (de_var (pv 5))) (blkOk_by (own := [("reader", 9)]) (N := N_law) (sc := defScope s_law) (by decide +kernel)) (fun _ _ _ _ _ => pg_name (i := 9) sc_law.nd rfl (by first | exact .inl rfl | exact .inr rfl)) (fun _ _ _ _ _ => dts_nil) (fun _ _ _ _ _ => (de_lst da_nil)))
    (dss_cons (ds_for PassesOwn.never rfl (di_range1 (by rfl) T.m_range (de_call ((ok_Ldraw T).mono (by decide)) hr (by rfl) T.g_Ldraw T.F_Ldraw.kp T.b_Ldraw .nil (fun _ => .nil) (da_cons (de_var (pv 1)) (da_cons de_int da_nil)))) (dg_name (pg_name (i := 7) sc_law.nd rfl (by first | exact .inl rfl | exact .inr rfl))) (dss_one (ds_if (DW.dt (dw_or (dt_not (dt_tru (de_call ((ok_Lstep T).mono (by decide)) hr (by rfl) T.g_Lstep T.F_Lstep.kp T.b_Lstep .nil (fun _ => .nil) (da_cons (de_var (pv 1)) (da_cons (de_var (pv 5)) (da_cons (de_var (pv 6)) (da_cons (de_var (pv 4)) (da_cons (de_var (pv 3)) (da_cons (de_var (pv 2)) da_nil))))))))) (dw_or1 (dt_not (dt_tru (de_call ((ok_Lall_right T).mono (by decide)) hr (by rfl) T.g_Lall_right T.F_Lall_right.kp T.b_Lall_right .nil (fun _ => .nil) (da_cons (de_var (pv 5)) (da_cons (de_var (pv 6)) da_nil)))))))) (dss_one (ds_ret de_bl)) dss_nil)))
    (dss_cons (ds_if (DW.dt (dw_or (dt_not (dt_tru (de_call ((ok_Lchain T).mono (by decide)) hr (by rfl) T.g_Lchain T.F_Lchain.kp T.b_Lchain .nil (fun _ => .nil) (da_cons (de_var (pv 5)) (da_cons (de_var (pv 6)) (da_cons (de_var (pv 4)) da_nil)))))) (dw_or1 (dt_not (dt_tru (de_call ((ok_Lall_right T).mono (by decide)) hr (by rfl) T.g_Lall_right T.F_Lall_right.kp T.b_Lall_right .nil (fun _ => .nil) (da_cons (de_var (pv 5)) (da_cons (de_var (pv 6)) da_nil)))))))) (dss_one (ds_ret de_bl)) dss_nil)
    (dss_one (ds_ret (de_and (de_call ((ok_Ltour T).mono (by decide)) hr (by rfl) T.g_Ltour T.F_Ltour.kp T.b_Ltour .nil (fun _ => .nil) (da_cons (de_var (pv 1)) (da_cons (de_var (pv 5)) (da_cons (de_var (pv 6)) (da_cons (de_var (pv 4)) (da_cons (de_var (pv 3)) da_nil)))))) (de_one (de_call ((ok_Lall_right T).mono (by decide)) hr (by rfl) T.g_Lall_right T.F_Lall_right.kp T.b_Lall_right .nil (fun _ => .nil) (da_cons (de_var (pv 5)) (da_cons (de_var (pv 6)) da_nil)))))))))))))))
end
theorem all_mk {l : PySem.W.OpenLaw} {w : World} {K : PySem.W.Frag} {h : Heap} {mg : Str → Option Value} {fa : Addr} (X : K.In h) (G : h.Ns mainGlobals mg) (hfa : mg "law" = some (.ref fa))
    {c_Reader : Addr} (u_Reader : PySem.W.nsIn K mainGlobals "Reader" = some (some (.ref c_Reader))) (x1_Reader : PySem.W.plainGet K c_Reader Str.empty = true) (x2_Reader : PySem.W.hasDictIn K c_Reader = true) (x3_Reader : PySem.W.plainOver K c_Reader = true) (x4_Reader : PySem.W.findIn K (.ref c_Reader) "__setattr__" = some (some (.builtin "object.__setattr__"))) (mk_Reader : PySem.W.makesIn K c_Reader = true) (kc_Reader : PySem.W.keepIn K (.ref c_Reader) = true)
    (nf_Reader_read_ids : PySem.W.findIn K (.ref c_Reader) "read_ids" = some none)
    {od_Lmix an_Lmix : Option Addr} {sl_Lmix : Array (Option Value)} {oc_Lmix kV_Lmix dc_Lmix pm_Lmix cd_Lmix ct_Lmix : Value} {f_Lmix : Addr}
    (a_Lmix : PySem.W.nsIn K mainGlobals "_law_mix" = some (some (.ref f_Lmix))) (l_Lmix : K.lookup f_Lmix = some ⟨oc_Lmix, od_Lmix, .func (PySem.W.fnOf "_law_mix" "_law_mix" (defArgs s_Lmix) (defBody s_Lmix) (defScope s_Lmix) .none kV_Lmix dc_Lmix pm_Lmix an_Lmix cd_Lmix ct_Lmix), sl_Lmix⟩) (c_Lmix : PySem.W.codeIn K cd_Lmix "_law_mix" = true) (k_Lmix : PySem.W.keepIn K (.ref f_Lmix) = true)
    {od_Lsource an_Lsource : Option Addr} {sl_Lsource : Array (Option Value)} {oc_Lsource kV_Lsource dc_Lsource pm_Lsource cd_Lsource ct_Lsource : Value} {f_Lsource : Addr}
    (a_Lsource : PySem.W.nsIn K mainGlobals "_law_source" = some (some (.ref f_Lsource))) (l_Lsource : K.lookup f_Lsource = some ⟨oc_Lsource, od_Lsource, .func (PySem.W.fnOf "_law_source" "_law_source" (defArgs s_Lsource) (defBody s_Lsource) (defScope s_Lsource) .none kV_Lsource dc_Lsource pm_Lsource an_Lsource cd_Lsource ct_Lsource), sl_Lsource⟩) (c_Lsource : PySem.W.codeIn K cd_Lsource "_law_source" = true) (k_Lsource : PySem.W.keepIn K (.ref f_Lsource) = true)
    {od_Ldraw an_Ldraw : Option Addr} {sl_Ldraw : Array (Option Value)} {oc_Ldraw kV_Ldraw dc_Ldraw pm_Ldraw cd_Ldraw ct_Ldraw : Value} {f_Ldraw : Addr}
    (a_Ldraw : PySem.W.nsIn K mainGlobals "_law_draw" = some (some (.ref f_Ldraw))) (l_Ldraw : K.lookup f_Ldraw = some ⟨oc_Ldraw, od_Ldraw, .func (PySem.W.fnOf "_law_draw" "_law_draw" (defArgs s_Ldraw) (defBody s_Ldraw) (defScope s_Ldraw) .none kV_Ldraw dc_Ldraw pm_Ldraw an_Ldraw cd_Ldraw ct_Ldraw), sl_Ldraw⟩) (c_Ldraw : PySem.W.codeIn K cd_Ldraw "_law_draw" = true) (k_Ldraw : PySem.W.keepIn K (.ref f_Ldraw) = true)
    {od_Lpick an_Lpick : Option Addr} {sl_Lpick : Array (Option Value)} {oc_Lpick kV_Lpick dc_Lpick pm_Lpick cd_Lpick ct_Lpick : Value} {f_Lpick : Addr}
    (a_Lpick : PySem.W.nsIn K mainGlobals "_law_pick" = some (some (.ref f_Lpick))) (l_Lpick : K.lookup f_Lpick = some ⟨oc_Lpick, od_Lpick, .func (PySem.W.fnOf "_law_pick" "_law_pick" (defArgs s_Lpick) (defBody s_Lpick) (defScope s_Lpick) .none kV_Lpick dc_Lpick pm_Lpick an_Lpick cd_Lpick ct_Lpick), sl_Lpick⟩) (c_Lpick : PySem.W.codeIn K cd_Lpick "_law_pick" = true) (k_Lpick : PySem.W.keepIn K (.ref f_Lpick) = true)
    {od_Lshuffled an_Lshuffled : Option Addr} {sl_Lshuffled : Array (Option Value)} {oc_Lshuffled kV_Lshuffled dc_Lshuffled pm_Lshuffled cd_Lshuffled ct_Lshuffled : Value} {f_Lshuffled : Addr}
    (a_Lshuffled : PySem.W.nsIn K mainGlobals "_law_shuffled" = some (some (.ref f_Lshuffled))) (l_Lshuffled : K.lookup f_Lshuffled = some ⟨oc_Lshuffled, od_Lshuffled, .func (PySem.W.fnOf "_law_shuffled" "_law_shuffled" (defArgs s_Lshuffled) (defBody s_Lshuffled) (defScope s_Lshuffled) .none kV_Lshuffled dc_Lshuffled pm_Lshuffled an_Lshuffled cd_Lshuffled ct_Lshuffled), sl_Lshuffled⟩) (c_Lshuffled : PySem.W.codeIn K cd_Lshuffled "_law_shuffled" = true) (k_Lshuffled : PySem.W.keepIn K (.ref f_Lshuffled) = true)
    {od_Lnew_name an_Lnew_name : Option Addr} {sl_Lnew_name : Array (Option Value)} {oc_Lnew_name kV_Lnew_name dc_Lnew_name pm_Lnew_name cd_Lnew_name ct_Lnew_name : Value} {f_Lnew_name : Addr}
    (a_Lnew_name : PySem.W.nsIn K mainGlobals "_law_new_name" = some (some (.ref f_Lnew_name))) (l_Lnew_name : K.lookup f_Lnew_name = some ⟨oc_Lnew_name, od_Lnew_name, .func (PySem.W.fnOf "_law_new_name" "_law_new_name" (defArgs s_Lnew_name) (defBody s_Lnew_name) (defScope s_Lnew_name) .none kV_Lnew_name dc_Lnew_name pm_Lnew_name an_Lnew_name cd_Lnew_name ct_Lnew_name), sl_Lnew_name⟩) (c_Lnew_name : PySem.W.codeIn K cd_Lnew_name "_law_new_name" = true) (k_Lnew_name : PySem.W.keepIn K (.ref f_Lnew_name) = true)
    {od_Lnames an_Lnames : Option Addr} {sl_Lnames : Array (Option Value)} {oc_Lnames kV_Lnames dc_Lnames pm_Lnames cd_Lnames ct_Lnames : Value} {f_Lnames : Addr}
    (a_Lnames : PySem.W.nsIn K mainGlobals "_law_names" = some (some (.ref f_Lnames))) (l_Lnames : K.lookup f_Lnames = some ⟨oc_Lnames, od_Lnames, .func (PySem.W.fnOf "_law_names" "_law_names" (defArgs s_Lnames) (defBody s_Lnames) (defScope s_Lnames) .none kV_Lnames dc_Lnames pm_Lnames an_Lnames cd_Lnames ct_Lnames), sl_Lnames⟩) (c_Lnames : PySem.W.codeIn K cd_Lnames "_law_names" = true) (k_Lnames : PySem.W.keepIn K (.ref f_Lnames) = true)
    {od_Lis_int an_Lis_int : Option Addr} {sl_Lis_int : Array (Option Value)} {oc_Lis_int kV_Lis_int dc_Lis_int pm_Lis_int cd_Lis_int ct_Lis_int : Value} {f_Lis_int : Addr}
    (a_Lis_int : PySem.W.nsIn K mainGlobals "_law_is_int" = some (some (.ref f_Lis_int))) (l_Lis_int : K.lookup f_Lis_int = some ⟨oc_Lis_int, od_Lis_int, .func (PySem.W.fnOf "_law_is_int" "_law_is_int" (defArgs s_Lis_int) (defBody s_Lis_int) (defScope s_Lis_int) .none kV_Lis_int dc_Lis_int pm_Lis_int an_Lis_int cd_Lis_int ct_Lis_int), sl_Lis_int⟩) (c_Lis_int : PySem.W.codeIn K cd_Lis_int "_law_is_int" = true) (k_Lis_int : PySem.W.keepIn K (.ref f_Lis_int) = true)
    {od_Lsame an_Lsame : Option Addr} {sl_Lsame : Array (Option Value)} {oc_Lsame kV_Lsame dc_Lsame pm_Lsame cd_Lsame ct_Lsame : Value} {f_Lsame : Addr}
    (a_Lsame : PySem.W.nsIn K mainGlobals "_law_same" = some (some (.ref f_Lsame))) (l_Lsame : K.lookup f_Lsame = some ⟨oc_Lsame, od_Lsame, .func (PySem.W.fnOf "_law_same" "_law_same" (defArgs s_Lsame) (defBody s_Lsame) (defScope s_Lsame) .none kV_Lsame dc_Lsame pm_Lsame an_Lsame cd_Lsame ct_Lsame), sl_Lsame⟩) (c_Lsame : PySem.W.codeIn K cd_Lsame "_law_same" = true) (k_Lsame : PySem.W.keepIn K (.ref f_Lsame) = true)
    {od_Reader_init an_Reader_init : Option Addr} {sl_Reader_init : Array (Option Value)} {oc_Reader_init kV_Reader_init dc_Reader_init pm_Reader_init cd_Reader_init ct_Reader_init : Value} {f_Reader_init : Addr}
    (a_Reader_init : PySem.W.findIn K (.ref c_Reader) "__init__" = some (some (.ref f_Reader_init))) (i_Reader_init : PySem.W.isFn K (.ref f_Reader_init) = true) (l_Reader_init : K.lookup f_Reader_init = some ⟨oc_Reader_init, od_Reader_init, .func (PySem.W.fnOf "__init__" "Reader.__init__" (defArgs s_Reader_init) (defBody s_Reader_init) (defScope s_Reader_init) .none kV_Reader_init dc_Reader_init pm_Reader_init an_Reader_init cd_Reader_init ct_Reader_init), sl_Reader_init⟩) (c_Reader_init : PySem.W.codeIn K cd_Reader_init "Reader.__init__" = true) (k_Reader_init : PySem.W.keepIn K (.ref f_Reader_init) = true)
    {od_Reader_new an_Reader_new : Option Addr} {sl_Reader_new : Array (Option Value)} {oc_Reader_new kV_Reader_new dc_Reader_new pm_Reader_new cd_Reader_new ct_Reader_new : Value} {f_Reader_new : Addr}
    (a_Reader_new : PySem.W.findIn K (.ref c_Reader) "new" = some (some (.ref f_Reader_new))) (i_Reader_new : PySem.W.isFn K (.ref f_Reader_new) = true) (l_Reader_new : K.lookup f_Reader_new = some ⟨oc_Reader_new, od_Reader_new, .func (PySem.W.fnOf "new" "Reader.new" (defArgs s_Reader_new) (defBody s_Reader_new) (defScope s_Reader_new) .none kV_Reader_new dc_Reader_new pm_Reader_new an_Reader_new cd_Reader_new ct_Reader_new), sl_Reader_new⟩) (c_Reader_new : PySem.W.codeIn K cd_Reader_new "Reader.new" = true) (k_Reader_new : PySem.W.keepIn K (.ref f_Reader_new) = true)
    {od_Reader_read an_Reader_read : Option Addr} {sl_Reader_read : Array (Option Value)} {oc_Reader_read kV_Reader_read dc_Reader_read pm_Reader_read cd_Reader_read ct_Reader_read : Value} {f_Reader_read : Addr}
    (a_Reader_read : PySem.W.findIn K (.ref c_Reader) "read" = some (some (.ref f_Reader_read))) (i_Reader_read : PySem.W.isFn K (.ref f_Reader_read) = true) (l_Reader_read : K.lookup f_Reader_read = some ⟨oc_Reader_read, od_Reader_read, .func (PySem.W.fnOf "read" "Reader.read" (defArgs s_Reader_read) (defBody s_Reader_read) (defScope s_Reader_read) .none kV_Reader_read dc_Reader_read pm_Reader_read an_Reader_read cd_Reader_read ct_Reader_read), sl_Reader_read⟩) (c_Reader_read : PySem.W.codeIn K cd_Reader_read "Reader.read" = true) (k_Reader_read : PySem.W.keepIn K (.ref f_Reader_read) = true)
    {od_Reader_meet an_Reader_meet : Option Addr} {sl_Reader_meet : Array (Option Value)} {oc_Reader_meet kV_Reader_meet dc_Reader_meet pm_Reader_meet cd_Reader_meet ct_Reader_meet : Value} {f_Reader_meet : Addr}
    (a_Reader_meet : PySem.W.findIn K (.ref c_Reader) "meet" = some (some (.ref f_Reader_meet))) (i_Reader_meet : PySem.W.isFn K (.ref f_Reader_meet) = true) (l_Reader_meet : K.lookup f_Reader_meet = some ⟨oc_Reader_meet, od_Reader_meet, .func (PySem.W.fnOf "meet" "Reader.meet" (defArgs s_Reader_meet) (defBody s_Reader_meet) (defScope s_Reader_meet) .none kV_Reader_meet dc_Reader_meet pm_Reader_meet an_Reader_meet cd_Reader_meet ct_Reader_meet), sl_Reader_meet⟩) (c_Reader_meet : PySem.W.codeIn K cd_Reader_meet "Reader.meet" = true) (k_Reader_meet : PySem.W.keepIn K (.ref f_Reader_meet) = true)
    {od_Reader_ids an_Reader_ids : Option Addr} {sl_Reader_ids : Array (Option Value)} {oc_Reader_ids kV_Reader_ids dc_Reader_ids pm_Reader_ids cd_Reader_ids ct_Reader_ids : Value} {f_Reader_ids : Addr}
    (a_Reader_ids : PySem.W.findIn K (.ref c_Reader) "ids" = some (some (.ref f_Reader_ids))) (i_Reader_ids : PySem.W.isFn K (.ref f_Reader_ids) = true) (l_Reader_ids : K.lookup f_Reader_ids = some ⟨oc_Reader_ids, od_Reader_ids, .func (PySem.W.fnOf "ids" "Reader.ids" (defArgs s_Reader_ids) (defBody s_Reader_ids) (defScope s_Reader_ids) .none kV_Reader_ids dc_Reader_ids pm_Reader_ids an_Reader_ids cd_Reader_ids ct_Reader_ids), sl_Reader_ids⟩) (c_Reader_ids : PySem.W.codeIn K cd_Reader_ids "Reader.ids" = true) (k_Reader_ids : PySem.W.keepIn K (.ref f_Reader_ids) = true)
    {od_Lidents an_Lidents : Option Addr} {sl_Lidents : Array (Option Value)} {oc_Lidents kV_Lidents dc_Lidents pm_Lidents cd_Lidents ct_Lidents : Value} {f_Lidents : Addr}
    (a_Lidents : PySem.W.nsIn K mainGlobals "_law_idents" = some (some (.ref f_Lidents))) (l_Lidents : K.lookup f_Lidents = some ⟨oc_Lidents, od_Lidents, .func (PySem.W.fnOf "_law_idents" "_law_idents" (defArgs s_Lidents) (defBody s_Lidents) (defScope s_Lidents) .none kV_Lidents dc_Lidents pm_Lidents an_Lidents cd_Lidents ct_Lidents), sl_Lidents⟩) (c_Lidents : PySem.W.codeIn K cd_Lidents "_law_idents" = true) (k_Lidents : PySem.W.keepIn K (.ref f_Lidents) = true)
    {od_Lview an_Lview : Option Addr} {sl_Lview : Array (Option Value)} {oc_Lview kV_Lview dc_Lview pm_Lview cd_Lview ct_Lview : Value} {f_Lview : Addr}
    (a_Lview : PySem.W.nsIn K mainGlobals "_law_view" = some (some (.ref f_Lview))) (l_Lview : K.lookup f_Lview = some ⟨oc_Lview, od_Lview, .func (PySem.W.fnOf "_law_view" "_law_view" (defArgs s_Lview) (defBody s_Lview) (defScope s_Lview) .none kV_Lview dc_Lview pm_Lview an_Lview cd_Lview ct_Lview), sl_Lview⟩) (c_Lview : PySem.W.codeIn K cd_Lview "_law_view" = true) (k_Lview : PySem.W.keepIn K (.ref f_Lview) = true)
    {od_Lchange an_Lchange : Option Addr} {sl_Lchange : Array (Option Value)} {oc_Lchange kV_Lchange dc_Lchange pm_Lchange cd_Lchange ct_Lchange : Value} {f_Lchange : Addr}
    (a_Lchange : PySem.W.nsIn K mainGlobals "_law_change" = some (some (.ref f_Lchange))) (l_Lchange : K.lookup f_Lchange = some ⟨oc_Lchange, od_Lchange, .func (PySem.W.fnOf "_law_change" "_law_change" (defArgs s_Lchange) (defBody s_Lchange) (defScope s_Lchange) .none kV_Lchange dc_Lchange pm_Lchange an_Lchange cd_Lchange ct_Lchange), sl_Lchange⟩) (c_Lchange : PySem.W.codeIn K cd_Lchange "_law_change" = true) (k_Lchange : PySem.W.keepIn K (.ref f_Lchange) = true)
    {od_Lnew_due an_Lnew_due : Option Addr} {sl_Lnew_due : Array (Option Value)} {oc_Lnew_due kV_Lnew_due dc_Lnew_due pm_Lnew_due cd_Lnew_due ct_Lnew_due : Value} {f_Lnew_due : Addr}
    (a_Lnew_due : PySem.W.nsIn K mainGlobals "_law_new_due" = some (some (.ref f_Lnew_due))) (l_Lnew_due : K.lookup f_Lnew_due = some ⟨oc_Lnew_due, od_Lnew_due, .func (PySem.W.fnOf "_law_new_due" "_law_new_due" (defArgs s_Lnew_due) (defBody s_Lnew_due) (defScope s_Lnew_due) .none kV_Lnew_due dc_Lnew_due pm_Lnew_due an_Lnew_due cd_Lnew_due ct_Lnew_due), sl_Lnew_due⟩) (c_Lnew_due : PySem.W.codeIn K cd_Lnew_due "_law_new_due" = true) (k_Lnew_due : PySem.W.keepIn K (.ref f_Lnew_due) = true)
    {od_Llook an_Llook : Option Addr} {sl_Llook : Array (Option Value)} {oc_Llook kV_Llook dc_Llook pm_Llook cd_Llook ct_Llook : Value} {f_Llook : Addr}
    (a_Llook : PySem.W.nsIn K mainGlobals "_law_look" = some (some (.ref f_Llook))) (l_Llook : K.lookup f_Llook = some ⟨oc_Llook, od_Llook, .func (PySem.W.fnOf "_law_look" "_law_look" (defArgs s_Llook) (defBody s_Llook) (defScope s_Llook) .none kV_Llook dc_Llook pm_Llook an_Llook cd_Llook ct_Llook), sl_Llook⟩) (c_Llook : PySem.W.codeIn K cd_Llook "_law_look" = true) (k_Llook : PySem.W.keepIn K (.ref f_Llook) = true)
    {od_Ljoin an_Ljoin : Option Addr} {sl_Ljoin : Array (Option Value)} {oc_Ljoin kV_Ljoin dc_Ljoin pm_Ljoin cd_Ljoin ct_Ljoin : Value} {f_Ljoin : Addr}
    (a_Ljoin : PySem.W.nsIn K mainGlobals "_law_join" = some (some (.ref f_Ljoin))) (l_Ljoin : K.lookup f_Ljoin = some ⟨oc_Ljoin, od_Ljoin, .func (PySem.W.fnOf "_law_join" "_law_join" (defArgs s_Ljoin) (defBody s_Ljoin) (defScope s_Ljoin) .none kV_Ljoin dc_Ljoin pm_Ljoin an_Ljoin cd_Ljoin ct_Ljoin), sl_Ljoin⟩) (c_Ljoin : PySem.W.codeIn K cd_Ljoin "_law_join" = true) (k_Ljoin : PySem.W.keepIn K (.ref f_Ljoin) = true)
    {od_Lall_right an_Lall_right : Option Addr} {sl_Lall_right : Array (Option Value)} {oc_Lall_right kV_Lall_right dc_Lall_right pm_Lall_right cd_Lall_right ct_Lall_right : Value} {f_Lall_right : Addr}
    (a_Lall_right : PySem.W.nsIn K mainGlobals "_law_all_right" = some (some (.ref f_Lall_right))) (l_Lall_right : K.lookup f_Lall_right = some ⟨oc_Lall_right, od_Lall_right, .func (PySem.W.fnOf "_law_all_right" "_law_all_right" (defArgs s_Lall_right) (defBody s_Lall_right) (defScope s_Lall_right) .none kV_Lall_right dc_Lall_right pm_Lall_right an_Lall_right cd_Lall_right ct_Lall_right), sl_Lall_right⟩) (c_Lall_right : PySem.W.codeIn K cd_Lall_right "_law_all_right" = true) (k_Lall_right : PySem.W.keepIn K (.ref f_Lall_right) = true)
    {od_Lstep an_Lstep : Option Addr} {sl_Lstep : Array (Option Value)} {oc_Lstep kV_Lstep dc_Lstep pm_Lstep cd_Lstep ct_Lstep : Value} {f_Lstep : Addr}
    (a_Lstep : PySem.W.nsIn K mainGlobals "_law_step" = some (some (.ref f_Lstep))) (l_Lstep : K.lookup f_Lstep = some ⟨oc_Lstep, od_Lstep, .func (PySem.W.fnOf "_law_step" "_law_step" (defArgs s_Lstep) (defBody s_Lstep) (defScope s_Lstep) .none kV_Lstep dc_Lstep pm_Lstep an_Lstep cd_Lstep ct_Lstep), sl_Lstep⟩) (c_Lstep : PySem.W.codeIn K cd_Lstep "_law_step" = true) (k_Lstep : PySem.W.keepIn K (.ref f_Lstep) = true)
    {od_Lchain an_Lchain : Option Addr} {sl_Lchain : Array (Option Value)} {oc_Lchain kV_Lchain dc_Lchain pm_Lchain cd_Lchain ct_Lchain : Value} {f_Lchain : Addr}
    (a_Lchain : PySem.W.nsIn K mainGlobals "_law_chain" = some (some (.ref f_Lchain))) (l_Lchain : K.lookup f_Lchain = some ⟨oc_Lchain, od_Lchain, .func (PySem.W.fnOf "_law_chain" "_law_chain" (defArgs s_Lchain) (defBody s_Lchain) (defScope s_Lchain) .none kV_Lchain dc_Lchain pm_Lchain an_Lchain cd_Lchain ct_Lchain), sl_Lchain⟩) (c_Lchain : PySem.W.codeIn K cd_Lchain "_law_chain" = true) (k_Lchain : PySem.W.keepIn K (.ref f_Lchain) = true)
    {od_Ltour an_Ltour : Option Addr} {sl_Ltour : Array (Option Value)} {oc_Ltour kV_Ltour dc_Ltour pm_Ltour cd_Ltour ct_Ltour : Value} {f_Ltour : Addr}
    (a_Ltour : PySem.W.nsIn K mainGlobals "_law_tour" = some (some (.ref f_Ltour))) (l_Ltour : K.lookup f_Ltour = some ⟨oc_Ltour, od_Ltour, .func (PySem.W.fnOf "_law_tour" "_law_tour" (defArgs s_Ltour) (defBody s_Ltour) (defScope s_Ltour) .none kV_Ltour dc_Ltour pm_Ltour an_Ltour cd_Ltour ct_Ltour), sl_Ltour⟩) (c_Ltour : PySem.W.codeIn K cd_Ltour "_law_tour" = true) (k_Ltour : PySem.W.keepIn K (.ref f_Ltour) = true)
    {od_law an_law : Option Addr} {sl_law : Array (Option Value)} {oc_law kV_law dc_law pm_law cd_law ct_law : Value} {f_law : Addr}
    (a_law : PySem.W.nsIn K mainGlobals "law" = some (some (.ref f_law))) (l_law : K.lookup f_law = some ⟨oc_law, od_law, .func (PySem.W.fnOf "law" "law" (defArgs s_law) (defBody s_law) (defScope s_law) .none kV_law dc_law pm_law an_law cd_law ct_law), sl_law⟩) (c_law : PySem.W.codeIn K cd_law "law" = true) (k_law : PySem.W.keepIn K (.ref f_law) = true)
    (z_abs : PySem.W.nsIn K mainGlobals "abs" = some none)
    (z_bool : PySem.W.nsIn K mainGlobals "bool" = some none)
    (z_int : PySem.W.nsIn K mainGlobals "int" = some none)
    (z_isinstance : PySem.W.nsIn K mainGlobals "isinstance" = some none)
    (z_len : PySem.W.nsIn K mainGlobals "len" = some none)
    (z_list : PySem.W.nsIn K mainGlobals "list" = some none)
    (z_max : PySem.W.nsIn K mainGlobals "max" = some none)
    (z_range : PySem.W.nsIn K mainGlobals "range" = some none)
    (z_sorted : PySem.W.nsIn K mainGlobals "sorted" = some none)
    (z_str : PySem.W.nsIn K mainGlobals "str" = some none)
    (z_tuple : PySem.W.nsIn K mainGlobals "tuple" = some none) :
    ∃ fd : FuncData, (∀ (s : Shared) (v : Value), BindsTo s fd ⟨[v], []⟩ [("script", v)]) ∧ ∀ base : Heap, K.In base → base.Ns mainGlobals mg → FnOk l.prog w K mg base CX0 17 fa fd ["script"] (lSp K sp_law) := by
  have e : f_law = fa := by
    have e := (PySem.W.mg_of X G a_law).symm.trans hfa
    injection e with e
    injection e
  subst e
  have ec_Reader : clsA K "Reader" = c_Reader := by
    unfold clsA
    rw [u_Reader]
  subst ec_Reader
  have F_Lmix := fun_mk (st := s_Lmix) l_Lmix c_Lmix k_Lmix
  have b_Lmix := F_Lmix.binds (ps := ["seed", "turn"]) fun _ _ _ _ _ _ us hl => match us, hl with | [_, _], _ => rfl
  have F_Lsource := fun_mk (st := s_Lsource) l_Lsource c_Lsource k_Lsource
  have b_Lsource := F_Lsource.binds (ps := ["script"]) fun _ _ _ _ _ _ us hl => match us, hl with | [_], _ => rfl
  have F_Ldraw := fun_mk (st := s_Ldraw) l_Ldraw c_Ldraw k_Ldraw
  have b_Ldraw := F_Ldraw.binds (ps := ["source", "many"]) fun _ _ _ _ _ _ us hl => match us, hl with | [_, _], _ => rfl
  have F_Lpick := fun_mk (st := s_Lpick) l_Lpick c_Lpick k_Lpick
  have b_Lpick := F_Lpick.binds (ps := ["source", "row"]) fun _ _ _ _ _ _ us hl => match us, hl with | [_, _], _ => rfl
  have F_Lshuffled := fun_mk (st := s_Lshuffled) l_Lshuffled c_Lshuffled k_Lshuffled
  have b_Lshuffled := F_Lshuffled.binds (ps := ["source", "row"]) fun _ _ _ _ _ _ us hl => match us, hl with | [_, _], _ => rfl
  have F_Lnew_name := fun_mk (st := s_Lnew_name) l_Lnew_name c_Lnew_name k_Lnew_name
  have b_Lnew_name := F_Lnew_name.binds (ps := ["source", "used"]) fun _ _ _ _ _ _ us hl => match us, hl with | [_, _], _ => rfl
  have F_Lnames := fun_mk (st := s_Lnames) l_Lnames c_Lnames k_Lnames
  have b_Lnames := F_Lnames.binds (ps := ["source", "many"]) fun _ _ _ _ _ _ us hl => match us, hl with | [_, _], _ => rfl
  have F_Lis_int := fun_mk (st := s_Lis_int) l_Lis_int c_Lis_int k_Lis_int
  have b_Lis_int := F_Lis_int.binds (ps := ["value"]) fun _ _ _ _ _ _ us hl => match us, hl with | [_], _ => rfl
  have F_Lsame := fun_mk (st := s_Lsame) l_Lsame c_Lsame k_Lsame
  have b_Lsame := F_Lsame.binds (ps := ["actual", "due"]) fun _ _ _ _ _ _ us hl => match us, hl with | [_, _], _ => rfl
  have F_Reader_init := fun_mk (st := s_Reader_init) l_Reader_init c_Reader_init k_Reader_init
  have b_Reader_init := F_Reader_init.binds (ps := ["self"]) fun _ _ _ _ _ _ us hl => match us, hl with | [_], _ => rfl
  have F_Reader_new := fun_mk (st := s_Reader_new) l_Reader_new c_Reader_new k_Reader_new
  have b_Reader_new := F_Reader_new.binds (ps := ["self", "view"]) fun _ _ _ _ _ _ us hl => match us, hl with | [_, _], _ => rfl
  have F_Reader_read := fun_mk (st := s_Reader_read) l_Reader_read c_Reader_read k_Reader_read
  have b_Reader_read := F_Reader_read.binds (ps := ["self", "ident"]) fun _ _ _ _ _ _ us hl => match us, hl with | [_, _], _ => rfl
  have F_Reader_meet := fun_mk (st := s_Reader_meet) l_Reader_meet c_Reader_meet k_Reader_meet
  have b_Reader_meet := F_Reader_meet.binds (ps := ["self", "other"]) fun _ _ _ _ _ _ us hl => match us, hl with | [_, _], _ => rfl
  have F_Reader_ids := fun_mk (st := s_Reader_ids) l_Reader_ids c_Reader_ids k_Reader_ids
  have b_Reader_ids := F_Reader_ids.binds (ps := ["self"]) fun _ _ _ _ _ _ us hl => match us, hl with | [_], _ => rfl
  have F_Lidents := fun_mk (st := s_Lidents) l_Lidents c_Lidents k_Lidents
  have b_Lidents := F_Lidents.binds (ps := ["source"]) fun _ _ _ _ _ _ us hl => match us, hl with | [_], _ => rfl
  have F_Lview := fun_mk (st := s_Lview) l_Lview c_Lview k_Lview
  have b_Lview := F_Lview.binds (ps := ["source", "idents"]) fun _ _ _ _ _ _ us hl => match us, hl with | [_, _], _ => rfl
  have F_Lchange := fun_mk (st := s_Lchange) l_Lchange c_Lchange k_Lchange
  have b_Lchange := F_Lchange.binds (ps := ["source", "view", "idents"]) fun _ _ _ _ _ _ us hl => match us, hl with | [_, _, _], _ => rfl
  have F_Lnew_due := fun_mk (st := s_Lnew_due) l_Lnew_due c_Lnew_due k_Lnew_due
  have b_Lnew_due := F_Lnew_due.binds (ps := ["view", "ids"]) fun _ _ _ _ _ _ us hl => match us, hl with | [_, _], _ => rfl
  have F_Llook := fun_mk (st := s_Llook) l_Llook c_Llook k_Llook
  have b_Llook := F_Llook.binds (ps := ["source", "reader", "ids", "view", "share"]) fun _ _ _ _ _ _ us hl => match us, hl with | [_, _, _, _, _], _ => rfl
  have F_Ljoin := fun_mk (st := s_Ljoin) l_Ljoin c_Ljoin k_Ljoin
  have b_Ljoin := F_Ljoin.binds (ps := ["readers", "rows", "one", "two"]) fun _ _ _ _ _ _ us hl => match us, hl with | [_, _, _, _], _ => rfl
  have F_Lall_right := fun_mk (st := s_Lall_right) l_Lall_right c_Lall_right k_Lall_right
  have b_Lall_right := F_Lall_right.binds (ps := ["readers", "rows"]) fun _ _ _ _ _ _ us hl => match us, hl with | [_, _], _ => rfl
  have F_Lstep := fun_mk (st := s_Lstep) l_Lstep c_Lstep k_Lstep
  have b_Lstep := F_Lstep.binds (ps := ["source", "readers", "rows", "many", "views", "idents"]) fun _ _ _ _ _ _ us hl => match us, hl with | [_, _, _, _, _, _], _ => rfl
  have F_Lchain := fun_mk (st := s_Lchain) l_Lchain c_Lchain k_Lchain
  have b_Lchain := F_Lchain.binds (ps := ["readers", "rows", "many"]) fun _ _ _ _ _ _ us hl => match us, hl with | [_, _, _], _ => rfl
  have F_Ltour := fun_mk (st := s_Ltour) l_Ltour c_Ltour k_Ltour
  have b_Ltour := F_Ltour.binds (ps := ["source", "readers", "rows", "many", "views"]) fun _ _ _ _ _ _ us hl => match us, hl with | [_, _, _, _, _], _ => rfl
  have F_law := fun_mk (st := s_law) l_law c_law k_law
  have b_law := F_law.binds (ps := ["script"]) fun _ _ _ _ _ _ us hl => match us, hl with | [_], _ => rfl
  let T : Fx K mg := { c_Reader := ⟨x1_Reader, x2_Reader, x3_Reader, x4_Reader⟩, g_Reader := PySem.W.mg_of X G u_Reader, n_Reader_read_ids := nf_Reader_read_ids, a_Lmix := f_Lmix, d_Lmix := _, F_Lmix := F_Lmix, b_Lmix := b_Lmix, g_Lmix := PySem.W.mg_of X G a_Lmix, a_Lsource := f_Lsource, d_Lsource := _, F_Lsource := F_Lsource, b_Lsource := b_Lsource, g_Lsource := PySem.W.mg_of X G a_Lsource, a_Ldraw := f_Ldraw, d_Ldraw := _, F_Ldraw := F_Ldraw, b_Ldraw := b_Ldraw, g_Ldraw := PySem.W.mg_of X G a_Ldraw, a_Lpick := f_Lpick, d_Lpick := _, F_Lpick := F_Lpick, b_Lpick := b_Lpick, g_Lpick := PySem.W.mg_of X G a_Lpick, a_Lshuffled := f_Lshuffled, d_Lshuffled := _, F_Lshuffled := F_Lshuffled, b_Lshuffled := b_Lshuffled, g_Lshuffled := PySem.W.mg_of X G a_Lshuffled, a_Lnew_name := f_Lnew_name, d_Lnew_name := _, F_Lnew_name := F_Lnew_name, b_Lnew_name := b_Lnew_name, g_Lnew_name := PySem.W.mg_of X G a_Lnew_name, a_Lnames := f_Lnames, d_Lnames := _, F_Lnames := F_Lnames, b_Lnames := b_Lnames, g_Lnames := PySem.W.mg_of X G a_Lnames, a_Lis_int := f_Lis_int, d_Lis_int := _, F_Lis_int := F_Lis_int, b_Lis_int := b_Lis_int, g_Lis_int := PySem.W.mg_of X G a_Lis_int, a_Lsame := f_Lsame, d_Lsame := _, F_Lsame := F_Lsame, b_Lsame := b_Lsame, g_Lsame := PySem.W.mg_of X G a_Lsame, a_Reader_init := f_Reader_init, d_Reader_init := _, F_Reader_init := F_Reader_init, b_Reader_init := b_Reader_init, MK_Reader := ⟨mk_Reader, a_Reader_init, i_Reader_init, kc_Reader⟩, a_Reader_new := f_Reader_new, d_Reader_new := _, F_Reader_new := F_Reader_new, b_Reader_new := b_Reader_new, M_Reader_new := ⟨a_Reader_new, i_Reader_new, k_Reader_new⟩, a_Reader_read := f_Reader_read, d_Reader_read := _, F_Reader_read := F_Reader_read, b_Reader_read := b_Reader_read, M_Reader_read := ⟨a_Reader_read, i_Reader_read, k_Reader_read⟩, a_Reader_meet := f_Reader_meet, d_Reader_meet := _, F_Reader_meet := F_Reader_meet, b_Reader_meet := b_Reader_meet, M_Reader_meet := ⟨a_Reader_meet, i_Reader_meet, k_Reader_meet⟩, a_Reader_ids := f_Reader_ids, d_Reader_ids := _, F_Reader_ids := F_Reader_ids, b_Reader_ids := b_Reader_ids, M_Reader_ids := ⟨a_Reader_ids, i_Reader_ids, k_Reader_ids⟩, a_Lidents := f_Lidents, d_Lidents := _, F_Lidents := F_Lidents, b_Lidents := b_Lidents, g_Lidents := PySem.W.mg_of X G a_Lidents, a_Lview := f_Lview, d_Lview := _, F_Lview := F_Lview, b_Lview := b_Lview, g_Lview := PySem.W.mg_of X G a_Lview, a_Lchange := f_Lchange, d_Lchange := _, F_Lchange := F_Lchange, b_Lchange := b_Lchange, g_Lchange := PySem.W.mg_of X G a_Lchange, a_Lnew_due := f_Lnew_due, d_Lnew_due := _, F_Lnew_due := F_Lnew_due, b_Lnew_due := b_Lnew_due, g_Lnew_due := PySem.W.mg_of X G a_Lnew_due, a_Llook := f_Llook, d_Llook := _, F_Llook := F_Llook, b_Llook := b_Llook, g_Llook := PySem.W.mg_of X G a_Llook, a_Ljoin := f_Ljoin, d_Ljoin := _, F_Ljoin := F_Ljoin, b_Ljoin := b_Ljoin, g_Ljoin := PySem.W.mg_of X G a_Ljoin, a_Lall_right := f_Lall_right, d_Lall_right := _, F_Lall_right := F_Lall_right, b_Lall_right := b_Lall_right, g_Lall_right := PySem.W.mg_of X G a_Lall_right, a_Lstep := f_Lstep, d_Lstep := _, F_Lstep := F_Lstep, b_Lstep := b_Lstep, g_Lstep := PySem.W.mg_of X G a_Lstep, a_Lchain := f_Lchain, d_Lchain := _, F_Lchain := F_Lchain, b_Lchain := b_Lchain, g_Lchain := PySem.W.mg_of X G a_Lchain, a_Ltour := f_Ltour, d_Ltour := _, F_Ltour := F_Ltour, b_Ltour := b_Ltour, g_Ltour := PySem.W.mg_of X G a_Ltour, a_law := f_law, d_law := _, F_law := F_law, b_law := b_law, g_law := PySem.W.mg_of X G a_law, m_abs := PySem.W.mg_none_of X G z_abs, m_bool := PySem.W.mg_none_of X G z_bool, m_int := PySem.W.mg_none_of X G z_int, m_isinstance := PySem.W.mg_none_of X G z_isinstance, m_len := PySem.W.mg_none_of X G z_len, m_list := PySem.W.mg_none_of X G z_list, m_max := PySem.W.mg_none_of X G z_max, m_range := PySem.W.mg_none_of X G z_range, m_sorted := PySem.W.mg_none_of X G z_sorted, m_str := PySem.W.mg_none_of X G z_str, m_tuple := PySem.W.mg_none_of X G z_tuple }
  exact ⟨T.d_law, fun s v => .of_eq rfl, fun base _ _ => ok_law (P := l.prog) (w := w) (base := base) T⟩
end CK69
open PySem PySem.W PyProof.Rows
set_option maxHeartbeats 0 in
theorem PySem.Challenge.cw_criermoot_k69_whole_readers_holds : PySem.Challenge.rw_criermoot_k69_whole_readers.Holds := by
  w_on; o_law; k_head; (case hw => w_witness2)
  k_fill
  refine L2.walk_ofK (l := PySem.Challenge.rw_criermoot_k69_whole_readers) (n := 63) (k := 17) (x := "script") (CX := L2.CX0) (sp := fun K => DL.lSp K CK69.sp_law) rfl (by decide) rfl ⟨rfl, by decide, by decide⟩ (fun w h Y => PySem.W.kIn_of Y) ?F CK69.fin (fun _ _ _ _ h => h)
  case F =>
    intro w mg fa h KX G hmg
    refine' CK69.all_mk KX G hmg ?u_Reader ?x1_Reader ?x2_Reader ?x3_Reader ?x4_Reader ?mk_Reader ?kc_Reader ?nf_Reader_read_ids ?a_Lmix ?l_Lmix ?c_Lmix ?k_Lmix ?a_Lsource ?l_Lsource ?c_Lsource ?k_Lsource ?a_Ldraw ?l_Ldraw ?c_Ldraw ?k_Ldraw ?a_Lpick ?l_Lpick ?c_Lpick ?k_Lpick ?a_Lshuffled ?l_Lshuffled ?c_Lshuffled ?k_Lshuffled ?a_Lnew_name ?l_Lnew_name ?c_Lnew_name ?k_Lnew_name ?a_Lnames ?l_Lnames ?c_Lnames ?k_Lnames ?a_Lis_int ?l_Lis_int ?c_Lis_int ?k_Lis_int ?a_Lsame ?l_Lsame ?c_Lsame ?k_Lsame ?a_Reader_init ?i_Reader_init ?l_Reader_init ?c_Reader_init ?k_Reader_init ?a_Reader_new ?i_Reader_new ?l_Reader_new ?c_Reader_new ?k_Reader_new ?a_Reader_read ?i_Reader_read ?l_Reader_read ?c_Reader_read ?k_Reader_read ?a_Reader_meet ?i_Reader_meet ?l_Reader_meet ?c_Reader_meet ?k_Reader_meet ?a_Reader_ids ?i_Reader_ids ?l_Reader_ids ?c_Reader_ids ?k_Reader_ids ?a_Lidents ?l_Lidents ?c_Lidents ?k_Lidents ?a_Lview ?l_Lview ?c_Lview ?k_Lview ?a_Lchange ?l_Lchange ?c_Lchange ?k_Lchange ?a_Lnew_due ?l_Lnew_due ?c_Lnew_due ?k_Lnew_due ?a_Llook ?l_Llook ?c_Llook ?k_Llook ?a_Ljoin ?l_Ljoin ?c_Ljoin ?k_Ljoin ?a_Lall_right ?l_Lall_right ?c_Lall_right ?k_Lall_right ?a_Lstep ?l_Lstep ?c_Lstep ?k_Lstep ?a_Lchain ?l_Lchain ?c_Lchain ?k_Lchain ?a_Ltour ?l_Ltour ?c_Ltour ?k_Ltour ?a_law ?l_law ?c_law ?k_law ?z_abs ?z_bool ?z_int ?z_isinstance ?z_len ?z_list ?z_max ?z_range ?z_sorted ?z_str ?z_tuple
    (case u_Reader => k_is); (case x1_Reader => k_is); (case x2_Reader => k_is); (case x3_Reader => k_is); (case x4_Reader => k_is); (case mk_Reader => k_is); (case kc_Reader => k_is); (case nf_Reader_read_ids => k_is); (case a_Lmix => k_is); (case l_Lmix => k_is); (case c_Lmix => k_is); (case k_Lmix => k_is); (case a_Lsource => k_is); (case l_Lsource => k_is); (case c_Lsource => k_is); (case k_Lsource => k_is); (case a_Ldraw => k_is); (case l_Ldraw => k_is); (case c_Ldraw => k_is); (case k_Ldraw => k_is); (case a_Lpick => k_is); (case l_Lpick => k_is); (case c_Lpick => k_is); (case k_Lpick => k_is); (case a_Lshuffled => k_is); (case l_Lshuffled => k_is); (case c_Lshuffled => k_is); (case k_Lshuffled => k_is); (case a_Lnew_name => k_is); (case l_Lnew_name => k_is); (case c_Lnew_name => k_is); (case k_Lnew_name => k_is); (case a_Lnames => k_is); (case l_Lnames => k_is); (case c_Lnames => k_is); (case k_Lnames => k_is); (case a_Lis_int => k_is); (case l_Lis_int => k_is); (case c_Lis_int => k_is); (case k_Lis_int => k_is); (case a_Lsame => k_is); (case l_Lsame => k_is); (case c_Lsame => k_is); (case k_Lsame => k_is); (case a_Reader_init => k_is); (case i_Reader_init => k_is); (case l_Reader_init => k_is); (case c_Reader_init => k_is); (case k_Reader_init => k_is); (case a_Reader_new => k_is); (case i_Reader_new => k_is); (case l_Reader_new => k_is); (case c_Reader_new => k_is); (case k_Reader_new => k_is); (case a_Reader_read => k_is); (case i_Reader_read => k_is); (case l_Reader_read => k_is); (case c_Reader_read => k_is); (case k_Reader_read => k_is); (case a_Reader_meet => k_is); (case i_Reader_meet => k_is); (case l_Reader_meet => k_is); (case c_Reader_meet => k_is); (case k_Reader_meet => k_is); (case a_Reader_ids => k_is); (case i_Reader_ids => k_is); (case l_Reader_ids => k_is); (case c_Reader_ids => k_is); (case k_Reader_ids => k_is); (case a_Lidents => k_is); (case l_Lidents => k_is); (case c_Lidents => k_is); (case k_Lidents => k_is); (case a_Lview => k_is); (case l_Lview => k_is); (case c_Lview => k_is); (case k_Lview => k_is); (case a_Lchange => k_is); (case l_Lchange => k_is); (case c_Lchange => k_is); (case k_Lchange => k_is); (case a_Lnew_due => k_is); (case l_Lnew_due => k_is); (case c_Lnew_due => k_is); (case k_Lnew_due => k_is); (case a_Llook => k_is); (case l_Llook => k_is); (case c_Llook => k_is); (case k_Llook => k_is); (case a_Ljoin => k_is); (case l_Ljoin => k_is); (case c_Ljoin => k_is); (case k_Ljoin => k_is); (case a_Lall_right => k_is); (case l_Lall_right => k_is); (case c_Lall_right => k_is); (case k_Lall_right => k_is); (case a_Lstep => k_is); (case l_Lstep => k_is); (case c_Lstep => k_is); (case k_Lstep => k_is); (case a_Lchain => k_is); (case l_Lchain => k_is); (case c_Lchain => k_is); (case k_Lchain => k_is); (case a_Ltour => k_is); (case l_Ltour => k_is); (case c_Ltour => k_is); (case k_Ltour => k_is); (case a_law => k_is); (case l_law => k_is); (case c_law => k_is); (case k_law => k_is); (case z_abs => k_is); (case z_bool => k_is); (case z_int => k_is); (case z_isinstance => k_is); (case z_len => k_is); (case z_list => k_is); (case z_max => k_is); (case z_range => k_is); (case z_sorted => k_is); (case z_str => k_is); (case z_tuple => k_is)
