import PyProof.Rows.All
import Wide.All
import OpenK.AllK
import Wide.FinOn
import HandS.ForMost
import HandS.IsInst
import HandS.TupAny
import HandS.Deep
import HandS.Replace
import HandS.NoneIn
import HandS.TupMul
import KE.IntTextLaws
import KE.KIntText
import KE.DataCmp
import KE.SortCalls
import KE.SortData
import KE.DataMinMax
import HandS.More
import HandS.Property
import HandS.Conv
import KE.KDictCopyH
import HandS.TupLen
import HandS.SetFor
import HandS.Iter
import HandS.WideBits
import PyProof.StrLawsReplace
import HandS.StrMore
import HandS.ExcInit
import HandS.ExcField
import HandS.ExcIs
import HandS.ExcOwn
import KE.KExcSuper
import HandS.WordsExc
import HandS.RaiseMore
import PySem.Challenge.RW_criermoot_k39_words_read
set_option Elab.async false
set_option linter.all false
set_option maxRecDepth 100000
set_option maxHeartbeats 2000000

namespace DL
open PySem L2
/-- immutable data, deep; a reference to a mutable object -/
inductive D where
  | non | bl (b : Bool) | int (i : Int) | str (x : Str) | tup (ds : List D) | ref (a : Addr) | klst (ds : List D)
/-- mutable objects -/
inductive MO where
  | lst (ds : List D) | ro (ds : List D) | ins (n : Str) (fs : List (Str × D)) | dct (kvs : List (Key × D)) | dtt (kvs : List (List Key × D)) | dctf (kvs : List (Key × D)) | dttf (kvs : List (List Key × D)) | xd (fs : List (Str × D))
abbrev GS := Addr → Option MO
def gup (g : GS) (a : Addr) (o : MO) : GS := fun b => if b = a then some o else g b
theorem gup_same {g : GS} {a : Addr} {o : MO} : gup g a o a = some o := by unfold gup; rw [if_pos rfl]
theorem gup_ne {g : GS} {a b : Addr} {o : MO} (h : b ≠ a) : gup g a o b = g b := by unfold gup; rw [if_neg h]
abbrev DK := D → GS → Prop
abbrev EV := List (Option D)
abbrev DTE := EV → GS → DK → Prop
abbrev DTT := EV → GS → (Bool → GS → Prop) → Prop
abbrev DTA := EV → GS → (List D → GS → Prop) → Prop
structure DEnds where
  nx : EV → GS → Prop
  rt : DK
  bk : EV → GS → Prop := fun _ _ => False
  ct : EV → GS → Prop := fun _ _ => False
abbrev DTS := DEnds → EV → GS → Prop
abbrev DSp := List D → GS → DK → Prop

/-- the address of a class by its name -/
def clsA (K : PySem.W.Frag) (x : Str) : Addr := match PySem.W.nsIn K mainGlobals x with
  | some (some (.ref a)) => a
  | _ => 0
def methA (K : PySem.W.Frag) (C : Addr) (m : Str) : Addr := match PySem.W.findIn K (.ref C) m with
  | some (some (.ref a)) => a
  | _ => 0
/-! ### what represents what -/
/-- a list that never changes: the script, a written one -/
def SqF (K : PySem.W.Frag) (H : Hp) (a : Addr) (xs : List V) : Prop := (∃ o, H a = some (.frz o (.lst xs))) ∨
  ∃ (o : Obj) (its : Array Value) (n : Nat), K.lookup a = some o ∧ o.cls = .type "list" ∧ o.dict = none ∧ o.data = .seq its n ∧ its.size ≤ sizeLine ∧ Vals xs its.toList
theorem SqF.sq {K : PySem.W.Frag} {H : Hp} {a : Addr} {xs : List V} (h : SqF K H a xs) : SqL K H a xs := by
  rcases h with ⟨o, h⟩ | h
  · exact .inl (.inr ⟨o, h⟩)
  · exact .inr h
mutual
inductive RepD (K : PySem.W.Frag) (H : Hp) : V → D → Prop
  | non : RepD K H .non .non
  | bl (b : Bool) : RepD K H (.bl b) (.bl b)
  | int (i : Int) : RepD K H (.int i) (.int i)
  | str (x : Str) : RepD K H (.str x) (.str x)
  | ref (a : Addr) : RepD K H (.ref a) (.ref a)
  | tup {a : Addr} {xs : List V} {ds : List D} : H a = some (.tup xs) → RepL K H xs ds → RepD K H (.ref a) (.tup ds)
  | kl {a : Addr} {xs : List V} {ds : List D} : SqF K H a xs → RepL K H xs ds → RepD K H (.ref a) (.klst ds)
inductive RepL (K : PySem.W.Frag) (H : Hp) : List V → List D → Prop
  | nil : RepL K H [] []
  | cons {v : V} {d : D} {vs : List V} {ds : List D} : RepD K H v d → RepL K H vs ds → RepL K H (v :: vs) (d :: ds)
end
def Ext (H H' : Hp) : Prop := (∀ a xs, H a = some (.tup xs) → H' a = some (.tup xs)) ∧ ∀ a o u, H a = some (.frz o u) → H' a = some (.frz o u)
theorem Ext.refl (H : Hp) : Ext H H := ⟨fun _ _ h => h, fun _ _ _ h => h⟩
theorem Ext.trans {H H1 H2 : Hp} (a : Ext H H1) (b : Ext H1 H2) : Ext H H2 := ⟨fun x y h => b.1 x y (a.1 x y h), fun x y z h => b.2 x y z (a.2 x y z h)⟩
theorem Ext.new {H : Hp} {p : Addr} {o : HO} (h : H p = none) : Ext H (upd H p o) :=
  ⟨fun a xs e => by rw [upd_ne (ne_of_none e h)]; exact e, fun a ob u e => by rw [upd_ne (ne_of_none e h)]; exact e⟩
theorem Ext.lst {H : Hp} {p : Addr} {xs : List V} {o : HO} (h : H p = some (.lst xs)) : Ext H (upd H p o) :=
  ⟨fun a ys e => by rw [upd_ne (ne_of e h (by intro z; cases z))]; exact e, fun a ob u e => by rw [upd_ne (ne_of e h (by intro z; cases z))]; exact e⟩
theorem Ext.dk {H : Hp} {p : Addr} {kvs : List (Key × V)} {o : HO} (h : H p = some (.dK kvs)) : Ext H (upd H p o) :=
  ⟨fun a ys e => by rw [upd_ne (ne_of e h (by intro z; cases z))]; exact e, fun a ob u e => by rw [upd_ne (ne_of e h (by intro z; cases z))]; exact e⟩
theorem Ext.dT {H : Hp} {p : Addr} {kvs : List (List Key × V)} {o : HO} (h : H p = some (.dT kvs)) : Ext H (upd H p o) :=
  ⟨fun a ys e => by rw [upd_ne (ne_of e h (by intro z; cases z))]; exact e, fun a ob u e => by rw [upd_ne (ne_of e h (by intro z; cases z))]; exact e⟩
theorem Ext.ins {H : Hp} {p C dx : Addr} {fs : List (Str × V)} {o : HO} (h : H p = some (.ins C dx fs)) : Ext H (upd H p o) :=
  ⟨fun a ys e => by rw [upd_ne (ne_of e h (by intro z; cases z))]; exact e, fun a ob u e => by rw [upd_ne (ne_of e h (by intro z; cases z))]; exact e⟩
theorem Ext.sqT {K : PySem.W.Frag} {H H' : Hp} {a : Addr} {xs : List V} (e : Ext H H') (h : SqT K H a xs) : SqT K H' a xs := by
  rcases h with (h | ⟨o, h⟩) | h
  · exact .inl (.inl (e.1 _ _ h))
  · exact .inl (.inr ⟨o, e.2 _ _ _ h⟩)
  · exact .inr h
theorem tq {K : PySem.W.Frag} {H : Hp} {a : Addr} {xs : List V} (h : H a = some (.tup xs)) : SqT K H a xs := SqT.of h
/-- what data want to stay -/
def Ext0 (H H' : Hp) : Prop := (∀ a xs, H a = some (.tup xs) → H' a = some (.tup xs)) ∧ ∀ a o xs, H a = some (.frz o (.lst xs)) → H' a = some (.frz o (.lst xs))
theorem Ext.e0 {H H' : Hp} (e : Ext H H') : Ext0 H H' := ⟨e.1, fun a o xs h => e.2 a o _ h⟩
theorem Ext0.sqF {K : PySem.W.Frag} {H H' : Hp} {a : Addr} {xs : List V} (e : Ext0 H H') (h : SqF K H a xs) : SqF K H' a xs := by
  rcases h with ⟨o, h⟩ | h
  · exact .inl ⟨o, e.2 _ _ _ h⟩
  · exact .inr h
theorem Ext.sqF {K : PySem.W.Frag} {H H' : Hp} {a : Addr} {xs : List V} (e : Ext H H') (h : SqF K H a xs) : SqF K H' a xs := e.e0.sqF h
section
variable {K : PySem.W.Frag} {H H' : Hp}
mutual
theorem RepD.mono0 (e : Ext0 H H') : ∀ {v : V} {d : D}, RepD K H v d → RepD K H' v d
  | _, _, .non => .non
  | _, _, .bl b => .bl b
  | _, _, .int i => .int i
  | _, _, .str x => .str x
  | _, _, .ref a => .ref a
  | _, _, .tup h r => .tup (e.1 _ _ h) (RepL.mono0 e r)
  | _, _, .kl h r => .kl (e.sqF h) (RepL.mono0 e r)
theorem RepL.mono0 (e : Ext0 H H') : ∀ {vs : List V} {ds : List D}, RepL K H vs ds → RepL K H' vs ds
  | _, _, .nil => .nil
  | _, _, .cons h r => .cons (RepD.mono0 e h) (RepL.mono0 e r)
end
theorem RepD.mono (e : Ext H H') {v : V} {d : D} (h : RepD K H v d) : RepD K H' v d := h.mono0 e.e0
theorem RepL.mono (e : Ext H H') {vs : List V} {ds : List D} (h : RepL K H vs ds) : RepL K H' vs ds := h.mono0 e.e0
theorem RepL.length : ∀ {vs : List V} {ds : List D}, RepL K H vs ds → vs.length = ds.length
  | _, _, .nil => rfl
  | _, _, .cons _ r => congrArg (· + 1) (RepL.length r)
theorem RepL.get : ∀ {vs : List V} {ds : List D} {i : Nat} {d : D}, RepL K H vs ds → ds[i]? = some d → ∃ v, vs[i]? = some v ∧ RepD K H v d
  | _, _, _, _, .nil, h => by simp at h
  | _, _, 0, _, .cons r _, h => by simp at h; subst h; exact ⟨_, rfl, r⟩
  | _, _, i + 1, _, .cons _ t, h => by
    obtain ⟨v, e, r⟩ := RepL.get (i := i) t (by simpa using h)
    exact ⟨v, by simpa using e, r⟩
theorem RepL.getV : ∀ {vs : List V} {ds : List D} {i : Nat} {v : V}, RepL K H vs ds → vs[i]? = some v → ∃ d, ds[i]? = some d ∧ RepD K H v d
  | _, _, _, _, .nil, h => by simp at h
  | _, _, 0, _, .cons r _, h => by simp at h; subst h; exact ⟨_, rfl, r⟩
  | _, _, i + 1, _, .cons _ t, h => by
    obtain ⟨v, e, r⟩ := RepL.getV (i := i) t (by simpa using h)
    exact ⟨v, by simpa using e, r⟩
theorem RepL.set {v : V} {d : D} (r : RepD K H v d) : ∀ {vs : List V} {ds : List D} (i : Nat), RepL K H vs ds → RepL K H (vs.set i v) (ds.set i d)
  | _, _, _, .nil => .nil
  | _, _, 0, .cons _ t => .cons r t
  | _, _, i + 1, .cons h t => .cons h (RepL.set r i t)
theorem RepL.app : ∀ {vs ws : List V} {ds es : List D}, RepL K H vs ds → RepL K H ws es → RepL K H (vs ++ ws) (ds ++ es)
  | _, _, _, _, .nil, s => s
  | _, _, _, _, .cons h r, s => .cons h (RepL.app r s)
theorem RepL.take : ∀ {vs : List V} {ds : List D} (n : Nat), RepL K H vs ds → RepL K H (vs.take n) (ds.take n)
  | _, _, 0, _ => .nil
  | _, _, _ + 1, .nil => .nil
  | _, _, n + 1, .cons r t => .cons r (RepL.take n t)
theorem RepL.drop : ∀ {vs : List V} {ds : List D} (n : Nat), RepL K H vs ds → RepL K H (vs.drop n) (ds.drop n)
  | _, _, 0, r => r
  | _, _, _ + 1, .nil => .nil
  | _, _, n + 1, .cons _ t => RepL.drop n t
theorem RepL.rev {vs : List V} {ds : List D} (r : RepL K H vs ds) : RepL K H vs.reverse ds.reverse := by
  induction vs generalizing ds with
  | nil => cases r; exact .nil
  | cons v vs ih =>
    cases r with
    | cons h t => rw [List.reverse_cons, List.reverse_cons]; exact (ih t).app (.cons h .nil)
theorem RepL.erase : ∀ {vs : List V} {ds : List D} (i : Nat), RepL K H vs ds → RepL K H (vs.eraseIdx i) (ds.eraseIdx i)
  | _, _, _, .nil => .nil
  | _, _, 0, .cons _ t => t
  | _, _, i + 1, .cons h t => .cons h (RepL.erase i t)
theorem RepL.inj1 : ∀ {vs : List V} {ds : List D}, RepL K H vs ds → vs = [] → ds = []
  | _, _, .nil, _ => rfl
theorem RepL.ints : ∀ {vs : List V} (ns : List Int), RepL K H vs (ns.map D.int) → vs = ns.map V.int
  | _, [], .nil => rfl
  | _, n :: ns, .cons h t => by
    cases h
    rw [List.map_cons, RepL.ints ns t]
theorem RepL.strs : ∀ {vs : List V} (ns : List Str), RepL K H vs (ns.map D.str) → vs = ns.map V.str
  | _, [], .nil => rfl
  | _, n :: ns, .cons h t => by
    cases h
    rw [List.map_cons, RepL.strs ns t]
theorem RepL.ofInts : ∀ (ns : List Int), RepL K H (ns.map V.int) (ns.map D.int)
  | [] => .nil
  | n :: ns => .cons (.int n) (RepL.ofInts ns)
theorem RepL.ofStrs : ∀ (ns : List Str), RepL K H (ns.map V.str) (ns.map D.str)
  | [] => .nil
  | n :: ns => .cons (.str n) (RepL.ofStrs ns)
end
def RepF (K : PySem.W.Frag) (H : Hp) : List (Str × V) → List (Str × D) → Prop := Paired fun p q => p.1 = q.1 ∧ RepD K H p.2 q.2
def RepKV {κ : Type} (K : PySem.W.Frag) (H : Hp) : List (κ × V) → List (κ × D) → Prop := Paired fun p q => p.1 = q.1 ∧ RepD K H p.2 q.2
def RepO (K : PySem.W.Frag) (H : Hp) (a : Addr) : MO → Prop
  | .lst ds => ∃ xs, H a = some (.lst xs) ∧ RepL K H xs ds
  | .ro ds => ∃ o xs, H a = some (.frz o (.lst xs)) ∧ RepL K H xs ds
  | .ins n fs => ∃ dx vs, H a = some (.ins (clsA K n) dx vs) ∧ RepF K H vs fs
  | .dct kvs => ∃ vs, H a = some (.dK vs) ∧ RepKV K H vs kvs
  | .dtt kvs => ∃ vs, H a = some (.dT vs) ∧ RepKV K H vs kvs
  | .dctf kvs => ∃ o vs, H a = some (.frz o (.dK vs)) ∧ RepKV K H vs kvs
  | .dttf kvs => ∃ o vs, H a = some (.frz o (.dT vs)) ∧ RepKV K H vs kvs
  | .xd fs => ∃ vs, H a = some (.xd vs) ∧ RepF K H vs fs
def RepG (K : PySem.W.Frag) (H : Hp) (g : GS) : Prop := ∀ a o, g a = some o → RepO K H a o
def RepE (K : PySem.W.Frag) (H : Hp) (σ : L2.St) (e : EV) : Prop := σ.length = e.length ∧ ∀ (i : Nat) (d : D), e[i]? = some (some d) → ∃ v, σ[i]? = some (some v) ∧ RepD K H v d
section
variable {K : PySem.W.Frag} {H H' : Hp} {σ : L2.St} {e : EV} {g : GS}
theorem RepE.mono0 (x : Ext0 H H') (r : RepE K H σ e) : RepE K H' σ e := ⟨r.1, fun i d h => let ⟨v, a, b⟩ := r.2 i d h; ⟨v, a, b.mono0 x⟩⟩
theorem RepE.mono (x : Ext H H') (r : RepE K H σ e) : RepE K H' σ e := ⟨r.1, fun i d h => let ⟨v, a, b⟩ := r.2 i d h; ⟨v, a, b.mono x⟩⟩
theorem RepF.mono0 (x : Ext0 H H') {vs : List (Str × V)} {fs : List (Str × D)} (r : RepF K H vs fs) : RepF K H' vs fs := L2.Paired.mapP r fun _ _ h => ⟨h.1, h.2.mono0 x⟩
theorem RepKV.mono0 {κ : Type} (x : Ext0 H H') {vs : List (κ × V)} {fs : List (κ × D)} (r : RepKV K H vs fs) : RepKV K H' vs fs := L2.Paired.mapP r fun _ _ h => ⟨h.1, h.2.mono0 x⟩
theorem RepF.mono (x : Ext H H') {vs : List (Str × V)} {fs : List (Str × D)} (r : RepF K H vs fs) : RepF K H' vs fs := L2.Paired.mapP r fun _ _ h => ⟨h.1, h.2.mono x⟩
theorem RepKV.mono {κ : Type} (x : Ext H H') {vs : List (κ × V)} {fs : List (κ × D)} (r : RepKV K H vs fs) : RepKV K H' vs fs := L2.Paired.mapP r fun _ _ h => ⟨h.1, h.2.mono x⟩
theorem RepE.set {v : V} {d : D} (r : RepE K H σ e) (h : RepD K H v d) (i : Nat) : RepE K H (σ.set i (some v)) (e.set i (some d)) := by
  refine ⟨by rw [List.length_set, List.length_set]; exact r.1, fun j c hj => ?_⟩
  by_cases hij : i = j
  · subst hij
    by_cases hl : i < e.length
    · rw [List.getElem?_set_self hl] at hj
      cases hj
      exact ⟨v, List.getElem?_set_self (by rw [r.1]; exact hl), h⟩
    · rw [List.getElem?_eq_none (by rw [List.length_set]; omega)] at hj
      cases hj
  · rw [List.getElem?_set_ne hij] at hj
    obtain ⟨w, a, b⟩ := r.2 j c hj
    exact ⟨w, by rw [List.getElem?_set_ne hij]; exact a, b⟩
theorem RepG.free (r : RepG K H g) {p : Addr} (h : H p = none) : g p = none := by
  cases q : g p with
  | none => rfl
  | some o =>
    have z := r p o q
    cases o with
    | lst ds => obtain ⟨xs, e, _⟩ := z; rw [h] at e; cases e
    | ro ds => obtain ⟨o, xs, e, _⟩ := z; rw [h] at e; cases e
    | ins C fs => obtain ⟨dx, vs, e, _⟩ := z; rw [h] at e; cases e
    | dct kvs => obtain ⟨vs, e, _⟩ := z; rw [h] at e; cases e
    | dtt kvs => obtain ⟨vs, e, _⟩ := z; rw [h] at e; cases e
    | dctf kvs => obtain ⟨o, vs, e, _⟩ := z; rw [h] at e; cases e
    | dttf kvs => obtain ⟨o, vs, e, _⟩ := z; rw [h] at e; cases e
    | xd fs => obtain ⟨vs, e, _⟩ := z; rw [h] at e; cases e
theorem RepO.keep {a p : Addr} {o : HO} {n : MO} (z : RepO K H a n) (h : a ≠ p) (x : Ext0 H (upd H p o)) : RepO K (L2.upd H p o) a n := by
  cases n with
  | lst ds => obtain ⟨xs, e, q⟩ := z; exact ⟨xs, by rw [upd_ne h]; exact e, q.mono0 x⟩
  | ro ds => obtain ⟨o, xs, e, q⟩ := z; exact ⟨o, xs, by rw [upd_ne h]; exact e, q.mono0 x⟩
  | ins C fs => obtain ⟨dx, vs, e, q⟩ := z; exact ⟨dx, vs, by rw [upd_ne h]; exact e, RepF.mono0 x q⟩
  | dct kvs => obtain ⟨vs, e, q⟩ := z; exact ⟨vs, by rw [upd_ne h]; exact e, RepKV.mono0 x q⟩
  | dtt kvs => obtain ⟨vs, e, q⟩ := z; exact ⟨vs, by rw [upd_ne h]; exact e, RepKV.mono0 x q⟩
  | dctf kvs => obtain ⟨o, vs, e, q⟩ := z; exact ⟨o, vs, by rw [upd_ne h]; exact e, RepKV.mono0 x q⟩
  | dttf kvs => obtain ⟨o, vs, e, q⟩ := z; exact ⟨o, vs, by rw [upd_ne h]; exact e, RepKV.mono0 x q⟩
  | xd fs => obtain ⟨vs, e, q⟩ := z; exact ⟨vs, by rw [upd_ne h]; exact e, RepF.mono0 x q⟩
/-- one object written or laid -/
theorem RepG.upd0 {p : Addr} {o : HO} {m : MO} (r : RepG K H g) (x : Ext0 H (upd H p o)) (new : RepO K (L2.upd H p o) p m) : RepG K (L2.upd H p o) (gup g p m) := fun a n e => by
  by_cases h : a = p
  · subst h
    rw [gup_same] at e
    cases e
    exact new
  · rw [gup_ne h] at e
    exact (r a n e).keep h x
theorem RepG.upd {p : Addr} {o : HO} {m : MO} (r : RepG K H g) (x : Ext H (upd H p o)) (new : RepO K (L2.upd H p o) p m) : RepG K (L2.upd H p o) (gup g p m) := r.upd0 x.e0 new
/-- an untracked-at-our-level object laid (a tuple) -/
theorem RepG.hid {p : Addr} {o : HO} (r : RepG K H g) (h : H p = none) : RepG K (L2.upd H p o) g := fun a n e =>
  (r a n e).keep (fun z => by rw [z, r.free h] at e; cases e) (Ext.new h).e0
end
/-! ### the lifts -/
section
variable (K : PySem.W.Frag)
def KD (H : Hp) (Qd : DK) (Q : VK) : Prop := ∀ v d H' g', Ext H H' → RepG K H' g' → RepD K H' v d → Qd d g' → Q v H'
def lE (T : DTE) : TE := fun σ H Q => ∃ e g Qd, RepE K H σ e ∧ RepG K H g ∧ T e g Qd ∧ KD K H Qd Q
def lT (T : DTT) : TT := fun σ H Q => ∃ e g Qd, RepE K H σ e ∧ RepG K H g ∧ T e g Qd ∧ ∀ b H' g', Ext H H' → RepG K H' g' → Qd b g' → Q b H'
def lA (T : DTA) : TA := fun σ H Q => ∃ e g Qd, RepE K H σ e ∧ RepG K H g ∧ T e g Qd ∧ ∀ vs ds H' g', Ext H H' → RepG K H' g' → RepL K H' vs ds → Qd ds g' → Q vs H'
def KS (H : Hp) (Q : EV → GS → Prop) (Q' : L2.St → Hp → Prop) : Prop := ∀ σ' H' e' g', Ext H H' → RepE K H' σ' e' → RepG K H' g' → Q e' g' → Q' σ' H'
def lS (T : DTS) : TS := fun D σ H => ∃ e g Dd, RepE K H σ e ∧ RepG K H g ∧ T Dd e g ∧ KS K H Dd.nx D.nx ∧ KD K H Dd.rt D.rt ∧ KS K H Dd.bk D.bk ∧ KS K H Dd.ct D.ct
def lSp (sp : DSp) : Sp := fun vs H Q _ => ∃ ds g Qd, RepL K H vs ds ∧ RepG K H g ∧ sp ds g Qd ∧ KD K H Qd Q
end
theorem KD.mono {K : PySem.W.Frag} {H H' : Hp} {Qd : DK} {Q : VK} (k : KD K H Qd Q) (x : Ext H H') : KD K H' Qd Q := fun v d H2 g2 y => k v d H2 g2 (x.trans y)
theorem KS.mono {K : PySem.W.Frag} {H H' : Hp} {Q : EV → GS → Prop} {Q' : L2.St → Hp → Prop} (k : KS K H Q Q') (x : Ext H H') : KS K H' Q Q' := fun s H2 e g y => k s H2 e g (x.trans y)
structure DE (X : Cx) (e : Expr) (T : DTE) : Prop where
  pe : PE X e (lE X.K T)
structure DT (X : Cx) (e : Expr) (T : DTT) : Prop where
  pt : PT X e (lT X.K T)
structure DW (X : Cx) (e : Expr) (T : DTT) : Prop where
  pw : PW X e (lT X.K T)
structure DA (X : Cx) (es : List Expr) (T : DTA) : Prop where
  pa : PA X es (lA X.K T)
structure DS (X : Cx) (s : Stmt) (T : DTS) : Prop where
  ps : PS X s (lS X.K T)
structure DSs (X : Cx) (s : List Stmt) (T : DTS) : Prop where
  pss : PSs X s (lS X.K T)
/-! ### weakening -/
section
variable {X : Cx}
theorem peW {e : Expr} {t t' : TE} (h : PE X e t) (w : ∀ σ H Q, t' σ H Q → t σ H Q) : PE X e t' := ⟨fun pins s σ H Q I q => h.run pins s σ H Q I (w σ H Q q)⟩
theorem ptW {e : Expr} {t t' : TT} (h : PT X e t) (w : ∀ σ H Q, t' σ H Q → t σ H Q) : PT X e t' := ⟨fun pins s σ H Q I q => h.run pins s σ H Q I (w σ H Q q)⟩
theorem pwW {e : Expr} {t t' : TT} (h : PW X e t) (w : ∀ σ H Q, t' σ H Q → t σ H Q) : PW X e t' := ⟨fun wh pins s σ H Q I q => h.run wh pins s σ H Q I (w σ H Q q)⟩
theorem paW {e : List Expr} {t t' : TA} (h : PA X e t) (w : ∀ σ H Q, t' σ H Q → t σ H Q) : PA X e t' := ⟨fun pos pins s σ H Q I q => h.run pos pins s σ H Q I (w σ H Q q)⟩
theorem psW {e : Stmt} {t t' : TS} (h : PS X e t) (w : ∀ D σ H, t' D σ H → t D σ H) : PS X e t' := ⟨fun pins s σ H Q I q => h.run pins s σ H Q I (w Q σ H q)⟩
theorem pssW {e : List Stmt} {t t' : TS} (h : PSs X e t) (w : ∀ D σ H, t' D σ H → t D σ H) : PSs X e t' := ⟨fun pins s σ H Q I q => h.run pins s σ H Q I (w Q σ H q)⟩
end
end DL

namespace DL
open PySem L2
theorem szl : sizeLine = 16777216 := sizeLine_eq
section
variable {X : Cx} {K : PySem.W.Frag} {H H' : Hp} {σ : L2.St}
/-! ### names, constants -/
def look : EV → Nat → Option D
  | [], _ => none
  | x :: _, 0 => x
  | _ :: r, n + 1 => look r n
theorem look_get : ∀ (e : EV) (i : Nat) (d : D), look e i = some d → e[i]? = some (some d)
  | [], _, _, h => by cases h
  | x :: r, 0, d, h => by
    have h' : x = some d := h
    simp [h']
  | x :: r, n + 1, d, h => by
    have h' : look r n = some d := h
    simpa using look_get r n d h'
def dVar (i : Nat) : DTE := fun e g Q => ∃ d, look e i = some d ∧ Q d g
def dC (d : D) : DTE := fun _ g Q => Q d g
theorem RepG.fin {g : GS} {Qd : DK} {Q : VK} (r : RepG K H g) (k : KD K H Qd Q) {v : V} {d : D} (h : RepD K H v d) (q : Qd d g) : Q v H := k v d H g (.refl H) r h q
theorem RepG.laidL {g : GS} (r : RepG K H g) {n : Addr} (hn : H n = none) {xs : List V} {ds : List D} (l : RepL K H xs ds) : RepG K (L2.upd H n (.lst xs)) (gup g n (.lst ds)) :=
  r.upd (m := .lst ds) (.new hn) (show ∃ _, _ ∧ _ from ⟨_, upd_same, l.mono (.new hn)⟩)
theorem RepG.setL {g : GS} (r : RepG K H g) {n : Addr} {ys : List V} (hn : H n = some (.lst ys)) {xs : List V} {ds : List D} (l : RepL K H xs ds) : RepG K (L2.upd H n (.lst xs)) (gup g n (.lst ds)) :=
  r.upd (m := .lst ds) (.lst hn) (show ∃ _, _ ∧ _ from ⟨_, upd_same, l.mono (.lst hn)⟩)
theorem RepG.finL {g : GS} {Qd : DK} {Q : VK} (r : RepG K H g) (k : KD K H Qd Q) {n : Addr} (hn : H n = none) {xs : List V} {ds : List D} (l : RepL K H xs ds) (q : ∀ p, g p = none → Qd (.ref p) (gup g p (.lst ds))) : Q (.ref n) (L2.upd H n (.lst xs)) :=
  k _ _ _ _ (.new hn) (r.laidL hn l) (.ref n) (q n (r.free hn))
theorem RepG.finU {g : GS} {Qd : DK} {Q : VK} (r : RepG K H g) (k : KD K H Qd Q) {n : Addr} (hn : H n = none) {xs : List V} {ds : List D} (l : RepL K H xs ds) (q : Qd (.tup ds) g) : Q (.ref n) (L2.upd H n (.tup xs)) :=
  k _ _ _ _ (.new hn) (r.hid hn) (.tup upd_same (l.mono (.new hn))) q
theorem RepG.lst {g : GS} (r : RepG K H g) {p : Addr} {ds : List D} (h : g p = some (.lst ds)) : ∃ xs, H p = some (.lst xs) ∧ RepL K H xs ds := r p _ h
theorem RepG.ro {g : GS} (r : RepG K H g) {p : Addr} {ds : List D} (h : g p = some (.ro ds)) : ∃ o xs, H p = some (.frz o (.lst xs)) ∧ RepL K H xs ds := r p _ h
theorem RepG.ins {g : GS} (r : RepG K H g) {p : Addr} {n : Str} {fs : List (Str × D)} (h : g p = some (.ins n fs)) : ∃ dx vs, H p = some (.ins (clsA K n) dx vs) ∧ RepF K H vs fs := r p _ h
/-- a list that is read -/
def rdL (g : GS) (p : Addr) (ds : List D) : Prop := g p = some (.lst ds) ∨ g p = some (.ro ds)
theorem RepG.sq {g : GS} (r : RepG K H g) {p : Addr} {ds : List D} (h : rdL g p ds) : ∃ xs, SqL K H p xs ∧ RepL K H xs ds := by
  rcases h with h | h
  · obtain ⟨xs, e, l⟩ := r.lst h
    exact ⟨xs, .of e, l⟩
  · obtain ⟨o, xs, e, l⟩ := r.ro h
    exact ⟨xs, .inl (.inr ⟨o, e⟩), l⟩
theorem de_var {i : Nat} {x : Str} {pos : Pos} (h : PE X (.Name x pos) (tVar i)) : DE X (.Name x pos) (dVar i) := ⟨peW h fun σ H Q ⟨e, g, Qd, re, rg, ⟨d, l, q⟩, k⟩ => by
  obtain ⟨v, hv, r⟩ := re.2 i d (look_get e i d l)
  exact ⟨v, hv, rg.fin k r q⟩⟩
theorem de_c {e : Expr} {v : V} {d : D} (h : PE X e (tC v)) (r : ∀ H, RepD X.K H v d) : DE X e (dC d) := ⟨peW h fun σ H Q ⟨e, g, Qd, re, rg, q, k⟩ => rg.fin k (r H) q⟩
theorem de_int {i j pos} : DE X (.Constant (.int i) j pos) (dC (.int i)) := de_c pe_int fun _ => .int i
theorem de_bl {b j pos} : DE X (.Constant (.bool b) j pos) (dC (.bl b)) := de_c pe_bl fun _ => .bl b
theorem de_non {j pos} : DE X (.Constant .none j pos) (dC .non) := de_c pe_non fun _ => .non
theorem de_str {x j pos} : DE X (.Constant (.str x) j pos) (dC (.str x)) := de_c pe_str fun _ => .str x
theorem de_globS {x y : Str} {u : Value} {pos : Pos} (hg : Gl X x) (hm : X.mg x = some u) (r : RelV (.str y) u) (hd : (x == ("__debug__" : Str)) = false := by decide) : DE X (.Name x pos) (dC (.str y)) := de_c (pe_glob hg hm r hd) fun _ => .str y
theorem de_globI {x : Str} {i : Int} {u : Value} {pos : Pos} (hg : Gl X x) (hm : X.mg x = some u) (r : RelV (.int i) u) (hd : (x == ("__debug__" : Str)) = false := by decide) : DE X (.Name x pos) (dC (.int i)) := de_c (pe_glob hg hm r hd) fun _ => .int i
/-! ### two-place operations -/
abbrev DR2 := D → D → GS → DK → Prop
def lR2 (K : PySem.W.Frag) (r : DR2) : R2 := fun x y H Q => ∃ dx dy g Qd, RepD K H x dx ∧ RepD K H y dy ∧ RepG K H g ∧ r dx dy g Qd ∧ KD K H Qd Q
def dOp (r : DR2) (ta tb : DTE) : DTE := fun e g Q => ta e g fun x g1 => tb e g1 fun y g2 => r x y g2 Q
theorem lop {r : DR2} {ta tb : DTE} {σ : L2.St} {H : Hp} {Q : VK} (h : lE K (dOp r ta tb) σ H Q) : tOp (lR2 K r) (lE K ta) (lE K tb) σ H Q := by
  obtain ⟨e, g, Qd, re, rg, q, k⟩ := h
  refine ⟨e, g, _, re, rg, q, fun x dx H1 g1 x1 rg1 rx q1 => ?_⟩
  refine ⟨e, g1, _, re.mono x1, rg1, q1, fun y dy H2 g2 x2 rg2 ry q2 => ?_⟩
  exact ⟨dx, dy, g2, Qd, rx.mono x2, ry, rg2, q2, k.mono (x1.trans x2)⟩
abbrev DOpR (X : Cx) (f : Value → Value → Sem Value) (r : DR2) : Prop := OpR X f (lR2 X.K r)
variable {a b c : Expr} {ta tb tc te : DTE} {pos : Pos}
theorem de_op {op : Operator} {r : DR2} (ho : DOpR X (binaryOp op) r) (ha : DE X a ta) (hb : DE X b tb) : DE X (.BinOp a op b pos) (dOp r ta tb) := ⟨peW (pe_op ho ha.pe hb.pe) fun _ _ _ h => lop h⟩
theorem de_cmp {op : CmpOp} {r : DR2} (ho : DOpR X (compareOp op) r) (ha : DE X a ta) (hb : DE X b tb) (hm : behindInMarks op b = false) : DE X (.Compare a [op] [b] pos) (dOp r ta tb) := ⟨peW (pe_cmpR ho ha.pe hb.pe hm) fun _ _ _ h => lop h⟩
def dTest (t : DTE) : DTT := fun e g Q => t e g fun d g' => ∃ k, d = .bl k ∧ Q k g'
theorem ltest {t : DTE} {σ : L2.St} {H : Hp} {Q : Bool → Hp → Prop} (h : lT K (dTest t) σ H Q) : tTest (lE K t) σ H Q := by
  obtain ⟨e, g, Qd, re, rg, q, k⟩ := h
  refine ⟨e, g, _, re, rg, q, fun x d H1 g1 x1 rg1 rx q1 => ?_⟩
  obtain ⟨b, rfl, q1⟩ := q1
  cases rx
  exact ⟨b, rfl, k _ _ _ x1 rg1 q1⟩
theorem tTest_mono {t t' : TE} (w : ∀ σ H Q, t' σ H Q → t σ H Q) {σ : L2.St} {H : Hp} {Q : Bool → Hp → Prop} (h : tTest t' σ H Q) : tTest t σ H Q := w _ _ _ h
theorem dt_cmp {op : CmpOp} {r : DR2} (ho : DOpR X (compareOp op) r) (ha : DE X a ta) (hb : DE X b tb) (hm : behindInMarks op b = false) : DT X (.Compare a [op] [b] pos) (dTest (dOp r ta tb)) :=
  ⟨ptW (pt_cmpR ho ha.pe hb.pe hm) fun _ _ _ h => tTest_mono (fun _ _ _ q => lop q) (ltest h)⟩
/-- a op1 b op2 c -/
def dChain (r r' : DR2) (ta tb tc : DTE) : DTE := fun e g Q => ta e g fun x g1 => tb e g1 fun y g2 => r x y g2 fun z g3 => ∃ k, z = .bl k ∧ (if k = true then tc e g3 fun w g4 => r' y w g4 Q else Q (.bl false) g3)
theorem lchain {r r' : DR2} {ta tb tc : DTE} {σ : L2.St} {H : Hp} {Q : VK} (h : lE K (dChain r r' ta tb tc) σ H Q) : tChain (lR2 K r) (lR2 K r') (lE K ta) (lE K tb) (lE K tc) σ H Q := by
  obtain ⟨e, g, Qd, re, rg, q, k⟩ := h
  refine ⟨e, g, _, re, rg, q, fun x dx H1 g1 x1 rg1 rx q1 => ?_⟩
  refine ⟨e, g1, _, re.mono x1, rg1, q1, fun y dy H2 g2 x2 rg2 ry q2 => ?_⟩
  refine ⟨dx, dy, g2, _, rx.mono x2, ry, rg2, q2, fun z dz H3 g3 x3 rg3 rz q3 => ?_⟩
  obtain ⟨b, rfl, q3⟩ := q3
  cases rz
  refine ⟨b, rfl, ?_⟩
  cases b with
  | false => exact k _ _ _ _ ((x1.trans x2).trans x3) rg3 (.bl false) q3
  | true =>
    rw [if_pos rfl] at q3 ⊢
    refine ⟨e, g3, _, re.mono ((x1.trans x2).trans x3), rg3, q3, fun w dw H4 g4 x4 rg4 rw' q4 => ?_⟩
    exact ⟨dy, dw, g4, Qd, ry.mono (x3.trans x4), rw', rg4, q4, k.mono (((x1.trans x2).trans x3).trans x4)⟩
theorem de_chain {op op' : CmpOp} {r r' : DR2} (ho : DOpR X (compareOp op) r) (ho' : DOpR X (compareOp op') r') (ha : DE X a ta) (hb : DE X b tb) (hc : DE X c tc)
    (hm : lastMarks [op, op'] [b, c] = false := by with_unfolding_all rfl) : DE X (.Compare a [op, op'] [b, c] pos) (dChain r r' ta tb tc) := ⟨peW (pe_chain ho ho' ha.pe hb.pe hc.pe hm) fun _ _ _ h => lchain h⟩
theorem dt_chain {op op' : CmpOp} {r r' : DR2} (ho : DOpR X (compareOp op) r) (ho' : DOpR X (compareOp op') r') (ha : DE X a ta) (hb : DE X b tb) (hc : DE X c tc)
    (hm : lastMarks [op, op'] [b, c] = false := by with_unfolding_all rfl) : DT X (.Compare a [op, op'] [b, c] pos) (dTest (dChain r r' ta tb tc)) :=
  ⟨ptW (pt_chain ho ho' ha.pe hb.pe hc.pe hm) fun _ _ _ h => tTest_mono (fun _ _ _ q => lchain q) (ltest h)⟩
/-! ### one-place -/
def lR1 (K : PySem.W.Frag) (r : D → GS → DK → Prop) : V → Hp → VK → Prop := fun x H Q => ∃ dx g Qd, RepD K H x dx ∧ RepG K H g ∧ r dx g Qd ∧ KD K H Qd Q
def dUn (r : D → GS → DK → Prop) (ta : DTE) : DTE := fun e g Q => ta e g fun x g1 => r x g1 Q
theorem de_un {op : UnaryOp} {r : D → GS → DK → Prop} (ho : UnR X (unaryOp op) (lR1 X.K r)) (ha : DE X a ta) : DE X (.UnaryOp op a pos) (dUn r ta) := ⟨peW (pe_un ho ha.pe) fun σ H Q ⟨e, g, Qd, re, rg, q, k⟩ =>
  ⟨e, g, _, re, rg, q, fun x dx H1 g1 x1 rg1 rx q1 => ⟨dx, g1, Qd, rx, rg1, q1, k.mono x1⟩⟩⟩
def negD : D → GS → DK → Prop := fun x g Q => match x with | .int i => Q (.int (-i)) g | _ => False
theorem un_negD : UnR X (unaryOp .USub) (lR1 X.K negD) := fun pins s σ H x v Q I rx ⟨dx, g, Qd, r, rg, q, k⟩ => by
  cases r with
  | int i => exact un_neg pins s σ H _ v Q I rx ⟨i, rfl, rg.fin k (.int _) q⟩
  | _ => exact q.elim
/-! ### the operations -/
def addD : DR2 := fun x y g Q => match x, y with
  | .int i, .int j => Q (.int (i + j)) g
  | .str a, .str b => a.length + b.length ≤ sizeLine ∧ Q (.str (a ++ b)) g
  | .tup a, .tup b => a.length + b.length ≤ sizeLine ∧ Q (.tup (a ++ b)) g
  | .ref p, .ref q => ∃ xs ys, g p = some (.lst xs) ∧ g q = some (.lst ys) ∧ xs.length + ys.length ≤ sizeLine ∧ ∀ r, g r = none → Q (.ref r) (gup g r (.lst (xs ++ ys)))
  | _, _ => False
theorem op_addD : DOpR X (binaryOp .Add) addD := fun pins s σ H x y v u Q I rx ry ⟨dx, dy, g, Qd, r1, r2, rg, q, k⟩ => by
  cases r1 with
  | int i => cases r2 with
    | int j => exact op_add pins s σ H _ _ v u Q I rx ry ⟨i, j, rfl, rfl, rg.fin k (.int _) q⟩
    | _ => exact q.elim
  | str i => cases r2 with
    | str j => exact op_add_str pins s σ H _ _ v u Q I rx ry ⟨i, j, rfl, rfl, q.1, rg.fin k (.str _) q.2⟩
    | _ => exact q.elim
  | @tup a xs ds h1 l1 => cases r2 with
    | @tup b ys es h2 l2 =>
      refine op_catA pins s σ H _ _ v u Q I rx ry ⟨a, b, xs, ys, rfl, rfl, tq h1, tq h2, by rw [l1.length, l2.length]; exact q.1, fun e => ?_, fun _ e => ?_, fun _ _ p hp => ?_⟩
      · have := l1.inj1 e
        subst this
        exact rg.fin k (.tup h2 l2) q.2
      · have := l2.inj1 e
        subst this
        have q' := q.2
        rw [List.append_nil] at q'
        exact rg.fin k (.tup h1 l1) q'
      · exact rg.finU k hp (l1.app l2) q.2
    | _ => exact q.elim
  | ref p => cases r2 with
    | ref b =>
      obtain ⟨ds, es, h1, h2, hz, q⟩ := q
      obtain ⟨xs, e1, l1⟩ := rg.lst h1
      obtain ⟨ys, e2, l2⟩ := rg.lst h2
      refine op_cat pins s σ H _ _ v u Q I rx ry ⟨p, b, xs, ys, rfl, rfl, e1, e2, by rw [l1.length, l2.length]; exact hz, fun n hn => rg.finL k hn (l1.app l2) q⟩
    | _ => exact q.elim
  | _ => cases r2 <;> exact q.elim
def intD (C : Int → Int → Prop) (f : Int → Int → D) : DR2 := fun x y g Q => match x, y with
  | .int i, .int j => C i j ∧ Q (f i j) g
  | _, _ => False
theorem op_intD {f : Value → Value → Sem Value} {C : Int → Int → Prop} {h : Int → Int → V} {h' : Int → Int → D} (ho : OpR X f (rI C h)) (r : ∀ H i j, RepD X.K H (h i j) (h' i j)) : DOpR X f (intD C h') := fun pins s σ H x y v u Q I rx ry ⟨dx, dy, g, Qd, r1, r2, rg, q, k⟩ => by
  cases r1 with
  | int i => cases r2 with
    | int j => exact ho pins s σ H _ _ v u Q I rx ry ⟨i, j, rfl, rfl, q.1, rg.fin k (r _ _ _) q.2⟩
    | _ => exact q.elim
  | _ => cases r2 <;> exact q.elim
theorem op_intD0 {f : Value → Value → Sem Value} {h : Int → Int → V} {h' : Int → Int → D} (ho : OpR X f (rI0 h)) (r : ∀ H i j, RepD X.K H (h i j) (h' i j)) : DOpR X f (intD (fun _ _ => True) h') := fun pins s σ H x y v u Q I rx ry ⟨dx, dy, g, Qd, r1, r2, rg, q, k⟩ => by
  cases r1 with
  | int i => cases r2 with
    | int j => exact ho pins s σ H _ _ v u Q I rx ry ⟨i, j, rfl, rfl, rg.fin k (r _ _ _) q.2⟩
    | _ => exact q.elim
  | _ => cases r2 <;> exact q.elim
abbrev subD : DR2 := intD (fun _ _ => True) fun i j => .int (i - j)
theorem op_subD : DOpR X (binaryOp .Sub) subD := op_intD0 op_sub fun _ _ _ => .int _
abbrev fdivD : DR2 := intD CDivN fun i j => .int (i.fdiv j)
theorem op_fdivD : DOpR X (binaryOp .FloorDiv) fdivD := op_intD op_fdivN fun _ _ _ => .int _
abbrev modD : DR2 := intD (fun _ j => j ≠ 0) fun i j => .int (i.fmod j)
theorem op_modD : DOpR X (binaryOp .Mod) modD := op_intD op_modN fun _ _ _ => .int _
abbrev powD : DR2 := intD CPow fun i j => .int (i ^ j.toNat)
theorem op_powD : DOpR X (binaryOp .Pow) powD := op_intD op_pow fun _ _ _ => .int _
abbrev shlD : DR2 := intD CPow fun i j => .int (i * 2 ^ j.toNat)
theorem op_shlD : DOpR X (binaryOp .LShift) shlD := op_intD op_shl fun _ _ _ => .int _
abbrev shrD : DR2 := intD (fun _ j => 0 ≤ j) fun i j => .int (i / 2 ^ j.toNat)
theorem op_shrD : DOpR X (binaryOp .RShift) shrD := op_intD op_shr fun _ _ _ => .int _
abbrev andD : DR2 := intD (fun _ _ => True) fun i j => .int (Builtin.bitAnd i j)
theorem op_andD : DOpR X (binaryOp .BitAnd) andD := op_intD0 op_and fun _ _ _ => .int _
abbrev orD : DR2 := intD (fun _ _ => True) fun i j => .int (Builtin.bitOr i j)
theorem op_orD : DOpR X (binaryOp .BitOr) orD := op_intD0 op_or fun _ _ _ => .int _
def repS (s : Str) : Nat → Str
  | 0 => ⟨#[]⟩
  | n + 1 => s ++ repS s n
def mulD : DR2 := fun x y g Q => match x, y with
  | .int i, .int j => CMul i j ∧ Q (.int (i * j)) g
  | .str a, .int k => 0 ≤ k ∧ k ≤ 100000 ∧ a.length * k.toNat ≤ 16777216 ∧ Q (.str ⟨((List.replicate k.toNat a.cps.toList).flatten).toArray⟩) g
  | .tup xs, .int k => xs ≠ [] ∧ 0 ≤ k ∧ k ≤ 1000 ∧ xs.length ≤ 1000 ∧ Q (.tup (List.replicate k.toNat xs).flatten) g
  | .ref p, .int k => ∃ xs, g p = some (.lst xs) ∧ -(2 ^ 63) ≤ k ∧ k < 2 ^ 63 ∧ xs.length * k.toNat ≤ sizeLine ∧ ∀ r, g r = none → Q (.ref r) (gup g r (.lst (List.replicate k.toNat xs).flatten))
  | _, _ => False
theorem RepL.repl {vs : List V} {ds : List D} (r : RepL K H vs ds) : ∀ k : Nat, RepL K H (List.replicate k vs).flatten (List.replicate k ds).flatten
  | 0 => .nil
  | k + 1 => by rw [List.replicate_succ, List.replicate_succ, List.flatten_cons, List.flatten_cons]; exact r.app (RepL.repl r k)
theorem foldl_cat : ∀ (l : List (Array Nat)) (acc : Array Nat), (l.foldl (· ++ ·) acc).toList = acc.toList ++ (l.map Array.toList).flatten
  | [], acc => by simp
  | a :: l, acc => by
    rw [List.foldl_cons, foldl_cat l (acc ++ a), Array.toList_append, List.map_cons, List.flatten_cons, List.append_assoc]
theorem mul_txt {a : Str} {k : Int} (h0 : 0 ≤ k) : PySem.Txt.mul a k = ⟨((List.replicate k.toNat a.cps.toList).flatten).toArray⟩ := by
  by_cases h : 0 < k
  case neg =>
    have : k = 0 := by omega
    subst this
    rfl
  unfold PySem.Txt.mul
  rw [if_neg (by omega)]
  by_cases h2 : (k == 1 || a.length == 0) = true
  · rw [if_pos h2]
    rcases Bool.or_eq_true_iff.mp h2 with e | e
    · have : k = 1 := by simpa using e
      subst this
      refine TL.ext_tl ?_
      simp [TL.tl]
    · have : a.cps.size = 0 := by simpa [Str.length] using e
      have e2 : a.cps.toList = [] := by
        rw [← List.length_eq_zero_iff, Array.length_toList]; exact this
      refine TL.ext_tl ?_
      show a.cps.toList = _
      rw [e2]
      simp [TL.tl]
  · rw [if_neg h2]
    refine TL.ext_tl ?_
    show ((List.replicate k.toNat a.cps).foldl (· ++ ·) #[]).toList = _
    rw [foldl_cat, List.map_replicate]
    simp [TL.tl]
end
section
open PySem.Spec PyProof.Rows
theorem tuple_mul1 (l : Addr) (items : Array Value) (n : Nat) (dd : Option Addr) (sl : Array (Option Value)) (u : Tok) :
    Meets (Builtin.«tuple.__mul__» ⟨[.ref l, .int 1 u], []⟩) (fun _ R s => s.heap.get? l = some { cls := .type "tuple", dict := dd, data := .seq items n, slots := sl } ∧ R (.ok (.ret (Value.ref l))) s) :=
  .of_wp fun prog w A R s h => by
    obtain ⟨hp, g, d, tk, os⟩ := s
    obtain ⟨hl, h⟩ := h
    have f1 := AutoSeq1.idx_int
    have c1 : (items.isEmpty || (1 : Int) == 1) = true := by rw [Bool.or_eq_true]; exact .inr rfl
    wp_walk using wpAny_loadPart' hl
    repeat (first
      | (refine wpAny_ite_false (decide_eq_false (by decide)) ?_; wp_walk using wpAny_loadPart' hl)
      | (refine wpAny_ite_true (decide_eq_true c1) ?_; wp_walk using wpAny_loadPart' hl))
    exact ⟨_, rfl, h⟩
theorem tuple_mul0 (l : Addr) (items : Array Value) (n : Nat) (dd : Option Addr) (sl : Array (Option Value)) (u : Tok) (hi : items.isEmpty = false) :
    Meets (Builtin.«tuple.__mul__» ⟨[.ref l, .int 0 u], []⟩) (fun _ R s => s.heap.get? l = some { cls := .type "tuple", dict := dd, data := .seq items n, slots := sl } ∧
      R (.ok (.ret (Value.ref s.heap.objs.size))) { s with heap := s.heap.push { cls := Value.type "tuple", data := Data.seq #[] }, toks := s.toks }) :=
  .of_wp fun prog w A R s h => by
    obtain ⟨hp, g, d, tk, os⟩ := s
    obtain ⟨hl, h⟩ := h
    have f1 := AutoSeq1.idx_int
    have c1 : (items.isEmpty || (0 : Int) == 1) = false := by rw [hi]; rfl
    wp_walk using wpAny_loadPart' hl
    repeat (first
      | (refine wpAny_ite_false (decide_eq_false (by decide)) ?_; wp_walk using wpAny_loadPart' hl)
      | (refine wpAny_ite_false (decide_eq_false (by rw [c1]; exact Bool.false_ne_true)) ?_; wp_walk using wpAny_loadPart' hl)
      | (refine wpAny_ite_true (decide_eq_true (by rw [hi]; rfl)) ?_; wp_walk using wpAny_loadPart' hl))
    exact ⟨_, rfl, h⟩
def rMulT (K : PySem.W.Frag) : R2 := fun x y H Q => ∃ l k xs, x = .ref l ∧ y = .int k ∧ SqT K H l xs ∧ xs ≠ [] ∧ 0 ≤ k ∧ k ≤ 1000 ∧ xs.length ≤ 1000 ∧ (k = 1 → Q (.ref l) H) ∧ (k ≠ 1 → ∀ p, H p = none → Q (.ref p) (upd H p (.tup (List.replicate k.toNat xs).flatten)))
theorem op_mulT {X : Cx} : OpR X (binaryOp .Mult) (rMulT X.K) := by
  intro pins s σ H x y v u Q I rx ry h
  obtain ⟨l, k, xs, rfl, rfl, hT, hne, h1, h2, hz, q1, q⟩ := h
  by_cases hk : 2 ≤ k
  · exact op_repT pins s σ H _ _ v u Q I rx ry ⟨l, k, xs, rfl, rfl, hT, hne, hk, h2, hz, q (by omega)⟩
  cases rx
  obtain ⟨t, rfl⟩ := ry
  obtain ⟨its, r, ⟨⟨cls, dd, data, sl⟩, ho, hc, n, hd⟩, hs⟩ := I.tuple hT
  simp only at hc hd
  subst hc hd
  have hle : its.length = xs.length := r.length.symm
  have hn : its ≠ [] := fun e => hne (by
    rw [e] at hle
    exact List.eq_nil_of_length_eq_zero hle.symm)
  have hi : its.toArray.isEmpty = false := by
    cases its with
    | nil => exact absurd rfl hn
    | cons a b => rfl
  rcases (by omega : k = 0 ∨ k = 1) with rfl | rfl
  · refine wpAny_binaryOp_repeat_ref (T := "tuple") (U := "int") (by decide) ⟨_, ho, rfl⟩ (fun s' => typeIs_int s' 0 t) noFill_tuple_mul F.fills_int_mul F.slot_int_rmul repeat_tuple F.slot_int_index.lookup
      (call_meets F.slot_int_rmul (typeIs_int s 0 t) F.entry_int_rmul (F.args_int_rmul_2 _ _) (int_rmul_tuple 0 t l its.toArray n dd sl)
        ⟨ho, rfl, ⟨_, ho, rfl⟩, call_meets F.slot_tuple_mul ⟨_, ho, rfl⟩ F.entry_tuple_mul (F.args_tuple_mul_2 _ _) (tuple_mul0 l its.toArray n dd sl t hi) ⟨ho, ?_⟩⟩)
    refine ⟨.ref s.heap.objs.size, _, I.laid (t' := s.toks) (o := .tup []) (fun b ob q => Heap.get?_push_of_some _ q) (Nat.le_refl _) ?_, rfl, q (by omega) _ (I.hok.fresh (Nat.le_refl _))⟩
    exact ⟨Nat.zero_le _, [], .nil, IsTup.new _ _⟩
  · refine wpAny_binaryOp_repeat_ref (T := "tuple") (U := "int") (by decide) ⟨_, ho, rfl⟩ (fun s' => typeIs_int s' 1 t) noFill_tuple_mul F.fills_int_mul F.slot_int_rmul repeat_tuple F.slot_int_index.lookup
      (call_meets F.slot_int_rmul (typeIs_int s 1 t) F.entry_int_rmul (F.args_int_rmul_2 _ _) (int_rmul_tuple 1 t l its.toArray n dd sl)
        ⟨ho, rfl, ⟨_, ho, rfl⟩, call_meets F.slot_tuple_mul ⟨_, ho, rfl⟩ F.entry_tuple_mul (F.args_tuple_mul_2 _ _) (tuple_mul1 l its.toArray n dd sl t) ⟨ho, ?_⟩⟩)
    exact ⟨.ref l, H, I, rfl, q1 rfl⟩
end
section
variable {X : Cx} {K : PySem.W.Frag} {H H' : Hp} {σ : L2.St}
theorem op_mulD : DOpR X (binaryOp .Mult) mulD := fun pins s σ H x y v u Q I rx ry ⟨dx, dy, g, Qd, r1, r2, rg, q, k⟩ => by
  cases r1 with
  | int i => cases r2 with
    | int j => exact op_mul pins s σ H _ _ v u Q I rx ry ⟨i, j, rfl, rfl, q.1, rg.fin k (.int _) q.2⟩
    | _ => exact q.elim
  | str a => cases r2 with
    | int j =>
      obtain ⟨b1, b2, hz, q⟩ := q
      obtain ⟨t, rfl⟩ := rx
      obtain ⟨t2, rfl⟩ := ry
      refine PySem.SB.mul ⟨by simp; omega, fun h1 _ => ?_, fun h1 _ => ?_⟩ fun t' tk => ?_
      · have hl : (a.length : Int) ≤ 16777216 := by
          have : a.length * 1 ≤ a.length * j.toNat := Nat.mul_le_mul_left _ (by omega)
          omega
        have : 92233720368547 ≤ ((2 : Int) ^ 63 - 1) / j := by
          rw [Int.le_ediv_iff_mul_le (by omega)]
          omega
        omega
      · unfold Builtin.Str.tooLong
        rw [sizeLine_eq]
        simp; omega
      · rw [mul_txt b1]
        exact ⟨.str _, H, I.tok _, ⟨_, rfl⟩, rg.fin k (.str _) q⟩
    | _ => exact q.elim
  | ref p => cases r2 with
    | int j =>
      obtain ⟨ds, h1, b1, b2, hz, q⟩ := q
      obtain ⟨xs, e1, l1⟩ := rg.lst h1
      refine op_rep pins s σ H _ _ v u Q I rx ry ⟨p, j, xs, rfl, rfl, e1, b1, b2, by rw [l1.length]; exact hz, fun n hn => rg.finL k hn (l1.repl _) q⟩
    | _ => exact q.elim
  | tup hT l1 => cases r2 with
    | int j =>
      obtain ⟨hne, b1, b2, hz, q⟩ := q
      refine op_mulT pins s σ H _ _ v u Q I rx ry ⟨_, j, _, rfl, rfl, tq hT, fun z => hne (l1.inj1 z), b1, b2, by rw [l1.length]; exact hz, fun e => ?_, fun _ n hn => rg.finU k hn (l1.repl _) q⟩
      subst e
      rw [show (1 : Int).toNat = 1 from rfl, List.replicate_succ, List.replicate_zero, List.flatten_cons, List.flatten_nil, List.append_nil] at q
      exact rg.fin k (.tup hT l1) q
    | _ => exact q.elim
  | _ => cases r2 <;> exact q.elim
end
end DL

namespace DL
open PySem L2
/-! ### data without references, as the library's data -/
mutual
def pd : D → PyData
  | .non => .none
  | .bl b => .bool b
  | .int i => .int i
  | .str x => .str x
  | .tup ds => .tuple (pds ds)
  | .ref _ => .none
  | .klst _ => .none
def pds : List D → List PyData
  | [] => []
  | d :: ds => pd d :: pds ds
end
mutual
def pure? : D → Bool
  | .tup ds => pures ds
  | .str x => PyData.strOk x
  | .ref _ => false
  | .klst _ => false
  | _ => true
def pures : List D → Bool
  | [] => true
  | d :: ds => pure? d && pures ds
end
mutual
def dep : D → Nat
  | .tup ds => deps ds + 1
  | _ => 0
def deps : List D → Nat
  | [] => 0
  | d :: ds => max (dep d) (deps ds)
end
mutual
theorem pd_lay : ∀ d : D, pure? d = true → (pd d).canLay0 = true
  | .non, _ => by simp [pd, PyData.canLay0]
  | .bl b, _ => by simp [pd, PyData.canLay0]
  | .int i, _ => by simp [pd, PyData.canLay0]
  | .str x, h => by
    simp only [pd, PyData.canLay0]
    exact h
  | .ref a, _ => by simp [pd, PyData.canLay0]
  | .klst a, _ => by simp [pd, PyData.canLay0]
  | .tup ds, h => by
    simp only [pd, PyData.canLay0]
    exact pds_lay ds h
theorem pds_lay : ∀ ds : List D, pures ds = true → PyData.canLayAll0 (pds ds) = true
  | [], _ => by simp [pds, PyData.canLayAll0]
  | d :: ds, h => by
    simp only [pures, Bool.and_eq_true] at h
    simp [pds, PyData.canLayAll0, pd_lay d h.1, pds_lay ds h.2]
end
mutual
theorem pd_dep : ∀ d : D, (pd d).depth ≤ dep d
  | .non => by simp [pd, PyData.depth]
  | .bl b => by simp [pd, PyData.depth]
  | .int i => by simp [pd, PyData.depth]
  | .str x => by simp [pd, PyData.depth]
  | .ref a => by simp [pd, PyData.depth]
  | .klst a => by simp [pd, PyData.depth]
  | .tup ds => by
    have h := pds_dep ds
    simp only [pd, PyData.depth, dep]
    omega
theorem pds_dep : ∀ ds : List D, PyData.depthAll (pds ds) ≤ deps ds
  | [] => by simp [pds, PyData.depthAll]
  | d :: ds => by
    have h1 := pd_dep d
    have h2 := pds_dep ds
    simp only [pds, PyData.depthAll, deps]
    omega
end
/-- pure and not deep -/
def fine (d : D) : Prop := pure? d = true ∧ dep d ≤ 60
theorem fine_shaped {d : D} (h : fine d) : SeqAt.shaped (pd d) = true := by
  unfold SeqAt.shaped
  rw [pd_lay d h.1, Bool.true_and]
  have := pd_dep d
  exact decide_eq_true (Nat.le_trans this (Nat.le_trans h.2 (by decide)))
theorem fines_shaped {ds : List D} (h1 : pures ds = true) (h2 : deps ds ≤ 60) : SeqAt.shaped (.list (pds ds)) = true := by
  unfold SeqAt.shaped
  have := pds_dep ds
  have e : (PyData.list (pds ds)).canLay0 = true := by simp [PyData.canLay0, pds_lay ds h1]
  rw [e, Bool.true_and]
  refine decide_eq_true ?_
  simp only [PyData.depth]
  omega
section
variable {K : PySem.W.Frag} {H : Hp}
mutual
theorem RepD.dp : ∀ {v : V} {d : D}, RepD K H v d → pure? d = true → Dp K H v (pd d)
  | _, _, .non, _ => .non
  | _, _, .bl b, _ => .bl b
  | _, _, .int i, _ => .int i
  | _, _, .str x, _ => .str x
  | _, _, .ref a, h => by cases h
  | _, _, .kl _ _, h => by cases h
  | _, _, .tup h r, p => .tup (tq h) (RepL.dps r p)
theorem RepL.dps : ∀ {vs : List V} {ds : List D}, RepL K H vs ds → pures ds = true → DpAll K H vs (pds ds)
  | _, _, .nil, _ => .nil
  | _, _, .cons h r, p => by
    simp only [pures, Bool.and_eq_true] at p
    exact .cons (RepD.dp h p.1) (RepL.dps r p.2)
end
end
def eqP (a b : D) : Bool := PyData.eqv (pd a) (pd b)
section
variable {X : Cx} {K : PySem.W.Frag} {H H' : Hp} {σ : L2.St}
variable {a b c : Expr} {ta tb tc te : DTE} {pos : Pos}
/-! ### comparisons -/
abbrev ltD0 : DR2 := intD (fun _ _ => True) fun i j => .bl (decide (i < j))
def cmpD (f : Int → Int → Bool) (s : Str → Str → Bool) (t : PyData → PyData → Bool) : DR2 := fun x y g Q => match x, y with
  | .int i, .int j => Q (.bl (f i j)) g
  | .str i, .str j => Q (.bl (s i j)) g
  | .tup a, .tup b => pures a = true ∧ pures b = true ∧ deps a ≤ 60 ∧ PySem.W.alike (pd (.tup a)) (pd (.tup b)) = true ∧ Q (.bl (t (pd (.tup a)) (pd (.tup b)))) g
  | _, _ => False
theorem op_cmpD {f : Int → Int → Bool} {s : Str → Str → Bool} {t : PyData → PyData → Bool} {op : CmpOp} (hu : X.A.units + 64 < cLine) (h1 : OpR X (compareOp op) (rI0 fun i j => .bl (f i j))) (h2 : OpR X (compareOp op) (fun x y H Q => ∃ i j, x = .str i ∧ y = .str j ∧ Q (.bl (s i j)) H))
    (h3 : ∀ {sh : Shared} {v u : Value} {da db : PyData} {as bs : List Addr} {Q : Value → Shared → Prop} {E : Value → Shared → Prop}, Reads sh.heap v da as → Reads sh.heap u db bs → PySem.W.alike da db = true → da ≠ .none → X.A.units + min da.depth db.depth < cLine → Q (.bool (t da db)) sh → wpAny (model X.prog X.w) X.A (compareOp op v u) Q E sh) :
    DOpR X (compareOp op) (cmpD f s t) := fun pins s σ H x y v u Q I rx ry ⟨dx, dy, g, Qd, r1, r2, rg, q, k⟩ => by
  cases r1 with
  | int i => cases r2 with
    | int j => exact h1 pins s σ H _ _ v u Q I rx ry ⟨i, j, rfl, rfl, rg.fin k (.bl _) q⟩
    | _ => exact q.elim
  | str i => cases r2 with
    | str j => exact h2 pins s σ H _ _ v u Q I rx ry ⟨i, j, rfl, rfl, rg.fin k (.bl _) q⟩
    | _ => exact q.elim
  | @tup p1 xs a hs1 l1 => cases r2 with
    | @tup p2 ys b hs2 l2 =>
      obtain ⟨h4, h5, h6, h7, q⟩ := q
      obtain ⟨as, ra⟩ := Dp.reads I (pd (.tup a)) (.ref p1) v ((RepD.tup hs1 l1).dp h4) rx
      obtain ⟨bs, rb⟩ := Dp.reads I (pd (.tup b)) (.ref p2) u ((RepD.tup hs2 l2).dp h5) ry
      refine h3 ra rb h7 (fun z => by rw [pd] at z; cases z) ?_ ⟨.bl _, H, I, rfl, rg.fin k (.bl _) q⟩
      have e1 := pd_dep (.tup a)
      rw [dep] at e1
      have e2 := Nat.min_le_left (pd (.tup a)).depth (pd (.tup b)).depth
      omega
    | _ => exact q.elim
  | _ => cases r2 <;> exact q.elim
abbrev ltD : DR2 := cmpD (fun i j => decide (i < j)) (fun i j => decide (i.cps.toList < j.cps.toList)) fun a b => PySem.W.dataLt a b
abbrev leD : DR2 := cmpD (fun i j => decide (i ≤ j)) (fun i j => !decide (j.cps.toList < i.cps.toList)) fun a b => !PySem.W.dataLt b a
abbrev gtD : DR2 := cmpD (fun i j => decide (j < i)) (fun i j => decide (j.cps.toList < i.cps.toList)) fun a b => PySem.W.dataLt b a
abbrev geD : DR2 := cmpD (fun i j => decide (j ≤ i)) (fun i j => !decide (i.cps.toList < j.cps.toList)) fun a b => !PySem.W.dataLt a b
theorem op_ltD (hu : X.A.units + 64 < cLine) : DOpR X (compareOp .Lt) ltD := op_cmpD hu op_lt op_lt_str fun a b c d e f => PySem.W.lt_data a b c d e f
theorem op_leD (hu : X.A.units + 64 < cLine) : DOpR X (compareOp .LtE) leD := op_cmpD hu op_le op_le_str fun a b c d e f => PySem.W.le_data a b c d e f
theorem op_gtD (hu : X.A.units + 64 < cLine) : DOpR X (compareOp .Gt) gtD := op_cmpD hu op_gt op_gt_str fun a b c d e f => PySem.W.gt_data a b c d e f
theorem op_geD (hu : X.A.units + 64 < cLine) : DOpR X (compareOp .GtE) geD := op_cmpD hu op_ge op_ge_str fun a b c d e f => PySem.W.ge_data a b c d e f
/-- ==: scalars of one kind at once, else data -/
def eqD : DR2 := fun x y g Q => match x, y with
  | .int i, .int j => Q (.bl (decide (i = j))) g
  | .str i, .str j => Q (.bl (decide (i = j))) g
  | .bl i, .bl j => Q (.bl (decide (i = j))) g
  | .ref p, .ref q => ∃ xs ys, rdL g p xs ∧ rdL g q ys ∧ pures xs = true ∧ pures ys = true ∧ deps xs ≤ 60 ∧ deps ys ≤ 60 ∧ Q (.bl (PyData.eqv (.list (pds xs)) (.list (pds ys)))) g
  | x, y => fine x ∧ fine y ∧ Q (.bl (eqP x y)) g
def notV (Q : DK) : DK := fun x g => match x with | .bl b => Q (.bl (!b)) g | _ => False
def neD : DR2 := fun x y g Q => eqD x y g (notV Q)
theorem RepG.dpl {g : GS} (rg : RepG K H g) {p : Addr} {xs : List D} (h : rdL g p xs) (hp : pures xs = true) : Dp K H (.ref p) (.list (pds xs)) := by
  obtain ⟨vs, s, l⟩ := rg.sq h
  exact .lst s (l.dps hp)
theorem op_eqDD (hu : X.A.units + 64 < cLine) : DOpR X (compareOp .Eq) eqD := fun pins s σ H x y v u Q I rx ry ⟨dx, dy, g, Qd, r1, r2, rg, q, k⟩ => by
  have gen : (fine dx ∧ fine dy ∧ Qd (.bl (eqP dx dy)) g) → wpAny (model X.prog X.w) X.A (compareOp .Eq v u) (EP X pins σ Q) X.xe s := fun q =>
    op_eqD hu pins s σ H x y v u Q I rx ry ⟨pd dx, pd dy, r1.dp q.1.1, r2.dp q.2.1.1, fine_shaped q.1, fine_shaped q.2.1, rg.fin k (.bl _) q.2.2⟩
  cases r1 with
  | int i => cases r2 with
    | int j => exact op_eq pins s σ H _ _ v u Q I rx ry ⟨rfl, by rw [dec_int, Bool.beq_eq_decide_eq]; exact rg.fin k (.bl _) q⟩
    | _ => exact gen q
  | str i => cases r2 with
    | str j => exact op_eq pins s σ H _ _ v u Q I rx ry ⟨rfl, by rw [dec_str, Bool.beq_eq_decide_eq]; exact rg.fin k (.bl _) q⟩
    | _ => exact gen q
  | bl i => cases r2 with
    | bl j => exact op_eq pins s σ H _ _ v u Q I rx ry ⟨rfl, by rw [dec_bl, Bool.beq_eq_decide_eq]; exact rg.fin k (.bl _) q⟩
    | _ => exact gen q
  | ref i => cases r2 with
    | ref j =>
      obtain ⟨xs, ys, h1, h2, p1, p2, d1, d2, q⟩ := q
      exact op_eqD hu pins s σ H _ _ v u Q I rx ry ⟨_, _, rg.dpl h1 p1, rg.dpl h2 p2, fines_shaped p1 d1, fines_shaped p2 d2, rg.fin k (.bl _) q⟩
    | _ => exact gen q
  | _ => cases r2 <;> exact gen q
theorem op_neDD (hu : X.A.units + 64 < cLine) : DOpR X (compareOp .NotEq) neD := fun pins s σ H x y v u Q I rx ry ⟨dx, dy, g, Qd, r1, r2, rg, q, k⟩ => by
  have gen : (fine dx ∧ fine dy ∧ Qd (.bl (!eqP dx dy)) g) → wpAny (model X.prog X.w) X.A (compareOp .NotEq v u) (EP X pins σ Q) X.xe s := fun q =>
    op_neD hu pins s σ H x y v u Q I rx ry ⟨pd dx, pd dy, r1.dp q.1.1, r2.dp q.2.1.1, fine_shaped q.1, fine_shaped q.2.1, rg.fin k (.bl _) q.2.2⟩
  cases r1 with
  | int i => cases r2 with
    | int j => exact op_ne pins s σ H _ _ v u Q I rx ry ⟨rfl, by rw [dec_int, Bool.beq_eq_decide_eq]; exact rg.fin k (.bl _) q⟩
    | _ => exact gen q
  | str i => cases r2 with
    | str j => exact op_ne pins s σ H _ _ v u Q I rx ry ⟨rfl, by rw [dec_str, Bool.beq_eq_decide_eq]; exact rg.fin k (.bl _) q⟩
    | _ => exact gen q
  | bl i => cases r2 with
    | bl j => exact op_ne pins s σ H _ _ v u Q I rx ry ⟨rfl, by rw [dec_bl, Bool.beq_eq_decide_eq]; exact rg.fin k (.bl _) q⟩
    | _ => exact gen q
  | ref i => cases r2 with
    | ref j =>
      obtain ⟨xs, ys, h1, h2, p1, p2, d1, d2, q⟩ := q
      exact op_neD hu pins s σ H _ _ v u Q I rx ry ⟨_, _, rg.dpl h1 p1, rg.dpl h2 p2, fines_shaped p1 d1, fines_shaped p2 d2, rg.fin k (.bl _) q⟩
    | _ => exact gen q
  | _ => cases r2 <;> exact gen q
/-- is None, is not None -/
def isND : DR2 := fun x y g Q => y = .non ∧ Q (.bl (match x with | .non => true | _ => false)) g
def notND : DR2 := fun x y g Q => y = .non ∧ Q (.bl (match x with | .non => false | _ => true)) g
theorem op_isND : DOpR X (compareOp .Is) isND := fun pins s σ H x y v u Q I rx ry ⟨dx, dy, g, Qd, r1, r2, rg, q, k⟩ => by
  obtain ⟨rfl, q⟩ := q
  cases r2
  refine op_isN pins s σ H _ _ v u Q I rx ry ⟨rfl, ?_⟩
  cases r1 <;> exact rg.fin k (.bl _) q
theorem op_notND : DOpR X (compareOp .IsNot) notND := fun pins s σ H x y v u Q I rx ry ⟨dx, dy, g, Qd, r1, r2, rg, q, k⟩ => by
  obtain ⟨rfl, q⟩ := q
  cases r2
  refine op_notN pins s σ H _ _ v u Q I rx ry ⟨rfl, ?_⟩
  cases r1 <;> exact rg.fin k (.bl _) q
/-- in -/
def inStr (a b : Str) : Bool := !(Builtin.Str.occurrences b a 0 b.length 1).isEmpty
theorem inStr_one (c : Nat) (z : Str) : inStr ⟨#[c]⟩ z = decide (c ∈ z.cps.toList) := PySem.StrLaws.found_one z c
def scalD : D → Bool
  | .non => true
  | .bl _ => true
  | .int _ => true
  | .str _ => true
  | _ => false
def inD : DR2 := fun x y g Q => match x, y with
  | .str a, .str b => Q (.bl (inStr a b)) g
  | x, .ref p => ∃ ds, rdL g p ds ∧ ((scalD x = true ∧ ds.all scalD = true) ∨ (fine x ∧ pures ds = true ∧ deps ds ≤ 60)) ∧ Q (.bl (ds.any fun z => eqP z x)) g
  | x, .tup ds => ((scalD x = true ∧ ds.all scalD = true) ∨ (fine x ∧ pures ds = true ∧ deps ds ≤ 60)) ∧ Q (.bl (ds.any fun z => eqP z x)) g
  | _, _ => False
def notInD : DR2 := fun x y g Q => inD x y g (notV Q)
theorem any_pds (f : PyData → Bool) : ∀ ds : List D, (pds ds).any f = ds.any fun z => f (pd z)
  | [] => rfl
  | d :: ds => by rw [pds, List.any_cons, List.any_cons, any_pds f ds]
theorem eqV_eqP {v w : V} {d e : D} (r : RepD K H v d) (r' : RepD K H w e) (h : scalD d = true) (h' : scalD e = true) : flatV v = true ∧ eqV v w = eqP d e := by
  cases r <;> first | cases h | skip
  all_goals (cases r' <;> first | cases h' | skip)
  all_goals (refine ⟨rfl, ?_⟩; simp [eqV, eqP, pd, PyData.eqv])
theorem inV_eqP {w : V} {e : D} (r' : RepD K H w e) (h' : scalD e = true) : ∀ {vs : List V} {ds : List D}, RepL K H vs ds → ds.all scalD = true → vs.all flatV = true ∧ inV w vs = ds.any fun z => eqP z e
  | _, _, .nil, _ => ⟨rfl, rfl⟩
  | _, _, .cons (v := v) (vs := vs) h r, p => by
    rw [List.all_cons, Bool.and_eq_true] at p
    obtain ⟨f, e1⟩ := eqV_eqP h r' p.1 h'
    obtain ⟨f2, e2⟩ := inV_eqP r' h' r p.2
    refine ⟨by rw [List.all_cons, f, f2]; rfl, ?_⟩
    rw [List.any_cons, ← e2, ← e1]
    rfl
theorem op_inDD (hu : X.A.units + 65 < cLine) : DOpR X (compareOp .In) inD := fun pins s σ H x y v u Q I rx ry ⟨dx, dy, g, Qd, r1, r2, rg, q, k⟩ => by
  cases r2 with
  | str b => cases r1 with
    | str a => exact op_in_str pins s σ H _ _ v u Q I rx ry ⟨a, b, rfl, rfl, rg.fin k (.bl _) q⟩
    | _ => exact q.elim
  | ref p =>
    have q' : ∃ ds, rdL g p ds ∧ ((scalD dx = true ∧ ds.all scalD = true) ∨ (fine dx ∧ pures ds = true ∧ deps ds ≤ 60)) ∧ Qd (.bl (ds.any fun z => eqP z dx)) g := by cases r1 <;> exact q
    obtain ⟨ds, h, ⟨h1, h2⟩ | ⟨f, hp, hd⟩, q⟩ := q'
    · obtain ⟨xs, hs, l⟩ := rg.sq h
      obtain ⟨f, e⟩ := inV_eqP r1 h1 l h2
      refine op_in_seq pins s σ H _ _ v u Q I rx ry ⟨p, xs, rfl, .inl hs, (eqV_eqP r1 r1 h1 h1).1, f, ?_⟩
      rw [e]
      exact rg.fin k (.bl _) q
    · refine op_inD hu pins s σ H _ _ v u Q I rx ry ⟨pd dx, pds ds, r1.dp f.1, rg.dpl h hp, fine_shaped f, fines_shaped hp hd, ?_⟩
      rw [any_pds]
      exact rg.fin k (.bl _) q
  | @tup p xs ds hs l =>
    have q' : ((scalD dx = true ∧ ds.all scalD = true) ∨ (fine dx ∧ pures ds = true ∧ deps ds ≤ 60)) ∧ Qd (.bl (ds.any fun z => eqP z dx)) g := by cases r1 <;> exact q
    obtain ⟨⟨h1, h2⟩ | ⟨f, hp, hd⟩, q⟩ := q'
    · obtain ⟨f, e⟩ := inV_eqP r1 h1 l h2
      refine op_in_seq pins s σ H _ _ v u Q I rx ry ⟨p, xs, rfl, .inr (tq hs), (eqV_eqP r1 r1 h1 h1).1, f, ?_⟩
      rw [e]
      exact rg.fin k (.bl _) q
    · obtain ⟨as, ra⟩ := Dp.reads I (pd dx) _ v (r1.dp f.1) rx
      obtain ⟨bs, rb⟩ := Dp.reads I (pd (.tup ds)) (.ref p) u ((RepD.tup hs l).dp hp) ry
      refine SeqAt.in_tuple_reads rb ra (SeqAt.canLay_of_shaped (fines_shaped hp hd)) (SeqAt.canLay_of_shaped (fine_shaped f)) (PyProof.Rows.room_in_shaped (fine_shaped f) hu) ⟨.bl _, H, I, rfl, ?_⟩
      rw [any_pds]
      exact rg.fin k (.bl _) q
  | _ => cases r1 <;> exact q.elim
theorem op_notInDD (hu : X.A.units + 65 < cLine) : DOpR X (compareOp .NotIn) notInD := fun pins s σ H x y v u Q I rx ry ⟨dx, dy, g, Qd, r1, r2, rg, q, k⟩ => by
  cases r2 with
  | str b => cases r1 with
    | str a => exact op_notin_str pins s σ H _ _ v u Q I rx ry ⟨a, b, rfl, rfl, rg.fin k (.bl _) q⟩
    | _ => exact q.elim
  | ref p =>
    have q' : ∃ ds, rdL g p ds ∧ ((scalD dx = true ∧ ds.all scalD = true) ∨ (fine dx ∧ pures ds = true ∧ deps ds ≤ 60)) ∧ notV Qd (.bl (ds.any fun z => eqP z dx)) g := by cases r1 <;> exact q
    obtain ⟨ds, h, ⟨h1, h2⟩ | ⟨f, hp, hd⟩, q⟩ := q'
    · obtain ⟨xs, hs, l⟩ := rg.sq h
      obtain ⟨f, e⟩ := inV_eqP r1 h1 l h2
      refine op_notIn_seq pins s σ H _ _ v u Q I rx ry ⟨p, xs, rfl, .inl hs, (eqV_eqP r1 r1 h1 h1).1, f, ?_⟩
      rw [e]
      exact rg.fin k (.bl _) q
    · refine op_notInD hu pins s σ H _ _ v u Q I rx ry ⟨pd dx, pds ds, r1.dp f.1, rg.dpl h hp, fine_shaped f, fines_shaped hp hd, ?_⟩
      rw [any_pds]
      exact rg.fin k (.bl _) q
  | @tup p xs ds hs l =>
    have q' : ((scalD dx = true ∧ ds.all scalD = true) ∨ (fine dx ∧ pures ds = true ∧ deps ds ≤ 60)) ∧ notV Qd (.bl (ds.any fun z => eqP z dx)) g := by cases r1 <;> exact q
    obtain ⟨⟨h1, h2⟩ | ⟨f, hp, hd⟩, q⟩ := q'
    · obtain ⟨f, e⟩ := inV_eqP r1 h1 l h2
      refine op_notIn_seq pins s σ H _ _ v u Q I rx ry ⟨p, xs, rfl, .inr (tq hs), (eqV_eqP r1 r1 h1 h1).1, f, ?_⟩
      rw [e]
      exact rg.fin k (.bl _) q
    · obtain ⟨as, ra⟩ := Dp.reads I (pd dx) _ v (r1.dp f.1) rx
      obtain ⟨bs, rb⟩ := Dp.reads I (pd (.tup ds)) (.ref p) u ((RepD.tup hs l).dp hp) ry
      refine SeqAt.notIn_tuple_reads rb ra (SeqAt.canLay_of_shaped (fines_shaped hp hd)) (SeqAt.canLay_of_shaped (fine_shaped f)) (PyProof.Rows.room_in_shaped (fine_shaped f) hu) ⟨.bl _, H, I, rfl, ?_⟩
      rw [any_pds]
      exact rg.fin k (.bl _) q
  | _ => cases r1 <;> exact q.elim
/-! ### subscripts, slices -/
def ixD : DR2 := fun x y g Q => match y with
  | .int i => (match x with
    | .tup ds => ∃ d, atI ds i = some d ∧ Q d g
    | .str z => z.length ≤ sizeLine ∧ ∃ c, atI z.cps.toList i = some c ∧ Q (.str ⟨#[c]⟩) g
    | .ref p => ∃ ds d, rdL g p ds ∧ atI ds i = some d ∧ Q d g
    | .klst ds => ∃ d, atI ds i = some d ∧ Q d g
    | _ => False)
  | _ => False
theorem RepL.at {vs : List V} {ds : List D} (r : RepL K H vs ds) {i : Int} {d : D} (h : atI ds i = some d) : ∃ v, atI vs i = some v ∧ RepD K H v d := by
  unfold atI at h ⊢
  rw [r.length]
  cases q : ixN ds.length i with
  | none => rw [q] at h; cases h
  | some j =>
    rw [q] at h
    obtain ⟨v, e, r'⟩ := r.get (i := j) (by simpa using h)
    exact ⟨v, by simpa using e, r'⟩
theorem de_ix (ha : DE X a ta) (hb : DE X b tb) (hs : PlainIx b) : DE X (.Subscript a b pos) (dOp ixD ta tb) := by
  refine ⟨peW (pe_ix (r := lR2 X.K ixD) ?_ ha.pe hb.pe hs) fun _ _ _ h => lop h⟩
  intro value slice pins s σ H x y v u Q I rx ry ⟨dx, dy, g, Qd, r1, r2, rg, q, k⟩
  cases r2 with
  | int i => cases r1 with
    | @tup p xs ds hs l =>
      obtain ⟨d, e, q⟩ := q
      obtain ⟨w, e', r⟩ := l.at e
      exact ix_tup value slice pins s σ H _ _ v u Q I rx ry ⟨p, xs, i, w, rfl, rfl, tq hs, e', rg.fin k r q⟩
    | str z =>
      obtain ⟨hz, c, e, q⟩ := q
      exact ix_str value slice pins s σ H _ _ v u Q I rx ry ⟨z, i, c, rfl, rfl, hz, e, rg.fin k (.str _) q⟩
    | ref p =>
      obtain ⟨ds, d, h, e, q⟩ := q
      obtain ⟨xs, hs, l⟩ := rg.sq h
      obtain ⟨w, e', r⟩ := l.at e
      exact ix_list value slice pins s σ H _ _ v u Q I rx ry ⟨p, xs, i, w, rfl, rfl, hs, e', rg.fin k r q⟩
    | @kl p xs ds hs l =>
      obtain ⟨d, e, q⟩ := q
      obtain ⟨w, e', r⟩ := l.at e
      exact ix_list value slice pins s σ H _ _ v u Q I rx ry ⟨p, xs, i, w, rfl, rfl, hs.sq, e', rg.fin k r q⟩
    | _ => exact q.elim
  | _ => exact q.elim
abbrev DTO := EV → GS → (Option Int → GS → Prop) → Prop
structure DO (X : Cx) (e : Option Expr) (T : DTO) : Prop where
  po : PO X e (fun σ H Q => ∃ e g Qd, RepE X.K H σ e ∧ RepG X.K H g ∧ T e g Qd ∧ ∀ o H' g', Ext H H' → RepG X.K H' g' → Qd o g' → Q o H')
def dNo : DTO := fun _ g Q => Q none g
def dPart (t : DTE) : DTO := fun e g Q => t e g fun x g1 => ∃ i, x = .int i ∧ Q (some i) g1
theorem poW {e : Option Expr} {t t' : TO} (h : PO X e t) (w : ∀ σ H Q, t' σ H Q → t σ H Q) : PO X e t' := ⟨fun pins s σ H Q I q => h.run pins s σ H Q I (w σ H Q q)⟩
theorem do_no : DO X none dNo := ⟨poW po_none fun σ H Q ⟨e, g, Qd, re, rg, q, k⟩ => k none H g (.refl H) rg q⟩
theorem do_some (h : DE X a ta) : DO X (some a) (dPart ta) := ⟨poW (po_some h.pe) fun σ H Q ⟨e, g, Qd, re, rg, q, k⟩ => ⟨e, g, _, re, rg, q, fun v d H1 g1 x1 rg1 r ⟨i, e1, q1⟩ => by
  subst e1
  cases r
  exact ⟨i, rfl, k _ _ _ x1 rg1 q1⟩⟩⟩
def cutD (xs : List D) (lo hi : Option Int) : List D := (xs.drop (HT.sIx xs.length 0 lo)).take (HT.sIx xs.length xs.length hi - HT.sIx xs.length 0 lo)
def slD : D → Option Int → Option Int → GS → DK → Prop := fun x lo hi g Q => match x with
  | .tup ds => Q (.tup (cutD ds lo hi)) g
  | .str z => z.length ≤ sizeLine ∧ Q (.str (cutS z lo hi)) g
  | .ref p => ∃ ds, rdL g p ds ∧ ∀ r, g r = none → Q (.ref r) (gup g r (.lst (cutD ds lo hi)))
  | _ => False
def dSl (t : DTE) (l h : DTO) : DTE := fun e g Q => t e g fun x g1 => l e g1 fun lo g2 => h e g2 fun hi g3 => slD x lo hi g3 Q
theorem RepL.cut {vs : List V} {ds : List D} (r : RepL K H vs ds) (lo hi : Option Int) : RepL K H (cutV vs lo hi) (cutD ds lo hi) := by
  unfold cutV cutD
  rw [r.length]
  exact (r.drop _).take _
theorem cutD_whole {xs : List D} {lo hi : Option Int} (h : HT.sIx xs.length 0 lo = 0 ∧ HT.sIx xs.length xs.length hi = xs.length) : cutD xs lo hi = xs := by
  unfold cutD
  rw [h.1, h.2]
  simp
theorem de_sl {lo hi : Option Expr} {p2 : Pos} {tl th : DTO} (ha : DE X a ta) (hl : DO X lo tl) (hh : DO X hi th) : DE X (.Subscript a (.Slice lo hi none p2) pos) (dSl ta tl th) := by
  refine ⟨peW (pe_slice (r := fun x lo hi H Q => ∃ dx g Qd, RepD X.K H x dx ∧ RepG X.K H g ∧ slD dx lo hi g Qd ∧ KD X.K H Qd Q) ?_ ha.pe hl.po hh.po) fun σ H Q ⟨e, g, Qd, re, rg, q, k⟩ => ?_⟩
  · intro pins s σ H x v vl vu lo hi sl Q I rx hs pl pu ⟨dx, g, Qd, r1, rg, q, k⟩
    cases r1 with
    | @tup p xs ds hq l =>
      refine sl_tupA pins s σ H _ v vl vu lo hi sl Q I rx hs pl pu ⟨p, xs, rfl, tq hq, fun h => ?_, fun _ n hn => ?_⟩
      · rw [l.length] at h
        have q' : Qd (.tup (cutD ds lo hi)) g := q
        rw [cutD_whole h] at q'
        exact rg.fin k (.tup hq l) q'
      · exact rg.finU k hn (l.cut lo hi) q
    | str z => exact sl_str pins s σ H _ v vl vu lo hi sl Q I rx hs pl pu ⟨z, rfl, q.1, rg.fin k (.str _) q.2⟩
    | ref p =>
      obtain ⟨ds, h, q⟩ := q
      obtain ⟨xs, hq, l⟩ := rg.sq h
      exact sl_list pins s σ H _ v vl vu lo hi sl Q I rx hs pl pu ⟨p, xs, rfl, hq, fun n hn => rg.finL k hn (l.cut lo hi) q⟩
    | _ => exact q.elim
  · refine ⟨e, g, _, re, rg, q, fun x dx H1 g1 x1 rg1 r1 q1 => ?_⟩
    refine ⟨e, g1, _, re.mono x1, rg1, q1, fun l H2 g2 x2 rg2 q2 => ?_⟩
    refine ⟨e, g2, _, re.mono (x1.trans x2), rg2, q2, fun u H3 g3 x3 rg3 q3 => ?_⟩
    exact ⟨dx, g3, Qd, r1.mono (x2.trans x3), rg3, q3, k.mono ((x1.trans x2).trans x3)⟩
end
end DL

namespace DL
open PySem L2
section
variable {X : Cx} {K : PySem.W.Frag} {H H' : Hp} {σ : L2.St}
variable {a b c e : Expr} {es : List Expr} {ta tb tc te : DTE} {tA tB : DTT} {t : DTA} {pos : Pos}
/-! ### argument lists, displays -/
def dNil : DTA := fun _ g Q => Q [] g
def dCons (ta : DTE) (tr : DTA) : DTA := fun e g Q => ta e g fun x g1 => tr e g1 fun xs g2 => Q (x :: xs) g2
theorem da_nil : DA X [] dNil := ⟨paW pa_nil fun σ H Q ⟨e, g, Qd, re, rg, q, k⟩ => k [] [] H g (.refl H) rg .nil q⟩
theorem da_cons (ha : DE X a ta) (hr : DA X es t) (hs : starEach (a :: es) X.env = (false, eval a X.env) :: starEach es X.env := by rfl) : DA X (a :: es) (dCons ta t) :=
  ⟨paW (pa_cons ha.pe hr.pa hs) fun σ H Q ⟨e, g, Qd, re, rg, q, k⟩ => ⟨e, g, _, re, rg, q, fun x d H1 g1 x1 rg1 r1 q1 => ⟨e, g1, _, re.mono x1, rg1, q1, fun vs ds H2 g2 x2 rg2 l2 q2 =>
    k _ _ H2 g2 (x1.trans x2) rg2 (.cons (r1.mono x2) l2) q2⟩⟩⟩
def dTup (t : DTA) : DTE := fun e g Q => t e g fun xs g1 => xs.length ≤ sizeLine ∧ Q (.tup xs) g1
def dLst (t : DTA) : DTE := fun e g Q => t e g fun xs g1 => xs.length ≤ sizeLine ∧ ∀ p, g1 p = none → Q (.ref p) (gup g1 p (.lst xs))
theorem de_tup {x1} (h : DA X es t) : DE X (.Tuple es x1 pos) (dTup t) := ⟨peW (pe_tup h.pa) fun σ H Q ⟨e, g, Qd, re, rg, q, k⟩ => ⟨e, g, _, re, rg, q, fun vs ds H1 g1 x1 rg1 l1 q1 =>
  ⟨by rw [l1.length]; exact q1.1, fun p hp => rg1.finU (k.mono x1) hp l1 q1.2⟩⟩⟩
theorem de_lst (h : DA X es t) : DE X (.List es pos) (dLst t) := ⟨peW (pe_lst h.pa) fun σ H Q ⟨e, g, Qd, re, rg, q, k⟩ => ⟨e, g, _, re, rg, q, fun vs ds H1 g1 x1 rg1 l1 q1 =>
  ⟨by rw [l1.length]; exact q1.1, fun p hp => rg1.finL (k.mono x1) hp l1 q1.2⟩⟩⟩
/-! ### calls of built-ins -/
abbrev DRC := List D → GS → DK → Prop
def lRC (K : PySem.W.Frag) (r : DRC) : List V → Hp → VK → Prop := fun xs H Q => ∃ ds g Qd, RepL K H xs ds ∧ RepG K H g ∧ r ds g Qd ∧ KD K H Qd Q
def dCB (r : DRC) (t : DTA) : DTE := fun e g Q => t e g fun xs g1 => r xs g1 Q
theorem lcb {r : DRC} {t : DTA} {σ : L2.St} {H : Hp} {Q : VK} (h : lE K (dCB r t) σ H Q) : tCB (lRC K r) (lA K t) σ H Q := by
  obtain ⟨e, g, Qd, re, rg, q, k⟩ := h
  exact ⟨e, g, _, re, rg, q, fun vs ds H1 g1 x1 rg1 l1 q1 => ⟨ds, g1, Qd, l1, rg1, q1, k.mono x1⟩⟩
variable {x : Str} {p : Pos} {id T : String} {r : DRC}
theorem de_callB (hc : CallR X (.builtin id) (lRC X.K r)) (hg : Gl X x) (hm : X.mg x = none) (hv : bootBuiltins x = some (.builtin id)) (ha : DA X (e :: es) t) (hn : x ≠ "__name__" := by decide) (hdb : (x == ("__debug__" : Str)) = false := by decide)
    (he : starEach (e :: es) X.env = (false, eval e X.env) :: starEach es X.env := by rfl) (hpl : (backTo pos (starEach es X.env)).any (·.1) = false := by rfl) : DE X (.Call (.Name x p) (e :: es) [] pos) (dCB r t) :=
  ⟨peW (pe_callB hc hg hm hv ha.pa hn hdb he hpl) fun _ _ _ h => lcb h⟩
theorem de_callTy (hc : CallR X (.type T) (lRC X.K r)) (hg : Gl X x) (hm : X.mg x = none) (hv : bootBuiltins x = some (.type T)) (ha : DA X (e :: es) t) (hn : x ≠ "__name__" := by decide) (hdb : (x == ("__debug__" : Str)) = false := by decide)
    (he : starEach (e :: es) X.env = (false, eval e X.env) :: starEach es X.env := by rfl) (hpl : (backTo pos (starEach es X.env)).any (·.1) = false := by rfl) : DE X (.Call (.Name x p) (e :: es) [] pos) (dCB r t) :=
  ⟨peW (pe_callTy hc hg hm hv ha.pa hn hdb he hpl) fun _ _ _ h => lcb h⟩
def lenD : DRC := fun xs g Q => match xs with
  | [.str z] => z.length ≤ sizeLine ∧ Q (.int (z.length : Nat)) g
  | [.tup ds] => Q (.int (ds.length : Nat)) g
  | [.klst ds] => Q (.int (ds.length : Nat)) g
  | [.ref p] => ∃ ds, rdL g p ds ∧ Q (.int (ds.length : Nat)) g
  | _ => False
theorem call_lenD : CallR X (.builtin "len") (lRC X.K lenD) := fun pins s σ H xs us Q I rs ⟨ds, g, Qd, l, rg, q, k⟩ => by
  rcases l with _ | ⟨r1, _ | ⟨r2, l⟩⟩
  · exact q.elim
  · cases r1 with
    | str z => exact call_len pins s σ H _ us Q I rs ⟨_, _, rfl, ⟨q.1, rfl⟩, rg.fin k (.int _) q.2⟩
    | @tup a xs ds hs l => exact call_len pins s σ H _ us Q I rs ⟨_, ds.length, rfl, .inr ⟨xs, tq hs, l.length.symm⟩, rg.fin k (.int _) q⟩
    | @kl a xs ds hs l => exact call_len pins s σ H _ us Q I rs ⟨_, ds.length, rfl, .inl ⟨xs, hs.sq, l.length.symm⟩, rg.fin k (.int _) q⟩
    | ref p =>
      obtain ⟨ds, h, q⟩ := q
      obtain ⟨xs, hs, l⟩ := rg.sq h
      exact call_len pins s σ H _ us Q I rs ⟨_, ds.length, rfl, .inl ⟨xs, hs, l.length.symm⟩, rg.fin k (.int _) q⟩
    | _ => exact q.elim
  · cases r1 <;> exact q.elim
def intF : DRC := fun xs g Q => match xs with
  | [.int i] => Q (.int i) g
  | [.bl b] => Q (.int (if b then 1 else 0)) g
  | [.str z] => ∃ n, PySem.intText? z = some n ∧ z.length ≤ 640 ∧ Q (.int n) g
  | _ => False
theorem call_intF : CallR X (.type "int") (lRC X.K intF) := fun pins s σ H xs us Q I rs ⟨ds, g, Qd, l, rg, q, k⟩ => by
  rcases l with _ | ⟨r1, _ | ⟨r2, l⟩⟩
  · exact q.elim
  · cases r1 with
    | int i => exact call_int1 pins s σ H _ us Q I rs (.inl ⟨i, rfl, rg.fin k (.int _) q⟩)
    | bl b => exact call_int1 pins s σ H _ us Q I rs (.inr ⟨b, rfl, rg.fin k (.int _) q⟩)
    | str z =>
      obtain ⟨n, h, hz, q⟩ := q
      exact call_int_str pins s σ H _ us Q I rs ⟨z, n, rfl, h, hz, rg.fin k (.int _) q⟩
    | _ => exact q.elim
  · cases r1 <;> exact q.elim
def int1D (C : Int → Prop) (f : Int → D) : DRC := fun xs g Q => match xs with
  | [.int i] => C i ∧ Q (f i) g
  | _ => False
abbrev absD : DRC := int1D (fun _ => True) fun i => .int (if i < 0 then -i else i)
theorem call_absD : CallR X (.builtin "abs") (lRC X.K absD) := fun pins s σ H xs us Q I rs ⟨ds, g, Qd, l, rg, q, k⟩ => by
  rcases l with _ | ⟨r1, _ | ⟨r2, l⟩⟩
  · exact q.elim
  · cases r1 with
    | int i => exact call_abs pins s σ H _ us Q I rs ⟨i, rfl, rg.fin k (.int _) q.2⟩
    | _ => exact q.elim
  · cases r1 <;> exact q.elim
abbrev strF : DRC := int1D (fun i => i.natAbs.log2 < 1920) fun i => .str (toString i)
theorem call_strF : CallR X (.type "str") (lRC X.K strF) := fun pins s σ H xs us Q I rs ⟨ds, g, Qd, l, rg, q, k⟩ => by
  rcases l with _ | ⟨r1, _ | ⟨r2, l⟩⟩
  · exact q.elim
  · cases r1 with
    | int i => exact call_str_int pins s σ H _ us Q I rs ⟨i, rfl, q.1, rg.fin k (.str _) q.2⟩
    | _ => exact q.elim
  · cases r1 <;> exact q.elim
def ordD : DRC := fun xs g Q => match xs with
  | [.str z] => z.length = 1 ∧ Q (.int (z.cps.getD 0 0 : Nat)) g
  | _ => False
theorem call_ordD : CallR X (.builtin "ord") (lRC X.K ordD) := fun pins s σ H xs us Q I rs ⟨ds, g, Qd, l, rg, q, k⟩ => by
  rcases l with _ | ⟨r1, _ | ⟨r2, l⟩⟩
  · exact q.elim
  · cases r1 with
    | str z => exact call_ord pins s σ H _ us Q I rs ⟨z, rfl, q.1, rg.fin k (.int _) q.2⟩
    | _ => exact q.elim
  · cases r1 <;> exact q.elim
def two2D (f : Int → Int → Int) (s : Str → Str → Str) : DRC := fun xs g Q => match xs with
  | [.int i, .int j] => Q (.int (f i j)) g
  | [.str i, .str j] => Q (.str (s i j)) g
  | _ => False
abbrev max2D : DRC := two2D (fun i j => if j > i then j else i) fun i j => if i.cps.toList < j.cps.toList then j else i
abbrev min2D : DRC := two2D (fun i j => if j < i then j else i) fun i j => if j.cps.toList < i.cps.toList then j else i
def strItems (xs : Array (Str × Tok)) : Array Value := xs.map fun p => .str p.1 p.2
def strAt (xs : Array (Str × Tok)) (i : Nat) : Str := (xs[i]?.map (·.1)).getD ""
theorem strItems_at {xs : Array (Str × Tok)} {i : Nat} {v : Value} (h : (strItems xs)[i]? = some v) : ∃ t, v = .str (strAt xs i) t := by
  simp only [strItems, Array.getElem?_map, Option.map_eq_some_iff] at h
  obtain ⟨p, hp, rfl⟩ := h
  exact ⟨p.2, by simp [strAt, hp]⟩
theorem strs_gt {prog : Program} {w : World} {A : Around} {P : Nat → Value → Prop} (val : Nat → Str) (hval : ∀ i v, P i v → ∃ t, v = .str (val i) t) :
    CmpOf prog w A .Gt P (fun i j => decide ((val j).cps.toList < (val i).cps.toList)) := fun i j vi vj s Q E hi hj h => by
  obtain ⟨t, rfl⟩ := hval i vi hi
  obtain ⟨u, rfl⟩ := hval j vj hj
  exact richCompare_gives (op := .Gt) (typeIs_str s _ t) (typeIs_str s _ u) F.slot_str_gt F.entry_str_gt (F.args_str_gt_2 _ _) (gives_str_gt _ _ t u) (fun x => nomatch x) h
theorem strs_lt {prog : Program} {w : World} {A : Around} {P : Nat → Value → Prop} (val : Nat → Str) (hval : ∀ i v, P i v → ∃ t, v = .str (val i) t) :
    CmpOf prog w A .Lt P (fun i j => decide ((val i).cps.toList < (val j).cps.toList)) := fun i j vi vj s Q E hi hj h => by
  obtain ⟨t, rfl⟩ := hval i vi hi
  obtain ⟨u, rfl⟩ := hval j vj hj
  exact richCompare_gives (op := .Lt) (typeIs_str s _ t) (typeIs_str s _ u) F.slot_str_lt F.entry_str_lt (F.args_str_lt_2 _ _) (gives_str_lt _ _ t u) (fun x => nomatch x) h
theorem max_two_strs {prog : Program} {w : World} {A : Around} {E : Value → Shared → Prop} {s : Shared} {a b : Str} {t u : Tok} {Q : Value → Shared → Prop} (hh : A.handled = none)
    (h : ∀ h' tk, (∀ c o, s.heap.get? c = some o → h'.get? c = some o) → Q (if a.cps.toList < b.cps.toList then .str b u else .str a t) { s with heap := h', toks := tk }) :
    wpAny (model prog w) A (call (.builtin "max") [.str a t, .str b u]) Q E s := by
  have hT : (s.heap.push { cls := .type "tuple", data := .seq #[.str a t, .str b u] }).IsTuple s.heap.objs.size (strItems #[(a, t), (b, u)]) := ⟨_, Heap.get?_push_size _ rfl, rfl, 0, by simp [strItems]⟩
  refine call_max_two (wpAny_pyIter_tuple hT ?_)
  have hsz : (s.heap.push { cls := .type "tuple", data := .seq #[.str a t, .str b u] }).objs.size = s.heap.objs.size + 1 := Heap.size_push ..
  refine ⟨_, [_, s.heap.objs.size], [_], _, _, _, _, rfl, Walks.tuple (A := A.in1) hh _ s.heap.objs.size (by rw [hsz]; exact Nat.ne_of_lt (Nat.lt_succ_self _)) (strItems #[(a, t), (b, u)]),
    ⟨⟨_, Heap.get?_push_size _ rfl, rfl, rfl⟩, hT.push _⟩, fun c hc => ?_, by simp [strItems], strs_gt (strAt #[(a, t), (b, u)]) (fun _ _ => strItems_at), fun v h' tk hP hk => ?_⟩
  · show c < ((s.heap.push _).push _).objs.size
    rw [Heap.size_push, hsz]
    rcases List.mem_cons.mp hc with rfl | hc
    · rw [hsz]; exact Nat.lt_succ_self _
    · rcases List.mem_cons.mp hc with rfl | hc
      · exact Nat.lt_succ_of_lt (Nat.lt_succ_self _)
      · cases hc
  · have hold : ∀ c o, s.heap.get? c = some o → h'.get? c = some o := fun c o e => by
      refine hk c o (fun hm => ?_) (Heap.get?_push_of_some _ (Heap.get?_push_of_some _ e))
      rcases List.mem_cons.mp hm with e1 | hm
      · have := Heap.lt_size e; rw [e1, hsz] at this; exact Nat.lt_irrefl _ (Nat.lt_of_succ_lt this)
      · cases hm
    have := h h' tk hold
    have hv : v = if a.cps.toList < b.cps.toList then Value.str b u else Value.str a t := by
      have hP' : (strItems #[(a, t), (b, u)])[argBest (fun i j => decide ((strAt #[(a, t), (b, u)] j).cps.toList < (strAt #[(a, t), (b, u)] i).cps.toList)) 1]? = some v := by
        have hsz2 : (strItems #[(a, t), (b, u)]).size - 1 = 1 := by simp [strItems]
        rw [← hsz2]; exact hP
      by_cases hba : a.cps.toList < b.cps.toList
      · have e : argBest (fun i j => decide ((strAt #[(a, t), (b, u)] j).cps.toList < (strAt #[(a, t), (b, u)] i).cps.toList)) 1 = 1 := by
          show (if decide _ = true then 1 else 0) = 1
          exact if_pos (decide_eq_true hba)
        rw [e] at hP'
        rw [if_pos hba]
        simp [strItems] at hP'
        exact hP'.symm
      · have e : argBest (fun i j => decide ((strAt #[(a, t), (b, u)] j).cps.toList < (strAt #[(a, t), (b, u)] i).cps.toList)) 1 = 0 := by
          show (if decide _ = true then 1 else 0) = 0
          exact if_neg fun h => hba (of_decide_eq_true h)
        rw [e] at hP'
        rw [if_neg hba]
        simp [strItems] at hP'
        exact hP'.symm
    rw [hv]; exact this
theorem min_two_strs {prog : Program} {w : World} {A : Around} {E : Value → Shared → Prop} {s : Shared} {a b : Str} {t u : Tok} {Q : Value → Shared → Prop} (hh : A.handled = none)
    (h : ∀ h' tk, (∀ c o, s.heap.get? c = some o → h'.get? c = some o) → Q (if b.cps.toList < a.cps.toList then .str b u else .str a t) { s with heap := h', toks := tk }) :
    wpAny (model prog w) A (call (.builtin "min") [.str a t, .str b u]) Q E s := by
  have hT : (s.heap.push { cls := .type "tuple", data := .seq #[.str a t, .str b u] }).IsTuple s.heap.objs.size (strItems #[(a, t), (b, u)]) := ⟨_, Heap.get?_push_size _ rfl, rfl, 0, by simp [strItems]⟩
  refine call_min_two (wpAny_pyIter_tuple hT ?_)
  have hsz : (s.heap.push { cls := .type "tuple", data := .seq #[.str a t, .str b u] }).objs.size = s.heap.objs.size + 1 := Heap.size_push ..
  refine ⟨_, [_, s.heap.objs.size], [_], _, _, _, _, rfl, Walks.tuple (A := A.in1) hh _ s.heap.objs.size (by rw [hsz]; exact Nat.ne_of_lt (Nat.lt_succ_self _)) (strItems #[(a, t), (b, u)]),
    ⟨⟨_, Heap.get?_push_size _ rfl, rfl, rfl⟩, hT.push _⟩, fun c hc => ?_, by simp [strItems], strs_lt (strAt #[(a, t), (b, u)]) (fun _ _ => strItems_at), fun v h' tk hP hk => ?_⟩
  · show c < ((s.heap.push _).push _).objs.size
    rw [Heap.size_push, hsz]
    rcases List.mem_cons.mp hc with rfl | hc
    · rw [hsz]; exact Nat.lt_succ_self _
    · rcases List.mem_cons.mp hc with rfl | hc
      · exact Nat.lt_succ_of_lt (Nat.lt_succ_self _)
      · cases hc
  · have hold : ∀ c o, s.heap.get? c = some o → h'.get? c = some o := fun c o e => by
      refine hk c o (fun hm => ?_) (Heap.get?_push_of_some _ (Heap.get?_push_of_some _ e))
      rcases List.mem_cons.mp hm with e1 | hm
      · have := Heap.lt_size e; rw [e1, hsz] at this; exact Nat.lt_irrefl _ (Nat.lt_of_succ_lt this)
      · cases hm
    have := h h' tk hold
    have hv : v = if b.cps.toList < a.cps.toList then Value.str b u else Value.str a t := by
      have hP' : (strItems #[(a, t), (b, u)])[argBest (fun i j => decide ((strAt #[(a, t), (b, u)] i).cps.toList < (strAt #[(a, t), (b, u)] j).cps.toList)) 1]? = some v := by
        have hsz2 : (strItems #[(a, t), (b, u)]).size - 1 = 1 := by simp [strItems]
        rw [← hsz2]; exact hP
      by_cases hba : b.cps.toList < a.cps.toList
      · have e : argBest (fun i j => decide ((strAt #[(a, t), (b, u)] i).cps.toList < (strAt #[(a, t), (b, u)] j).cps.toList)) 1 = 1 := by
          show (if decide _ = true then 1 else 0) = 1
          exact if_pos (decide_eq_true hba)
        rw [e] at hP'
        rw [if_pos hba]
        simp [strItems] at hP'
        exact hP'.symm
      · have e : argBest (fun i j => decide ((strAt #[(a, t), (b, u)] i).cps.toList < (strAt #[(a, t), (b, u)] j).cps.toList)) 1 = 0 := by
          show (if decide _ = true then 1 else 0) = 0
          exact if_neg fun h => hba (of_decide_eq_true h)
        rw [e] at hP'
        rw [if_neg hba]
        simp [strItems] at hP'
        exact hP'.symm
    rw [hv]; exact this
theorem call_two2D {f : Value} {h : Int → Int → Int} {h2 : Str → Str → Str} (hc : CallR X f (fun xs H Q => ∃ i j, xs = [.int i, .int j] ∧ Q (.int (h i j)) H)) (hc2 : CallR X f (fun xs H Q => ∃ i j, xs = [.str i, .str j] ∧ Q (.str (h2 i j)) H)) : CallR X f (lRC X.K (two2D h h2)) := fun pins s σ H xs us Q I rs ⟨ds, g, Qd, l, rg, q, k⟩ => by
  rcases l with _ | ⟨r1, _ | ⟨r2, _ | ⟨r3, l⟩⟩⟩
  · exact q.elim
  · cases r1 <;> exact q.elim
  · cases r1 with
    | int i => cases r2 with
      | int j => exact hc pins s σ H _ us Q I rs ⟨i, j, rfl, rg.fin k (.int _) q⟩
      | _ => exact q.elim
    | str i => cases r2 with
      | str j => exact hc2 pins s σ H _ us Q I rs ⟨i, j, rfl, rg.fin k (.str _) q⟩
      | _ => exact q.elim
    | _ => cases r2 <;> exact q.elim
  · cases r1 <;> cases r2 <;> exact q.elim
theorem call_max2S (hc : X.calm = true) : CallR X (.builtin "max") (fun xs H Q => ∃ i j : Str, xs = [.str i, .str j] ∧ Q (.str (if i.cps.toList < j.cps.toList then j else i)) H) := by
  intro pins s σ H xs us Q I r h
  obtain ⟨i, j, rfl, q⟩ := h
  obtain ⟨u, w', rfl, ⟨t, rfl⟩, ⟨t', rfl⟩⟩ := vals2 r
  refine max_two_strs (I.ok.hd hc) fun h' tk k => ⟨_, H, I.kept k, ?_, q⟩
  by_cases hj : i.cps.toList < j.cps.toList
  · rw [if_pos hj, if_pos hj]; exact ⟨_, rfl⟩
  · rw [if_neg hj, if_neg hj]; exact ⟨_, rfl⟩
theorem call_min2S (hc : X.calm = true) : CallR X (.builtin "min") (fun xs H Q => ∃ i j : Str, xs = [.str i, .str j] ∧ Q (.str (if j.cps.toList < i.cps.toList then j else i)) H) := by
  intro pins s σ H xs us Q I r h
  obtain ⟨i, j, rfl, q⟩ := h
  obtain ⟨u, w', rfl, ⟨t, rfl⟩, ⟨t', rfl⟩⟩ := vals2 r
  refine min_two_strs (I.ok.hd hc) fun h' tk k => ⟨_, H, I.kept k, ?_, q⟩
  by_cases hj : j.cps.toList < i.cps.toList
  · rw [if_pos hj, if_pos hj]; exact ⟨_, rfl⟩
  · rw [if_neg hj, if_neg hj]; exact ⟨_, rfl⟩
theorem call_max2D (hc : X.calm = true) : CallR X (.builtin "max") (lRC X.K max2D) := call_two2D (call_max2 hc) (call_max2S hc)
theorem call_min2D (hc : X.calm = true) : CallR X (.builtin "min") (lRC X.K min2D) := call_two2D (call_min2 hc) (call_min2S hc)
def tupF : DRC := fun xs g Q => match xs with
  | [.tup ds] => Q (.tup ds) g
  | [.ref p] => ∃ ds, rdL g p ds ∧ Q (.tup ds) g
  | _ => False
theorem call_tupF : CallR X (.type "tuple") (lRC X.K tupF) := fun pins s σ H xs us Q I rs ⟨ds, g, Qd, l, rg, q, k⟩ => by
  rcases l with _ | ⟨r1, _ | ⟨r2, l⟩⟩
  · exact q.elim
  · cases r1 with
    | @tup a xs ds hs l => exact call_tuple_of pins s σ H _ us Q I rs ⟨a, xs, rfl, .inr ⟨tq hs, rg.fin k (.tup hs l) q⟩⟩
    | ref p =>
      obtain ⟨ds, h, q⟩ := q
      obtain ⟨xs, hs, l⟩ := rg.sq h
      exact call_tuple_of pins s σ H _ us Q I rs ⟨p, xs, rfl, .inl ⟨hs, fun n hn => rg.finU k hn l q⟩⟩
    | _ => exact q.elim
  · cases r1 <;> exact q.elim
def lstF : DRC := fun xs g Q => match xs with
  | [.klst ds] => ∀ p, g p = none → Q (.ref p) (gup g p (.lst ds))
  | [.tup ds] => ∀ p, g p = none → Q (.ref p) (gup g p (.lst ds))
  | [.ref p] => ∃ ds, rdL g p ds ∧ ∀ p, g p = none → Q (.ref p) (gup g p (.lst ds))
  | _ => False
theorem call_lstF : CallR X (.type "list") (lRC X.K lstF) := fun pins s σ H xs us Q I rs ⟨ds, g, Qd, l, rg, q, k⟩ => by
  rcases l with _ | ⟨r1, _ | ⟨r2, l⟩⟩
  · exact q.elim
  · cases r1 with
    | @tup a xs ds hs l => exact call_list_of pins s σ H _ us Q I rs ⟨a, xs, rfl, .inr (tq hs), fun n hn => rg.finL k hn l q⟩
    | @kl a xs ds hs l => exact call_list_of pins s σ H _ us Q I rs ⟨a, xs, rfl, .inl hs.sq, fun n hn => rg.finL k hn l q⟩
    | ref p =>
      obtain ⟨ds, h, q⟩ := q
      obtain ⟨xs, hs, l⟩ := rg.sq h
      exact call_list_of pins s σ H _ us Q I rs ⟨p, xs, rfl, .inl hs, fun n hn => rg.finL k hn l q⟩
    | _ => exact q.elim
  · cases r1 <;> exact q.elim
/-! ### isinstance(x, T), T a written built-in class -/
def tyD (g : GS) : D → String → Prop
  | .non, n => n = "NoneType"
  | .bl _, n => n = "bool"
  | .int _, n => n = "int"
  | .str _, n => n = "str"
  | .tup _, n => n = "tuple"
  | .klst _, n => n = "list"
  | .ref p, n => n = "list" ∧ ∃ ds, rdL g p ds
def dIsi (T : String) (ta : DTE) : DTE := fun e g Q => ta e g fun x g1 => ∃ n b, tyD g1 x n ∧ kitB n T = some b ∧ Q (.bl b) g1
theorem tyD_tyX {g : GS} (rg : RepG K H g) {v : V} {d : D} (r : RepD K H v d) {n : String} (h : tyD g d n) : TyX K H v (.type n) := by
  cases r with
  | non => cases h; exact .base .non
  | bl b => cases h; exact .base (.bl b)
  | int b => cases h; exact .base (.int b)
  | str b => cases h; exact .base (.str b)
  | ref p =>
    obtain ⟨rfl, ds, h⟩ := h
    rcases h with h | h
    · obtain ⟨xs, e, _⟩ := rg.lst h
      exact .base (.lst e)
    · obtain ⟨o, xs, e, _⟩ := rg.ro h
      exact .base (.frz e)
  | kl hs l =>
    cases h
    rcases hs with ⟨o, h⟩ | ⟨o, its, m, h1, h2, _⟩
    · exact .base (.frz h)
    · exact .kList h1 h2
  | tup hs l =>
    cases h
    exact .base (.tup hs)
theorem de_isi {p2 : Pos} {y : Str} (hg : Gl X "isinstance") (hm : X.mg "isinstance" = none) (ha : DE X a ta) (hg2 : Gl X y) (hm2 : X.mg y = none) (hv : bootBuiltins y = some (.type T)) (hn2 : y ≠ "__name__" := by decide) (hd2 : (y == ("__debug__" : Str)) = false := by decide) (hs1 : starEach [a, .Name y p2] X.env = (false, eval a X.env) :: starEach [.Name y p2] X.env := by rfl) (hs2 : starEach [.Name y p2] X.env = (false, eval (.Name y p2) X.env) :: starEach [] X.env := by rfl)
    (hpl : (backTo pos (starEach [.Name y p2] X.env)).any (·.1) = false := by rfl) : DE X (.Call (.Name "isinstance" p) [a, .Name y p2] [] pos) (dIsi T ta) :=
  ⟨peW (pe_callB call_isi hg hm (by decide +kernel) (pa_cons ha.pe (pa_cons (pe_bltn (v := .ty T) hg2 hm2 hv rfl hn2 hd2) pa_nil hs2) hs1) (by decide) (by decide) hs1 hpl) fun σ H Q ⟨e, g, Qd, re, rg, q, k⟩ =>
    ⟨e, g, _, re, rg, q, fun x d H1 g1 x1 rg1 r1 q1 => by
      obtain ⟨n, b, h1, h2, q1⟩ := q1
      exact ⟨x, .ty T, _, _, b, rfl, .ty T, tyD_tyX rg1 r1 h1, kit_ty h2, rg1.fin (k.mono x1) (.bl b) q1⟩⟩⟩
/-! ### methods of built-in types -/
abbrev DRM := D → List D → GS → DK → Prop
def lRM (K : PySem.W.Frag) (r : DRM) : V → List V → Hp → VK → Prop := fun x xs H Q => ∃ d ds g Qd, RepD K H x d ∧ RepL K H xs ds ∧ RepG K H g ∧ r d ds g Qd ∧ KD K H Qd Q
def rcv (T : String) (x : D) (g : GS) : Prop := match x with
  | .str _ => T = "str"
  | .ref p => T = "list" ∧ ∃ ds, rdL g p ds
  | _ => False
theorem rcv_ty {g : GS} (rg : RepG K H g) {v : V} {d : D} (r : RepD K H v d) {T : String} (h : rcv T d g) : tyV K T v H := by
  cases r with
  | str z => exact h
  | ref p =>
    obtain ⟨h1, ds, h⟩ := h
    obtain ⟨xs, hs, _⟩ := rg.sq h
    exact .inl ⟨h1, xs, hs⟩
  | _ => exact h.elim
def dBM (T : String) (r : DRM) (to : DTE) (t : DTA) : DTE := fun e g Q => to e g fun x g1 => rcv T x g1 ∧ t e g1 fun ys g2 => r x ys g2 Q
def dBM0 (T : String) (r : DRM) (to : DTE) : DTE := fun e g Q => to e g fun x g1 => rcv T x g1 ∧ r x [] g1 Q
variable {o : Expr} {to : DTE} {name : Str} {apos cpos : Pos} {rm : DRM}
theorem de_bm0 (pa : PlainAttrs T) (slot : Slot T name id) (hty : typeOf (.builtin id) = pure (.type "method_descriptor")) (hm : MtR X id (lRM X.K rm)) (ho : DE X o to)
    (hbase : attributeBase o name X.env (eval o X.env) = eval o X.env := by rfl) (hline : (apos.endLine == cpos.line) = true := by rfl) : DE X (.Call (.Attribute o name apos) [] [] cpos) (dBM0 T rm to) :=
  ⟨peW (pe_bm0 pa slot hty hm ho.pe hbase hline) fun σ H Q ⟨e, g, Qd, re, rg, q, k⟩ => ⟨e, g, _, re, rg, q, fun x d H1 g1 x1 rg1 r1 q1 =>
    ⟨rcv_ty rg1 r1 q1.1, d, [], g1, Qd, r1, .nil, rg1, q1.2, k.mono x1⟩⟩⟩
theorem de_bm (pa : PlainAttrs T) (slot : Slot T name id) (hty : typeOf (.builtin id) = pure (.type "method_descriptor")) (hm : MtR X id (lRM X.K rm)) (ho : DE X o to) (ha : DA X (e :: es) t)
    (hbase : attributeBase o name X.env (eval o X.env) = eval o X.env := by rfl)
    (hfew : ((backTo cpos (starEach (e :: es) X.env)).all (fun x => !x.1) && (backToKw cpos (keywordEach [] X.env)).all (fun x => x.1.isSome)
      && decide ((e :: es).length + ([] : List Keyword).length + (if ([] : List Keyword).isEmpty then 0 else 1) < 30)) = true := by rfl)
    (hline : (apos.endLine == cpos.line) = true := by rfl) (hs : starEach (e :: es) X.env = (false, eval e X.env) :: starEach es X.env := by rfl) (hplain : (backTo cpos (starEach es X.env)).any (·.1) = false := by rfl) :
    DE X (.Call (.Attribute o name apos) (e :: es) [] cpos) (dBM T rm to t) :=
  ⟨peW (pe_bm pa slot hty hm ho.pe ha.pa hbase hfew hline hs hplain) fun σ H Q ⟨e, g, Qd, re, rg, q, k⟩ => ⟨e, g, _, re, rg, q, fun x d H1 g1 x1 rg1 r1 q1 =>
    ⟨rcv_ty rg1 r1 q1.1, e, g1, _, re.mono x1, rg1, q1.2, fun vs ds H2 g2 x2 rg2 l2 q2 => ⟨d, ds, g2, Qd, r1.mono x2, l2, rg2, q2, k.mono (x1.trans x2)⟩⟩⟩⟩
def appD : DRM := fun x ys g Q => match x, ys with
  | .ref p, [y] => ∃ ds, g p = some (.lst ds) ∧ ds.length < sizeLine ∧ Q .non (gup g p (.lst (ds ++ [y])))
  | _, _ => False
theorem mt_appD : MtR X "list.append" (lRM X.K appD) := fun pins s σ H x xs v us Q I rx rs ⟨d, ds, g, Qd, r, l, rg, q, k⟩ => by
  cases r with
  | ref p => rcases l with _ | ⟨r1, _ | ⟨r2, l⟩⟩
             · exact q.elim
             · obtain ⟨ds, h, hz, q⟩ := q
               obtain ⟨xs, e, l⟩ := rg.lst h
               exact mt_append pins s σ H _ _ v us Q I rx rs ⟨p, xs, _, rfl, rfl, e, by rw [l.length]; exact hz, k _ _ _ _ (.lst e) (rg.setL e (l.app (.cons r1 .nil))) .non q⟩
             · exact q.elim
  | _ => cases l <;> exact q.elim
def extD : DRM := fun x ys g Q => match x, ys with
  | .ref p, [.ref b] => ∃ ds es, g p = some (.lst ds) ∧ g b = some (.lst es) ∧ ds.length + es.length ≤ sizeLine ∧ Q .non (gup g p (.lst (ds ++ es)))
  | _, _ => False
theorem mt_extD : MtR X "list.extend" (lRM X.K extD) := fun pins s σ H x xs v us Q I rx rs ⟨d, ds, g, Qd, r, l, rg, q, k⟩ => by
  cases r with
  | ref p => rcases l with _ | ⟨r1, _ | ⟨r2, l⟩⟩
             · exact q.elim
             · cases r1 with
               | ref b =>
                 obtain ⟨ds, es, h, h2, hz, q⟩ := q
                 obtain ⟨xs, e, l⟩ := rg.lst h
                 obtain ⟨ys, e2, l2⟩ := rg.lst h2
                 exact mt_extend pins s σ H _ _ v us Q I rx rs ⟨p, b, xs, ys, rfl, rfl, e, e2, by rw [l.length, l2.length]; exact hz, k _ _ _ _ (.lst e) (rg.setL e (l.app l2)) .non q⟩
               | _ => exact q.elim
             · cases r1 <;> exact q.elim
  | _ => exact q.elim
theorem RepL.dropLast {vs : List V} {ds : List D} (r : RepL K H vs ds) : RepL K H vs.dropLast ds.dropLast := by
  rw [List.dropLast_eq_take, List.dropLast_eq_take, r.length]
  exact r.take _
def popD : DRM := fun x ys g Q => match x, ys with
  | .ref p, [] => ∃ ds y, g p = some (.lst ds) ∧ ds[ds.length - 1]? = some y ∧ Q y (gup g p (.lst ds.dropLast))
  | .ref p, [.int i] => ∃ ds k y, g p = some (.lst ds) ∧ -(2 ^ 63) ≤ i ∧ i < 2 ^ 63 ∧ seqIndex? i ds.length = some k ∧ ds[k]? = some y ∧ Q y (gup g p (.lst (ds.eraseIdx k)))
  | _, _ => False
theorem mt_popD : MtR X "list.pop" (lRM X.K popD) := fun pins s σ H x xs v us Q I rx rs ⟨d, ds, g, Qd, r, l, rg, q, k⟩ => by
  cases r with
  | ref p => rcases l with _ | ⟨r1, _ | ⟨r2, l⟩⟩
             · obtain ⟨ds, y, h, h1, q⟩ := q
               obtain ⟨xs, e, l⟩ := rg.lst h
               obtain ⟨w, e1, r1⟩ := l.get h1
               exact mt_pop pins s σ H _ _ v us Q I rx rs ⟨p, xs, w, rfl, rfl, e, by rw [l.length]; exact e1, k _ _ _ _ (.lst e) (rg.setL e l.dropLast) (r1.mono (.lst e)) q⟩
             · cases r1 with
               | int i =>
                 obtain ⟨ds, j, y, h, b1, b2, hj, h1, q⟩ := q
                 obtain ⟨xs, e, l⟩ := rg.lst h
                 obtain ⟨w, e1, r1⟩ := l.get h1
                 exact mt_popAt pins s σ H _ _ v us Q I rx rs ⟨p, xs, i, j, w, rfl, rfl, e, b1, b2, by rw [l.length]; exact hj, e1, k _ _ _ _ (.lst e) (rg.setL e (l.erase j)) (r1.mono (.lst e)) q⟩
               | _ => exact q.elim
             · cases r1 <;> exact q.elim
  | _ => exact q.elim
def revD : DRM := fun x ys g Q => match x, ys with
  | .ref p, [] => ∃ ds, g p = some (.lst ds) ∧ Q .non (gup g p (.lst ds.reverse))
  | _, _ => False
theorem mt_revD : MtR X "list.reverse" (lRM X.K revD) := fun pins s σ H x xs v us Q I rx rs ⟨d, ds, g, Qd, r, l, rg, q, k⟩ => by
  cases r with
  | ref p => cases l with
    | nil =>
      obtain ⟨ds, h, q⟩ := q
      obtain ⟨xs, e, l⟩ := rg.lst h
      exact mt_reverse pins s σ H _ _ v us Q I rx rs ⟨p, xs, rfl, rfl, e, k _ _ _ _ (.lst e) (rg.setL e l.rev) .non q⟩
    | cons _ _ => exact q.elim
  | _ => exact q.elim
def joinD : DRM := fun x ys g Q => match x, ys with
  | .str a, [.tup ds] => ∃ zs : List Str, ds = zs.map D.str ∧ (zs.map (·.length)).sum + zs.length * a.length ≤ 16777216 ∧ Q (.str (Txt.join a zs)) g
  | .str a, [.ref p] => ∃ zs : List Str, rdL g p (zs.map D.str) ∧ (zs.map (·.length)).sum + zs.length * a.length ≤ 16777216 ∧ Q (.str (Txt.join a zs)) g
  | _, _ => False
theorem mt_joinD : MtR X "str.join" (lRM X.K joinD) := fun pins s σ H x xs v us Q I rx rs ⟨d, ds, g, Qd, r, l, rg, q, k⟩ => by
  cases r with
  | str a => rcases l with _ | ⟨r1, _ | ⟨r2, l⟩⟩
             · exact q.elim
             · cases r1 with
               | @tup b xs ds hs l =>
                 obtain ⟨zs, rfl, hz, q⟩ := q
                 have := l.strs zs
                 subst this
                 exact mt_join pins s σ H _ _ v us Q I rx rs ⟨a, b, zs, rfl, rfl, .inr (tq hs), hz, rg.fin k (.str _) q⟩
               | ref p =>
                 obtain ⟨zs, h, hz, q⟩ := q
                 obtain ⟨xs, hs, l⟩ := rg.sq h
                 have := l.strs zs
                 subst this
                 exact mt_join pins s σ H _ _ v us Q I rx rs ⟨a, p, zs, rfl, rfl, .inl hs, hz, rg.fin k (.str _) q⟩
               | _ => exact q.elim
             · cases r1 <;> exact q.elim
  | _ => exact q.elim
/-- a text's method without arguments -/
def str0D (C : Str → Prop) (f : Str → D) : DRM := fun x ys g Q => match x, ys with
  | .str a, [] => C a ∧ Q (f a) g
  | _, _ => False
theorem mt_str0 {C : Str → Prop} {f : Str → V} {f' : Str → D} (h : MtR X id (fun x xs H Q => ∃ a, x = .str a ∧ xs = [] ∧ C a ∧ Q (f a) H)) (r : ∀ H a, RepD X.K H (f a) (f' a)) : MtR X id (lRM X.K (str0D C f')) := fun pins s σ H x xs v us Q I rx rs ⟨d, ds, g, Qd, r1, l, rg, q, k⟩ => by
  cases r1 with
  | str a => cases l with
    | nil => exact h pins s σ H _ _ v us Q I rx rs ⟨a, rfl, rfl, q.1, rg.fin k (r _ _) q.2⟩
    | cons _ _ => exact q.elim
  | _ => exact q.elim
abbrev lowerD : DRM := str0D (fun a => a.length ≤ 5592405) fun a => .str (Txt.lower a)
theorem mt_lowerD : MtR X "str.lower" (lRM X.K lowerD) := mt_str0 mt_lower fun _ _ => .str _
abbrev upperD : DRM := str0D (fun a => a.length ≤ 5592405) fun a => .str (Txt.upper a)
theorem mt_upperD : MtR X "str.upper" (lRM X.K upperD) := mt_str0 mt_upper fun _ _ => .str _
/-- a text's method with one text -/
def str1D (f : Str → Str → D) : DRM := fun x ys g Q => match x, ys with
  | .str a, [.str b] => Q (f a b) g
  | _, _ => False
theorem mt_str1 {f : Str → Str → V} {f' : Str → Str → D} (h : MtR X id (fun x xs H Q => ∃ a b, x = .str a ∧ xs = [.str b] ∧ Q (f a b) H)) (r : ∀ H a b, RepD X.K H (f a b) (f' a b)) : MtR X id (lRM X.K (str1D f')) := fun pins s σ H x xs v us Q I rx rs ⟨d, ds, g, Qd, r1, l, rg, q, k⟩ => by
  cases r1 with
  | str a => rcases l with _ | ⟨r1, _ | ⟨r2, l⟩⟩
             · exact q.elim
             · cases r1 with
               | str b => exact h pins s σ H _ _ v us Q I rx rs ⟨a, b, rfl, rfl, rg.fin k (r _ _ _) q⟩
               | _ => exact q.elim
             · cases r1 <;> exact q.elim
  | _ => exact q.elim
abbrev startsD : DRM := str1D fun a b => .bl (Txt.startswith a b)
theorem mt_startsD : MtR X "str.startswith" (lRM X.K startsD) := mt_str1 mt_startswith fun _ _ _ => .bl _
abbrev endsD : DRM := str1D fun a b => .bl (Txt.endswith a b)
theorem mt_endsD : MtR X "str.endswith" (lRM X.K endsD) := mt_str1 mt_endswith fun _ _ _ => .bl _
abbrev findD : DRM := str1D fun a b => .int (Txt.find a b)
theorem mt_findD : MtR X "str.find" (lRM X.K findD) := mt_str1 mt_find fun _ _ _ => .int _
def splitD : DRM := fun x ys g Q => match x, ys with
  | .str a, [.str b] => (b.length == 0) = false ∧ a.length + 2 ≤ sizeLine ∧ ∀ p, g p = none → Q (.ref p) (gup g p (.lst ((Txt.split a b).map D.str)))
  | _, _ => False
theorem mt_splitD : MtR X "str.split" (lRM X.K splitD) := fun pins s σ H x xs v us Q I rx rs ⟨d, ds, g, Qd, r1, l, rg, q, k⟩ => by
  cases r1 with
  | str a => rcases l with _ | ⟨r1, _ | ⟨r2, l⟩⟩
             · exact q.elim
             · cases r1 with
               | str b => exact mt_split pins s σ H _ _ v us Q I rx rs ⟨a, b, rfl, rfl, q.1, q.2.1, fun n hn => rg.finL k hn (.ofStrs _) q.2.2⟩
               | _ => exact q.elim
             · cases r1 <;> exact q.elim
  | _ => exact q.elim
end
end DL

namespace DL
open PySem L2
section
variable {X : Cx} {K : PySem.W.Frag} {H H' : Hp} {σ : L2.St}
variable {a b c e : Expr} {es rest : List Expr} {ta tb tc te : DTE} {tA tB : DTT} {t : DTA} {pos : Pos}
/-! ### tests -/
def dAnd (t u : DTT) : DTT := fun e g Q => t e g fun c g1 => if c = true then u e g1 Q else Q false g1
def dOr (t u : DTT) : DTT := fun e g Q => t e g fun c g1 => if c = true then Q true g1 else u e g1 Q
def dNot (t : DTT) : DTT := fun e g Q => t e g fun c g1 => Q (!c) g1
theorem dw_and1 (ha : DT X a tA) : DW X (.BoolOp .And [a] pos) tA := ⟨pw_and1 ha.pt⟩
theorem dw_or1 (ha : DT X a tA) : DW X (.BoolOp .Or [a] pos) tA := ⟨pw_or1 ha.pt⟩
theorem DW.dt (h : DW X a tA) : DT X a tA := ⟨h.pw.pt⟩
theorem dw_and (ha : DT X a tA) (hb : DW X (.BoolOp .And (b :: rest) pos) tB) : DW X (.BoolOp .And (a :: b :: rest) pos) (dAnd tA tB) := ⟨pwW (pw_and ha.pt hb.pw) fun σ H Q ⟨e, g, Qd, re, rg, q, k⟩ =>
  ⟨e, g, _, re, rg, q, fun c H1 g1 x1 rg1 q1 => by
    cases c with
    | true => exact ⟨e, g1, Qd, re.mono x1, rg1, q1, fun b H2 g2 x2 => k b H2 g2 (x1.trans x2)⟩
    | false => exact k _ _ _ x1 rg1 q1⟩⟩
theorem dw_or (ha : DT X a tA) (hb : DW X (.BoolOp .Or (b :: rest) pos) tB) : DW X (.BoolOp .Or (a :: b :: rest) pos) (dOr tA tB) := ⟨pwW (pw_or ha.pt hb.pw) fun σ H Q ⟨e, g, Qd, re, rg, q, k⟩ =>
  ⟨e, g, _, re, rg, q, fun c H1 g1 x1 rg1 q1 => by
    cases c with
    | false => exact ⟨e, g1, Qd, re.mono x1, rg1, q1, fun b H2 g2 x2 => k b H2 g2 (x1.trans x2)⟩
    | true => exact k _ _ _ x1 rg1 q1⟩⟩
theorem dt_not (ha : DT X a tA) : DT X (.UnaryOp .Not a pos) (dNot tA) := ⟨ptW (pt_not ha.pt) fun σ H Q ⟨e, g, Qd, re, rg, q, k⟩ => ⟨e, g, _, re, rg, q, fun c H1 g1 x1 rg1 q1 => k _ _ _ x1 rg1 q1⟩⟩
/-- truth of a value -/
def truD (g : GS) (k : Bool) : D → Prop
  | .non => k = false
  | .bl b => k = b
  | .int i => k = (i != 0)
  | .str y => y.length ≤ sizeLine ∧ k = ((y.length : Int) != 0)
  | .tup ds => k = !ds.isEmpty
  | .klst ds => k = !ds.isEmpty
  | .ref p => ∃ ds, rdL g p ds ∧ k = !ds.isEmpty
def dTru (t : DTE) : DTT := fun e g Q => t e g fun d g1 => ∃ k, truD g1 k d ∧ Q k g1
theorem RepL.empty {vs : List V} {ds : List D} (r : RepL K H vs ds) : vs.isEmpty = ds.isEmpty := by cases r <;> rfl
theorem dt_tru (ha : DE X a ta) (he : ∀ whole, isTrue a X.env whole = (do let v ← whole; standAt a.pos; holding [v] (truthy v)) := by intro _; rfl) : DT X a (dTru ta) := ⟨ptW (pt_truth ha.pe he) fun σ H Q ⟨e, g, Qd, re, rg, q, k⟩ =>
  ⟨e, g, _, re, rg, q, fun v d H1 g1 x1 rg1 r1 q1 => by
    obtain ⟨b, h, q1⟩ := q1
    refine ⟨b, ?_, k _ _ _ x1 rg1 q1⟩
    cases r1 with
    | ref p =>
      obtain ⟨ds, h, e⟩ := h
      obtain ⟨xs, hs, l⟩ := rg1.sq h
      exact .inl ⟨xs, hs, by rw [l.empty]; exact e⟩
    | tup hs l => exact .inr (.inl ⟨_, tq hs, by rw [l.empty]; exact h⟩)
    | kl hs l => exact .inl ⟨_, hs.sq, by rw [l.empty]; exact h⟩
    | _ => exact h⟩⟩
/-- and, or, not as values (bools) -/
def dAndV (ta tb : DTE) : DTE := fun e g Q => ta e g fun x g1 => ∃ c, x = .bl c ∧ if c = true then tb e g1 Q else Q (.bl false) g1
def dOrV (ta tb : DTE) : DTE := fun e g Q => ta e g fun x g1 => ∃ c, x = .bl c ∧ if c = true then Q (.bl true) g1 else tb e g1 Q
def dNotV (ta : DTE) : DTE := fun e g Q => ta e g fun x g1 => ∃ c, x = .bl c ∧ Q (.bl (!c)) g1
theorem de_one {op} (h : DE X a ta) : DE X (.BoolOp op [a] pos) ta := ⟨pe_one h.pe⟩
theorem de_and (ha : DE X a ta) (hb : DE X (.BoolOp .And (b :: rest) pos) tb) : DE X (.BoolOp .And (a :: b :: rest) pos) (dAndV ta tb) := ⟨peW (pe_and ha.pe hb.pe) fun σ H Q ⟨e, g, Qd, re, rg, q, k⟩ =>
  ⟨e, g, _, re, rg, q, fun x d H1 g1 x1 rg1 r1 q1 => by
    obtain ⟨c, rfl, q1⟩ := q1
    cases r1
    refine ⟨c, rfl, ?_⟩
    cases c with
    | true => exact ⟨e, g1, Qd, re.mono x1, rg1, q1, k.mono x1⟩
    | false => exact k _ _ _ _ x1 rg1 (.bl _) q1⟩⟩
theorem de_or (ha : DE X a ta) (hb : DE X (.BoolOp .Or (b :: rest) pos) tb) : DE X (.BoolOp .Or (a :: b :: rest) pos) (dOrV ta tb) := ⟨peW (pe_or ha.pe hb.pe) fun σ H Q ⟨e, g, Qd, re, rg, q, k⟩ =>
  ⟨e, g, _, re, rg, q, fun x d H1 g1 x1 rg1 r1 q1 => by
    obtain ⟨c, rfl, q1⟩ := q1
    cases r1
    refine ⟨c, rfl, ?_⟩
    cases c with
    | false => exact ⟨e, g1, Qd, re.mono x1, rg1, q1, k.mono x1⟩
    | true => exact k _ _ _ _ x1 rg1 (.bl _) q1⟩⟩
theorem de_not (ha : DE X a ta) : DE X (.UnaryOp .Not a pos) (dNotV ta) := ⟨peW (pe_not ha.pe) fun σ H Q ⟨e, g, Qd, re, rg, q, k⟩ =>
  ⟨e, g, _, re, rg, q, fun x d H1 g1 x1 rg1 r1 q1 => by
    obtain ⟨c, rfl, q1⟩ := q1
    cases r1
    exact ⟨c, rfl, k _ _ _ _ x1 rg1 (.bl _) q1⟩⟩⟩
def dIfE (t : DTT) (ta tb : DTE) : DTE := fun e g Q => t e g fun c g1 => if c = true then ta e g1 Q else tb e g1 Q
theorem de_ifExp (hc : DT X c tA) (ha : DE X a ta) (hb : DE X b tb) : DE X (.IfExp c a b pos) (dIfE tA ta tb) := ⟨peW (pe_ifExp hc.pt ha.pe hb.pe) fun σ H Q ⟨e, g, Qd, re, rg, q, k⟩ =>
  ⟨e, g, _, re, rg, q, fun c H1 g1 x1 rg1 q1 => by
    cases c with
    | true => exact ⟨e, g1, Qd, re.mono x1, rg1, q1, k.mono x1⟩
    | false => exact ⟨e, g1, Qd, re.mono x1, rg1, q1, k.mono x1⟩⟩⟩
/-! ### calls of own defs -/
def dCall (sp : DSp) (dds : List D) (t : DTA) : DTE := fun e g Q => t e g fun ds g1 => sp (ds ++ dds) g1 Q
variable {x : Str} {p : Pos} {k : Nat} {f : Addr} {fd : FuncData} {ps : List Str} {sp : DSp} {dvs : List V} {dus : List Value} {dds : List D}
theorem lcall {σ : L2.St} {Q : VK} {E : XK} (hdd : ∀ H, RepL K H dvs dds) (h : lE K (dCall sp dds t) σ H Q) : tCall (lSp K sp) dvs E (lA K t) σ H Q := by
  obtain ⟨e, g, Qd, re, rg, q, k⟩ := h
  exact ⟨e, g, _, re, rg, q, fun vs ds H1 g1 x1 rg1 l1 q1 => ⟨_, g1, Qd, l1.app (hdd H1), rg1, q1, k.mono x1⟩⟩
theorem de_call (F : FnOk X.prog X.w X.K X.mg X.base CX0 k f fd ps (lSp X.K sp)) (hr : Room k X.A) (hg : Gl X x) (hm : X.mg x = some (.ref f)) (hk : PySem.W.keepIn X.K (.ref f) = true) (hb : Binds X.K fd ps dus) (hd : Vals dvs dus) (hdd : ∀ H, RepL X.K H dvs dds)
    (ha : DA X (e :: es) t) (hdb : (x == ("__debug__" : Str)) = false := by decide) (he : starEach (e :: es) X.env = (false, eval e X.env) :: starEach es X.env := by rfl) (hpl : (backTo pos (starEach es X.env)).any (·.1) = false := by rfl) :
    DE X (.Call (.Name x p) (e :: es) [] pos) (dCall sp dds t) := ⟨peW (pe_call F hr hg hm hk hb hd pass0 ha.pa hdb he hpl) fun _ _ _ h => lcall hdd h⟩
theorem de_call0 (F : FnOk X.prog X.w X.K X.mg X.base CX0 k f fd ps (lSp X.K sp)) (hr : Room k X.A) (hg : Gl X x) (hm : X.mg x = some (.ref f)) (hk : PySem.W.keepIn X.K (.ref f) = true) (hb : Binds X.K fd ps dus) (hd : Vals dvs dus) (hdd : ∀ H, RepL X.K H dvs dds)
    (hdb : (x == ("__debug__" : Str)) = false := by decide) : DE X (.Call (.Name x p) [] [] pos) (dCall sp dds dNil) := ⟨peW (pe_call0 F hr hg hm hk hb hd pass0 hdb) fun σ H Q h => by
  obtain ⟨e, g, Qd, re, rg, q, k⟩ := h
  exact ⟨_, g, Qd, RepL.app .nil (hdd H), rg, q, k⟩⟩
/-! ### statements -/
variable {st : Stmt} {sts : List Stmt} {T U : DTS}
/-- one after the other, some word between them -/
def dSeq (t u : DTS) : DTS := fun D e g => ∃ M : EV → GS → Prop, t { D with nx := M } e g ∧ ∀ e' g', M e' g' → u D e' g'
def dNext : DTS := fun D e g => D.nx e g
theorem dss_cons (h1 : DS X st T) (h2 : DSs X sts U) : DSs X (st :: sts) (dSeq T U) := ⟨pssW (pss_cons h1.ps h2.pss) fun D σ H ⟨e, g, Dd, re, rg, ⟨M, q, qm⟩, k1, k2, k3, k4⟩ =>
  ⟨e, g, _, re, rg, q, fun σ' H' e' g' x1 re1 rg1 q1 => ⟨e', g', Dd, re1, rg1, qm e' g' q1, k1.mono x1, k2.mono x1, k3.mono x1, k4.mono x1⟩, k2, k3, k4⟩⟩
theorem dss_one (h1 : DS X st T) : DSs X [st] T := ⟨pss_one h1.ps⟩
theorem KS.fin {Q : EV → GS → Prop} {Q' : L2.St → Hp → Prop} (k : KS K H Q Q') {e : EV} {g : GS} (re : RepE K H σ e) (rg : RepG K H g) (q : Q e g) : Q' σ H := k _ _ _ _ (.refl H) re rg q
theorem dss_nil : DSs X [] dNext := ⟨pssW pss_nil fun D σ H ⟨e, g, Dd, re, rg, q, k1, _⟩ => k1.fin re rg q⟩
theorem ds_pass : DS X (.Pass pos) dNext := ⟨psW ps_pass fun D σ H ⟨e, g, Dd, re, rg, q, k1, _⟩ => k1.fin re rg q⟩
def dBreak : DTS := fun D e g => D.bk e g
def dCont : DTS := fun D e g => D.ct e g
theorem ds_break : DS X (.Break pos) dBreak := ⟨psW ps_break fun D σ H ⟨e, g, Dd, re, rg, q, _, _, k3, _⟩ => k3.fin re rg q⟩
theorem ds_cont : DS X (.Continue pos) dCont := ⟨psW ps_continue fun D σ H ⟨e, g, Dd, re, rg, q, _, _, _, k4⟩ => k4.fin re rg q⟩
def dDrop (te : DTE) : DTS := fun D e g => te e g fun _ g1 => D.nx e g1
theorem ds_expr (he : DE X a te) (hs : swapsWith a none pos.line X.env = pure false := by rfl) : DS X (.Expr a pos) (dDrop te) := ⟨psW (ps_expr he.pe hs) fun D σ H ⟨e, g, Dd, re, rg, q, k1, _⟩ =>
  ⟨e, g, _, re, rg, q, fun v d H1 g1 x1 rg1 _ q1 => (k1.mono x1).fin (re.mono x1) rg1 q1⟩⟩
def dRet (te : DTE) : DTS := fun D e g => te e g D.rt
theorem ds_ret (he : DE X a te) : DS X (.Return (some a) pos) (dRet te) := ⟨psW (ps_ret he.pe) fun D σ H ⟨e, g, Dd, re, rg, q, _, k2, _⟩ => ⟨e, g, _, re, rg, q, k2⟩⟩
def dRetN : DTS := fun D _ g => D.rt .non g
theorem ds_retN : DS X (.Return none pos) dRetN := ⟨psW ps_retN fun D σ H ⟨e, g, Dd, re, rg, q, _, k2, _⟩ => rg.fin k2 .non q⟩
def dIf (c : DTT) (t u : DTS) : DTS := fun D e g => c e g fun b g1 => if b = true then t D e g1 else u D e g1
theorem ds_if {c : Expr} {s1 s2 : List Stmt} {tc : DTT} (hc : DT X c tc) (ha : DSs X s1 T) (hb : DSs X s2 U) : DS X (.If c s1 s2 pos) (dIf tc T U) := ⟨psW (ps_if hc.pt ha.pss hb.pss) fun D σ H ⟨e, g, Dd, re, rg, q, k1, k2, k3, k4⟩ =>
  ⟨e, g, _, re, rg, q, fun b H1 g1 x1 rg1 q1 => by
    cases b with
    | true => exact ⟨e, g1, Dd, re.mono x1, rg1, q1, k1.mono x1, k2.mono x1, k3.mono x1, k4.mono x1⟩
    | false => exact ⟨e, g1, Dd, re.mono x1, rg1, q1, k1.mono x1, k2.mono x1, k3.mono x1, k4.mono x1⟩⟩⟩
theorem ds_never : DS X st (fun _ _ _ => False) := ⟨psW ps_never fun D σ H ⟨_, _, _, _, _, q, _⟩ => q⟩
/-! ### targets -/
abbrev DTG := D → EV → GS → (EV → GS → Prop) → Prop
abbrev DTGs := List D → EV → GS → (EV → GS → Prop) → Prop
def lG (K : PySem.W.Frag) (T : DTG) : TG := fun v σ H Q => ∃ d e g Qd, RepD K H v d ∧ RepE K H σ e ∧ RepG K H g ∧ T d e g Qd ∧ KS K H Qd Q
def lGs (K : PySem.W.Frag) (T : DTGs) : TGs := fun vs σ H Q => ∃ ds e g Qd, RepL K H vs ds ∧ RepE K H σ e ∧ RepG K H g ∧ T ds e g Qd ∧ KS K H Qd Q
structure DG (X : Cx) (tg : Expr) (T : DTG) : Prop where
  pg : PG X tg (lG X.K T)
structure DGs (X : Cx) (tgs : List Expr) (T : DTGs) : Prop where
  pgs : PGs X tgs (lGs X.K T)
theorem pgW {e : Expr} {t t' : TG} (h : PG X e t) (w : ∀ v σ H Q, t' v σ H Q → t v σ H Q) : PG X e t' := ⟨fun pins s σ H v u Q I r q => h.run pins s σ H v u Q I r (w v σ H Q q)⟩
theorem pgsW {e : List Expr} {t t' : TGs} (h : PGs X e t) (w : ∀ v σ H Q, t' v σ H Q → t v σ H Q) : PGs X e t' := ⟨fun pins s σ H v u Q I r q => h.run pins s σ H v u Q I r (w v σ H Q q)⟩
def gNm (i : Nat) : DTG := fun d e g Q => Q (e.set i (some d)) g
theorem dg_name {i : Nat} (h : PG X a (gName i)) : DG X a (gNm i) := ⟨pgW h fun v σ H Q ⟨d, e, g, Qd, r, re, rg, q, k⟩ => k.fin (re.set r i) rg q⟩
def gsNil : DTGs := fun ds e g Q => ds = [] ∧ Q e g
def gsCons (t : DTG) (u : DTGs) : DTGs := fun ds e g Q => ∃ d r, ds = d :: r ∧ t d e g fun e1 g1 => u r e1 g1 Q
theorem dgs_nil : DGs X [] gsNil := ⟨pgsW pgs_nil fun vs σ H Q ⟨ds, e, g, Qd, l, re, rg, q, k⟩ => by
  obtain ⟨rfl, q⟩ := q
  cases l
  exact ⟨rfl, k.fin re rg q⟩⟩
theorem dgs_cons {tg : DTG} {tgs : DTGs} (h1 : DG X a tg) (h2 : DGs X es tgs) (hs : (assignEach (a :: es) X.env).map (·.2) = assign a X.env :: (assignEach es X.env).map (·.2) := by rfl) : DGs X (a :: es) (gsCons tg tgs) := ⟨pgsW (pgs_cons h1.pg h2.pgs hs) fun vs σ H Q ⟨ds, e, g, Qd, l, re, rg, q, k⟩ => by
  obtain ⟨d, r, rfl, q⟩ := q
  cases l with
  | cons r1 l => exact ⟨_, _, rfl, d, e, g, _, r1, re, rg, q, fun σ1 H1 e1 g1 x1 re1 rg1 q1 => ⟨_, e1, g1, _, l.mono x1, re1, rg1, q1, k.mono x1⟩⟩⟩
def gTp (n : Nat) (t : DTGs) : DTG := fun d e g Q => match d with
  | .tup ds => ds.length = n ∧ t ds e g Q
  | .ref p => ∃ ds, rdL g p ds ∧ ds.length = n ∧ t ds e g Q
  | _ => False
theorem pg_or {x : Expr} {t1 t2 : TG} (h1 : PG X x t1) (h2 : PG X x t2) : PG X x (fun v σ H Q => t1 v σ H Q ∨ t2 v σ H Q) := ⟨fun pins s σ H v u Q I r hw => hw.elim (h1.run pins s σ H v u Q I r) (h2.run pins s σ H v u Q I r)⟩
theorem dg_tup {j : Nat} {n : Nat} {tgs : DTGs} (hc : X.calm = true) (h : DGs X es tgs) (hn : (assignEach es X.env).length = n := by rfl) (hst : (assignEach es X.env).findIdx? (·.1) = none := by rfl) : DG X (.Tuple es j pos) (gTp n tgs) :=
  ⟨pgW (pg_or (pg_tup hc h.pgs hn hst) (pg_unl hc h.pgs hn hst)) fun v σ H Q ⟨d, e, g, Qd, r, re, rg, q, k⟩ => by
    cases r with
    | tup hs l => exact .inl ⟨_, _, rfl, tq hs, by rw [l.length]; exact q.1, _, e, g, Qd, l, re, rg, q.2, k⟩
    | ref p =>
      obtain ⟨ds, h, hl, q⟩ := q
      obtain ⟨xs, hs, l⟩ := rg.sq h
      exact .inr ⟨_, _, rfl, hs, by rw [l.length]; exact hl, _, e, g, Qd, l, re, rg, q, k⟩
    | _ => exact q.elim⟩
/-- o[i] = v, o a list -/
def setD (o i v : D) (g : GS) (Q : GS → Prop) : Prop := match o, i with
  | .ref p, .int k => ∃ ds j, g p = some (.lst ds) ∧ ixN ds.length k = some j ∧ Q (gup g p (.lst (ds.set j v)))
  | _, _ => False
def gSb (to ti : DTE) : DTG := fun v e g Q => to e g fun o g1 => ti e g1 fun i g2 => setD o i v g2 fun g3 => Q e g3
theorem dg_sub {o i : Expr} {to ti : DTE} (ho : DE X o to) (hi : DE X i ti)
    (hs : ∀ v, assign (.Subscript o i pos) X.env v = (do
      let ov ← holding [v] (eval o X.env)
      let iv ← holding [v, ov] (eval i X.env)
      standAt pos
      holding [v, ov, iv] (setItem ov iv v)
      release [v, ov, iv] []) := by intro _; rfl) : DG X (.Subscript o i pos) (gSb to ti) := ⟨pgW (pg_sub ho.pe hi.pe set_list hs) fun v σ H Q ⟨d, e, g, Qd, r, re, rg, q, k⟩ =>
  ⟨e, g, _, re, rg, q, fun ov od H1 g1 x1 rg1 r1 q1 => ⟨e, g1, _, re.mono x1, rg1, q1, fun iv id H2 g2 x2 rg2 r2 q2 => by
    cases r1 with
    | ref p => cases r2 with
      | int m =>
        obtain ⟨ds, j, h, hj, q2⟩ := q2
        obtain ⟨xs, e1, l⟩ := rg2.lst h
        exact ⟨p, xs, m, j, rfl, rfl, e1, by rw [l.length]; exact hj, k _ _ _ _ ((x1.trans x2).trans (.lst e1)) ((re.mono (x1.trans x2)).mono (.lst e1)) (rg2.setL e1 (l.set (r.mono (x1.trans x2)) j)) q2⟩
      | _ => exact q2.elim
    | _ => exact q2.elim⟩⟩⟩
def dAsg (te : DTE) (tg : DTG) : DTS := fun D e g => te e g fun d g1 => tg d e g1 D.nx
theorem ds_asg {tg : Expr} {G : DTG} (he : DE X a te) (hg : DG X tg G) (hs : swapsWithSole [tg] a pos.line X.env = pure false := by rfl) (hw : swappedStores [tg] a X.env = pure none := by rfl)
    (h1 : (assignEach [tg] X.env).map (·.2) = [assign tg X.env] := by rfl) : DS X (.Assign [tg] a pos) (dAsg te G) := ⟨psW (ps_asg he.pe hg.pg hs hw h1) fun D σ H ⟨e, g, Dd, re, rg, q, k1, _⟩ =>
  ⟨e, g, _, re, rg, q, fun v d H1 g1 x1 rg1 r1 q1 => ⟨d, e, g1, _, r1, re.mono x1, rg1, q1, k1.mono x1⟩⟩⟩
theorem ds_set {i : Nat} {pos' : Pos} (h : ∀ t : TE, PE X a t → PS X (.Assign [.Name x pos'] a pos) (tAsg t (gName i))) (he : DE X a te) : DS X (.Assign [.Name x pos'] a pos) (dAsg te (gNm i)) := ⟨psW (h _ he.pe) fun D σ H ⟨e, g, Dd, re, rg, q, k1, _⟩ =>
  ⟨e, g, _, re, rg, q, fun v d H1 g1 x1 rg1 r1 q1 => (k1.mono x1).fin ((re.mono x1).set r1 i) rg1 q1⟩⟩
/-- x += e -/
def dAug (i : Nat) (te : DTE) (r : DR2) : DTS := fun D e g => ∃ d, look e i = some d ∧ te e g fun y g1 => r d y g1 fun z g2 => D.nx (e.set i (some z)) g2
/-! ### while -/
def dWhile (c : DTT) (tb : DTS) : DTS := fun D e g => ∃ W : Nat → EV → GS → Prop, (∃ m, W m e g) ∧ ∀ m e g, W m e g →
  c e g fun b g1 => if b = true then ∃ N : EV → GS → Prop, (∀ e' g', N e' g' → ∃ m', m' < m ∧ W m' e' g') ∧ tb { D with nx := N, ct := N, bk := D.nx } e g1 else D.nx e g1
theorem ds_while {c : Expr} {body : List Stmt} {tc : DTT} (hp : PassesOwn (model X.prog X.w) X.A X.env X.xe) (hc : DT X c tc) (hb : DSs X body T) : DS X (.While c body [] pos) (dWhile tc T) := ⟨psW (ps_while hp hc.pt hb.pss) fun D σ H ⟨e, g, Dd, re, rg, q, k1, k2, k3, k4⟩ => by
  obtain ⟨W, ⟨m, w⟩, turn⟩ := q
  refine ⟨fun m σ' H' => ∃ e' g', Ext H H' ∧ RepE X.K H' σ' e' ∧ RepG X.K H' g' ∧ W m e' g', ⟨m, e, g, .refl H, re, rg, w⟩, fun m σ' H' ⟨e', g', x1, re1, rg1, w1⟩ => ?_⟩
  refine ⟨e', g', _, re1, rg1, turn m e' g' w1, fun b H2 g2 x2 rg2 q2 => ?_⟩
  cases b with
  | true =>
    obtain ⟨N, hN, q2⟩ := q2
    rw [if_pos rfl]
    have kn : KS X.K H2 N (fun σ' H' => ∃ e' g', Ext H H' ∧ RepE X.K H' σ' e' ∧ RepG X.K H' g' ∧ N e' g') := fun σ3 H3 e3 g3 x3 re3 rg3 n3 => ⟨e3, g3, (x1.trans x2).trans x3, re3, rg3, n3⟩
    refine ⟨fun σ' H' => ∃ e' g', Ext H H' ∧ RepE X.K H' σ' e' ∧ RepG X.K H' g' ∧ N e' g', fun σ3 H3 ⟨e3, g3, x3, re3, rg3, n3⟩ => ?_, e', g2, _, re1.mono x2, rg2, q2, kn, k2.mono (x1.trans x2), k1.mono (x1.trans x2), kn⟩
    obtain ⟨m', hm, w3⟩ := hN e3 g3 n3
    exact ⟨m', hm, e3, g3, x3, re3, rg3, w3⟩
  | false => exact (k1.mono (x1.trans x2)).fin (re1.mono x2) rg2 q2⟩
end
end DL

namespace DL
open PySem PySem.Spec PyProof.Rows L2
/-! ### what is walked -/
def ItOk (K : PySem.W.Frag) (H0 : Hp) (J : It) (ds : List D) (keep : GS → Prop) : Prop := ∀ (i : Nat) (H : Hp) (g : GS), Ext H0 H → RepG K H g → keep g → (i = ds.length → J.stop i H) ∧
  ∀ d, ds[i]? = some d → J.go i H ∧ ∀ x H', J.yld i H x H' → Ext H H' ∧ RepG K H' g ∧ RepD K H' x d
abbrev DTI := EV → GS → (List D → (GS → Prop) → GS → Prop) → Prop
def lI (K : PySem.W.Frag) (T : DTI) : TI := fun σ H R => ∃ e g Rd, RepE K H σ e ∧ RepG K H g ∧ T e g Rd ∧ ∀ ds keep J H' g', Ext H H' → RepG K H' g' → ItOk K H' J ds keep → Rd ds keep g' → R J H'
structure DI (X : Cx) (tg iter : Expr) (T : DTI) : Prop where
  pi : PI X tg iter (lI X.K T)
section
variable {X : Cx} {K : PySem.W.Frag} {H H' : Hp} {σ : L2.St}
variable {a b c e tg iter elt : Expr} {es rest : List Expr} {ta tb tc te : DTE} {tA tB : DTT} {t : DTA} {pos : Pos}
theorem piW {w w' : TI} (h : PI X tg iter w) (k : ∀ σ H R, w' σ H R → w σ H R) : PI X tg iter w' := ⟨fun pins s σ H R I q => h.run pins s σ H R I (k σ H R q)⟩
/-- over a list, a tuple, a text, by what comes: the generator picks -/
def iLs (ta : DTE) : DTI := fun e g R => ta e g fun x g1 => ∃ p ds, x = .ref p ∧ rdL g1 p ds ∧ R ds (fun g => rdL g p ds) g1
def iTp (ta : DTE) : DTI := fun e g R => ta e g fun x g1 => ∃ ds, x = .tup ds ∧ R ds (fun _ => True) g1
def iSt (ta : DTE) : DTI := fun e g R => ta e g fun x g1 => ∃ z, x = .str z ∧ R (z.cps.toList.map fun c => .str ⟨#[c]⟩) (fun _ => True) g1
theorem RepG.sq_inj {g : GS} (r : RepG K H g) {p : Addr} {ds : List D} (h : rdL g p ds) : ∃ xs, SqL K H p xs ∧ RepL K H xs ds := r.sq h
theorem itok_list {p : Addr} {ds : List D} : ItOk K H (Itl K p) ds fun g => rdL g p ds := fun i H1 g x rg hk => by
  obtain ⟨xs, hs, l⟩ := rg.sq hk
  refine ⟨fun e => ⟨xs, hs, by rw [l.length]; omega⟩, fun d hd => ?_⟩
  obtain ⟨v, hv, r⟩ := l.get hd
  refine ⟨⟨xs, v, hs, hv⟩, fun y H2 ⟨e, f⟩ => ?_⟩
  subst e
  have e2 := f xs hs
  rw [hv] at e2
  cases e2
  exact ⟨.refl _, rg, r⟩
theorem itok_tup {p : Addr} {xs : List V} {ds : List D} (hs : SqT K H p xs) (l : RepL K H xs ds) : ItOk K H (Itt K p) ds fun _ => True := fun i H1 g x rg _ => by
  refine ⟨fun e => ⟨xs, x.sqT hs, by rw [l.length]; omega⟩, fun d hd => ?_⟩
  obtain ⟨v, hv, r⟩ := l.get hd
  refine ⟨⟨xs, v, x.sqT hs, hv⟩, fun y H2 ⟨e, f⟩ => ?_⟩
  subst e
  have e2 := f xs (x.sqT hs)
  rw [hv] at e2
  cases e2
  exact ⟨.refl _, rg, r.mono x⟩
theorem itok_str {z : Str} : ItOk K H (Its z) (z.cps.toList.map fun c => .str ⟨#[c]⟩) fun _ => True := fun i H1 g x rg _ => by
  refine ⟨fun e => ?_, fun d hd => ?_⟩
  · rw [List.length_map, Array.length_toList] at e
    exact Nat.le_of_eq e.symm
  · rw [List.getElem?_map] at hd
    cases hc : z.cps.toList[i]? with
    | none => rw [hc] at hd; cases hd
    | some c =>
      rw [hc] at hd
      cases hd
      have hc' : z.cps[i]? = some c := by rw [← Array.getElem?_toList]; exact hc
      refine ⟨(Array.getElem?_eq_some_iff.mp hc').1, fun y H2 ⟨e, c', h1, h2⟩ => ?_⟩
      subst e
      subst h2
      rw [hc'] at h1
      cases h1
      exact ⟨.refl _, rg, .str _⟩
def ran (lo : Int) (n : Nat) : List D := (List.range n).map fun (i : Nat) => .int (lo + i)
theorem ran_len (lo : Int) (n : Nat) : (ran lo n).length = n := by rw [ran, List.length_map, List.length_range]
theorem ran_get {lo : Int} {n i : Nat} {d : D} (h : (ran lo n)[i]? = some d) : i < n ∧ d = .int (lo + i) := by
  have hi : i < n := by
    have := (List.getElem?_eq_some_iff.mp h).1
    rwa [ran_len] at this
  rw [ran, List.getElem?_map, List.getElem?_range hi] at h
  cases h
  exact ⟨hi, rfl⟩
theorem itok_ran {lo : Int} {n : Nat} : ItOk K H (Itr lo n) (ran lo n) fun _ => True := fun i H1 g x rg _ => by
  refine ⟨fun e => ?_, fun d hd => ?_⟩
  · rw [ran_len] at e
    exact Nat.le_of_eq e.symm
  · obtain ⟨hi, rfl⟩ := ran_get hd
    refine ⟨hi, fun y H2 ⟨e, f⟩ => ?_⟩
    subst e f
    exact ⟨.refl _, rg, .int _⟩
theorem di_list (h : DE X a ta) : DI X tg a (iLs ta) := ⟨piW (pi_list h.pe) fun σ H R ⟨e, g, Rd, re, rg, q, k⟩ => ⟨e, g, _, re, rg, q, fun v d H1 g1 x1 rg1 r1 q1 => by
  obtain ⟨p, ds, rfl, h1, q1⟩ := q1
  cases r1
  obtain ⟨xs, hs, l⟩ := rg1.sq h1
  exact ⟨p, rfl, ⟨xs, hs⟩, k _ _ _ _ _ x1 rg1 itok_list q1⟩⟩⟩
theorem di_tup (h : DE X a ta) : DI X tg a (iTp ta) := ⟨piW (pi_tup h.pe) fun σ H R ⟨e, g, Rd, re, rg, q, k⟩ => ⟨e, g, _, re, rg, q, fun v d H1 g1 x1 rg1 r1 q1 => by
  obtain ⟨ds, rfl, q1⟩ := q1
  cases r1 with
  | tup hs l => exact ⟨_, rfl, ⟨_, tq hs⟩, k _ _ _ _ _ x1 rg1 (itok_tup (tq hs) l) q1⟩⟩⟩
theorem di_str (h : DE X a ta) : DI X tg a (iSt ta) := ⟨piW (pi_str h.pe) fun σ H R ⟨e, g, Rd, re, rg, q, k⟩ => ⟨e, g, _, re, rg, q, fun v d H1 g1 x1 rg1 r1 q1 => by
  obtain ⟨z, rfl, q1⟩ := q1
  cases r1
  exact ⟨z, rfl, k _ _ _ _ _ x1 rg1 itok_str q1⟩⟩⟩
theorem PI.or {w w' : TI} (h : PI X tg a w) (h' : PI X tg a w') : PI X tg a (fun σ H R => w σ H R ∨ w' σ H R) := ⟨fun pins s σ H R I q => q.elim (h.run pins s σ H R I) (h'.run pins s σ H R I)⟩
theorem DI.or {w w' : DTI} (h : DI X tg a w) (h' : DI X tg a w') : DI X tg a (fun e g R => w e g R ∨ w' e g R) := ⟨piW (PI.or h.pi h'.pi) fun σ H R ⟨e, g, Rd, re, rg, q, k⟩ =>
  q.elim (fun q => .inl ⟨e, g, Rd, re, rg, q, k⟩) fun q => .inr ⟨e, g, Rd, re, rg, q, k⟩⟩
/-- any of the three -/
def iAny (ta : DTE) : DTI := fun e g R => iLs ta e g R ∨ iTp ta e g R ∨ iSt ta e g R
theorem di_any (h : DE X a ta) : DI X tg a (iAny ta) := (di_list h).or ((di_tup h).or (di_str h))
theorem PE.or {t t' : TE} (h : PE X a t) (h' : PE X a t') : PE X a (fun σ H R => t σ H R ∨ t' σ H R) := ⟨fun pins s σ H R I q => q.elim (h.run pins s σ H R I) (h'.run pins s σ H R I)⟩
theorem DE.or (h : DE X a ta) (h' : DE X a tb) : DE X a (fun e g R => ta e g R ∨ tb e g R) := ⟨peW (PE.or h.pe h'.pe) fun σ H R ⟨e, g, Rd, re, rg, q, k⟩ =>
  q.elim (fun q => .inl ⟨e, g, Rd, re, rg, q, k⟩) fun q => .inr ⟨e, g, Rd, re, rg, q, k⟩⟩
def iRa1 (ta : DTE) : DTI := fun e g R => ta e g fun x g1 => ∃ j : Int, x = .int j ∧ -(2 ^ 62) ≤ j ∧ j < 2 ^ 62 ∧ R (ran 0 j.toNat) (fun _ => True) g1
def iRa2 (ta tb : DTE) : DTI := fun e g R => ta e g fun x g1 => tb e g1 fun y g2 => ∃ i j : Int, x = .int i ∧ y = .int j ∧ (-(2 ^ 62) ≤ i ∧ i < 2 ^ 62 ∧ -(2 ^ 62) ≤ j ∧ j < 2 ^ 62) ∧ R (ran i (j - i).toNat) (fun _ => True) g2
theorem di_range1 {p : Pos} (hg : Gl X "range") (hm : X.mg "range" = none) (ha : DE X a ta) (hs : starEach [a] X.env = [(false, eval a X.env)] := by rfl) : DI X tg (.Call (.Name "range" p) [a] [] pos) (iRa1 ta) :=
  ⟨piW (pi_range1 hg hm (pa_cons ha.pe pa_nil hs) hs) fun σ H R ⟨e, g, Rd, re, rg, q, k⟩ => ⟨e, g, _, re, rg, q, fun v d H1 g1 x1 rg1 r1 q1 => by
    obtain ⟨j, rfl, b1, b2, q1⟩ := q1
    cases r1
    exact ⟨j, rfl, b1, b2, k _ _ _ _ _ x1 rg1 itok_ran q1⟩⟩⟩
theorem di_range2 {p : Pos} (hg : Gl X "range") (hm : X.mg "range" = none) (ha : DE X a ta) (hb : DE X b tb) (hs : starEach [a, b] X.env = [(false, eval a X.env), (false, eval b X.env)] := by rfl) (hs2 : starEach [b] X.env = [(false, eval b X.env)] := by rfl) : DI X tg (.Call (.Name "range" p) [a, b] [] pos) (iRa2 ta tb) :=
  ⟨piW (pi_range2 hg hm (pa_cons ha.pe (pa_cons hb.pe pa_nil hs2) (by rw [hs, hs2])) hs hs2) fun σ H R ⟨e, g, Rd, re, rg, q, k⟩ => ⟨e, g, _, re, rg, q, fun v d H1 g1 x1 rg1 r1 q1 => ⟨e, g1, _, re.mono x1, rg1, q1, fun v2 d2 H2 g2 x2 rg2 r2 q2 => by
    obtain ⟨i, j, rfl, rfl, hb, q2⟩ := q2
    cases r1
    cases r2
    exact ⟨i, j, rfl, hb, k _ _ _ _ _ (x1.trans x2) rg2 itok_ran q2⟩⟩⟩⟩
/-- reversed(list) -/
def iRev (ta : DTE) : DTI := fun e g R => ta e g fun x g1 => ∃ p ds, x = .ref p ∧ rdL g1 p ds ∧ R ds.reverse (fun g => rdL g p ds) g1
theorem itok_rev {p : Addr} {ds : List D} : ItOk K H (Itv K p ds.length) ds.reverse fun g => rdL g p ds := fun i H1 g x rg hk => by
  obtain ⟨xs, hs, l⟩ := rg.sq hk
  refine ⟨fun e => ?_, fun d hd => ?_⟩
  · rw [List.length_reverse] at e
    exact Nat.le_of_eq e.symm
  · have hi : i < ds.length := by
      have := (List.getElem?_eq_some_iff.mp hd).1
      rwa [List.length_reverse] at this
    rw [List.getElem?_reverse hi] at hd
    obtain ⟨v, hv, r⟩ := l.get hd
    refine ⟨⟨hi, xs, v, hs, hv⟩, fun y H2 ⟨e, f⟩ => ?_⟩
    subst e
    have e2 := f xs hs
    rw [hv] at e2
    cases e2
    exact ⟨.refl _, rg, r⟩
theorem di_rev {p : Pos} (hg : Gl X "reversed") (hm : X.mg "reversed" = none) (ha : DE X a ta) (hs : starEach [a] X.env = [(false, eval a X.env)] := by rfl) : DI X tg (.Call (.Name "reversed" p) [a] [] pos) (DL.iRev ta) :=
  ⟨piW (pi_reversed hg hm (pa_cons ha.pe pa_nil hs) hs) fun σ H R ⟨e, g, Rd, re, rg, q, k⟩ => ⟨e, g, _, re, rg, q, fun v d H1 g1 x1 rg1 r1 q1 => by
    obtain ⟨p, ds, rfl, h1, q1⟩ := q1
    cases r1
    obtain ⟨xs, hs, l⟩ := rg1.sq h1
    have := k _ _ _ _ _ x1 rg1 itok_rev q1
    rw [← l.length] at this
    exact ⟨p, xs, rfl, hs, this⟩⟩⟩
/-! ### for -/
def dFor (it : DTI) (tg : DTG) (tb : DTS) : DTS := fun D e g => it e g fun ds keep g1 => ∃ Iv : Nat → EV → GS → Prop, Iv 0 e g1 ∧ (∀ i e' g', i ≤ ds.length → Iv i e' g' → keep g') ∧
  (∀ i d e' g', ds[i]? = some d → Iv i e' g' → tg d e' g' fun e2 g2 => tb { D with nx := Iv (i + 1), ct := Iv (i + 1), bk := D.nx } e2 g2) ∧ ∀ e' g', Iv ds.length e' g' → D.nx e' g'
theorem ds_for {T : DTS} {I : DTI} {G : DTG} {body : List Stmt} (hp : PassesOwn (model X.prog X.w) X.A X.env X.xe) (hc : X.calm = true) (hi : DI X tg iter I) (hg : DG X tg G) (hb : DSs X body T)
    (hs : ∀ x, foldedSetIterable iter X.env x = pure x := by intro _; rfl) : DS X (.For tg iter body [] pos) (dFor I G T) := ⟨psW (ps_for hp hc hi.pi hg.pg hb.pss hs) fun D σ H ⟨e, g, Dd, re, rg, q, k1, k2, k3, k4⟩ => by
  refine ⟨e, g, _, re, rg, q, fun ds keep J H1 g1 x1 rg1 ok ⟨Iv, i0, hk, step, done⟩ => ?_⟩
  refine ⟨fun i m σ' H' => m = ds.length - i ∧ i ≤ ds.length ∧ ∃ e' g', Ext H1 H' ∧ RepE X.K H' σ' e' ∧ RepG X.K H' g' ∧ Iv i e' g', ⟨ds.length, by omega, Nat.zero_le _, e, g1, .refl _, re.mono x1, rg1, i0⟩, ?_⟩
  rintro i m σ' H' ⟨rfl, hi, e', g', x2, re2, rg2, iv⟩
  have o := ok i H' g' x2 rg2 (hk i e' g' hi iv)
  by_cases hlt : i < ds.length
  · refine .inr ?_
    have hd : ds[i]? = some ds[i] := List.getElem?_eq_getElem hlt
    obtain ⟨go, yl⟩ := o.2 _ hd
    refine ⟨go, fun σ' H' => ∃ e' g', Ext H1 H' ∧ RepE X.K H' σ' e' ∧ RepG X.K H' g' ∧ Iv (i + 1) e' g', fun σ3 H3 ⟨e3, g3, a1, a2, a3, a4⟩ => ⟨ds.length - (i + 1), by omega, rfl, hlt, e3, g3, a1, a2, a3, a4⟩, fun x H2 y => ?_⟩
    obtain ⟨x3, rg3, r3⟩ := yl x H2 y
    refine ⟨ds[i], e', g', _, r3, re2.mono x3, rg3, step i ds[i] e' g' hd iv, fun σ4 H4 e4 g4 x4 re4 rg4 q4 => ?_⟩
    have xx : Ext H H4 := ((x1.trans x2).trans x3).trans x4
    have kn : KS X.K H4 (Iv (i + 1)) (fun σ' H' => ∃ e' g', Ext H1 H' ∧ RepE X.K H' σ' e' ∧ RepG X.K H' g' ∧ Iv (i + 1) e' g') := fun σ5 H5 e5 g5 x5 re5 rg5 q5 => ⟨e5, g5, ((x2.trans x3).trans x4).trans x5, re5, rg5, q5⟩
    exact ⟨e4, g4, _, re4, rg4, q4, kn, k2.mono xx, k1.mono xx, kn⟩
  · have e0 : i = ds.length := by omega
    subst e0
    exact .inl ⟨o.1 rfl, (k1.mono (x1.trans x2)).fin re2 rg2 (done e' g' iv)⟩⟩
/-! ### list comprehensions: one name, one clause -/
structure DTs (X : Cx) (ifs : List Expr) (T : DTT) : Prop where
  pts : PTs X ifs (lT X.K T)
theorem ptsW {ifs : List Expr} {t t' : TT} (h : PTs X ifs t) (w : ∀ σ H Q, t' σ H Q → t σ H Q) : PTs X ifs t' := ⟨fun pins s σ H Q I q => h.run pins s σ H Q I (w σ H Q q)⟩
def dYes : DTT := fun _ g Q => Q true g
theorem dts_nil : DTs X [] dYes := ⟨ptsW pts_nil fun σ H Q ⟨e, g, Qd, re, rg, q, k⟩ => k _ _ _ (.refl H) rg q⟩
theorem dts_one {c : Expr} (h : DT X c tA) : DTs X [c] tA := ⟨pts_one h.pt⟩
def dLc (it : DTI) (j : Nat) (tt : DTT) (te : DTE) : DTE := fun e g Q => it e g fun ds keep g1 => ∀ p, g1 p = none → ∃ Iv : Nat → List D → GS → Prop, Iv 0 [] (gup g1 p (.lst [])) ∧ (∀ i acc g', i ≤ ds.length → Iv i acc g' → keep g') ∧
  (∀ i d acc g', ds[i]? = some d → Iv i acc g' → tt (e.set j (some d)) g' fun b g3 => if b = true then te (e.set j (some d)) g3 fun y g4 => g4 p = some (.lst acc) ∧ acc.length < sizeLine ∧ Iv (i + 1) (acc ++ [y]) (gup g4 p (.lst (acc ++ [y]))) else Iv (i + 1) acc g3) ∧
  ∀ acc g', Iv ds.length acc g' → Q (.ref p) g'
theorem lc_lift {I : DTI} {j : Nat} {σ : L2.St} {H : Hp} {Q : VK} (h : lE K (dLc I j tA te) σ H Q) : tLc (lI K I) (gName j) (lT K tA) (lE K te) [j] σ H Q := by
  obtain ⟨e, g, Qd, re, rg, q, k⟩ := h
  refine ⟨e, g, _, re, rg, q, fun ds keep J H1 g1 x1 rg1 ok f n hn => ?_⟩
  obtain ⟨Iv, i0, hk, step, done⟩ := f n (rg1.free hn)
  refine ⟨fun i m H' => m = ds.length - i ∧ i ≤ ds.length ∧ ∃ acc g', Ext H1 H' ∧ RepG K H' g' ∧ Iv i acc g', ⟨ds.length, by omega, Nat.zero_le _, [], _, .new hn, rg1.laidL hn .nil, i0⟩, ?_⟩
  rintro i m H' ⟨rfl, hi, acc, g', x2, rg2, iv⟩
  have o := ok i H' g' x2 rg2 (hk i acc g' hi iv)
  by_cases hlt : i < ds.length
  · refine .inr ?_
    have hd : ds[i]? = some ds[i] := List.getElem?_eq_getElem hlt
    obtain ⟨go, yl⟩ := o.2 _ hd
    refine ⟨go, fun H' => ∃ acc g', Ext H1 H' ∧ RepG K H' g' ∧ Iv (i + 1) acc g', fun H3 ⟨e3, g3, a1, a2, a3⟩ => ⟨ds.length - (i + 1), by omega, rfl, hlt, e3, g3, a1, a2, a3⟩, fun x H2 y => ?_⟩
    obtain ⟨x3, rg3, r3⟩ := yl x H2 y
    have re3 : RepE K H2 ((wipe σ [j]).set j (some x)) (e.set j (some ds[i])) := by
      have e0 : (wipe σ [j]).set j (some x) = σ.set j (some x) := by
        show (σ.set j none).set j (some x) = _
        rw [List.set_set]
      rw [e0]
      exact (re.mono ((x1.trans x2).trans x3)).set r3 j
    refine ⟨?_, _, _, _, re3, rg3, step i ds[i] acc g' hd iv, fun b H4 g4 x4 rg4 q4 => ?_⟩
    · show ((σ.set j none).set j (some x)).set j none = σ.set j none
      rw [List.set_set, List.set_set]
    · have xx : Ext H1 H4 := (x2.trans x3).trans x4
      cases b with
      | false => exact ⟨acc, g4, xx, rg4, q4⟩
      | true =>
        rw [if_pos rfl] at q4
        show lE K te _ H4 _
        refine ⟨_, _, _, re3.mono x4, rg4, q4, fun v d H5 g5 x5 rg5 r5 ⟨h1, h2, h3⟩ => ?_⟩
        obtain ⟨ys, e1, l⟩ := rg5.lst h1
        exact ⟨ys, e1, by rw [l.length]; exact h2, acc ++ [d], _, (xx.trans x5).trans (.lst e1), rg5.setL e1 (l.app (.cons r5 .nil)), h3⟩
  · have e0 : i = ds.length := by omega
    subst e0
    exact .inl ⟨o.1 rfl, k _ _ _ _ (x1.trans x2) rg2 (.ref n) (done acc g' iv)⟩
theorem de_lc {x : Str} {j : Nat} {ifs : List Expr} {scope : Scope} {I : DTI} (hc : X.calm = true) (hN : X.N.Nodup) (hi : DI X tg iter I) (ok : BlkOk X.N X.env.scope scope [(x, j)])
    (hg : ∀ (s : Shared) (H : Hp) (C : Addr) (cl : List (Str × Addr)) (fp : List Addr), PG (X.blk s H scope (compEnvC scope cl C X.env) fp) tg (gName j)) (ht : ∀ (s : Shared) (H : Hp) (C : Addr) (cl : List (Str × Addr)) (fp : List Addr), DTs (X.blk s H scope (compEnvC scope cl C X.env) fp) ifs tA)
    (he : ∀ (s : Shared) (H : Hp) (C : Addr) (cl : List (Str × Addr)) (fp : List Addr), DE (X.blk s H scope (compEnvC scope cl C X.env) fp) elt te) (hs : ∀ x, foldedSetIterable iter X.env x = pure x := by intro _; rfl) :
    DE X (.ListComp elt [⟨tg, iter, ifs, 0⟩] scope pos) (dLc I j tA te) :=
  ⟨peW (pe_lc (own := [(x, j)]) hc hN hi.pi ok hg (fun s H C cl fp => (ht s H C cl fp).pts) (fun s H C cl fp => (he s H C cl fp).pe) hs) fun _ _ _ h => lc_lift h⟩
theorem ds_setLc {x : Str} {j i : Nat} {y : Str} {py spos : Pos} {ifs : List Expr} {scope : Scope} {I : DTI} (hc : X.calm = true) (hN : X.N.Nodup) (hy : X.N[i]? = some y) (hyl : X.env.scope.names.lookup y = some .local)
    (hsw : swapsWith (.ListComp elt [⟨tg, iter, ifs, 0⟩] scope pos) (some (.Name y py)) spos.line X.env = pure true) (hi : DI X tg iter I) (ok : BlkOk X.N X.env.scope scope [(x, j)])
    (hg : ∀ (s : Shared) (H : Hp) (C : Addr) (cl : List (Str × Addr)) (fp : List Addr), PG (X.blk s H scope (compEnvC scope cl C X.env) fp) tg (gName j)) (ht : ∀ (s : Shared) (H : Hp) (C : Addr) (cl : List (Str × Addr)) (fp : List Addr), DTs (X.blk s H scope (compEnvC scope cl C X.env) fp) ifs tA)
    (he : ∀ (s : Shared) (H : Hp) (C : Addr) (cl : List (Str × Addr)) (fp : List Addr), DE (X.blk s H scope (compEnvC scope cl C X.env) fp) elt te) (hs : ∀ x, foldedSetIterable iter X.env x = pure x := by intro _; rfl) :
    DS X (.Assign [.Name y py] (.ListComp elt [⟨tg, iter, ifs, 0⟩] scope pos) spos) (dAsg (dLc I j tA te) (gNm i)) :=
  ⟨psW (ps_setLc (own := [(x, j)]) hc hN hy hyl hsw hi.pi ok hg (fun s H C cl fp => (ht s H C cl fp).pts) (fun s H C cl fp => (he s H C cl fp).pe) hs) fun D σ H ⟨e, g, Dd, re, rg, q, k1, _⟩ => by
    show tLc _ _ _ _ _ σ H fun v H1 => D.nx (σ.set i (some v)) H1
    exact lc_lift ⟨e, g, _, re, rg, q, fun v d H1 g1 x1 rg1 r1 q1 => (k1.mono x1).fin ((re.mono x1).set r1 i) rg1 q1⟩⟩
end
/-! ### a def -/
def dstart (N : List Str) (ds : List D) : EV := ds.map some ++ List.replicate (N.length - ds.length) none
theorem rep_start {K : PySem.W.Frag} {H : Hp} {N : List Str} {vs : List V} {ds : List D} (l : RepL K H vs ds) : RepE K H (L2.start N vs) (dstart N ds) := by
  refine ⟨?_, fun i d h => ?_⟩
  · unfold L2.start dstart
    rw [List.length_append, List.length_append, List.length_map, List.length_map, List.length_replicate, List.length_replicate, l.length]
  · unfold L2.start
    unfold dstart at h
    by_cases hi : i < ds.length
    · rw [List.getElem?_append_left (by rw [List.length_map]; exact hi), List.getElem?_map] at h
      rw [List.getElem?_append_left (by rw [List.length_map, l.length]; exact hi), List.getElem?_map]
      cases hd : ds[i]? with
      | none => rw [hd] at h; cases h
      | some x =>
        rw [hd] at h
        cases h
        obtain ⟨v, hv, r⟩ := l.get hd
        exact ⟨v, by rw [hv]; rfl, r⟩
    · rw [List.getElem?_append_right (by rw [List.length_map]; omega), List.getElem?_replicate] at h
      split at h <;> cases h
section
variable {P : Program} {w : World} {K : PySem.W.Frag} {mg : Str → Option Value} {base : Heap}
theorem okD {x qual : Str} {st : Stmt} {f : Addr} {fd : FuncData} {N ps : List Str} {k : Nat} {sp : DSp} (F : Fun K x qual st f fd) (S : FnScope N ps (defScope st)) (hl : ∀ ds g Q, sp ds g Q → ds.length = ps.length)
    {T : DTS} (hrd : ∀ ds g Q, sp ds g Q → T { nx := fun _ g => Q .non g, rt := Q } (dstart N ds) g)
    (hbody : ∀ (cdv : Value) (A : Around) (outer : List Env) (s : Shared) (H : Hp) (E : XK), Room k (A.deeper (envOfC qual (defScope st) s.heap.objs.size f cdv)) →
      DSs (cxOf CX0 P w K mg base N qual (defScope st) f cdv A outer s H E).nox (defBody st) T) : FnOk P w K mg base CX0 (k + 1) f fd ps (lSp K sp) := by
  refine F.ok S (fun vs H Q E h => ?_) (fun cdv A outer s H vs Q E hr h => ?_)
  · obtain ⟨ds, g, Qd, l, _, q, _⟩ := h
    rw [l.length]
    exact hl ds g Qd q
  · obtain ⟨ds, g, Qd, l, rg, q, kk⟩ := h
    refine ⟨_, (hbody cdv A outer s H E hr).pss, dstart N ds, g, _, rep_start l, rg, hrd ds g Qd q, fun σ' H' e' g' x1 _ rg1 q1 => kk _ _ H' g' x1 rg1 .non q1, kk, fun _ _ _ _ _ _ _ z => z.elim, fun _ _ _ _ _ _ _ z => z.elim⟩
end
end DL

namespace DL
open PySem PySem.Spec PyProof.Rows L2
theorem u65 {k : Nat} {A : Around} (r : Room k A) : A.units + 65 < cLine := by have := r.un; omega
/-! ### steps of a reading -/
section
variable {e : EV} {g : GS} {Q : DK} {D : DEnds} {T U : DTS} {ta tb tc te : DTE} {tA tB : DTT} {t : DTA} {i j : Nat} {d x y : DL.D} {QA : List DL.D → GS → Prop} {QB : Bool → GS → Prop} {QS : EV → GS → Prop} {QO : Option Int → GS → Prop}
theorem s_seq (h : T { D with nx := U D } e g) : dSeq T U D e g := ⟨U D, h, fun _ _ q => q⟩
theorem s_cut (M : EV → GS → Prop) (h : T { D with nx := M } e g) (k : ∀ e' g', M e' g' → U D e' g') : dSeq T U D e g := ⟨M, h, k⟩
theorem s_next (h : D.nx e g) : dNext D e g := h
theorem s_asg {tg : DTG} (h : te e g fun d g1 => tg d e g1 D.nx) : dAsg te tg D e g := h
theorem s_nm (h : QS (e.set i (some d)) g) : gNm i d e g QS := h
theorem s_var (h : ∃ d, look e i = some d ∧ Q d g) : dVar i e g Q := h
theorem s_c (h : Q d g) : dC d e g Q := h
theorem s_op {r : DR2} (h : ta e g fun x g1 => tb e g1 fun y g2 => r x y g2 Q) : dOp r ta tb e g Q := h
theorem s_un {r : DL.D → GS → DK → Prop} (h : ta e g fun x g1 => r x g1 Q) : dUn r ta e g Q := h
theorem s_nil (h : QA [] g) : dNil e g QA := h
theorem s_cons (h : ta e g fun x g1 => t e g1 fun xs g2 => QA (x :: xs) g2) : dCons ta t e g QA := h
theorem s_cb {r : DRC} (h : t e g fun xs g1 => r xs g1 Q) : dCB r t e g Q := h
theorem s_call {sp : DSp} {dds : List DL.D} (h : t e g fun ds g1 => sp (ds ++ dds) g1 Q) : dCall sp dds t e g Q := h
theorem s_tup (h : t e g fun xs g1 => xs.length ≤ sizeLine ∧ Q (.tup xs) g1) : dTup t e g Q := h
theorem s_lst (h : t e g fun xs g1 => xs.length ≤ sizeLine ∧ ∀ p, g1 p = none → Q (.ref p) (gup g1 p (.lst xs))) : dLst t e g Q := h
theorem s_bm {T : String} {r : DRM} (h : ta e g fun x g1 => rcv T x g1 ∧ t e g1 fun ys g2 => r x ys g2 Q) : dBM T r ta t e g Q := h
theorem s_bm0 {T : String} {r : DRM} (h : ta e g fun x g1 => rcv T x g1 ∧ r x [] g1 Q) : dBM0 T r ta e g Q := h
theorem s_drop (h : te e g fun _ g1 => D.nx e g1) : dDrop te D e g := h
theorem s_ret (h : te e g D.rt) : dRet te D e g := h
theorem s_retN (h : D.rt .non g) : dRetN D e g := h
theorem s_brk (h : D.bk e g) : dBreak D e g := h
theorem s_ct (h : D.ct e g) : dCont D e g := h
theorem s_if {c : DTT} (h : c e g fun b g1 => if b = true then T D e g1 else U D e g1) : dIf c T U D e g := h
theorem s_test (h : ta e g fun d g' => ∃ k, d = .bl k ∧ QB k g') : dTest ta e g QB := h
theorem s_and (h : tA e g fun c g1 => if c = true then tB e g1 QB else QB false g1) : dAnd tA tB e g QB := h
theorem s_or (h : tA e g fun c g1 => if c = true then QB true g1 else tB e g1 QB) : dOr tA tB e g QB := h
theorem s_not (h : tA e g fun c g1 => QB (!c) g1) : dNot tA e g QB := h
theorem s_tru (h : ta e g fun d g1 => ∃ k, truD g1 k d ∧ QB k g1) : dTru ta e g QB := h
theorem s_yes (h : QB true g) : dYes e g QB := h
theorem s_andV (h : ta e g fun x g1 => ∃ c, x = .bl c ∧ if c = true then tb e g1 Q else Q (.bl false) g1) : dAndV ta tb e g Q := h
theorem s_orV (h : ta e g fun x g1 => ∃ c, x = .bl c ∧ if c = true then Q (.bl true) g1 else tb e g1 Q) : dOrV ta tb e g Q := h
theorem s_notV (h : ta e g fun x g1 => ∃ c, x = .bl c ∧ Q (.bl (!c)) g1) : dNotV ta e g Q := h
theorem s_ifE (h : tA e g fun c g1 => if c = true then ta e g1 Q else tb e g1 Q) : dIfE tA ta tb e g Q := h
theorem s_isi {T : String} (h : ta e g fun x g1 => ∃ n b, tyD g1 x n ∧ kitB n T = some b ∧ Q (.bl b) g1) : dIsi T ta e g Q := h
theorem s_sl {l h' : DTO} (h : ta e g fun x g1 => l e g1 fun lo g2 => h' e g2 fun hi g3 => slD x lo hi g3 Q) : dSl ta l h' e g Q := h
theorem s_no (h : QO none g) : dNo e g QO := h
theorem s_part (h : ta e g fun x g1 => ∃ i, x = .int i ∧ QO (some i) g1) : dPart ta e g QO := h
theorem s_sb {v : DL.D} {to ti : DTE} (h : to e g fun o g1 => ti e g1 fun i g2 => setD o i v g2 fun g3 => QS e g3) : gSb to ti v e g QS := h
theorem s_gtp {n : Nat} {ds : List DL.D} {tgs : DTGs} (hn : ds.length = n) (h : tgs ds e g QS) : gTp n tgs (.tup ds) e g QS := ⟨hn, h⟩
theorem s_gtpL {n : Nat} {p : Addr} {ds : List DL.D} {tgs : DTGs} (hp : g p = some (.lst ds)) (hn : ds.length = n) (h : tgs ds e g QS) : gTp n tgs (.ref p) e g QS := ⟨ds, .inl hp, hn, h⟩
theorem s_gcons {r : List DL.D} {tg : DTG} {u : DTGs} (h : tg d e g fun e1 g1 => u r e1 g1 QS) : gsCons tg u (d :: r) e g QS := ⟨d, r, rfl, h⟩
theorem s_gnil (h : QS e g) : gsNil [] e g QS := ⟨rfl, h⟩
theorem s_chain {r r' : DR2} (h : ta e g fun x g1 => tb e g1 fun y g2 => r x y g2 fun z g3 => ∃ k, z = .bl k ∧ (if k = true then tc e g3 fun w g4 => r' y w g4 Q else Q (.bl false) g3)) : dChain r r' ta tb tc e g Q := h
theorem s_for {it : DTI} {tg : DTG} {tb : DTS} (h : it e g fun ds keep g1 => ∃ Iv : Nat → EV → GS → Prop, Iv 0 e g1 ∧ (∀ i e' g', i ≤ ds.length → Iv i e' g' → keep g') ∧
  (∀ i d e' g', ds[i]? = some d → Iv i e' g' → tg d e' g' fun e2 g2 => tb { D with nx := Iv (i + 1), ct := Iv (i + 1), bk := D.nx } e2 g2) ∧ ∀ e' g', Iv ds.length e' g' → D.nx e' g') : dFor it tg tb D e g := h
theorem s_lc {it : DTI} (h : it e g fun ds keep g1 => ∀ p, g1 p = none → ∃ Iv : Nat → List DL.D → GS → Prop, Iv 0 [] (gup g1 p (.lst [])) ∧ (∀ i acc g', i ≤ ds.length → Iv i acc g' → keep g') ∧
  (∀ i d acc g', ds[i]? = some d → Iv i acc g' → tA (e.set j (some d)) g' fun b g3 => if b = true then te (e.set j (some d)) g3 fun y g4 => g4 p = some (.lst acc) ∧ acc.length < sizeLine ∧ Iv (i + 1) (acc ++ [y]) (gup g4 p (.lst (acc ++ [y]))) else Iv (i + 1) acc g3) ∧
  ∀ acc g', Iv ds.length acc g' → Q (.ref p) g') : dLc it j tA te e g Q := h
theorem s_while {c : DTT} {tb : DTS} (W : Nat → EV → GS → Prop) (m : Nat) (h0 : W m e g) (h : ∀ m e g, W m e g →
  c e g fun b g1 => if b = true then ∃ N : EV → GS → Prop, (∀ e' g', N e' g' → ∃ m', m' < m ∧ W m' e' g') ∧ tb { D with nx := N, ct := N, bk := D.nx } e g1 else D.nx e g1) : dWhile c tb D e g := ⟨W, ⟨m, h0⟩, h⟩
section
variable {R : List DL.D → (GS → Prop) → GS → Prop}
theorem s_ra1 (h : ta e g fun x g1 => ∃ j : Int, x = .int j ∧ -(2 ^ 62) ≤ j ∧ j < 2 ^ 62 ∧ R (ran 0 j.toNat) (fun _ => True) g1) : iRa1 ta e g R := h
theorem s_ra2 (h : ta e g fun x g1 => tb e g1 fun y g2 => ∃ i j : Int, x = .int i ∧ y = .int j ∧ (-(2 ^ 62) ≤ i ∧ i < 2 ^ 62 ∧ -(2 ^ 62) ≤ j ∧ j < 2 ^ 62) ∧ R (ran i (j - i).toNat) (fun _ => True) g2) : iRa2 ta tb e g R := h
theorem s_rev (h : ta e g fun x g1 => ∃ p ds, x = .ref p ∧ rdL g1 p ds ∧ R ds.reverse (fun g => rdL g p ds) g1) : DL.iRev ta e g R := h
theorem s_anyL (h : ta e g fun x g1 => ∃ p ds, x = .ref p ∧ rdL g1 p ds ∧ R ds (fun g => rdL g p ds) g1) : iAny ta e g R := .inl h
theorem s_anyT (h : ta e g fun x g1 => ∃ ds, x = .tup ds ∧ R ds (fun _ => True) g1) : iAny ta e g R := .inr (.inl h)
theorem s_anyS (h : ta e g fun x g1 => ∃ z, x = .str z ∧ R (z.cps.toList.map fun c => .str ⟨#[c]⟩) (fun _ => True) g1) : iAny ta e g R := .inr (.inr h)
theorem x_ra1 {P : Int → Prop} {j : Int} (h1 : -4611686018427387904 ≤ j) (h2 : j < 4611686018427387904) (h : P j) : ∃ j' : Int, (DL.D.int j) = .int j' ∧ -(2 ^ 62) ≤ j' ∧ j' < 2 ^ 62 ∧ P j' := ⟨j, rfl, h1, h2, h⟩
theorem x_ra2 {P : Int → Int → Prop} {i j : Int} (h1 : -4611686018427387904 ≤ i) (h2 : i < 4611686018427387904) (h3 : -4611686018427387904 ≤ j) (h4 : j < 4611686018427387904) (h : P i j) : ∃ i' j' : Int, (DL.D.int i) = .int i' ∧ (DL.D.int j) = .int j' ∧ (-(2 ^ 62) ≤ i' ∧ i' < 2 ^ 62 ∧ -(2 ^ 62) ≤ j' ∧ j' < 2 ^ 62) ∧ P i' j' := ⟨i, j, rfl, rfl, ⟨h1, h2, h3, h4⟩, h⟩
theorem x_lst {P : Addr → List DL.D → Prop} {p : Addr} {ds : List DL.D} (hp : g p = some (.lst ds)) (h : P p ds) : ∃ p' ds', (DL.D.ref p) = .ref p' ∧ rdL g p' ds' ∧ P p' ds' := ⟨p, ds, rfl, .inl hp, h⟩
theorem x_lst' {P : Addr → List DL.D → Prop} {p : Addr} (h : ∃ ds, g p = some (.lst ds) ∧ P p ds) : ∃ p' ds', (DL.D.ref p) = .ref p' ∧ rdL g p' ds' ∧ P p' ds' := by
  obtain ⟨ds, a, c⟩ := h
  exact ⟨p, ds, rfl, .inl a, c⟩
theorem x_tp {P : List DL.D → Prop} {ds : List DL.D} (h : P ds) : ∃ ds', (DL.D.tup ds) = .tup ds' ∧ P ds' := ⟨ds, rfl, h⟩
theorem x_st {P : Str → Prop} {z : Str} (h : P z) : ∃ z', (DL.D.str z) = .str z' ∧ P z' := ⟨z, rfl, h⟩
end
/-! ### values -/
theorem x_bl {P : Bool → Prop} {b : Bool} (h : P b) : ∃ k, (DL.D.bl b) = .bl k ∧ P k := ⟨b, rfl, h⟩
theorem x_int {P : Int → Prop} {b : Int} (h : P b) : ∃ k, (DL.D.int b) = .int k ∧ P k := ⟨b, rfl, h⟩
theorem x_sz {xs : List DL.D} {P : Prop} (h : xs.length ≤ 16777216) (h2 : P) : xs.length ≤ sizeLine ∧ P := ⟨by rw [szl]; exact h, h2⟩
theorem x_part {b : Int} (h : QO (some b) g) : ∃ i, (DL.D.int b) = .int i ∧ QO (some i) g := ⟨b, rfl, h⟩
theorem x_tru {P : Bool → Prop} {b : Bool} (h : P b) : ∃ k, truD g k (.bl b) ∧ P k := ⟨b, rfl, h⟩
theorem v_addI {a b : Int} (h : Q (.int (a + b)) g) : addD (.int a) (.int b) g Q := h
theorem v_addS {a b : Str} (hz : a.length + b.length ≤ sizeLine) (h : Q (.str (a ++ b)) g) : addD (.str a) (.str b) g Q := ⟨hz, h⟩
theorem v_addT {a b : List DL.D} (hz : a.length + b.length ≤ sizeLine) (h : Q (.tup (a ++ b)) g) : addD (.tup a) (.tup b) g Q := ⟨hz, h⟩
theorem v_addL {p q : Addr} {a b : List DL.D} (h1 : g p = some (.lst a)) (h2 : g q = some (.lst b)) (hz : a.length + b.length ≤ sizeLine) (h : ∀ r, g r = none → Q (.ref r) (gup g r (.lst (a ++ b)))) : addD (.ref p) (.ref q) g Q := ⟨a, b, h1, h2, hz, h⟩
theorem v_sub {a b : Int} (h : Q (.int (a - b)) g) : subD (.int a) (.int b) g Q := ⟨trivial, h⟩
theorem v_mul {a b : Int} (hc : CMul a b) (h : Q (.int (a * b)) g) : mulD (.int a) (.int b) g Q := ⟨hc, h⟩
theorem v_mulR {a b : Int} (h1 : -18446744073709551616 < b) (h2 : b < 18446744073709551616) (h : Q (.int (a * b)) g) : mulD (.int a) (.int b) g Q := ⟨.inr ⟨h1, h2⟩, h⟩
theorem v_mulL {a b : Int} (h1 : -18446744073709551616 < a) (h2 : a < 18446744073709551616) (h : Q (.int (a * b)) g) : mulD (.int a) (.int b) g Q := ⟨.inl ⟨h1, h2⟩, h⟩
theorem v_mulT {xs : List DL.D} {k : Int} (h0 : xs ≠ []) (h1 : 0 ≤ k) (h2 : k ≤ 1000) (h3 : xs.length ≤ 1000) (h : Q (.tup (List.replicate k.toNat xs).flatten) g) : mulD (.tup xs) (.int k) g Q := ⟨h0, h1, h2, h3, h⟩
theorem v_mod {a b : Int} (hb : 0 < b) (h : Q (.int (a % b)) g) : modD (.int a) (.int b) g Q := ⟨by omega, by
  show Q (.int (a.fmod b)) g
  rw [Int.fmod_eq_emod_of_nonneg _ (by omega)]
  exact h⟩
theorem v_div {a b : Int} (hb : 0 < b) (hb2 : b < 1073741824) (h : Q (.int (a / b)) g) : fdivD (.int a) (.int b) g Q := ⟨⟨by omega, by omega⟩, by
  show Q (.int (a.fdiv b)) g
  rw [Int.fdiv_eq_ediv_of_nonneg _ (by omega)]
  exact h⟩
theorem v_and {a b : Int} (h : Q (.int (Builtin.bitAnd a b)) g) : andD (.int a) (.int b) g Q := ⟨trivial, h⟩
theorem v_pow {a b : Int} (hc : CPow a b) (h : Q (.int (a ^ b.toNat)) g) : powD (.int a) (.int b) g Q := ⟨hc, h⟩
theorem v_shl {a b : Int} (hc : CPow a b) (h : Q (.int (a * 2 ^ b.toNat)) g) : shlD (.int a) (.int b) g Q := ⟨hc, h⟩
theorem v_neg {a : Int} (h : Q (.int (-a)) g) : negD (.int a) g Q := h
theorem v_ltI {a b : Int} (h : Q (.bl (decide (a < b))) g) : ltD (.int a) (.int b) g Q := h
theorem v_leI {a b : Int} (h : Q (.bl (decide (a ≤ b))) g) : leD (.int a) (.int b) g Q := h
theorem v_gtI {a b : Int} (h : Q (.bl (decide (b < a))) g) : gtD (.int a) (.int b) g Q := h
theorem v_geI {a b : Int} (h : Q (.bl (decide (b ≤ a))) g) : geD (.int a) (.int b) g Q := h
theorem v_eqI {a b : Int} (h : Q (.bl (decide (a = b))) g) : eqD (.int a) (.int b) g Q := h
theorem v_eqS {a b : Str} (h : Q (.bl (decide (a = b))) g) : eqD (.str a) (.str b) g Q := h
theorem v_eqB {a b : Bool} (h : Q (.bl (decide (a = b))) g) : eqD (.bl a) (.bl b) g Q := h
theorem v_neI {a b : Int} (h : Q (.bl (!decide (a = b))) g) : neD (.int a) (.int b) g Q := h
theorem v_neS {a b : Str} (h : Q (.bl (!decide (a = b))) g) : neD (.str a) (.str b) g Q := h
theorem v_inS {a b : Str} (h : Q (.bl (inStr a b)) g) : inD (.str a) (.str b) g Q := h
theorem v_in1 {c : Nat} {b : Str} (h : Q (.bl (decide (c ∈ b.cps.toList))) g) : inD (.str ⟨#[c]⟩) (.str b) g Q := by
  show Q (.bl (inStr ⟨#[c]⟩ b)) g
  rw [inStr_one]
  exact h
theorem v_ixT {ds : List DL.D} {i : Int} (ha : atI ds i = some d) (h : Q d g) : ixD (.tup ds) (.int i) g Q := ⟨d, ha, h⟩
theorem v_ixL {ds : List DL.D} {p : Addr} {i : Int} (hp : g p = some (.lst ds)) (ha : atI ds i = some d) (h : Q d g) : ixD (.ref p) (.int i) g Q := ⟨ds, d, .inl hp, ha, h⟩
theorem v_ixR {ds : List DL.D} {p : Addr} {i : Int} (hp : g p = some (.ro ds)) (ha : atI ds i = some d) (h : Q d g) : ixD (.ref p) (.int i) g Q := ⟨ds, d, .inr hp, ha, h⟩
theorem v_ixS {z : Str} {i : Int} {c : Nat} (hz : z.length ≤ sizeLine) (ha : atI z.cps.toList i = some c) (h : Q (.str ⟨#[c]⟩) g) : ixD (.str z) (.int i) g Q := ⟨hz, c, ha, h⟩
theorem v_ixL' {p : Addr} {i : Int} (h : ∃ ds, g p = some (.lst ds) ∧ ∃ d, atI ds i = some d ∧ Q d g) : ixD (.ref p) (.int i) g Q := by
  obtain ⟨ds, a, d, b, c⟩ := h
  exact v_ixL a b c
theorem v_ixT' {ds : List DL.D} {i : Int} (h : ∃ d, atI ds i = some d ∧ Q d g) : ixD (.tup ds) (.int i) g Q := h
theorem v_lenL' {p : Addr} (h : ∃ ds, g p = some (.lst ds) ∧ Q (.int (ds.length : Nat)) g) : lenD [.ref p] g Q := by
  obtain ⟨ds, a, c⟩ := h
  exact ⟨ds, .inl a, c⟩
theorem v_tupL' {p : Addr} (h : ∃ ds, g p = some (.lst ds) ∧ Q (.tup ds) g) : tupF [.ref p] g Q := by
  obtain ⟨ds, a, c⟩ := h
  exact ⟨ds, .inl a, c⟩
theorem v_int {i : Int} (h : Q (.int i) g) : intF [.int i] g Q := h
theorem v_intB {b : Bool} (h : Q (.int (if b then 1 else 0)) g) : intF [.bl b] g Q := h
theorem v_abs {i : Int} (h : Q (.int (if i < 0 then -i else i)) g) : absD [.int i] g Q := ⟨trivial, h⟩
theorem v_str {i : Int} (hz : i.natAbs.log2 < 1920) (h : Q (.str (toString i)) g) : strF [.int i] g Q := ⟨hz, h⟩
theorem v_lenS {z : Str} (hz : z.length ≤ sizeLine) (h : Q (.int (z.length : Nat)) g) : lenD [.str z] g Q := ⟨hz, h⟩
theorem v_lenT {ds : List DL.D} (h : Q (.int (ds.length : Nat)) g) : lenD [.tup ds] g Q := h
theorem v_lenL {ds : List DL.D} {p : Addr} (hp : g p = some (.lst ds)) (h : Q (.int (ds.length : Nat)) g) : lenD [.ref p] g Q := ⟨ds, .inl hp, h⟩
theorem v_lenR {ds : List DL.D} {p : Addr} (hp : g p = some (.ro ds)) (h : Q (.int (ds.length : Nat)) g) : lenD [.ref p] g Q := ⟨ds, .inr hp, h⟩
theorem v_ixK {ds : List DL.D} {i : Int} (ha : atI ds i = some d) (h : Q d g) : ixD (.klst ds) (.int i) g Q := ⟨d, ha, h⟩
theorem v_lenK {ds : List DL.D} (h : Q (.int (ds.length : Nat)) g) : lenD [.klst ds] g Q := h
theorem v_lstK {ds : List DL.D} (h : ∀ p, g p = none → Q (.ref p) (gup g p (.lst ds))) : lstF [.klst ds] g Q := h
theorem v_tupT {ds : List DL.D} (h : Q (.tup ds) g) : tupF [.tup ds] g Q := h
theorem v_tupL {ds : List DL.D} {p : Addr} (hp : g p = some (.lst ds)) (h : Q (.tup ds) g) : tupF [.ref p] g Q := ⟨ds, .inl hp, h⟩
theorem v_lstT {ds : List DL.D} (h : ∀ p, g p = none → Q (.ref p) (gup g p (.lst ds))) : lstF [.tup ds] g Q := h
theorem v_lstL {ds : List DL.D} {p : Addr} (hp : g p = some (.lst ds)) (h : ∀ p, g p = none → Q (.ref p) (gup g p (.lst ds))) : lstF [.ref p] g Q := ⟨ds, .inl hp, h⟩
theorem v_lstR {ds : List DL.D} {p : Addr} (hp : g p = some (.ro ds)) (h : ∀ p, g p = none → Q (.ref p) (gup g p (.lst ds))) : lstF [.ref p] g Q := ⟨ds, .inr hp, h⟩
theorem v_app {p : Addr} {ds : List DL.D} (hp : g p = some (.lst ds)) (hz : ds.length < sizeLine) (h : Q .non (gup g p (.lst (ds ++ [y])))) : rcv "list" (.ref p) g ∧ appD (.ref p) [y] g Q := ⟨⟨rfl, ds, .inl hp⟩, ds, hp, hz, h⟩
theorem v_app' {p : Addr} {ds : List DL.D} (hp : g p = some (.lst ds)) (hz : ds.length < sizeLine) (h : Q .non (gup g p (.lst (ds ++ [y])))) : appD (.ref p) [y] g Q := ⟨ds, hp, hz, h⟩
theorem v_rcvL {p : Addr} {ds : List DL.D} {P : Prop} (hp : g p = some (.lst ds)) (h : P) : rcv "list" (.ref p) g ∧ P := ⟨⟨rfl, ds, .inl hp⟩, h⟩
theorem v_rcvS {z : Str} {P : Prop} (h : P) : rcv "str" (.str z) g ∧ P := ⟨rfl, h⟩
theorem v_set {p : Addr} {k : Int} {ds : List DL.D} {j : Nat} {v : DL.D} {R : GS → Prop} (hp : g p = some (.lst ds)) (hj : ixN ds.length k = some j) (h : R (gup g p (.lst (ds.set j v)))) : setD (.ref p) (.int k) v g R := ⟨ds, j, hp, hj, h⟩
theorem v_isN (h : Q (.bl true) g) : isND .non .non g Q := ⟨rfl, h⟩
theorem iteD {P A B : Prop} [Decidable P] (h1 : P → A) (h2 : ¬ P → B) : if decide P = true then A else B := by
  by_cases h : P
  · rw [if_pos (decide_eq_true h)]; exact h1 h
  · rw [if_neg (by simpa using h)]; exact h2 h
theorem iteN {P A B : Prop} [Decidable P] (h1 : ¬ P → A) (h2 : P → B) : if (!decide P) = true then A else B := by
  by_cases h : P
  · rw [if_neg (by simpa using h)]; exact h2 h
  · rw [if_pos (by simpa using h)]; exact h1 h
theorem iteB {b : Bool} {A B : Prop} (h1 : b = true → A) (h2 : b = false → B) : if b = true then A else B := by
  cases b with
  | true => exact h1 rfl
  | false => exact h2 rfl
theorem iteNB {b : Bool} {A B : Prop} (h1 : b = false → A) (h2 : b = true → B) : if (!b) = true then A else B := by
  cases b with
  | true => exact h2 rfl
  | false => exact h1 rfl
end
theorem atI_ex {α : Type} {xs : List α} {i : Int} (h0 : 0 ≤ i) (h : i < xs.length) : ∃ x, x ∈ xs ∧ atI xs i = some x := by
  have hl : i.toNat < xs.length := by omega
  refine ⟨xs[i.toNat], List.getElem_mem hl, ?_⟩
  have e := L2.atI_nat (xs := xs) (j := i.toNat) (List.getElem?_eq_getElem hl)
  have e0 : ((i.toNat : Nat) : Int) = i := by omega
  rw [e0] at e
  exact e
theorem atI_map {α β : Type} {f : α → β} {xs : List α} {i : Int} {x : α} (h : atI xs i = some x) : atI (xs.map f) i = some (f x) := by
  unfold atI at h ⊢
  rw [List.length_map]
  cases q : ixN xs.length i with
  | none => rw [q] at h; cases h
  | some j =>
    rw [q] at h
    have h' : xs[j]? = some x := h
    show (xs.map f)[j]? = some (f x)
    rw [List.getElem?_map, h']
    rfl
theorem atI_at {α : Type} {xs : List α} {i : Nat} {x : α} (h : xs[i]? = some x) : atI xs ((0 : Int) + (i : Int)) = some x := by
  rw [Int.zero_add]
  exact L2.atI_nat h
/-! ### what a reading may change -/
def Up (S : List Addr) (g g' : GS) : Prop := (∀ l o, l ∉ S → g l = some o → g' l = some o) ∧ ∀ l, g l ≠ none → g' l ≠ none
section
variable {S : List Addr} {g g' g'' : GS} {p l : Addr} {o : MO}
theorem Up.refl : Up S g g := ⟨fun _ _ _ h => h, fun _ h => h⟩
theorem Up.trans (a : Up S g g') (b : Up S g' g'') : Up S g g'' := ⟨fun l o n h => b.1 l o n (a.1 l o n h), fun l h => b.2 l (a.2 l h)⟩
theorem gup_some {m : MO} (h : g p ≠ none) (l : Addr) : gup g l m p ≠ none := by
  unfold gup
  split
  · exact fun z => by cases z
  · exact h
theorem Up.new (h : g p = none) : Up S g (gup g p o) := ⟨fun l m n e => by rw [gup_ne (fun z => by rw [z, h] at e; cases e)]; exact e, fun l e => gup_some e p⟩
theorem Up.mut (a : Up S g g') (h : g p = none) : Up S g (gup g' p o) := ⟨fun l m n e => by rw [gup_ne (fun z => by rw [z, h] at e; cases e)]; exact a.1 l m n e, fun l e => gup_some (a.2 l e) p⟩
theorem Up.ins (a : Up S g g') (h : p ∈ S) : Up S g (gup g' p o) := ⟨fun l m n e => by rw [gup_ne (fun z => n (by rw [z]; exact h))]; exact a.1 l m n e, fun l e => gup_some (a.2 l e) p⟩
theorem Up.sub {S' : List Addr} (a : Up S g g') (h : ∀ x ∈ S, x ∈ S') : Up S' g g' := ⟨fun l o n e => a.1 l o (fun z => n (h l z)) e, a.2⟩
theorem Up.of0 (a : Up [] g g') : Up S g g' := a.sub fun _ z => nomatch z
theorem Up.fresh (a : Up S g g') (h : g' p = none) : g p = none := by
  cases q : g p with
  | none => rfl
  | some o => exact absurd h (a.2 p (by rw [q]; exact fun z => by cases z))
theorem ne_fresh {q : Addr} (h : g p = none) (h' : g q = some o) : p ≠ q := fun z => by rw [z, h'] at h; cases h
theorem Up.get0 (a : Up [] g g') (h : g l = some o) : g' l = some o := a.1 l o (fun z => nomatch z) h
theorem Up.get1 {q : Addr} (a : Up [q] g g') (n : l ≠ q) (h : g l = some o) : g' l = some o := a.1 l o (fun z => n (List.mem_singleton.mp z)) h
end
theorem bAnd_nn {x y : Int} (hx : 0 ≤ x) (hy : 0 ≤ y) : 0 ≤ Builtin.bitAnd x y := by
  rw [PyProof.Rows.bitAnd_pp hx hy]
  exact Int.natCast_nonneg _
theorem mask_nn (k : Nat) : (0 : Int) ≤ 1 * 2 ^ k - 1 := by
  have h : ∀ k : Nat, (0 : Int) < 2 ^ k := fun k => by
    induction k with
    | zero => decide
    | succ k ih => rw [Int.pow_succ]; omega
  have := h k
  omega
/-! ### the laws' source of draws -/
structure SI where
  L : Addr
  L0 : Addr
  ns : List Int
def Src (s : SI) (g : GS) (m : Nat) : Prop := g s.L0 = some (.lst (s.ns.map D.int)) ∧ (s.L0 ≠ s.L ∧ s.ns.length ≤ 63) ∧ ∃ c big seed n : Int, g s.L = some (.lst [.ref s.L0, .int c, .int big, .int seed, .int n]) ∧ 0 ≤ c ∧ 0 ≤ big ∧ 0 ≤ seed ∧ seed < 2147483647 ∧ 0 ≤ n ∧ n ≤ m
def Go (s : SI) (g g' : GS) (m : Nat) : Prop := Up [s.L] g g' ∧ Src s g' m
section
variable {s : SI} {g g' g'' : GS} {m m' : Nat} {p l : Addr} {o : MO}
theorem Src.up (h : Src s g m) (u : Up [] g g') : Src s g' m := by
  obtain ⟨h1, h2, c, big, seed, n, h3, h4⟩ := h
  exact ⟨u.get0 h1, h2, c, big, seed, n, u.get0 h3, h4⟩
theorem Src.mut (h : Src s g m) (n1 : p ≠ s.L) (n2 : p ≠ s.L0) : Src s (gup g p o) m := by
  obtain ⟨h1, h2, c, big, seed, n, h3, h4⟩ := h
  exact ⟨by rw [gup_ne n2.symm]; exact h1, h2, c, big, seed, n, by rw [gup_ne n1.symm]; exact h3, h4⟩
theorem Src.neL (h : Src s g m) (f : g p = none) : p ≠ s.L := by
  obtain ⟨_, _, _, _, _, _, h3, _⟩ := h
  exact ne_fresh f h3
theorem Src.neL0 (h : Src s g m) (f : g p = none) : p ≠ s.L0 := ne_fresh f h.1
theorem Src.le (h : Src s g m) (k : m ≤ m') : Src s g m' := by
  obtain ⟨h1, h2, c, big, seed, n, h3, h4, h5, h6, h7, h8, h9⟩ := h
  exact ⟨h1, h2, c, big, seed, n, h3, h4, h5, h6, h7, h8, by omega⟩
theorem Go.start (h : Src s g m) : Go s g g m := ⟨.refl, h⟩
theorem Go.new (h : Go s g g' m) (f : g' p = none) : Go s g (gup g' p o) m := ⟨h.1.trans (.new f), h.2.up (.new f)⟩
theorem Go.mut (h : Go s g g' m) (f : g p = none) (h0 : Src s g m') : Go s g (gup g' p o) m := ⟨h.1.mut f, h.2.mut (h0.neL f) (h0.neL0 f)⟩
theorem Go.trans (h : Go s g g' m) (k : Go s g' g'' m') : Go s g g'' m' := ⟨h.1.trans k.1, k.2⟩
theorem Go.get (h : Go s g g' m) (n : l ≠ s.L) (e : g l = some o) : g' l = some o := h.1.get1 n e
theorem Go.le (h : Go s g g' m) (k : m ≤ m') : Go s g g' m' := ⟨h.1, h.2.le k⟩
theorem Go.up (h : Go s g g' m) (u : Up [] g' g'') : Go s g g'' m := ⟨h.1.trans u.of0, h.2.up u⟩
end
end DL

namespace DL
open PySem PySem.Spec PyProof.Rows L2
open TL (tl)
/-! ### texts -/
theorem lenS_le {s : Str} {n : Nat} (h : (tl s).length ≤ n) (hn : n ≤ 16777216) : s.length ≤ sizeLine := by
  rw [szl, TL.len_tl]; omega
theorem len2_le {s t : Str} {n : Nat} (h : (tl s).length + (tl t).length ≤ n) (hn : n ≤ 16777216) : s.length + t.length ≤ sizeLine := by
  rw [szl, TL.len_tl, TL.len_tl]; omega
theorem tl_one (c : Nat) : tl ⟨#[c]⟩ = [c] := rfl
theorem eqP_str (a b : Str) : eqP (.str a) (.str b) = decide (a = b) := by
  unfold eqP
  rw [pd, pd, PyData.eqv, Bool.beq_eq_decide_eq]
theorem eqP_int (a b : Int) : eqP (.int a) (.int b) = decide (a = b) := by
  unfold eqP
  rw [pd, pd, PyData.eqv, Bool.beq_eq_decide_eq]
theorem any_strs (t : Str) : ∀ us : List Str, ((us.map D.str).any fun z => eqP z (.str t)) = decide (t ∈ us)
  | [] => by simp
  | u :: us => by
    rw [List.map_cons, List.any_cons, any_strs t us, eqP_str]
    by_cases h : u = t
    · subst h; simp
    · have h' : ¬ t = u := fun z => h z.symm
      simp [h, h']
theorem any_ints (t : Int) : ∀ us : List Int, ((us.map D.int).any fun z => eqP z (.int t)) = decide (t ∈ us)
  | [] => by simp
  | u :: us => by
    rw [List.map_cons, List.any_cons, any_ints t us, eqP_int]
    by_cases h : u = t
    · subst h; simp
    · have h' : ¬ t = u := fun z => h z.symm
      simp [h, h']
theorem scal_strs (us : List Str) : (us.map D.str).all scalD = true := by simp [scalD]
theorem scal_ints (us : List Int) : (us.map D.int).all scalD = true := by simp [scalD]
section
variable {g : GS} {Q : DK} {p : Addr}
theorem v_inLS {t : Str} {us : List Str} (hp : g p = some (.lst (us.map D.str))) (h : Q (.bl (decide (t ∈ us))) g) : inD (.str t) (.ref p) g Q :=
  ⟨_, .inl hp, .inl ⟨rfl, scal_strs us⟩, by rw [any_strs]; exact h⟩
theorem v_notInLS {t : Str} {us : List Str} (hp : g p = some (.lst (us.map D.str))) (h : Q (.bl (!decide (t ∈ us))) g) : notInD (.str t) (.ref p) g Q := v_inLS hp h
theorem v_inTS {t : Str} {us : List Str} (h : Q (.bl (decide (t ∈ us))) g) : inD (.str t) (.tup (us.map D.str)) g Q := ⟨.inl ⟨rfl, scal_strs us⟩, by rw [any_strs]; exact h⟩
theorem v_notInTS {t : Str} {us : List Str} (h : Q (.bl (!decide (t ∈ us))) g) : notInD (.str t) (.tup (us.map D.str)) g Q := v_inTS h
theorem v_inLI {t : Int} {us : List Int} (hp : g p = some (.lst (us.map D.int))) (h : Q (.bl (decide (t ∈ us))) g) : inD (.int t) (.ref p) g Q :=
  ⟨_, .inl hp, .inl ⟨rfl, scal_ints us⟩, by rw [any_ints]; exact h⟩
theorem v_notInLI {t : Int} {us : List Int} (hp : g p = some (.lst (us.map D.int))) (h : Q (.bl (!decide (t ∈ us))) g) : notInD (.int t) (.ref p) g Q := v_inLI hp h
theorem v_inTI {t : Int} {us : List Int} (h : Q (.bl (decide (t ∈ us))) g) : inD (.int t) (.tup (us.map D.int)) g Q := ⟨.inl ⟨rfl, scal_ints us⟩, by rw [any_ints]; exact h⟩
end
theorem logOk {i : Int} (h : -18446744073709551616 < i ∧ i < 18446744073709551616) : i.natAbs.log2 < 1920 := by
  by_cases e : i.natAbs = 0
  · rw [e]; decide
  · rw [Nat.log2_lt e]
    exact Nat.lt_of_lt_of_le (show i.natAbs < 2 ^ 64 by omega) (Nat.pow_le_pow_right (by decide) (by decide))
theorem tl_toString (k : Nat) : tl (Str.ofString (toString ((k : Nat) : Int))) = TL.numL k := TL.tl_num k
/-- distinct ones within a list -/
theorem nodup_len {α : Type} [DecidableEq α] : ∀ (l m : List α), l.Nodup → (∀ x ∈ l, x ∈ m) → l.length ≤ m.length
  | [], m, _, _ => Nat.zero_le _
  | x :: l, m, h, hs => by
    have hx : x ∈ m := hs x List.mem_cons_self
    rw [List.nodup_cons] at h
    have := nodup_len l (m.erase x) h.2 fun y hy => by
      have ne : y ≠ x := fun e => h.1 (e ▸ hy)
      exact (List.mem_erase_of_ne ne).mpr (hs y (List.mem_cons_of_mem _ hy))
    rw [List.length_erase_of_mem hx] at this
    have pos := List.length_pos_of_mem hx
    rw [List.length_cons]
    omega
theorem nodup_map_on {α β : Type} (f : α → β) : ∀ (l : List α), l.Nodup → (∀ x ∈ l, ∀ y ∈ l, f x = f y → x = y) → (l.map f).Nodup
  | [], _, _ => List.nodup_nil
  | x :: l, h, hi => by
    rw [List.nodup_cons] at h
    rw [List.map_cons, List.nodup_cons]
    refine ⟨fun hm => ?_, nodup_map_on f l h.2 fun a ha b hb => hi a (List.mem_cons_of_mem _ ha) b (List.mem_cons_of_mem _ hb)⟩
    obtain ⟨y, hy, e⟩ := List.mem_map.mp hm
    exact h.1 (hi x List.mem_cons_self y (List.mem_cons_of_mem _ hy) e.symm ▸ hy)
theorem Src.neStr {s : SI} {g : GS} {m : Nat} {U : Addr} {us : List Str} (h : Src s g m) (hU : g U = some (.lst (us.map D.str))) : U ≠ s.L := by
  obtain ⟨_, _, c, big, seed, n, h3, _⟩ := h
  rintro rfl
  rw [h3] at hU
  cases us with
  | nil => cases hU
  | cons u us => cases hU
/-! ### names -/
def low (c : Nat) : Prop := 97 ≤ c ∧ c ≤ 122
def dig (c : Nat) : Prop := 48 ≤ c ∧ c ≤ 57
instance (c : Nat) : Decidable (low c) := inferInstanceAs (Decidable (_ ∧ _))
instance (c : Nat) : Decidable (dig c) := inferInstanceAs (Decidable (_ ∧ _))
/-- a letter, then letters and digits, at most 1 + n of them -/
def NameL (n : Nat) (l : List Nat) : Prop := ∃ c r, l = c :: r ∧ low c ∧ (∀ x ∈ r, low x ∨ dig x) ∧ r.length ≤ n
abbrev NameOk (s : Str) : Prop := NameL 6 (tl s)
theorem NameL.app {n m : Nat} {l l2 : List Nat} (h : NameL n l) (h2 : ∀ x ∈ l2, low x ∨ dig x) (hl : l2.length ≤ m) : NameL (n + m) (l ++ l2) := by
  obtain ⟨c, r, rfl, hc, hr, hn⟩ := h
  refine ⟨c, r ++ l2, rfl, hc, fun x hx => ?_, by rw [List.length_append]; omega⟩
  rcases List.mem_append.mp hx with hx | hx
  · exact hr x hx
  · exact h2 x hx
theorem NameL.mono {n m : Nat} {l : List Nat} (h : NameL n l) (hm : n ≤ m) : NameL m l := by
  obtain ⟨c, r, rfl, hc, hr, hn⟩ := h
  exact ⟨c, r, rfl, hc, hr, by omega⟩
theorem NameL.len {n : Nat} {l : List Nat} (h : NameL n l) : l.length ≤ n + 1 := by
  obtain ⟨c, r, rfl, hc, hr, hn⟩ := h
  rw [List.length_cons]; omega
theorem NameL.all {n : Nat} {l : List Nat} (h : NameL n l) : ∀ x ∈ l, low x ∨ dig x := by
  obtain ⟨c, r, rfl, hc, hr, hn⟩ := h
  intro x hx
  rcases List.mem_cons.mp hx with rfl | hx
  · exact .inl hc
  · exact hr x hx
theorem NameL.ne {n : Nat} {l : List Nat} (h : NameL n l) : l ≠ [] := by
  obtain ⟨c, r, rfl, _⟩ := h
  simp
theorem numL_dig {k : Nat} : ∀ x ∈ TL.numL k, low x ∨ dig x := fun x hx => .inr (TL.numL_digits k x hx)
end DL

namespace DL
open PySem PySem.Spec PyProof.Rows L2
open TL (tl)
section
variable {X : Cx} {id : String}
/-- s.index(t), t stands in s -/
def indexD : DRM := fun x ys g Q => match x, ys with
  | .str a, [.str b] => ∃ (i : Nat) (rest : List Nat), Builtin.Str.occurrences a b 0 a.length 1 = i :: rest ∧ Q (.int (i : Nat)) g
  | _, _ => False
theorem mt_indexD : MtR X "str.index" (lRM X.K indexD) := fun pins s σ H x xs v us Q I rx rs ⟨d, ds, g, Qd, r1, l, rg, q, k⟩ => by
  cases r1 with
  | str a => rcases l with _ | ⟨r1, _ | ⟨r2, l⟩⟩
             · exact q.elim
             · cases r1 with
               | str b =>
                 obtain ⟨i, rest, h, q⟩ := q
                 exact mt_sindex pins s σ H _ _ v us Q I rx rs ⟨a, b, i, rest, rfl, rfl, h, rg.fin k (.int _) q⟩
               | _ => exact q.elim
             · cases r1 <;> exact q.elim
  | _ => exact q.elim
end
/-! ### texts made of signs -/
def mk (l : List Nat) : Str := ⟨l.toArray⟩
theorem tl_mk (l : List Nat) : tl (mk l) = l := rfl
theorem mk_tl (s : Str) : mk (tl s) = s := TL.mk_tl s
theorem mk_inj {a b : List Nat} (h : mk a = mk b) : a = b := by
  have := congrArg tl h
  rwa [tl_mk, tl_mk] at this
theorem mk_app (a b : List Nat) : mk a ++ mk b = mk (a ++ b) := TL.ext_tl (by rw [TL.tl_append, tl_mk, tl_mk, tl_mk])
theorem app_mk (s : Str) (b : List Nat) : s ++ mk b = mk (tl s ++ b) := TL.ext_tl (by rw [TL.tl_append, tl_mk, tl_mk])
theorem mk_one (c : Nat) : (⟨#[c]⟩ : Str) = mk [c] := rfl
theorem joinL_nil : ∀ ps : List (List Nat), TL.joinL [] ps = ps.flatten
  | [] => rfl
  | [p] => by simp [TL.joinL]
  | p :: q :: r => by
    show p ++ ([] ++ TL.joinL [] (q :: r)) = _
    rw [List.nil_append, joinL_nil (q :: r), List.flatten_cons (l := p)]
theorem tl_empty : tl (("" : Str)) = [] := by decide +kernel
theorem join_empty (zs : List Str) : tl (Txt.join "" zs) = (zs.map tl).flatten := by
  rw [TL.join_eq, TL.tl_join, tl_empty, joinL_nil]
/-- signs, each a text -/
def ones (cs : List Nat) : List Str := cs.map fun c => mk [c]
theorem ones_len (cs : List Nat) : ((ones cs).map (·.length)).sum = cs.length := by
  induction cs with
  | nil => rfl
  | cons c cs ih =>
    show (mk [c]).length + ((ones cs).map (·.length)).sum = _
    rw [ih, List.length_cons]
    show 1 + cs.length = _
    omega
theorem ones_join (cs : List Nat) : Txt.join "" (ones cs) = mk cs := TL.ext_tl (by
  rw [join_empty, tl_mk]
  induction cs with
  | nil => rfl
  | cons c cs ih =>
    show (tl (mk [c]) :: (ones cs).map tl).flatten = _
    rw [List.flatten_cons, ih]
    rfl)
theorem ones_get {cs : List Nat} {i : Nat} {c : Nat} (h : cs[i]? = some c) : ((ones cs).map D.str)[i]? = some (.str (mk [c])) := by
  rw [ones, List.getElem?_map, List.getElem?_map, h]
  rfl
/-- the signs of a text, walked -/
theorem walk_get {z : Str} {i : Nat} {d : D} (h : (z.cps.toList.map fun c => D.str ⟨#[c]⟩)[i]? = some d) : ∃ c, (tl z)[i]? = some c ∧ d = .str (mk [c]) := by
  rw [List.getElem?_map] at h
  show ∃ c, z.cps.toList[i]? = some c ∧ _
  cases hc : z.cps.toList[i]? with
  | none => rw [hc] at h; cases h
  | some c =>
    rw [hc] at h
    cases h
    exact ⟨c, rfl, rfl⟩
section
variable {g : GS} {Q : DK} {p : Addr}
theorem v_in1' {c : Nat} {b : Str} (h : Q (.bl (decide (c ∈ tl b))) g) : inD (.str (mk [c])) (.str b) g Q := v_in1 h
theorem v_joinOnes {cs : List Nat} (hp : g p = some (.lst ((ones cs).map D.str))) (hz : cs.length ≤ 16777216) (h : Q (.str (mk cs)) g) : joinD (.str "") [.ref p] g Q :=
  ⟨ones cs, .inl hp, by
    rw [ones_len]
    have : (("" : Str)).length = 0 := by decide +kernel
    rw [this]; omega, by rw [ones_join]; exact h⟩
end
theorem lower_mk {l : List Nat} (h : ∀ c ∈ l, c < 128) : Txt.lower (mk l) = mk (l.map lo1) := by
  rw [lower_ascii (x := mk l) h]
  exact TL.ext_tl (by simp [mk])
theorem upper_mk {l : List Nat} (h : ∀ c ∈ l, c < 128) : Txt.upper (mk l) = mk (l.map up1) := by
  rw [upper_ascii (x := mk l) h]
  exact TL.ext_tl (by simp [mk])
section
variable {g : GS} {Q : DK}
theorem v_lowerM {l : List Nat} (h1 : ∀ c ∈ l, c < 128) (hz : l.length ≤ 5000000) (h : Q (.str (mk (l.map lo1))) g) : lowerD (.str (mk l)) [] g Q := by
  refine ⟨by show (mk l).length ≤ _; rw [TL.len_tl, tl_mk]; omega, ?_⟩
  show Q (.str (Txt.lower (mk l))) g
  rw [lower_mk h1]
  exact h
theorem v_upperM {l : List Nat} (h1 : ∀ c ∈ l, c < 128) (hz : l.length ≤ 5000000) (h : Q (.str (mk (l.map up1))) g) : upperD (.str (mk l)) [] g Q := by
  refine ⟨by show (mk l).length ≤ _; rw [TL.len_tl, tl_mk]; omega, ?_⟩
  show Q (.str (Txt.upper (mk l))) g
  rw [upper_mk h1]
  exact h
theorem v_addM {a b : List Nat} (hz : a.length + b.length ≤ 16777216) (h : Q (.str (mk (a ++ b))) g) : addD (.str (mk a)) (.str (mk b)) g Q := by
  refine v_addS (by rw [szl, TL.len_tl, TL.len_tl, tl_mk, tl_mk]; exact hz) ?_
  rw [mk_app]; exact h
theorem v_lenM {a : List Nat} (hz : a.length ≤ 16777216) (h : Q (.int (a.length : Nat)) g) : lenD [.str (mk a)] g Q := by
  refine v_lenS (by rw [szl, TL.len_tl, tl_mk]; exact hz) ?_
  rw [TL.len_tl, tl_mk]; exact h
theorem v_eqM {a b : List Nat} (h : Q (.bl (decide (a = b))) g) : eqD (.str (mk a)) (.str (mk b)) g Q := by
  refine v_eqS ?_
  have : decide (mk a = mk b) = decide (a = b) := by
    by_cases h : a = b
    · subst h; simp
    · simp only [h, decide_false, decide_eq_false_iff_not]; exact fun z => h (mk_inj z)
  rw [this]; exact h
theorem v_neM {a b : List Nat} (h : Q (.bl (!decide (a = b))) g) : neD (.str (mk a)) (.str (mk b)) g Q := v_eqM (Q := notV Q) h
end
/-- a loop that folds -/
theorem fold_iv {α S : Type} {ds : List DL.D} {keep : GS → Prop} {tg : DTG} {tb : DTS} {D : DEnds} {e : EV} {g1 : GS} (l : List α) (td : α → DL.D) (hl : ds = l.map td) (emb : S → EV → GS → Prop) (f : S → α → S) (s0 : S) (h0 : emb s0 e g1) (hk : ∀ s e g, emb s e g → keep g)
    (step : ∀ done a rest s e' g', l = done ++ a :: rest → s = done.foldl f s0 → emb s e' g' → tg (td a) e' g' fun e2 g2 => tb { D with nx := emb (f s a), ct := emb (f s a), bk := D.nx } e2 g2) (hd : ∀ e' g', emb (l.foldl f s0) e' g' → D.nx e' g') :
    ∃ Iv : Nat → EV → GS → Prop, Iv 0 e g1 ∧ (∀ i e' g', i ≤ ds.length → Iv i e' g' → keep g') ∧ (∀ i d e' g', ds[i]? = some d → Iv i e' g' → tg d e' g' fun e2 g2 => tb { D with nx := Iv (i + 1), ct := Iv (i + 1), bk := D.nx } e2 g2) ∧ ∀ e' g', Iv ds.length e' g' → D.nx e' g' := by
  subst hl
  refine ⟨fun i e g => emb ((l.take i).foldl f s0) e g, h0, fun _ _ _ _ h => hk _ _ _ h, fun i d e' g' hd' h => ?_, fun e' g' h => hd e' g' ?_⟩
  · rw [List.getElem?_map] at hd'
    cases hc : l[i]? with
    | none => rw [hc] at hd'; cases hd'
    | some a =>
      rw [hc] at hd'
      cases hd'
      have hi := (List.getElem?_eq_some_iff.mp hc).1
      have e1 : l = l.take i ++ a :: l.drop (i + 1) := by
        have := List.take_append_drop i l
        rw [List.drop_eq_getElem_cons hi] at this
        rw [(List.getElem?_eq_some_iff.mp hc).2] at this
        exact this.symm
      have := step (l.take i) a _ _ e' g' e1 rfl h
      have e2 : (l.take (i + 1)).foldl f s0 = f ((l.take i).foldl f s0) a := by
        rw [List.take_add_one, hc, List.foldl_append]; rfl
      simp only [e2]
      exact this
  · rw [List.length_map, List.take_of_length_le (Nat.le_refl _)] at h
    exact h
theorem empty_mk : ("" : Str) = mk [] := by decide +kernel
theorem foldl_snoc {α β : Type} (f : β → α → β) (b : β) (l : List α) {i : Nat} {x : α} (h : l[i]? = some x) : (l.take (i + 1)).foldl f b = f ((l.take i).foldl f b) x := by
  rw [List.take_add_one, h, List.foldl_append]
  rfl
/-- the end: the law's promise at the script -/
theorem fin_of {sp : DSp} (h : ∀ (ns : List Int) (g : GS), ns.length ≤ 63 → (∀ a, g a = none) → sp [.klst (ns.map D.int)] g fun d _ => d = .bl true) (K : PySem.W.Frag) (H : Hp) (a : Addr) (ns : List Int) (hn : ns.length ≤ 63) (hO : Only H) (hS : SqL K H a (ns.map V.int)) :
    lSp K sp [.ref a] H (fun v _ => v = .bl true) fun _ _ _ => False := by
  have hF : SqF K H a (ns.map V.int) := by
    rcases hS with (h | h) | h
    · rcases hO a with z | ⟨o, xs, z⟩ <;> rw [z] at h <;> cases h
    · exact .inl h
    · exact .inr h
  refine ⟨[.klst (ns.map D.int)], fun _ => none, fun d _ => d = .bl true, .cons (.kl hF (.ofInts ns)) .nil, (fun _ _ z => nomatch z), h ns _ hn fun _ => rfl, fun v d H' g' _ _ r e => ?_⟩
  subst e
  cases r
  rfl
theorem tl_lit (s : String) : tl (Str.ofString s) = s.toList.map Char.toNat := TL.tl_ofString s
end DL

namespace DL
open PySem PySem.Spec PyProof.Rows L2
/-! ### dicts: keys ints and texts -/
def kD : Key → D
  | .inl i => .int i
  | .inr s => .str s
section
variable {κ : Type} [DecidableEq κ]
def getD (kvs : List (κ × D)) (k : κ) : Option D := (kvs.find? fun kv => decide (kv.1 = k)).map (·.2)
def putD (kvs : List (κ × D)) (k : κ) (v : D) : List (κ × D) :=
  if (kvs.any fun kv => decide (kv.1 = k)) = true then kvs.map (fun kv => if kv.1 = k then (kv.1, v) else kv) else kvs ++ [(k, v)]
def delD (kvs : List (κ × D)) (k : κ) : List (κ × D) := kvs.filter fun kv => decide (kv.1 ≠ k)
def mergeD (kvs more : List (Key × D)) : List (Key × D) := more.foldl (fun acc kv => putD acc kv.1 kv.2) kvs
end
section
variable {κ : Type} [DecidableEq κ] {K : PySem.W.Frag} {H H' : Hp}
theorem RepD.kD {v : V} {k : Key} (r : RepD K H v (DL.kD k)) : v = kV k := by
  cases k <;> (cases r; rfl)
theorem repK (k : Key) : RepD K H (kV k) (DL.kD k) := by
  cases k with
  | inl i => exact .int i
  | inr s => exact .str s
theorem RepKV.get : ∀ {vs : List (κ × V)} {kvs : List (κ × D)} {k : κ}, RepKV K H vs kvs → (getD kvs k = none ∧ valV vs k = none) ∨ ∃ d v, getD kvs k = some d ∧ valV vs k = some v ∧ RepD K H v d
  | _, _, k, .nil => .inl ⟨rfl, rfl⟩
  | (a, v) :: vs, (b, d) :: kvs, k, .cons h t => by
    obtain ⟨h1, h2⟩ := h
    dsimp only at h1 h2
    subst h1
    by_cases e : a = k
    · subst e
      refine .inr ⟨d, v, ?_, ?_, h2⟩ <;> simp [getD, valV]
    · have ih := RepKV.get (k := k) t
      have e1 : getD ((a, d) :: kvs) k = getD kvs k := by simp [getD, List.find?_cons, e]
      have e2 : valV ((a, v) :: vs) k = valV vs k := by simp [valV, List.find?_cons, e]
      rw [e1, e2]
      exact ih
theorem RepKV.any : ∀ {vs : List (κ × V)} {kvs : List (κ × D)} (k : κ), RepKV K H vs kvs → (vs.any fun kv => decide (kv.1 = k)) = (kvs.any fun kv => decide (kv.1 = k))
  | _, _, k, .nil => rfl
  | (a, v) :: vs, (b, d) :: kvs, k, .cons h t => by
    obtain ⟨h1, _⟩ := h
    dsimp only at h1
    subst h1
    rw [List.any_cons, List.any_cons, RepKV.any k t]
theorem RepKV.repl {k : κ} {y : V} {d : D} (r : RepD K H y d) : ∀ {vs : List (κ × V)} {kvs : List (κ × D)}, RepKV K H vs kvs → RepKV K H (vs.map fun kv => if kv.1 = k then (kv.1, y) else kv) (kvs.map fun kv => if kv.1 = k then (kv.1, d) else kv)
  | _, _, .nil => .nil
  | (a, v) :: vs, (b, e) :: kvs, .cons h t => by
    obtain ⟨h1, h2⟩ := h
    dsimp only at h1 h2
    subst h1
    refine .cons ?_ (RepKV.repl r t)
    by_cases e : a = k
    · simp only [e, if_true]; exact ⟨trivial, r⟩
    · simp only [e, if_false]; exact ⟨trivial, h2⟩
theorem RepKV.snoc {k : κ} {y : V} {d : D} (r : RepD K H y d) : ∀ {vs : List (κ × V)} {kvs : List (κ × D)}, RepKV K H vs kvs → RepKV K H (vs ++ [(k, y)]) (kvs ++ [(k, d)])
  | _, _, .nil => .cons ⟨rfl, r⟩ .nil
  | _ :: _, _ :: _, .cons h t => .cons h (RepKV.snoc r t)
theorem RepKV.put {vs : List (κ × V)} {kvs : List (κ × D)} (t : RepKV K H vs kvs) (k : κ) {y : V} {d : D} (r : RepD K H y d) : RepKV K H (putK vs k y) (putD kvs k d) := by
  unfold putK putD
  rw [t.any k]
  split
  · exact t.repl r
  · exact t.snoc r
theorem RepKV.del (k : κ) : ∀ {vs : List (κ × V)} {kvs : List (κ × D)}, RepKV K H vs kvs → RepKV K H (dropK vs k) (delD kvs k)
  | _, _, .nil => .nil
  | (a, v) :: vs, (b, e) :: kvs, .cons h t => by
    obtain ⟨h1, h2⟩ := h
    dsimp only at h1 h2
    subst h1
    unfold dropK delD
    rw [List.filter_cons, List.filter_cons]
    by_cases e : a = k
    · simp only [e, ne_eq, not_true_eq_false, decide_false, Bool.false_eq_true, if_false]; exact RepKV.del k t
    · simp only [ne_eq, e, not_false_eq_true, decide_true, if_true]; exact .cons ⟨rfl, h2⟩ (RepKV.del k t)
theorem RepKV.length {vs : List (κ × V)} {kvs : List (κ × D)} (t : RepKV K H vs kvs) : vs.length = kvs.length := PySem.Paired.length t
theorem RepKV.merge : ∀ {ws : List (Key × V)} {ms : List (Key × D)} {vs : List (Key × V)} {kvs : List (Key × D)}, RepKV K H ws ms → RepKV K H vs kvs → RepKV K H (mergeK vs ws) (mergeD kvs ms)
  | _, _, _, _, .nil, t => t
  | (a, v) :: ws, (b, e) :: ms, vs, kvs, .cons h t, u => by
    obtain ⟨h1, h2⟩ := h
    dsimp only at h1 h2
    subst h1
    have := RepKV.merge (ws := ws) (ms := ms) t (u.put a h2)
    exact this
theorem RepKV.keys : ∀ {vs : List (κ × V)} {kvs : List (κ × D)}, RepKV K H vs kvs → vs.map (·.1) = kvs.map (·.1)
  | _, _, .nil => rfl
  | _ :: _, _ :: _, .cons h t => by rw [List.map_cons, List.map_cons, h.1, RepKV.keys t]
theorem RepG.dct {g : GS} (r : RepG K H g) {p : Addr} {kvs : List (Key × D)} (h : g p = some (.dct kvs)) : ∃ vs, H p = some (.dK vs) ∧ RepKV K H vs kvs := r p _ h
theorem RepG.laidD {g : GS} (r : RepG K H g) {n : Addr} (hn : H n = none) {vs : List (Key × V)} {kvs : List (Key × D)} (l : RepKV K H vs kvs) : RepG K (L2.upd H n (.dK vs)) (gup g n (.dct kvs)) :=
  r.upd (m := .dct kvs) (.new hn) (show ∃ _, _ ∧ _ from ⟨_, upd_same, l.mono (.new hn)⟩)
theorem RepG.setK {g : GS} (r : RepG K H g) {n : Addr} {ys : List (Key × V)} (hn : H n = some (.dK ys)) {vs : List (Key × V)} {kvs : List (Key × D)} (l : RepKV K H vs kvs) : RepG K (L2.upd H n (.dK vs)) (gup g n (.dct kvs)) :=
  r.upd (m := .dct kvs) (.dk hn) (show ∃ _, _ ∧ _ from ⟨_, upd_same, l.mono (.dk hn)⟩)
end
section
variable {X : Cx} {K : PySem.W.Frag} {H H' : Hp} {σ : L2.St} {o i e f value : Expr} {td ty tv tx : DTE} {pos pos' apos cpos : Pos}
def dDNew : DTE := fun _ g Q => ∀ p, g p = none → Q (.ref p) (gup g p (.dct []))
theorem de_dnew : DE X (.Dict [] [] pos) dDNew := ⟨peW pe_dnewK fun σ H Q ⟨e, g, Qd, re, rg, q, k⟩ p hp => k _ _ _ _ (.new hp) (rg.laidD hp .nil) (.ref p) (q p (rg.free hp))⟩
def dPairs : List (DTE × DTE) → EV → GS → (List (D × D) → GS → Prop) → Prop
  | [], _, g, Q => Q [] g
  | (tk, tv) :: r, e, g, Q => tk e g fun x g1 => tv e g1 fun y g2 => dPairs r e g2 fun ps g3 => Q ((x, y) :: ps) g3
/-- a written dict: the pairs, keys ints and texts -/
def dDisp (trs : List (DTE × DTE)) : DTE := fun e g Q => ∀ p, g p = none → dPairs trs e (gup g p (.dct [])) fun ps g2 => g2 p = some (.dct []) ∧ ∃ kvs : List (Key × D), ps = kvs.map (fun kv => (kD kv.1, kv.2)) ∧ kvs.length ≤ 15 ∧ Q (.ref p) (gup g2 p (.dct (mergeD [] kvs)))
structure DPs (X : Cx) (pos : Pos) (keys : List (Option Expr)) (values : List Expr) (trs : List (DTE × DTE)) : Prop where
  pps : PPs X pos keys values (trs.map fun t => (lE X.K t.1, lE X.K t.2))
theorem dps_nil : DPs X pos [] [] [] := ⟨pps_nil⟩
theorem dps_cons {k v : Expr} {ks : List (Option Expr)} {vs : List Expr} {tk tv : DTE} {trs : List (DTE × DTE)} (hk : DE X k tk) (hv : DE X v tv) (hr : DPs X pos ks vs trs) : DPs X pos (some k :: ks) (v :: vs) ((tk, tv) :: trs) := ⟨pps_cons hk.pe hv.pe hr.pps⟩
def RepPs (K : PySem.W.Frag) (H : Hp) : List (V × V) → List (D × D) → Prop := Paired fun p q => RepD K H p.1 q.1 ∧ RepD K H p.2 q.2
theorem lpairs : ∀ (trs : List (DTE × DTE)) {σ : L2.St} {e : EV} {H : Hp} {g : GS} {Qd : List (D × D) → GS → Prop} {Q : List (V × V) → Hp → Prop}, RepE K H σ e → RepG K H g → dPairs trs e g Qd → (∀ vs ds H' g', Ext H H' → RepG K H' g' → RepPs K H' vs ds → Qd ds g' → Q vs H') → tPairs (trs.map fun t => (lE K t.1, lE K t.2)) σ H Q
  | [], _, _, H, g, _, _, re, rg, q, k => k [] [] H g (.refl H) rg .nil q
  | (tk, tv) :: r, σ, e, H, g, Qd, Q, re, rg, q, k => ⟨e, g, _, re, rg, q, fun x dx H1 g1 x1 rg1 r1 q1 => ⟨e, g1, _, re.mono x1, rg1, q1, fun y dy H2 g2 x2 rg2 r2 q2 =>
      lpairs r (re.mono (x1.trans x2)) rg2 q2 fun vs ds H3 g3 x3 rg3 l3 q3 => k _ _ H3 g3 ((x1.trans x2).trans x3) rg3 (.cons ⟨r1.mono (x2.trans x3), r2.mono x3⟩ l3) q3⟩⟩
theorem reps_keys : ∀ {ps : List (V × V)} (kvs : List (Key × D)), RepPs K H ps (kvs.map fun kv => (kD kv.1, kv.2)) → ∃ vs : List (Key × V), ps = vs.map (fun kv => (kV kv.1, kv.2)) ∧ RepKV K H vs kvs
  | _, [], .nil => ⟨[], rfl, .nil⟩
  | (a, v) :: ps, (k, d) :: kvs, .cons h t => by
    obtain ⟨vs, e, r⟩ := reps_keys kvs t
    have e1 := RepD.kD h.1
    dsimp only at e1
    subst e1
    exact ⟨(k, v) :: vs, by rw [e]; rfl, .cons ⟨rfl, h.2⟩ r⟩
theorem de_disp {keys : List (Option Expr)} {values : List Expr} {trs : List (DTE × DTE)} (h : DPs X pos keys values trs) (hall : keys.all (·.isSome) = true) (hl : keys.length = values.length) (h0 : keys ≠ []) (h15 : keys.length ≤ 15) : DE X (.Dict keys values pos) (dDisp trs) :=
  ⟨peW (pe_disp h.pps hall hl h0 h15) fun σ H Q ⟨e, g, Qd, re, rg, q, k⟩ p hp => lpairs trs (re.mono (.new hp)) (rg.laidD hp .nil) (q p (rg.free hp)) fun vs ds H2 g2 x2 rg2 l2 q2 => by
    obtain ⟨h1, kvs, rfl, hz, q2⟩ := q2
    obtain ⟨us, e1, r⟩ := rg2.dct h1
    cases r
    obtain ⟨ws, rfl, rw'⟩ := reps_keys kvs l2
    exact ⟨e1, ws, rfl, by rw [rw'.length]; exact hz, k _ _ _ _ ((Ext.trans (.new hp) x2).trans (.dk e1)) (rg2.setK e1 (rw'.merge .nil)) (.ref p) q2⟩⟩
/-- d[k], k in d .. -/
def dDGet (td ty : DTE) : DTE := fun e g Q => td e g fun x g1 => ty e g1 fun y g2 => ∃ p kvs k v, x = .ref p ∧ g2 p = some (.dct kvs) ∧ y = kD k ∧ getD kvs k = some v ∧ Q v g2
def dDIn (ty td : DTE) : DTE := fun e g Q => ty e g fun y g1 => td e g1 fun x g2 => ∃ p kvs k, x = .ref p ∧ g2 p = some (.dct kvs) ∧ y = kD k ∧ Q (.bl (getD kvs k).isSome) g2
def dDNotIn (ty td : DTE) : DTE := fun e g Q => ty e g fun y g1 => td e g1 fun x g2 => ∃ p kvs k, x = .ref p ∧ g2 p = some (.dct kvs) ∧ y = kD k ∧ Q (.bl (!(getD kvs k).isSome)) g2
theorem de_dget (hu : X.A.units + 1 < cLine) (ho : DE X o td) (hi : DE X i ty) (hs : NoSl i) : DE X (.Subscript o i pos) (dDGet td ty) := ⟨peW (pe_dget hu ho.pe hi.pe hs) fun σ H Q ⟨e, g, Qd, re, rg, q, k⟩ =>
  ⟨e, g, _, re, rg, q, fun x dx H1 g1 x1 rg1 r1 q1 => ⟨e, g1, _, re.mono x1, rg1, q1, fun y dy H2 g2 x2 rg2 r2 q2 => by
    obtain ⟨p, kvs, kk, v, rfl, h, rfl, hv, q2⟩ := q2
    cases r1
    have := r2.kD
    subst this
    obtain ⟨vs, e1, r⟩ := rg2.dct h
    rcases r.get (k := kk) with ⟨z, _⟩ | ⟨d, w, e2, e3, r3⟩
    · rw [z] at hv; cases hv
    · rw [hv] at e2
      cases e2
      exact ⟨p, w, rfl, by rw [← e3]; exact .k e1, k _ _ _ _ (x1.trans x2) rg2 r3 q2⟩⟩⟩⟩
theorem ldin {neg : Bool} {Q : VK} {y x : V} {dx dy : D} {H2 : Hp} {g2 : GS} {Qd : DK} (r1 : RepD K H2 y dy) (r2 : RepD K H2 x dx) (rg2 : RepG K H2 g2) (k : KD K H2 Qd Q) (q : ∃ p kvs kk, dx = .ref p ∧ g2 p = some (.dct kvs) ∧ dy = kD kk ∧ Qd (.bl (if neg then !(getD kvs kk).isSome else (getD kvs kk).isSome)) g2) : ∃ a o, x = .ref a ∧ DGet H2 a y o ∧ Q (.bl (if neg then !o.isSome else o.isSome)) H2 := by
  obtain ⟨p, kvs, kk, rfl, h, rfl, q⟩ := q
  cases r2
  have := r1.kD
  subst this
  obtain ⟨vs, e1, r⟩ := rg2.dct h
  refine ⟨p, valV vs kk, rfl, .k e1, ?_⟩
  have e : (valV vs kk).isSome = (getD kvs kk).isSome := by
    rcases r.get (k := kk) with ⟨z, z2⟩ | ⟨d, w, e2, e3, r3⟩
    · rw [z, z2]; rfl
    · rw [e2, e3]; rfl
  rw [e]
  exact rg2.fin k (.bl _) q
theorem de_din (hu : X.A.units + 1 < cLine) (hi : DE X i ty) (ho : DE X o td) (hm : behindInMarks .In o = false) : DE X (.Compare i [.In] [o] pos) (dDIn ty td) := ⟨peW (pe_cmp (pc_din hu hi.pe ho.pe) hm) fun σ H Q ⟨e, g, Qd, re, rg, q, k⟩ =>
  ⟨e, g, _, re, rg, q, fun y dy H1 g1 x1 rg1 r1 q1 => ⟨e, g1, _, re.mono x1, rg1, q1, fun x dx H2 g2 x2 rg2 r2 q2 => ldin (neg := false) (r1.mono x2) r2 rg2 (k.mono (x1.trans x2)) q2⟩⟩⟩
theorem de_dnotin (hu : X.A.units + 1 < cLine) (hi : DE X i ty) (ho : DE X o td) (hm : behindInMarks .NotIn o = false) : DE X (.Compare i [.NotIn] [o] pos) (dDNotIn ty td) := ⟨peW (pe_cmp (pc_dnotin hu hi.pe ho.pe) hm) fun σ H Q ⟨e, g, Qd, re, rg, q, k⟩ =>
  ⟨e, g, _, re, rg, q, fun y dy H1 g1 x1 rg1 r1 q1 => ⟨e, g1, _, re.mono x1, rg1, q1, fun x dx H2 g2 x2 rg2 r2 q2 => ldin (neg := true) (r1.mono x2) r2 rg2 (k.mono (x1.trans x2)) q2⟩⟩⟩
theorem tB_lift {t : DTE} {T : TE} {Q : Bool → Hp → Prop} (w : ∀ σ H Q, lE K t σ H Q → T σ H Q) (h : lT K (dTest t) σ H Q) : tB T σ H Q := w _ _ _ (by
  obtain ⟨e, g, Qd, re, rg, q, k⟩ := h
  refine ⟨e, g, _, re, rg, q, fun x d H1 g1 x1 rg1 rx q1 => ?_⟩
  obtain ⟨b, rfl, q1⟩ := q1
  cases rx
  exact ⟨b, rfl, k _ _ _ x1 rg1 q1⟩)
theorem dt_din (hu : X.A.units + 1 < cLine) (hi : DE X i ty) (ho : DE X o td) (hm : behindInMarks .In o = false) : DT X (.Compare i [.In] [o] pos) (dTest (dDIn ty td)) := ⟨ptW (pt_cmp (pc_din hu hi.pe ho.pe) hm) fun σ H Q h => tB_lift (fun σ H Q ⟨e, g, Qd, re, rg, q, k⟩ =>
  ⟨e, g, _, re, rg, q, fun y dy H1 g1 x1 rg1 r1 q1 => ⟨e, g1, _, re.mono x1, rg1, q1, fun x dx H2 g2 x2 rg2 r2 q2 => ldin (neg := false) (r1.mono x2) r2 rg2 (k.mono (x1.trans x2)) q2⟩⟩) h⟩
theorem dt_dnotin (hu : X.A.units + 1 < cLine) (hi : DE X i ty) (ho : DE X o td) (hm : behindInMarks .NotIn o = false) : DT X (.Compare i [.NotIn] [o] pos) (dTest (dDNotIn ty td)) := ⟨ptW (pt_cmp (pc_dnotin hu hi.pe ho.pe) hm) fun σ H Q h => tB_lift (fun σ H Q ⟨e, g, Qd, re, rg, q, k⟩ =>
  ⟨e, g, _, re, rg, q, fun y dy H1 g1 x1 rg1 r1 q1 => ⟨e, g1, _, re.mono x1, rg1, q1, fun x dx H2 g2 x2 rg2 r2 q2 => ldin (neg := true) (r1.mono x2) r2 rg2 (k.mono (x1.trans x2)) q2⟩⟩) h⟩
/-- d[k] = v; del d[k] -/
def dDPut (td ty tv : DTE) : DTS := fun D e g => tv e g fun v g1 => td e g1 fun x g2 => ty e g2 fun y g3 => ∃ p kvs k, x = .ref p ∧ g3 p = some (.dct kvs) ∧ y = kD k ∧ kvs.length < sizeLine ∧ D.nx e (gup g3 p (.dct (putD kvs k v)))
theorem ds_dput (hu : X.A.units + 1 < cLine) (ho : DE X o td) (hi : DE X i ty) (hv : DE X value tv) (hs : swapsWith value (some (.Subscript o i pos')) pos.line X.env = pure false := by rfl) : DS X (.Assign [.Subscript o i pos'] value pos) (dDPut td ty tv) := ⟨psW (ps_dput hu ho.pe hi.pe hv.pe hs) fun D σ H ⟨e, g, Dd, re, rg, q, k1, _⟩ =>
  ⟨e, g, _, re, rg, q, fun v dv H1 g1 x1 rg1 rv q1 => ⟨e, g1, _, re.mono x1, rg1, q1, fun x dx H2 g2 x2 rg2 rx q2 => ⟨e, g2, _, re.mono (x1.trans x2), rg2, q2, fun y dy H3 g3 x3 rg3 ry q3 => by
    obtain ⟨p, kvs, k, rfl, h, rfl, hz, q3⟩ := q3
    cases rx
    have := ry.kD
    subst this
    obtain ⟨vs, e1, r⟩ := rg3.dct h
    have xx : Ext H (upd H3 p (.dK (putK vs k v))) := ((x1.trans x2).trans x3).trans (.dk e1)
    exact ⟨p, _, rfl, .k e1 (by rw [r.length]; exact hz), (k1.mono xx).fin (re.mono xx) (rg3.setK e1 (r.put k (rv.mono (x2.trans x3)))) q3⟩⟩⟩⟩⟩
def dDDel (td ty : DTE) : DTS := fun D e g => td e g fun x g2 => ty e g2 fun y g3 => ∃ p kvs k, x = .ref p ∧ g3 p = some (.dct kvs) ∧ y = kD k ∧ (getD kvs k).isSome = true ∧ D.nx e (gup g3 p (.dct (delD kvs k)))
theorem ds_ddel (ho : DE X o td) (hi : DE X i ty) : DS X (.Delete [.Subscript o i pos'] pos) (dDDel td ty) := ⟨psW (ps_ddel ho.pe hi.pe) fun D σ H ⟨e, g, Dd, re, rg, q, k1, _⟩ =>
  ⟨e, g, _, re, rg, q, fun x dx H2 g2 x2 rg2 rx q2 => ⟨e, g2, _, re.mono x2, rg2, q2, fun y dy H3 g3 x3 rg3 ry q3 => by
    obtain ⟨p, kvs, k, rfl, h, rfl, hz, q3⟩ := q3
    cases rx
    have := ry.kD
    subst this
    obtain ⟨vs, e1, r⟩ := rg3.dct h
    have xx : Ext H (upd H3 p (.dK (dropK vs k))) := (x2.trans x3).trans (.dk e1)
    refine ⟨p, vs, k, rfl, e1, rfl, ?_, (k1.mono xx).fin (re.mono xx) (rg3.setK e1 (r.del k)) q3⟩
    rcases r.get (k := k) with ⟨z, z2⟩ | ⟨d, w, e2, e3, r3⟩
    · rw [z] at hz; cases hz
    · rw [e3]; rfl⟩⟩⟩
/-- d.get(k), d.get(k, x), d.pop(k), d.pop(k, x) -/
def dDGet1 (td ty : DTE) : DTE := fun e g Q => td e g fun x g1 => ∃ p, x = .ref p ∧ (∃ kvs, g1 p = some (.dct kvs)) ∧ ty e g1 fun y g2 => ∃ kvs k, g2 p = some (.dct kvs) ∧ y = kD k ∧ Q ((getD kvs k).getD .non) g2
def dDGet2 (td ty tx : DTE) : DTE := fun e g Q => td e g fun x g1 => ∃ p, x = .ref p ∧ (∃ kvs, g1 p = some (.dct kvs)) ∧ ty e g1 fun y g2 => tx e g2 fun z g3 => ∃ kvs k, g3 p = some (.dct kvs) ∧ y = kD k ∧ Q ((getD kvs k).getD z) g3
def dDPop1 (td ty : DTE) : DTE := fun e g Q => td e g fun x g1 => ∃ p, x = .ref p ∧ (∃ kvs, g1 p = some (.dct kvs)) ∧ ty e g1 fun y g2 => ∃ kvs k v, g2 p = some (.dct kvs) ∧ y = kD k ∧ getD kvs k = some v ∧ Q v (gup g2 p (.dct (delD kvs k)))
theorem RepKV.getD1 {κ : Type} [DecidableEq κ] {vs : List (κ × V)} {kvs : List (κ × D)} (r : RepKV K H vs kvs) (k : κ) {z : V} {dz : D} (h : RepD K H z dz) : RepD K H ((valV vs k).getD z) ((getD kvs k).getD dz) := by
  rcases r.get (k := k) with ⟨z1, z2⟩ | ⟨d, w, e2, e3, r3⟩
  · rw [z1, z2]; exact h
  · rw [e2, e3]; exact r3
theorem de_dget1 (hu : X.A.units + 1 < cLine) (ho : DE X o td) (hi : DE X e ty) (m : M1 X o "get" apos e cpos := by exact ⟨rfl, rfl, rfl, rfl⟩) : DE X (.Call (.Attribute o "get" apos) [e] [] cpos) (dDGet1 td ty) := ⟨peW (pe_dget1 hu ho.pe hi.pe m) fun σ H Q ⟨e, g, Qd, re, rg, q, k⟩ =>
  ⟨e, g, _, re, rg, q, fun x dx H1 g1 x1 rg1 r1 q1 => by
    obtain ⟨p, rfl, ⟨kvs, h⟩, q1⟩ := q1
    cases r1
    obtain ⟨vs, e1, _⟩ := rg1.dct h
    refine ⟨p, rfl, .inl ⟨vs, .inl e1⟩, e, g1, _, re.mono x1, rg1, q1, fun y dy H2 g2 x2 rg2 r2 q2 => ?_⟩
    obtain ⟨kvs, k', h, rfl, q2⟩ := q2
    have := r2.kD
    subst this
    obtain ⟨vs, e1, r⟩ := rg2.dct h
    exact ⟨_, .k e1, k _ _ _ _ (x1.trans x2) rg2 (r.getD1 k' .non) q2⟩⟩⟩
theorem de_dget2 (hu : X.A.units + 1 < cLine) (ho : DE X o td) (hi : DE X e ty) (hx : DE X f tx) (m : M2 X o "get" apos e f cpos := by exact ⟨rfl, rfl, rfl, rfl⟩) : DE X (.Call (.Attribute o "get" apos) [e, f] [] cpos) (dDGet2 td ty tx) := ⟨peW (pe_dget2 hu ho.pe hi.pe hx.pe m) fun σ H Q ⟨e, g, Qd, re, rg, q, k⟩ =>
  ⟨e, g, _, re, rg, q, fun x dx H1 g1 x1 rg1 r1 q1 => by
    obtain ⟨p, rfl, ⟨kvs, h⟩, q1⟩ := q1
    cases r1
    obtain ⟨vs, e1, _⟩ := rg1.dct h
    refine ⟨p, rfl, .inl ⟨vs, .inl e1⟩, e, g1, _, re.mono x1, rg1, q1, fun y dy H2 g2 x2 rg2 r2 q2 => ⟨e, g2, _, re.mono (x1.trans x2), rg2, q2, fun z dz H3 g3 x3 rg3 r3 q3 => ?_⟩⟩
    obtain ⟨kvs, k', h, rfl, q3⟩ := q3
    have := r2.kD
    subst this
    obtain ⟨vs, e1, r⟩ := rg3.dct h
    exact ⟨_, .k e1, k _ _ _ _ ((x1.trans x2).trans x3) rg3 (r.getD1 k' r3) q3⟩⟩⟩
theorem de_dpop1 (ho : DE X o td) (hi : DE X e ty) (m : M1 X o "pop" apos e cpos := by exact ⟨rfl, rfl, rfl, rfl⟩) : DE X (.Call (.Attribute o "pop" apos) [e] [] cpos) (dDPop1 td ty) := ⟨peW (pe_dpop1 ho.pe hi.pe m) fun σ H Q ⟨e, g, Qd, re, rg, q, k⟩ =>
  ⟨e, g, _, re, rg, q, fun x dx H1 g1 x1 rg1 r1 q1 => by
    obtain ⟨p, rfl, ⟨kvs, h⟩, q1⟩ := q1
    cases r1
    obtain ⟨vs, e1, _⟩ := rg1.dct h
    refine ⟨p, rfl, .inl ⟨vs, .inl e1⟩, e, g1, _, re.mono x1, rg1, q1, fun y dy H2 g2 x2 rg2 r2 q2 => ?_⟩
    obtain ⟨kvs, k', v, h, rfl, hv, q2⟩ := q2
    have := r2.kD
    subst this
    obtain ⟨vs, e1, r⟩ := rg2.dct h
    rcases r.get (k := k') with ⟨z, _⟩ | ⟨d, w, e2, e3, r3⟩
    · rw [z] at hv; cases hv
    · rw [hv] at e2
      cases e2
      exact ⟨vs, k', w, e1, rfl, e3, k _ _ _ _ ((x1.trans x2).trans (.dk e1)) (rg2.setK e1 (r.del k')) (r3.mono (.dk e1)) q2⟩⟩⟩
end
section
variable {e : EV} {g : GS} {Q : DK} {D : DEnds} {td ty tv tx : DTE}
theorem s_dnew (h : ∀ p, g p = none → Q (.ref p) (gup g p (.dct []))) : dDNew e g Q := h
theorem s_dget (h : td e g fun x g1 => ty e g1 fun y g2 => ∃ p kvs k v, x = .ref p ∧ g2 p = some (.dct kvs) ∧ y = kD k ∧ getD kvs k = some v ∧ Q v g2) : dDGet td ty e g Q := h
theorem s_din (h : ty e g fun y g1 => td e g1 fun x g2 => ∃ p kvs k, x = .ref p ∧ g2 p = some (.dct kvs) ∧ y = kD k ∧ Q (.bl (getD kvs k).isSome) g2) : dDIn ty td e g Q := h
theorem s_dnotin (h : ty e g fun y g1 => td e g1 fun x g2 => ∃ p kvs k, x = .ref p ∧ g2 p = some (.dct kvs) ∧ y = kD k ∧ Q (.bl (!(getD kvs k).isSome)) g2) : dDNotIn ty td e g Q := h
theorem s_dput (h : tv e g fun v g1 => td e g1 fun x g2 => ty e g2 fun y g3 => ∃ p kvs k, x = .ref p ∧ g3 p = some (.dct kvs) ∧ y = kD k ∧ kvs.length < sizeLine ∧ D.nx e (gup g3 p (.dct (putD kvs k v)))) : dDPut td ty tv D e g := h
theorem s_ddel (h : td e g fun x g2 => ty e g2 fun y g3 => ∃ p kvs k, x = .ref p ∧ g3 p = some (.dct kvs) ∧ y = kD k ∧ (getD kvs k).isSome = true ∧ D.nx e (gup g3 p (.dct (delD kvs k)))) : dDDel td ty D e g := h
theorem s_dget1 (h : td e g fun x g1 => ∃ p, x = .ref p ∧ (∃ kvs, g1 p = some (.dct kvs)) ∧ ty e g1 fun y g2 => ∃ kvs k, g2 p = some (.dct kvs) ∧ y = kD k ∧ Q ((getD kvs k).getD .non) g2) : dDGet1 td ty e g Q := h
theorem s_dget2 (h : td e g fun x g1 => ∃ p, x = .ref p ∧ (∃ kvs, g1 p = some (.dct kvs)) ∧ ty e g1 fun y g2 => tx e g2 fun z g3 => ∃ kvs k, g3 p = some (.dct kvs) ∧ y = kD k ∧ Q ((getD kvs k).getD z) g3) : dDGet2 td ty tx e g Q := h
theorem s_dpop1 (h : td e g fun x g1 => ∃ p, x = .ref p ∧ (∃ kvs, g1 p = some (.dct kvs)) ∧ ty e g1 fun y g2 => ∃ kvs k v, g2 p = some (.dct kvs) ∧ y = kD k ∧ getD kvs k = some v ∧ Q v (gup g2 p (.dct (delD kvs k)))) : dDPop1 td ty e g Q := h
theorem s_disp {trs : List (DTE × DTE)} (h : ∀ p, g p = none → dPairs trs e (gup g p (.dct [])) fun ps g2 => g2 p = some (.dct []) ∧ ∃ kvs : List (Key × DL.D), ps = kvs.map (fun kv => (kD kv.1, kv.2)) ∧ kvs.length ≤ 15 ∧ Q (.ref p) (gup g2 p (.dct (mergeD [] kvs)))) : dDisp trs e g Q := h
end
/-! ### what a dict has -/
section
variable {κ : Type} [DecidableEq κ]
theorem getD_nil (k : κ) : getD ([] : List (κ × D)) k = none := rfl
theorem getD_put (kvs : List (κ × D)) (k j : κ) (v : D) : getD (putD kvs k v) j = if j = k then some v else getD kvs j := by
  have any_get : ∀ kvs : List (κ × D), (kvs.any fun kv => decide (kv.1 = k)) = (getD kvs k).isSome := fun kvs => by
    induction kvs with
    | nil => rfl
    | cons p r ih =>
      rw [List.any_cons, ih]
      by_cases e : p.1 = k <;> simp [getD, List.find?_cons, e]
  unfold putD
  by_cases h : (kvs.any fun kv => decide (kv.1 = k)) = true
  · rw [if_pos h]
    rw [any_get] at h
    clear any_get
    induction kvs with
    | nil => cases h
    | cons p r ih =>
      by_cases e : p.1 = k
      · by_cases ej : j = k
        · subst ej; simp [getD, List.find?_cons, e]
        · have ej' : ¬ k = j := fun z => ej z.symm
          rw [if_neg ej]
          have e2 : getD (p :: r) j = getD r j := by simp [getD, List.find?_cons, e, ej']
          rw [List.map_cons, e2]
          have e3 : ∀ l : List (κ × D), getD (l.map fun kv => if kv.1 = k then (kv.1, v) else kv) j = getD l j := fun l => by
            induction l with
            | nil => rfl
            | cons q l ih =>
              rw [List.map_cons]
              by_cases eq : q.1 = k
              · have : ¬ q.1 = j := fun z => ej (by rw [← z, eq])
                simp only [eq, if_true]
                simp only [getD, List.find?_cons, ej', decide_false] at ih ⊢
                rw [show decide (q.1 = j) = false from decide_eq_false this]
                exact ih
              · simp only [eq, if_false]
                by_cases ek : q.1 = j
                · simp [getD, List.find?_cons, ek]
                · simp only [getD, List.find?_cons, ek, decide_false] at ih ⊢
                  exact ih
          simp only [e, if_true]
          have e4 := e3 r
          simp only [getD, List.find?_cons, ej', decide_false] at e4 ⊢
          exact e4
      · have h' : (getD r k).isSome = true := by
          simp only [getD, List.find?_cons, e, decide_false] at h
          exact h
        have ih := ih h'
        rw [List.map_cons]
        simp only [e, if_false]
        by_cases ej : p.1 = j
        · have : ¬ j = k := fun z => e (by rw [ej, z])
          simp [getD, List.find?_cons, ej, this]
        · have e2 : ∀ l, getD (p :: l) j = getD l j := fun l => by simp [getD, List.find?_cons, ej]
          rw [e2, e2]
          exact ih
  · rw [if_neg h]
    rw [any_get] at h
    have hn : getD kvs k = none := by
      cases q : getD kvs k with
      | none => rfl
      | some x => rw [q] at h; exact absurd rfl h
    clear any_get h
    induction kvs with
    | nil =>
      by_cases e : j = k
      · subst e; simp [getD]
      · have e' : ¬ k = j := fun z => e z.symm
        simp [getD, List.find?_cons, e, e']
    | cons p r ih =>
      have e : ¬ p.1 = k := fun z => by simp [getD, List.find?_cons, z] at hn
      have hn' : getD r k = none := by
        simp only [getD, List.find?_cons, e, decide_false] at hn
        exact hn
      have ih := ih hn'
      rw [List.cons_append]
      by_cases ej : p.1 = j
      · have : ¬ j = k := fun z => e (by rw [ej, z])
        simp [getD, List.find?_cons, ej, this]
      · have e2 : ∀ l, getD (p :: l) j = getD l j := fun l => by simp [getD, List.find?_cons, ej]
        rw [e2, e2]
        exact ih
theorem getD_del (kvs : List (κ × D)) (k j : κ) : getD (delD kvs k) j = if j = k then none else getD kvs j := by
  induction kvs with
  | nil => simp [getD, delD]
  | cons p r ih =>
    unfold delD
    rw [List.filter_cons]
    by_cases e : p.1 = k
    · simp only [ne_eq, e, not_true_eq_false, decide_false, Bool.false_eq_true, if_false]
      have ih' : getD (r.filter fun kv => decide (¬ kv.1 = k)) j = _ := ih
      rw [ih']
      by_cases ej : j = k
      · rw [if_pos ej, if_pos ej]
      · have : ¬ k = j := fun z => ej z.symm
        rw [if_neg ej, if_neg ej]
        simp [getD, List.find?_cons, e, this]
    · simp only [ne_eq, e, not_false_eq_true, decide_true, if_true]
      have ih' : getD (r.filter fun kv => decide (¬ kv.1 = k)) j = _ := ih
      by_cases ej : p.1 = j
      · have : ¬ j = k := fun z => e (by rw [ej, z])
        simp [getD, List.find?_cons, ej, this]
      · have e2 : ∀ l, getD (p :: l) j = getD l j := fun l => by simp [getD, List.find?_cons, ej]
        rw [e2, e2, ih']
theorem putD_len (kvs : List (κ × D)) (k : κ) (v : D) : (putD kvs k v).length ≤ kvs.length + 1 := by
  unfold putD
  split
  · rw [List.length_map]; omega
  · rw [List.length_append]; simp
theorem delD_len (kvs : List (κ × D)) (k : κ) : (delD kvs k).length ≤ kvs.length := List.length_filter_le _ _
end
end DL

namespace DL
open PySem PySem.Spec PyProof.Rows L2
open TL (tl)
/-! ### slices -/
theorem sIx_to (n : Nat) (k : Int) (h : 0 ≤ k) (d : Nat) : HT.sIx n d (some k) = min k.toNat n := by
  have e := HT.sIx_nat n d k.toNat
  rwa [show ((k.toNat : Nat) : Int) = k by omega] at e
theorem cutD_to {xs : List D} {k : Int} (h : 0 ≤ k) : cutD xs none (some k) = xs.take k.toNat := by
  unfold cutD
  rw [sIx_to _ _ h, HT.sIx_none, List.drop_zero, Nat.sub_zero]
  by_cases hk : k.toNat ≤ xs.length
  · rw [Nat.min_eq_left hk]
  · rw [Nat.min_eq_right (by omega), List.take_of_length_le (Nat.le_refl _), List.take_of_length_le (by omega)]
theorem cutD_from {xs : List D} {k : Int} (h : 0 ≤ k) : cutD xs (some k) none = xs.drop k.toNat := by
  unfold cutD
  rw [sIx_to _ _ h, HT.sIx_none]
  by_cases hk : k.toNat ≤ xs.length
  · rw [Nat.min_eq_left hk, List.take_of_length_le (by rw [List.length_drop]; omega)]
  · rw [Nat.min_eq_right (by omega), List.drop_of_length_le (Nat.le_refl _), List.drop_of_length_le (by omega)]
    simp
theorem cutD_mid {xs : List D} {j k : Int} (h : 0 ≤ j) (h2 : 0 ≤ k) : cutD xs (some j) (some k) = (xs.take k.toNat).drop j.toNat := by
  unfold cutD
  rw [sIx_to _ _ h, sIx_to _ _ h2, List.drop_take]
  by_cases hj : j.toNat ≤ xs.length
  · rw [Nat.min_eq_left hj]
    by_cases hk : k.toNat ≤ xs.length
    · rw [Nat.min_eq_left hk]
    · rw [Nat.min_eq_right (by omega), List.take_of_length_le (by rw [List.length_drop]; omega), List.take_of_length_le (by rw [List.length_drop]; omega)]
  · rw [Nat.min_eq_right (a := j.toNat) (by omega), List.drop_of_length_le (Nat.le_refl _), List.drop_of_length_le (i := j.toNat) (by omega)]
    simp
theorem cutS_mk (l : List Nat) (lo hi : Option Int) : cutS (mk l) lo hi = mk ((l.drop (HT.sIx l.length 0 lo)).take (HT.sIx l.length l.length hi - HT.sIx l.length 0 lo)) := by
  unfold cutS
  have : (mk l).length = l.length := by rw [TL.len_tl, tl_mk]
  rw [this]
  rfl
theorem cutS_to {l : List Nat} {k : Int} (h : 0 ≤ k) : cutS (mk l) none (some k) = mk (l.take k.toNat) := by
  rw [cutS_mk, sIx_to _ _ h, HT.sIx_none, List.drop_zero, Nat.sub_zero]
  by_cases hk : k.toNat ≤ l.length
  · rw [Nat.min_eq_left hk]
  · rw [Nat.min_eq_right (by omega), List.take_of_length_le (Nat.le_refl _), List.take_of_length_le (by omega)]
theorem cutS_from {l : List Nat} {k : Int} (h : 0 ≤ k) : cutS (mk l) (some k) none = mk (l.drop k.toNat) := by
  rw [cutS_mk, sIx_to _ _ h, HT.sIx_none]
  by_cases hk : k.toNat ≤ l.length
  · rw [Nat.min_eq_left hk, List.take_of_length_le (by rw [List.length_drop]; omega)]
  · rw [Nat.min_eq_right (by omega), List.drop_of_length_le (Nat.le_refl _), List.drop_of_length_le (by omega)]
    simp
theorem cutS_mid {l : List Nat} {j k : Int} (h : 0 ≤ j) (h2 : 0 ≤ k) : cutS (mk l) (some j) (some k) = mk ((l.take k.toNat).drop j.toNat) := by
  rw [cutS_mk, sIx_to _ _ h, sIx_to _ _ h2, List.drop_take]
  by_cases hj : j.toNat ≤ l.length
  · rw [Nat.min_eq_left hj]
    by_cases hk : k.toNat ≤ l.length
    · rw [Nat.min_eq_left hk]
    · rw [Nat.min_eq_right (by omega), List.take_of_length_le (by rw [List.length_drop]; omega), List.take_of_length_le (by rw [List.length_drop]; omega)]
  · rw [Nat.min_eq_right (a := j.toNat) (by omega), List.drop_of_length_le (Nat.le_refl _), List.drop_of_length_le (i := j.toNat) (by omega)]
    simp
section
variable {g : GS} {Q : DK} {l : List Nat} {xs : List D} {j k : Int} {p : Addr}
theorem v_slTo (h0 : 0 ≤ k) (hz : l.length ≤ 16777216) (h : Q (.str (mk (l.take k.toNat))) g) : slD (.str (mk l)) none (some k) g Q := ⟨by rw [szl, TL.len_tl, tl_mk]; exact hz, by rw [cutS_to h0]; exact h⟩
theorem v_slFrom (h0 : 0 ≤ k) (hz : l.length ≤ 16777216) (h : Q (.str (mk (l.drop k.toNat))) g) : slD (.str (mk l)) (some k) none g Q := ⟨by rw [szl, TL.len_tl, tl_mk]; exact hz, by rw [cutS_from h0]; exact h⟩
theorem v_slMid (h1 : 0 ≤ j) (h0 : 0 ≤ k) (hz : l.length ≤ 16777216) (h : Q (.str (mk ((l.take k.toNat).drop j.toNat))) g) : slD (.str (mk l)) (some j) (some k) g Q := ⟨by rw [szl, TL.len_tl, tl_mk]; exact hz, by rw [cutS_mid h1 h0]; exact h⟩
theorem v_slToT (h0 : 0 ≤ k) (h : Q (.tup (xs.take k.toNat)) g) : slD (.tup xs) none (some k) g Q := by
  show Q (.tup (cutD xs none (some k))) g
  rw [cutD_to h0]; exact h
theorem v_slFromT (h0 : 0 ≤ k) (h : Q (.tup (xs.drop k.toNat)) g) : slD (.tup xs) (some k) none g Q := by
  show Q (.tup (cutD xs (some k) none)) g
  rw [cutD_from h0]; exact h
theorem v_slToL (hp : g p = some (.lst xs)) (h0 : 0 ≤ k) (h : ∀ r, g r = none → Q (.ref r) (gup g r (.lst (xs.take k.toNat)))) : slD (.ref p) none (some k) g Q := ⟨xs, .inl hp, by rw [cutD_to h0]; exact h⟩
theorem v_slFromL (hp : g p = some (.lst xs)) (h0 : 0 ≤ k) (h : ∀ r, g r = none → Q (.ref r) (gup g r (.lst (xs.drop k.toNat)))) : slD (.ref p) (some k) none g Q := ⟨xs, .inl hp, by rw [cutD_from h0]; exact h⟩
theorem v_ixM {i : Int} {c : Nat} (hz : l.length ≤ 16777216) (ha : atI l i = some c) (h : Q (.str (mk [c])) g) : ixD (.str (mk l)) (.int i) g Q := v_ixS (by rw [szl, TL.len_tl, tl_mk]; exact hz) ha h
theorem v_upper {a b : Str} (hz : a.length ≤ 5592405) (e : Txt.upper a = b) (h : Q (.str b) g) : upperD (.str a) [] g Q := by
  subst e
  exact ⟨hz, h⟩
theorem v_lower {a b : Str} (hz : a.length ≤ 5592405) (e : Txt.lower a = b) (h : Q (.str b) g) : lowerD (.str a) [] g Q := by
  subst e
  exact ⟨hz, h⟩
theorem v_ord {c : Nat} (h : Q (.int (c : Nat)) g) : ordD [.str (mk [c])] g Q := ⟨rfl, h⟩
theorem rep_len (l : List Nat) : ∀ n : Nat, ((List.replicate n l).flatten).length = n * l.length
  | 0 => by simp
  | n + 1 => by rw [List.replicate_succ, List.flatten_cons, List.length_append, rep_len l n, Nat.add_mul]; omega
theorem rep_mem {l : List Nat} {n c : Nat} (h : c ∈ (List.replicate n l).flatten) : c ∈ l := by
  rw [List.mem_flatten] at h
  obtain ⟨x, hx, hc⟩ := h
  rwa [List.eq_of_mem_replicate hx] at hc
theorem v_mulX {n : Int} (h1 : 0 ≤ n) (h2 : n ≤ 100000) (hz : l.length * n.toNat ≤ 16777216) (h : ∀ r : List Nat, r.length = l.length * n.toNat → (∀ c ∈ r, c ∈ l) → Q (.str (mk r)) g) : mulD (.str (mk l)) (.int n) g Q :=
  ⟨h1, h2, by rw [TL.len_tl, tl_mk]; exact hz, h _ (by rw [rep_len, Nat.mul_comm]; rfl) fun c hc => rep_mem hc⟩
theorem v_mulM {n : Int} (h1 : 0 ≤ n) (h2 : n ≤ 100000) (hz : l.length * n.toNat ≤ 16777216) (h : Q (.str (mk (List.replicate n.toNat l).flatten)) g) : mulD (.str (mk l)) (.int n) g Q :=
  ⟨h1, h2, by rw [TL.len_tl, tl_mk]; exact hz, h⟩
end
theorem atI_val {α : Type} {xs : List α} {i : Int} {x : α} (h : atI xs i = some x) (h0 : 0 ≤ i) : xs[i.toNat]? = some x := by
  unfold atI ixN at h
  rw [if_pos h0] at h
  split at h
  · exact h
  · cases h
theorem atI_ofNat {α : Type} {xs : List α} {i : Int} {x : α} (h : xs[i.toNat]? = some x) (h0 : 0 ≤ i) : atI xs i = some x := by
  have e := L2.atI_nat h
  have e0 : ((i.toNat : Nat) : Int) = i := by omega
  rwa [e0] at e
theorem Src.neInt {s : SI} {g : GS} {m : Nat} {U : Addr} {us : List Int} (h : Src s g m) (hU : g U = some (.lst (us.map D.int))) : U ≠ s.L := by
  obtain ⟨_, _, c, big, seed, n, h3, _⟩ := h
  rintro rfl
  rw [h3] at hU
  cases us with
  | nil => cases hU
  | cons u us => cases hU
/-- rows of a text -/
def rowsD (R : List (List Nat)) : List D := R.map fun r => .str (mk r)
/-- a list comprehension over a range whose elements draw -/
theorem lc_go {s : SI} {g0 g : GS} {m0 m : Nat} {lo : Int} {n : Nat} {e : EV} {j : Nat} {te : DTE} {R : Addr → GS → Prop} (P : Nat → D → Prop) (cost : Nat) (hS : Src s g0 m0) (G : Go s g0 g m) (hn : n ≤ 16777216)
    (step : ∀ (i : Nat) g' Q', i < n → Go s g0 g' (m + cost * i) → (∀ d g'', P i d → Go s g' g'' (m + cost * i + cost) → Q' d g'') → te (e.set j (some (.int (lo + i)))) g' Q')
    (q : ∀ (acc : List D) p g', acc.length = n → (∀ (i : Nat) (d : D), acc[i]? = some d → P i d) → Go s g0 g' (m + cost * n) → g0 p = none → g' p = some (.lst acc) → R p g') :
    ∀ p, g p = none → ∃ Iv : Nat → List D → GS → Prop, Iv 0 [] (gup g p (.lst [])) ∧ (∀ i acc g', i ≤ (ran lo n).length → Iv i acc g' → True) ∧
      (∀ i d acc g', (ran lo n)[i]? = some d → Iv i acc g' → dYes (e.set j (some d)) g' fun b g3 => if b = true then te (e.set j (some d)) g3 fun y g4 => g4 p = some (.lst acc) ∧ acc.length < sizeLine ∧ Iv (i + 1) (acc ++ [y]) (gup g4 p (.lst (acc ++ [y]))) else Iv (i + 1) acc g3) ∧
      ∀ acc g', Iv (ran lo n).length acc g' → R p g' := by
  intro p hp
  have hp0 : g0 p = none := G.1.fresh hp
  refine ⟨fun i acc g' => acc.length = i ∧ (∀ (k : Nat) (d : D), acc[k]? = some d → P k d) ∧ Go s g0 g' (m + cost * i) ∧ g' p = some (.lst acc), ⟨rfl, (fun k d h => by simp at h), by simpa using G.new hp, gup_same⟩, fun _ _ _ _ _ => trivial, fun i d acc g' hd ⟨hl, hP, G', hg⟩ => ?_, fun acc g' ⟨hl, hP, G', hg⟩ => ?_⟩
  · obtain ⟨hi, rfl⟩ := ran_get hd
    show te _ g' _
    refine step i g' _ hi G' fun d g'' hd G2 => ?_
    refine ⟨G2.get (hS.neL hp0) hg, by rw [szl]; omega, by rw [List.length_append, hl]; rfl, fun k x hk => ?_, ?_, gup_same⟩
    · by_cases hkl : k < acc.length
      · rw [List.getElem?_append_left hkl] at hk
        exact hP k x hk
      · rw [List.getElem?_append_right (by omega)] at hk
        have : k - acc.length = 0 := by
          have := (List.getElem?_eq_some_iff.mp hk).1
          simp at this; omega
        rw [this] at hk
        cases hk
        have : k = i := by omega
        subst this
        exact hd
    · have e1 : m + cost * i + cost = m + cost * (i + 1) := by rw [Nat.mul_add]; omega
      rw [← e1]
      exact (G'.trans G2).mut hp0 hS
  · rw [ran_len] at hl G'
    exact q acc p g' hl hP G' hp0 hg
theorem ones_of {S : List Nat} : ∀ {acc : List D}, (∀ d ∈ acc, ∃ c, c ∈ S ∧ d = .str (mk [c])) → ∃ l : List Nat, acc = (ones l).map D.str ∧ (∀ c ∈ l, c ∈ S) ∧ l.length = acc.length
  | [], _ => ⟨[], rfl, (fun c h => nomatch h), rfl⟩
  | d :: acc, h => by
    obtain ⟨c, hc, rfl⟩ := h d List.mem_cons_self
    obtain ⟨l, rfl, hl, e⟩ := ones_of (acc := acc) fun x hx => h x (List.mem_cons_of_mem _ hx)
    refine ⟨c :: l, rfl, fun x hx => ?_, by rw [List.length_cons, List.length_cons, e]⟩
    rcases List.mem_cons.mp hx with rfl | hx
    · exact hc
    · exact hl x hx
theorem all_of_get {P : D → Prop} {acc : List D} (h : ∀ (i : Nat) (d : D), acc[i]? = some d → P d) : ∀ d ∈ acc, P d := fun d hd => by
  obtain ⟨i, hi⟩ := List.mem_iff_getElem?.mp hd
  exact h i d hi
end DL

namespace DL
open PySem PySem.Spec PyProof.Rows L2
/-- rows joined -/
theorem rowsD_strs (R : List (List Nat)) : rowsD R = (R.map mk).map D.str := by unfold rowsD; rw [List.map_map]; rfl
theorem rows_len (R : List (List Nat)) : ((R.map mk).map (·.length)).sum = R.flatten.length := by
  induction R with
  | nil => rfl
  | cons r R ih =>
    show (mk r).length + ((R.map mk).map (·.length)).sum = _
    rw [ih, List.flatten_cons, List.length_append, TL.len_tl, tl_mk]
theorem rows_join (R : List (List Nat)) : Txt.join "" (R.map mk) = mk R.flatten := TL.ext_tl (by
  rw [join_empty, tl_mk, List.map_map]
  congr 1
  induction R with
  | nil => rfl
  | cons r R ih => rw [List.map_cons, ih]; rfl)
section
variable {g : GS} {Q : DK} {p : Addr}
theorem v_joinRT {R : List (List Nat)} (hz : R.flatten.length ≤ 16777216) (h : Q (.str (mk R.flatten)) g) : joinD (.str "") [.tup (rowsD R)] g Q :=
  ⟨R.map mk, rowsD_strs R, by
    rw [rows_len]
    have : (("" : Str)).length = 0 := by decide +kernel
    rw [this]; omega, by rw [rows_join]; exact h⟩
theorem v_joinRL {R : List (List Nat)} (hp : g p = some (.lst (rowsD R))) (hz : R.flatten.length ≤ 16777216) (h : Q (.str (mk R.flatten)) g) : joinD (.str "") [.ref p] g Q :=
  ⟨R.map mk, by rw [← rowsD_strs]; exact .inl hp, by
    rw [rows_len]
    have : (("" : Str)).length = 0 := by decide +kernel
    rw [this]; omega, by rw [rows_join]; exact h⟩
theorem v_min2 {i j : Int} (h : Q (.int (if j < i then j else i)) g) : min2D [.int i, .int j] g Q := h
theorem v_max2 {i j : Int} (h : Q (.int (if j > i then j else i)) g) : max2D [.int i, .int j] g Q := h
end
theorem bl_mk : (" " : Str) = mk [32] := by decide +kernel
theorem mk1_eq {c : Nat} : mk [c] = (" " : Str) ↔ c = 32 := by
  rw [bl_mk]
  exact ⟨fun h => by have := mk_inj h; injection this, fun h => by rw [h]⟩
end DL

namespace DL
open PySem L2
/-! ### any, all of a list of bools -/
section
variable {X : Cx} {K : PySem.W.Frag} {H : Hp}
theorem RepL.bls : ∀ {vs : List V} (bs : List Bool), RepL K H vs (bs.map D.bl) → vs = bs.map V.bl
  | _, [], .nil => rfl
  | _, b :: bs, .cons h t => by
    cases h
    rw [List.map_cons, RepL.bls bs t]
def boolsD (f : List Bool → Bool) : DRC := fun xs g Q => match xs with
  | [.ref p] => ∃ bs : List Bool, rdL g p (bs.map D.bl) ∧ Q (.bl (f bs)) g
  | _ => False
theorem call_bools {id : String} {f : List Bool → Bool} (h : CallR X (.builtin id) (fun vs H Q => ∃ (a : Addr) (bs : List Bool), vs = [V.ref a] ∧ SqL X.K H a (bs.map V.bl) ∧ Q (.bl (f bs)) H)) : CallR X (.builtin id) (lRC X.K (boolsD f)) := fun pins s σ H xs us Q I rs ⟨ds, g, Qd, l, rg, q, k⟩ => by
  rcases l with _ | ⟨r1, _ | ⟨r2, l⟩⟩
  · exact q.elim
  · cases r1 with
    | ref p =>
      obtain ⟨bs, hp, q⟩ := q
      obtain ⟨xs, hs, l⟩ := rg.sq hp
      have := l.bls bs
      subst this
      exact h pins s σ H _ us Q I rs ⟨p, bs, rfl, hs, rg.fin k (.bl _) q⟩
    | _ => exact q.elim
  · cases r1 <;> exact q.elim
abbrev allD : DRC := boolsD fun bs => bs.all id
abbrev anyD : DRC := boolsD fun bs => bs.any id
theorem call_allD (hc : X.calm = true) : CallR X (.builtin "all") (lRC X.K allD) := call_bools (cr_all hc)
theorem call_anyD (hc : X.calm = true) : CallR X (.builtin "any") (lRC X.K anyD) := call_bools (cr_any hc)
variable {g : GS} {Q : DK} {p : Addr}
theorem v_all {bs : List Bool} (hp : g p = some (.lst (bs.map D.bl))) (h : Q (.bl (bs.all id)) g) : allD [.ref p] g Q := ⟨bs, .inl hp, h⟩
theorem v_any {bs : List Bool} (hp : g p = some (.lst (bs.map D.bl))) (h : Q (.bl (bs.any id)) g) : anyD [.ref p] g Q := ⟨bs, .inl hp, h⟩
end
end DL

namespace DL
open PySem PySem.Spec PyProof.Rows L2
/-! ### signs -/
theorem in_letters {c : Nat} : c ∈ TL.tl ("abcdefghijklmnopqrstuvwxyz" : Str) ↔ low c := by
  have e : TL.tl ("abcdefghijklmnopqrstuvwxyz" : Str) = (List.range 26).map (· + 97) := by decide +kernel
  rw [e, List.mem_map]
  unfold low
  constructor
  · rintro ⟨a, ha, rfl⟩; have := List.mem_range.mp ha; omega
  · intro h; exact ⟨c - 97, List.mem_range.mpr (by omega), by omega⟩
theorem in_digits {c : Nat} : c ∈ TL.tl ("0123456789" : Str) ↔ dig c := by
  have e : TL.tl ("0123456789" : Str) = (List.range 10).map (· + 48) := by decide +kernel
  rw [e, List.mem_map]
  unfold dig
  constructor
  · rintro ⟨a, ha, rfl⟩; have := List.mem_range.mp ha; omega
  · intro h; exact ⟨c - 48, List.mem_range.mpr (by omega), by omega⟩
theorem empty_iff {l : List Nat} : mk l = ("" : Str) ↔ l = [] := by
  rw [empty_mk]
  exact ⟨fun h => mk_inj h, fun h => by rw [h]⟩
/-! ### comprehensions without draws -/
theorem lc_map {α : Type} {ds : List D} {keep : GS → Prop} {e : EV} {j : Nat} {te : DTE} {R : Addr → GS → Prop} {g : GS} (l : List α) (td f : α → D) (hl : ds = l.map td) (hk : ∀ g', Up [] g g' → keep g') (hn : l.length ≤ 16777216)
    (step : ∀ (i : Nat) (a : α) g' Q', l[i]? = some a → Up [] g g' → (∀ g'', Up [] g' g'' → Q' (f a) g'') → te (e.set j (some (td a))) g' Q')
    (q : ∀ p g', g p = none → Up [] g g' → g' p = some (.lst (l.map f)) → R p g') :
    ∀ p, g p = none → ∃ Iv : Nat → List D → GS → Prop, Iv 0 [] (gup g p (.lst [])) ∧ (∀ i acc g', i ≤ ds.length → Iv i acc g' → keep g') ∧
      (∀ i d acc g', ds[i]? = some d → Iv i acc g' → dYes (e.set j (some d)) g' fun b g3 => if b = true then te (e.set j (some d)) g3 fun y g4 => g4 p = some (.lst acc) ∧ acc.length < sizeLine ∧ Iv (i + 1) (acc ++ [y]) (gup g4 p (.lst (acc ++ [y]))) else Iv (i + 1) acc g3) ∧
      ∀ acc g', Iv ds.length acc g' → R p g' := by
  intro p hp
  subst hl
  refine ⟨fun i acc g' => acc = (l.take i).map f ∧ Up [] g g' ∧ g' p = some (.lst acc), ⟨rfl, .new hp, gup_same⟩, fun i acc g' _ h => hk g' h.2.1, fun i d acc g' hd ⟨ha, U, hg⟩ => ?_, fun acc g' ⟨ha, U, hg⟩ => ?_⟩
  · rw [List.getElem?_map] at hd
    cases hli : l[i]? with
    | none => rw [hli] at hd; cases hd
    | some a =>
      rw [hli] at hd
      cases hd
      show te _ g' _
      refine step i a g' _ hli U fun g'' U2 => ?_
      have hi := (List.getElem?_eq_some_iff.mp hli).1
      refine ⟨U2.get0 hg, ?_, ?_, (U.trans U2).mut hp, gup_same⟩
      · rw [szl, ha, List.length_map, List.length_take]; omega
      · rw [ha, List.take_add_one, hli, List.map_append]; rfl
  · rw [List.length_map, List.take_length] at ha
    subst ha
    exact q p g' hp U hg
theorem lc_filt {α : Type} {ds : List D} {keep : GS → Prop} {e : EV} {j : Nat} {tA : DTT} {te : DTE} {R : Addr → GS → Prop} {g : GS} (l : List α) (td f : α → D) (b : α → Bool) (hl : ds = l.map td) (hk : ∀ g', Up [] g g' → keep g') (hn : l.length ≤ 16777216)
    (stepB : ∀ (i : Nat) (a : α) g' (Q' : Bool → GS → Prop), l[i]? = some a → Up [] g g' → (∀ g'', Up [] g' g'' → Q' (b a) g'') → tA (e.set j (some (td a))) g' Q')
    (step : ∀ (i : Nat) (a : α) g' Q', l[i]? = some a → b a = true → Up [] g g' → (∀ g'', Up [] g' g'' → Q' (f a) g'') → te (e.set j (some (td a))) g' Q')
    (q : ∀ p g', g p = none → Up [] g g' → g' p = some (.lst ((l.filter b).map f)) → R p g') :
    ∀ p, g p = none → ∃ Iv : Nat → List D → GS → Prop, Iv 0 [] (gup g p (.lst [])) ∧ (∀ i acc g', i ≤ ds.length → Iv i acc g' → keep g') ∧
      (∀ i d acc g', ds[i]? = some d → Iv i acc g' → tA (e.set j (some d)) g' fun b g3 => if b = true then te (e.set j (some d)) g3 fun y g4 => g4 p = some (.lst acc) ∧ acc.length < sizeLine ∧ Iv (i + 1) (acc ++ [y]) (gup g4 p (.lst (acc ++ [y]))) else Iv (i + 1) acc g3) ∧
      ∀ acc g', Iv ds.length acc g' → R p g' := by
  intro p hp
  subst hl
  refine ⟨fun i acc g' => acc = ((l.take i).filter b).map f ∧ Up [] g g' ∧ g' p = some (.lst acc), ⟨rfl, .new hp, gup_same⟩, fun i acc g' _ h => hk g' h.2.1, fun i d acc g' hd ⟨ha, U, hg⟩ => ?_, fun acc g' ⟨ha, U, hg⟩ => ?_⟩
  · rw [List.getElem?_map] at hd
    cases hli : l[i]? with
    | none => rw [hli] at hd; cases hd
    | some a =>
      rw [hli] at hd
      cases hd
      have hi := (List.getElem?_eq_some_iff.mp hli).1
      have e1 : l.take (i + 1) = l.take i ++ [a] := by rw [List.take_add_one, hli]; rfl
      refine stepB i a g' _ hli U fun g'' U1 => ?_
      cases hb : b a with
      | false =>
        refine (if_neg (by decide)).mpr ?_
        refine ⟨?_, U.trans U1, U1.get0 hg⟩
        rw [ha, e1, List.filter_append, show [a].filter b = [] by simp [hb], List.append_nil]
      | true =>
        refine (if_pos rfl).mpr ?_
        refine step i a g'' _ hli hb (U.trans U1) fun g3 U2 => ?_
        refine ⟨U2.get0 (U1.get0 hg), ?_, ?_, ((U.trans U1).trans U2).mut hp, gup_same⟩
        · rw [szl, ha, List.length_map]
          have := List.length_filter_le b (l.take i)
          rw [List.length_take] at this
          omega
        · rw [ha, e1, List.filter_append, show [a].filter b = [a] by simp [hb], List.map_append]; rfl
  · rw [List.length_map, List.take_length] at ha
    subst ha
    exact q p g' hp U hg
/-! ### texts cut -/
section
variable {g : GS} {Q : DK}
theorem v_nin1 {c : Nat} {b : Str} (h : Q (.bl (!decide (c ∈ TL.tl b))) g) : notInD (.str (mk [c])) (.str b) g Q := v_in1' (Q := notV Q) h
theorem v_split {a b : Str} (hb : (b.length == 0) = false) (ha : a.length ≤ 16777214) (h : ∀ p, g p = none → Q (.ref p) (gup g p (.lst ((Txt.split a b).map D.str)))) : splitD (.str a) [.str b] g Q := ⟨hb, by rw [szl]; omega, h⟩
end
theorem joinL_le (y : List Nat) : ∀ (ps : List (List Nat)), ∀ p ∈ ps, p.length ≤ (TL.joinL y ps).length
  | [], p, h => (nomatch h)
  | [q], p, h => by rw [List.mem_singleton.mp h]; exact Nat.le_refl _
  | q :: r :: ps, p, h => by
    show p.length ≤ (q ++ (y ++ TL.joinL y (r :: ps))).length
    rw [List.length_append, List.length_append]
    rcases List.mem_cons.mp h with rfl | h
    · omega
    · have := joinL_le y (r :: ps) p h; omega
theorem split_le {x y p : Str} (h : p ∈ Txt.split x y) : p.length ≤ x.length := by
  have e := congrArg TL.tl (PySem.StrLaws.join_split x y)
  rw [TL.tl_join] at e
  have := joinL_le (TL.tl y) _ _ (List.mem_map_of_mem (f := TL.tl) h)
  rw [e] at this
  rw [TL.len_tl, TL.len_tl]
  exact this
end DL

namespace DL
open PySem PySem.Spec PyProof.Rows L2
open TL (tl)
/-! ### names, addresses, boards, ids -/
def plainB : List Nat → Bool
  | [] => false
  | c :: r => decide (low c) && (c :: r).all fun c => decide (low c) || decide (dig c)
def nameB (l : List Nat) : Bool := decide (l.length ≤ 8) && plainB l
def digsB (l : List Nat) : Bool := l.all fun c => decide (dig c)
def numB (l : List Nat) : Bool := !l.isEmpty && digsB l && (l == [48] || l.head? != some 48)
def addrL : List Str → Bool
  | [a, b] => nameB (tl a) && nameB (tl b)
  | _ => false
def addrB (z : Str) : Bool := addrL (Txt.split z "@")
theorem addrL_ne {S : List Str} (h : S.length ≠ 2) : addrL S = false := by
  match S, h with
  | [], _ => rfl
  | [_], _ => rfl
  | [_, _], h => exact absurd rfl h
  | _ :: _ :: _ :: _, _ => rfl
def boardB (z : Str) : Bool := decide ((tl z).length ≤ 600) && (Txt.split z ".").all fun w => plainB (tl w)
/-- a number ahead of an id -/
def inumB (l : List Nat) : Bool := !l.isEmpty && digsB l && decide (l.length ≤ 6) && l.head? != some 48
def identL : List Str → D
  | [a, b] => if nameB (tl b) && inumB (tl a) then .tup [.str b, .int ((intText? a).getD 0)] else .non
  | _ => .non
def identD (z : Str) : D := identL (Txt.split z "@")
theorem identL_ne {S : List Str} (h : S.length ≠ 2) : identL S = .non := by
  match S, h with
  | [], _ => rfl
  | [_], _ => rfl
  | [_, _], h => exact absurd rfl h
  | _ :: _ :: _ :: _, _ => rfl
theorem at_len : (("@" : Str).length == 0) = false := by decide +kernel
theorem dot_len : (("." : Str).length == 0) = false := by decide +kernel
theorem int_digs {a : Str} (h : digsB (tl a) = true) (h0 : tl a ≠ []) (hl : (tl a).length ≤ 600) : intText? a = some ((intText? a).getD 0) := by
  have := PySem.intText_digits (x := a) (fun c hc => by
    have := List.all_eq_true.mp h c hc
    exact of_decide_eq_true this) h0 (by rw [TL.len_tl]; omega)
  rw [this]
  rfl
theorem plainB_cons {c : Nat} {r : List Nat} : plainB (c :: r) = (decide (low c) && (c :: r).all fun c => decide (low c) || decide (dig c)) := rfl
theorem NameOk.plain {z : Str} (h : NameOk z) : nameB (tl z) = true := by
  obtain ⟨c, r, e, hc, hr, hl⟩ := h
  unfold nameB
  rw [e, plainB_cons, Bool.and_eq_true, Bool.and_eq_true]
  refine ⟨decide_eq_true (by rw [List.length_cons]; omega), decide_eq_true hc, List.all_eq_true.mpr fun x hx => ?_⟩
  rw [Bool.or_eq_true]
  rcases List.mem_cons.mp hx with rfl | hx
  · exact .inl (decide_eq_true hc)
  · rcases hr x hx with h | h
    · exact .inl (decide_eq_true h)
    · exact .inr (decide_eq_true h)
theorem plainB_chars {l : List Nat} (h : plainB l = true) : ∀ c ∈ l, low c ∨ dig c := fun c hc => by
  cases l with
  | nil => cases hc
  | cons d r =>
    rw [plainB_cons, Bool.and_eq_true] at h
    have := List.all_eq_true.mp h.2 c hc
    rw [Bool.or_eq_true] at this
    exact this.elim (fun z => .inl (of_decide_eq_true z)) (fun z => .inr (of_decide_eq_true z))
theorem numL_head : ∀ m : Nat, 1 ≤ m → (TL.numL m).head? ≠ some 48 := fun m => by
  induction m using Nat.strongRecOn with
  | _ m ih =>
    intro h
    by_cases h10 : m < 10
    · rw [TL.numL_lt h10]
      intro z
      have : 48 + m = 48 := Option.some.inj z
      omega
    · rw [TL.numL_step (by omega)]
      have := ih (m / 10) (by omega) (by omega)
      cases hn : TL.numL (m / 10) with
      | nil => exact absurd hn (TL.numL_ne _)
      | cons c r => rw [hn] at this; exact this
/-- the text of an id is read back -/
theorem ident_back {n : Int} {nm : Str} (h1 : 1 ≤ n) (h2 : n ≤ 999999) (hn : nameB (tl nm) = true) : identD (Str.ofString (toString n) ++ ("@" : Str) ++ nm) = .tup [.str nm, .int n] := by
  obtain ⟨m, rfl⟩ := Int.eq_ofNat_of_zero_le (a := n) (by omega)
  have hp : plainB (tl nm) = true := by
    unfold nameB at hn
    rw [Bool.and_eq_true] at hn
    exact hn.2
  have h3 := TL.tl_num m
  have h4 := TL.numL_digits m
  have hs : Txt.split (Str.ofString (toString ((m : Nat) : Int)) ++ ("@" : Str) ++ nm) ("@" : Str) = [Str.ofString (toString ((m : Nat) : Int)), nm] := by
    have e : Txt.join ("@" : Str) [Str.ofString (toString ((m : Nat) : Int)), nm] = Str.ofString (toString ((m : Nat) : Int)) ++ ("@" : Str) ++ nm := TL.ext_tl (by
      rw [TL.join_eq, TL.tl_join, TL.tl_append, TL.tl_append, List.append_assoc]
      rfl)
    rw [← e]
    refine TL.split_join (s := 64) (S := []) (by decide +kernel) (by decide +kernel) (by simp) fun p hp' => ?_
    rcases List.mem_cons.mp hp' with rfl | hp'
    · rw [h3]; intro hm; have := h4 _ hm; unfold dig at *; omega
    · rw [List.mem_singleton.mp hp']
      intro hm
      have := plainB_chars hp 64 hm
      unfold low dig at this
      omega
  unfold identD
  rw [hs]
  have hlen : (TL.numL m).length ≤ 6 := TL.numL_len (k := 6) (by omega) (by omega)
  have hi : inumB (tl (Str.ofString (toString ((m : Nat) : Int)))) = true := by
    rw [h3]
    unfold inumB digsB
    rw [Bool.and_eq_true, Bool.and_eq_true, Bool.and_eq_true]
    refine ⟨⟨⟨?_, List.all_eq_true.mpr fun c hc => decide_eq_true (h4 c hc)⟩, decide_eq_true hlen⟩, ?_⟩
    · cases hm : TL.numL m with
      | nil => exact absurd hm (TL.numL_ne _)
      | cons _ _ => rfl
    · exact bne_iff_ne.mpr (numL_head m (by omega))
  show (if (nameB (tl nm) && inumB (tl (Str.ofString (toString ((m : Nat) : Int))))) = true then _ else _) = _
  rw [hn, hi]
  show D.tup [.str nm, .int ((intText? (Str.ofString (toString ((m : Nat) : Int)))).getD 0)] = _
  rw [PySem.W.KIN.num_reads (by omega) (by omega)]
  rfl
end DL

namespace DL
open PySem PySem.Spec PyProof.Rows L2
/-- a list comprehension over things at hand whose elements draw -/
theorem lc_goL {α : Type} {s : SI} {g0 g : GS} {m0 m : Nat} {ds : List D} {keep : GS → Prop} {e : EV} {j : Nat} {te : DTE} {R : Addr → GS → Prop} (l : List α) (td : α → D) (hl : ds = l.map td) (P : Nat → D → Prop) (cost : Nat) (hS : Src s g0 m0) (G : Go s g0 g m) (hn : l.length ≤ 16777216)
    (hk : ∀ i g', Go s g0 g' (m + cost * i) → Go s g g' (m + cost * i) → keep g')
    (step : ∀ (i : Nat) (a : α) g' Q', l[i]? = some a → Go s g0 g' (m + cost * i) → (∀ d g'', P i d → Go s g' g'' (m + cost * i + cost) → Q' d g'') → te (e.set j (some (td a))) g' Q')
    (q : ∀ (acc : List D) p g', acc.length = l.length → (∀ (i : Nat) (d : D), acc[i]? = some d → P i d) → Go s g0 g' (m + cost * l.length) → Go s g g' (m + cost * l.length) → g p = none → g' p = some (.lst acc) → R p g') :
    ∀ p, g p = none → ∃ Iv : Nat → List D → GS → Prop, Iv 0 [] (gup g p (.lst [])) ∧ (∀ i acc g', i ≤ ds.length → Iv i acc g' → keep g') ∧
      (∀ i d acc g', ds[i]? = some d → Iv i acc g' → dYes (e.set j (some d)) g' fun b g3 => if b = true then te (e.set j (some d)) g3 fun y g4 => g4 p = some (.lst acc) ∧ acc.length < sizeLine ∧ Iv (i + 1) (acc ++ [y]) (gup g4 p (.lst (acc ++ [y]))) else Iv (i + 1) acc g3) ∧
      ∀ acc g', Iv ds.length acc g' → R p g' := by
  intro p hp
  subst hl
  have hp0 : g0 p = none := G.1.fresh hp
  have hS1 : Src s g m := G.2
  refine ⟨fun i acc g' => acc.length = i ∧ (∀ (k : Nat) (d : D), acc[k]? = some d → P k d) ∧ Go s g0 g' (m + cost * i) ∧ Go s g g' (m + cost * i) ∧ g' p = some (.lst acc), ⟨rfl, (fun k d h => by simp at h), by simpa using G.new hp, by simpa using (Go.start hS1).new hp, gup_same⟩, fun i acc g' _ h => hk i g' h.2.2.1 h.2.2.2.1, fun i d acc g' hd ⟨hl, hP, G', G2', hg⟩ => ?_, fun acc g' ⟨hl, hP, G', G2', hg⟩ => ?_⟩
  · rw [List.getElem?_map] at hd
    cases hli : l[i]? with
    | none => rw [hli] at hd; cases hd
    | some a =>
      rw [hli] at hd
      cases hd
      have hi := (List.getElem?_eq_some_iff.mp hli).1
      show te _ g' _
      refine step i a g' _ hli G' fun d g'' hd G2 => ?_
      have e1 : m + cost * i + cost = m + cost * (i + 1) := by rw [Nat.mul_add]; omega
      refine ⟨G2.get (hS.neL hp0) hg, by rw [szl]; omega, by rw [List.length_append, hl]; rfl, fun k x hk => ?_, ?_, ?_, gup_same⟩
      · by_cases hkl : k < acc.length
        · rw [List.getElem?_append_left hkl] at hk
          exact hP k x hk
        · rw [List.getElem?_append_right (by omega)] at hk
          have : k - acc.length = 0 := by
            have := (List.getElem?_eq_some_iff.mp hk).1
            simp at this; omega
          rw [this] at hk
          cases hk
          have : k = i := by omega
          subst this
          exact hd
      · rw [← e1]
        exact (G'.trans G2).mut hp0 hS
      · rw [← e1]
        exact (G2'.trans G2).mut hp hS1
  · rw [List.length_map] at hl G' G2'
    exact q acc p g' hl hP G' G2' hp hg
/-! ### joined texts -/
theorem joinL_bd (y : List Nat) (B : Nat) : ∀ (ps : List (List Nat)), (∀ p ∈ ps, p.length ≤ B) → (TL.joinL y ps).length ≤ ps.length * (B + y.length)
  | [], _ => Nat.zero_le _
  | [q], h => by
    have := h q (List.mem_singleton.mpr rfl)
    show q.length ≤ 1 * _
    omega
  | q :: r :: ps, h => by
    have h1 := h q List.mem_cons_self
    have ih := joinL_bd y B (r :: ps) fun p hp => h p (List.mem_cons_of_mem _ hp)
    show (q ++ (y ++ TL.joinL y (r :: ps))).length ≤ _
    rw [List.length_append, List.length_append, List.length_cons, Nat.add_mul]
    omega
theorem joinL_mem (y : List Nat) : ∀ (ps : List (List Nat)) (c : Nat), c ∈ TL.joinL y ps → c ∈ y ∨ ∃ p ∈ ps, c ∈ p
  | [], c, h => (nomatch h)
  | [q], c, h => .inr ⟨q, List.mem_singleton.mpr rfl, h⟩
  | q :: r :: ps, c, h => by
    have h : c ∈ q ++ (y ++ TL.joinL y (r :: ps)) := h
    rcases List.mem_append.mp h with h | h
    · exact .inr ⟨q, List.mem_cons_self, h⟩
    · rcases List.mem_append.mp h with h | h
      · exact .inl h
      · rcases joinL_mem y (r :: ps) c h with h | ⟨p, hp, h⟩
        · exact .inl h
        · exact .inr ⟨p, List.mem_cons_of_mem _ hp, h⟩
theorem sum_bd (B : Nat) : ∀ (zs : List Str), (∀ z ∈ zs, (TL.tl z).length ≤ B) → (zs.map (·.length)).sum ≤ zs.length * B
  | [], _ => Nat.zero_le _
  | z :: zs, h => by
    have h1 := h z List.mem_cons_self
    have ih := sum_bd B zs fun p hp => h p (List.mem_cons_of_mem _ hp)
    rw [List.map_cons, List.sum_cons, List.length_cons, Nat.add_mul, TL.len_tl]
    omega
theorem join_bd {y : Str} {B : Nat} {zs : List Str} (h : ∀ z ∈ zs, (TL.tl z).length ≤ B) : (TL.tl (Txt.join y zs)).length ≤ zs.length * (B + (TL.tl y).length) := by
  rw [TL.join_eq, TL.tl_join]
  have := joinL_bd (TL.tl y) B (zs.map TL.tl) fun p hp => by
    obtain ⟨z, hz, rfl⟩ := List.mem_map.mp hp
    exact h z hz
  rwa [List.length_map] at this
section
variable {g : GS} {Q : DK} {p : Addr}
theorem v_joinL {y : Str} {zs : List Str} {B : Nat} (hp : g p = some (.lst (zs.map D.str))) (hB : ∀ z ∈ zs, (TL.tl z).length ≤ B) (hz : zs.length * (B + (TL.tl y).length) ≤ 16777216)
    (h : (TL.tl (Txt.join y zs)).length ≤ zs.length * (B + (TL.tl y).length) → Q (.str (Txt.join y zs)) g) : joinD (.str y) [.ref p] g Q :=
  ⟨zs, .inl hp, by have := sum_bd B zs hB; rw [Nat.mul_add] at hz; rw [TL.len_tl y]; omega, h (join_bd hB)⟩
theorem v_joinT {y : Str} {zs : List Str} {B : Nat} (hB : ∀ z ∈ zs, (TL.tl z).length ≤ B) (hz : zs.length * (B + (TL.tl y).length) ≤ 16777216)
    (h : (TL.tl (Txt.join y zs)).length ≤ zs.length * (B + (TL.tl y).length) → Q (.str (Txt.join y zs)) g) : joinD (.str y) [.tup (zs.map D.str)] g Q :=
  ⟨zs, rfl, by have := sum_bd B zs hB; rw [Nat.mul_add] at hz; rw [TL.len_tl y]; omega, h (join_bd hB)⟩
end
theorem strs_of {P : Str → Prop} : ∀ {acc : List D}, (∀ d ∈ acc, ∃ z, d = .str z ∧ P z) → ∃ as : List Str, acc = as.map D.str ∧ ∀ z ∈ as, P z
  | [], _ => ⟨[], rfl, fun z hz => nomatch hz⟩
  | d :: acc, h => by
    obtain ⟨as, rfl, ha⟩ := strs_of (acc := acc) fun x hx => h x (List.mem_cons_of_mem _ hx)
    obtain ⟨z, rfl, hz⟩ := h d List.mem_cons_self
    exact ⟨z :: as, rfl, fun y hy => (List.mem_cons.mp hy).elim (fun e => by rw [e]; exact hz) (ha y)⟩
theorem num_mk {v : Int} (h : 0 ≤ v) : Str.ofString (toString v) = mk (TL.numL v.toNat) := by
  obtain ⟨m, rfl⟩ := Int.eq_ofNat_of_zero_le h
  rw [← TL.tl_num, mk_tl]
  rfl
end DL

namespace DL
open PySem PySem.Spec PyProof.Rows L2
open TL (tl)
/-! ### globs -/
def starC (g : List Nat) (R : Nat → Bool) : Nat → Bool
  | 0 => R 0
  | p + 1 => R (p + 1) || (g[p]? == some 42 && starC g R p)
def baseA (g : List Nat) (c : Nat) (S : Nat → Bool) : Nat → Bool
  | 0 => false
  | p + 1 => (S (p + 1) && g[p]? == some 42) || (S p && (g[p]? == some 63 || g[p]? == some c))
theorem baseA_succ (g : List Nat) (c : Nat) (S : Nat → Bool) (p : Nat) : baseA g c S (p + 1) = ((S (p + 1) && g[p]? == some 42) || (S p && (g[p]? == some 63 || g[p]? == some c))) := rfl
def stepA (g : List Nat) (S : Nat → Bool) (c : Nat) : Nat → Bool := starC g (baseA g c S)
def startA (g : List Nat) : Nat → Bool := starC g fun p => p == 0
def standA (g b : List Nat) : Nat → Bool := b.foldl (stepA g) (startA g)
def fitsB (g b : List Nat) : Bool := standA g b g.length
/-- the places, ascending -/
def plsL (g : List Nat) (S : Nat → Bool) : List Nat := (List.range (g.length + 1)).filter S
/-- the law's own -/
def baseB (g : List Nat) (c : Nat) (S : Nat → Bool) : Nat → Bool := fun p =>
  (S p && g[p]? == some 42) || match p with
  | 0 => false
  | p + 1 => S p && (g[p]? == some 63 || g[p]? == some c)
theorem baseB_succ (g : List Nat) (c : Nat) (S : Nat → Bool) (p : Nat) : baseB g c S (p + 1) = ((S (p + 1) && g[p + 1]? == some 42) || (S p && (g[p]? == some 63 || g[p]? == some c))) := rfl
def stepB (g : List Nat) (S : Nat → Bool) (c : Nat) : Nat → Bool := starC g (baseB g c S)
theorem star_of {g : List Nat} {R : Nat → Bool} {p : Nat} (h : R p = true) : starC g R p = true := by
  cases p with
  | zero => exact h
  | succ p => unfold starC; rw [h]; rfl
theorem star_next {g : List Nat} {R : Nat → Bool} {p : Nat} (h : starC g R p = true) (hg : g[p]? = some 42) : starC g R (p + 1) = true := by
  unfold starC; rw [h, hg]; simp
theorem star_cases {g : List Nat} {R : Nat → Bool} {p : Nat} (h : starC g R p = true) : R p = true ∨ ∃ q, p = q + 1 ∧ g[q]? = some 42 ∧ starC g R q = true := by
  cases p with
  | zero => exact .inl h
  | succ p =>
    unfold starC at h
    rw [Bool.or_eq_true, Bool.and_eq_true] at h
    rcases h with h | ⟨h1, h2⟩
    · exact .inl h
    · exact .inr ⟨p, rfl, eq_of_beq h1, h2⟩
structure Twin (g : List Nat) (A B : Nat → Bool) : Prop where
  sub : ∀ p, A p = true → B p = true
  back : ∀ p, A (p + 1) = true → g[p]? = some 42 → B p = true
  sup : ∀ p, B p = true → A p = true ∨ (g[p]? = some 42 ∧ A (p + 1) = true)
  clo : ∀ p, A p = true → g[p]? = some 42 → A (p + 1) = true
theorem twin_start (g : List Nat) : Twin g (startA g) (startA g) where
  sub p h := h
  back p h hg := by
    rcases star_cases h with h | ⟨q, e, _, h⟩
    · simp at h
    · cases e; exact h
  sup p h := .inl h
  clo p h hg := star_next h hg
theorem base_or {a b c : Bool} (h : (a || (b && c)) = true) : a = true ∨ (b = true ∧ c = true) := by
  rw [Bool.or_eq_true, Bool.and_eq_true] at h; exact h
theorem twin_step {g : List Nat} {A B : Nat → Bool} (T : Twin g A B) (c : Nat) : Twin g (stepA g A c) (stepB g B c) := by
  have b1 : ∀ k, B k = true → g[k]? = some 42 → stepB g B c k = true := fun k h hg => star_of (by unfold baseB; rw [h, hg]; simp)
  have b2 : ∀ k, B k = true → (g[k]? = some 63 ∨ g[k]? = some c) → stepB g B c (k + 1) = true := fun k h hg => star_of (by
    rw [baseB_succ, h]
    rcases hg with hg | hg <;> rw [hg] <;> simp)
  have a1 : ∀ k, A (k + 1) = true → g[k]? = some 42 → stepA g A c (k + 1) = true := fun k h hg => star_of (by rw [baseA_succ, h, hg]; simp)
  have a2 : ∀ k, A k = true → (g[k]? = some 63 ∨ g[k]? = some c) → stepA g A c (k + 1) = true := fun k h hg => star_of (by
    rw [baseA_succ, h]
    rcases hg with hg | hg <;> rw [hg] <;> simp)
  have ca : ∀ p, baseA g c A p = true → ∃ k, p = k + 1 ∧ ((A (k + 1) = true ∧ g[k]? = some 42) ∨ (A k = true ∧ (g[k]? = some 63 ∨ g[k]? = some c))) := fun p h => by
    cases p with
    | zero => cases h
    | succ k =>
      refine ⟨k, rfl, ?_⟩
      rw [baseA_succ] at h
      simp only [Bool.or_eq_true, Bool.and_eq_true, beq_iff_eq] at h
      exact h
  have cb : ∀ p, baseB g c B p = true → (B p = true ∧ g[p]? = some 42) ∨ ∃ k, p = k + 1 ∧ B k = true ∧ (g[k]? = some 63 ∨ g[k]? = some c) := fun p h => by
    unfold baseB at h
    rw [Bool.or_eq_true] at h
    rcases h with h | h
    · simp only [Bool.and_eq_true, beq_iff_eq] at h; exact .inl h
    · cases p with
      | zero => cases h
      | succ k =>
        simp only [Bool.or_eq_true, Bool.and_eq_true, beq_iff_eq] at h
        exact .inr ⟨k, rfl, h⟩
  have sub : ∀ p, stepA g A c p = true → stepB g B c p = true := fun p => by
    induction p with
    | zero =>
      intro h
      rcases star_cases h with h | ⟨q, e, _⟩
      · obtain ⟨k, e, _⟩ := ca _ h; cases e
      · cases e
    | succ p ih =>
      intro h
      rcases star_cases h with h | ⟨q, e, hg, h⟩
      · obtain ⟨k, e, h⟩ := ca _ h
        cases e
        rcases h with ⟨h, hg⟩ | ⟨h, hg⟩
        · exact star_next (b1 _ (T.back _ h hg) hg) hg
        · exact b2 _ (T.sub _ h) hg
      · cases e
        exact star_next (ih h) hg
  refine ⟨sub, fun p h hg => ?_, fun p => ?_, fun p h hg => star_next h hg⟩
  · rcases star_cases h with h | ⟨q, e, hg', h⟩
    · obtain ⟨k, e, h⟩ := ca _ h
      cases e
      rcases h with ⟨h, _⟩ | ⟨h, _⟩
      · exact b1 _ (T.back _ h hg) hg
      · exact b1 _ (T.sub _ h) hg
    · cases e
      exact sub _ h
  · induction p with
    | zero =>
      intro h
      rcases star_cases h with h | ⟨q, e, _⟩
      · rcases cb _ h with ⟨h, hg⟩ | ⟨k, e, _⟩
        · refine .inr ⟨hg, a1 _ ?_ hg⟩
          rcases T.sup _ h with h | h
          · exact T.clo _ h hg
          · exact h.2
        · cases e
      · cases e
    | succ p ih =>
      intro h
      rcases star_cases h with h | ⟨q, e, hg, h⟩
      · rcases cb _ h with ⟨h, hg⟩ | ⟨k, e, h, hg⟩
        · refine .inr ⟨hg, a1 _ ?_ hg⟩
          rcases T.sup _ h with h | h
          · exact T.clo _ h hg
          · exact h.2
        · cases e
          rcases T.sup _ h with h | ⟨hs, h⟩
          · exact .inl (a2 _ h hg)
          · exact .inl (a1 _ h hs)
      · cases e
        rcases ih h with h | ⟨_, h⟩
        · exact .inl (star_next h hg)
        · exact .inl h
theorem twin_fold (g : List Nat) : ∀ (b : List Nat) (A B : Nat → Bool), Twin g A B → Twin g (b.foldl (stepA g) A) (b.foldl (stepB g) B)
  | [], _, _, T => T
  | c :: b, _, _, T => twin_fold g b _ _ (twin_step T c)
/-- the law's own answer -/
theorem fits_law (g b : List Nat) : (b.foldl (stepB g) (startA g)) g.length = fitsB g b := by
  have T := twin_fold g b _ _ (twin_start g)
  cases h : fitsB g b with
  | true => exact T.sub _ h
  | false =>
    cases h2 : (b.foldl (stepB g) (startA g)) g.length with
    | false => rfl
    | true =>
      rcases T.sup _ h2 with h3 | ⟨h3, _⟩
      · have h : (b.foldl (stepA g) (startA g)) g.length = false := h
        rw [h] at h3; cases h3
      · rw [List.getElem?_eq_none (Nat.le_refl _)] at h3; cases h3
theorem fits_star (b : List Nat) : fitsB [42] b = true := by
  have : ∀ (b : List Nat) (S : Nat → Bool), S 1 = true → (b.foldl (stepA [42]) S) 1 = true := fun b => by
    induction b with
    | nil => exact fun S h => h
    | cons c b ih => exact fun S h => ih _ (star_of (p := 1) (by rw [show (1 : Nat) = 0 + 1 from rfl, baseA_succ, h]; rfl))
  exact this b _ rfl
theorem snocInd {α : Type} {P : List α → Prop} (h0 : P []) (h1 : ∀ l a, P l → P (l ++ [a])) (l : List α) : P l := by
  have : ∀ l : List α, P l.reverse := fun l => by
    induction l with
    | nil => exact h0
    | cons a l ih => rw [List.reverse_cons]; exact h1 _ _ ih
  have := this l.reverse
  rwa [List.reverse_reverse] at this
theorem fits_plain {g : List Nat} (h1 : 42 ∉ g) (h2 : 63 ∉ g) (b : List Nat) : fitsB g b = decide (g = b) := by
  have n42 : ∀ p, g[p]? ≠ some 42 := fun p e => h1 (List.mem_of_getElem? e)
  have n63 : ∀ p, g[p]? ≠ some 63 := fun p e => h2 (List.mem_of_getElem? e)
  have st : ∀ R p, starC g R p = R p := fun R p => by
    cases p with
    | zero => rfl
    | succ p => unfold starC; rw [beq_eq_false_iff_ne.mpr (n42 p), Bool.false_and, Bool.or_false]
  have key : ∀ b p, standA g b p = true ↔ (p = b.length ∧ p ≤ g.length ∧ g.take p = b) ∨ (b = [] ∧ p = 0) := fun b => by
    induction b using snocInd with
    | h0 =>
      intro p
      show startA g p = true ↔ _
      unfold startA
      rw [st]
      rw [beq_iff_eq]
      constructor
      · intro e; exact .inr ⟨rfl, e⟩
      · rintro (⟨e, _⟩ | ⟨_, e⟩) <;> exact e
    | h1 l c ih =>
      intro p
      have e : standA g (l ++ [c]) p = baseA g c (standA g l) p := by
        unfold standA
        rw [List.foldl_append]
        exact st _ _
      rw [e]
      cases p with
      | zero =>
        unfold baseA
        constructor
        · intro z; cases z
        · rintro (⟨e, _⟩ | ⟨e, _⟩)
          · simp at e
          · simp at e
      | succ p =>
        rw [baseA_succ, beq_eq_false_iff_ne.mpr (n42 p), beq_eq_false_iff_ne.mpr (n63 p)]
        simp only [Bool.and_false, Bool.false_or, Bool.and_eq_true, beq_iff_eq, ih]
        constructor
        · rintro ⟨h, hc⟩
          have hp := (List.getElem?_eq_some_iff.mp hc).1
          left
          have ht : g.take (p + 1) = g.take p ++ [c] := by rw [List.take_add_one, hc]; rfl
          rcases h with ⟨e1, e2, e3⟩ | ⟨rfl, rfl⟩
          · exact ⟨by rw [List.length_append, List.length_singleton, e1], hp, by rw [ht, e3]⟩
          · exact ⟨rfl, hp, by rw [ht]; rfl⟩
        · rintro (⟨e1, e2, e3⟩ | ⟨e, _⟩)
          · have hl : p = l.length := by rw [List.length_append, List.length_singleton] at e1; omega
            have hp : p < g.length := by omega
            rw [List.take_add_one, List.getElem?_eq_getElem hp] at e3
            have e4 := List.append_inj e3 (by rw [List.length_take, ← hl]; omega)
            refine ⟨.inl ⟨hl, by omega, e4.1⟩, ?_⟩
            rw [List.getElem?_eq_getElem hp]
            have := e4.2
            simpa using this
          · simp at e
  by_cases h : g = b
  · rw [decide_eq_true h]
    exact (key b g.length).mpr (.inl ⟨by rw [h], Nat.le_refl _, by rw [List.take_length]; exact h⟩)
  · rw [decide_eq_false h]
    cases hf : fitsB g b with
    | false => rfl
    | true =>
      exfalso
      rcases (key b g.length).mp hf with ⟨e1, _, e3⟩ | ⟨e1, e2⟩
      · rw [List.take_length] at e3; exact h e3
      · rw [e1] at h; exact h (List.length_eq_zero_iff.mp e2)
/-- no place, no further one -/
theorem step_none {g : List Nat} {S : Nat → Bool} {n c : Nat} (h : ∀ p, p ≤ n → S p = false) : ∀ p, p ≤ n → stepA g S c p = false := fun p => by
  induction p with
  | zero => intro _; rfl
  | succ p ih =>
    intro hp
    unfold stepA starC
    have e : baseA g c S (p + 1) = false := by rw [baseA_succ, h _ hp, h p (by omega)]; simp
    rw [e]
    have := ih (by omega)
    unfold stepA at this
    rw [this]; simp
theorem fold_none {g : List Nat} {n : Nat} : ∀ (b : List Nat) {S : Nat → Bool}, (∀ p, p ≤ n → S p = false) → ∀ p, p ≤ n → (b.foldl (stepA g) S) p = false
  | [], _, h => h
  | c :: b, _, h => fold_none b (step_none h)
end DL

namespace DL
open PySem PySem.Spec PyProof.Rows L2
open TL (tl)
theorem ran0 {n i : Nat} {d : D} (h : (ran 0 n)[i]? = some d) : i < n ∧ d = .int (i : Int) := by
  obtain ⟨h1, h2⟩ := ran_get h
  exact ⟨h1, by rw [h2, Int.zero_add]⟩
def plI (L : List Nat) : List Int := L.map fun (k : Nat) => (k : Int)
def plD (L : List Nat) : List D := (plI L).map D.int
theorem plD_len (L : List Nat) : (plD L).length = L.length := by unfold plD plI; rw [List.length_map, List.length_map]
theorem plD_snoc (L : List Nat) (k : Nat) : plD (L ++ [k]) = plD L ++ [.int (k : Nat)] := by unfold plD plI; rw [List.map_append, List.map_append]; rfl
theorem plI_mem {L : List Nat} {k : Nat} : ((k : Int) ∈ plI L) ↔ k ∈ L := by
  unfold plI
  rw [List.mem_map]
  exact ⟨fun ⟨a, h, e⟩ => by rw [← show a = k by omega]; exact h, fun h => ⟨k, h, rfl⟩⟩
theorem star_mk : ("*" : Str) = mk [42] := by decide +kernel
theorem ques_mk : ("?" : Str) = mk [63] := by decide +kernel
theorem excl_mk : ("!" : Str) = mk [33] := by decide +kernel
theorem comma_mk : ("," : Str) = mk [44] := by decide +kernel
theorem mk_sing {a b : Nat} : mk [a] = mk [b] ↔ a = b := ⟨fun h => by have := mk_inj h; injection this, fun h => by rw [h]⟩
theorem starC_congr {g : List Nat} {R R' : Nat → Bool} {n : Nat} (h : ∀ p, p ≤ n → R p = R' p) : ∀ p, p ≤ n → starC g R p = starC g R' p := fun p => by
  induction p with
  | zero => exact h 0
  | succ p ih =>
    intro hp
    unfold starC
    rw [h _ hp, ih (by omega)]
theorem plsL_congr {g : List Nat} {S S' : Nat → Bool} (h : ∀ p, p ≤ g.length → S p = S' p) : plsL g S = plsL g S' := by
  unfold plsL
  exact List.filter_congr fun p hp => h p (by have := List.mem_range.mp hp; omega)
theorem plsL_mem {g : List Nat} {S : Nat → Bool} {p : Nat} : p ∈ plsL g S ↔ p ≤ g.length ∧ S p = true := by
  unfold plsL
  rw [List.mem_filter, List.mem_range]
  exact ⟨fun h => ⟨by omega, h.2⟩, fun h => ⟨by omega, h.2⟩⟩
theorem plsL_len (g : List Nat) (S : Nat → Bool) : (plsL g S).length ≤ g.length + 1 := by
  unfold plsL
  have := List.length_filter_le S (List.range (g.length + 1))
  rwa [List.length_range] at this
theorem filt_snoc (S : Nat → Bool) (i : Nat) : (List.range (i + 1)).filter S = (List.range i).filter S ++ (if S i = true then [i] else []) := by
  rw [List.range_succ, List.filter_append]
  congr 1
  cases h : S i <;> simp [h]
theorem starC_step (g : List Nat) (R : Nat → Bool) (p : Nat) : starC g R (p + 1) = (R (p + 1) || (g[p]? == some 42 && starC g R p)) := rfl
/-- which items a pattern lets -/
def lstep (b : List Nat) (acc : Bool) : List Nat → Bool
  | [] => acc
  | c :: r => if c = 33 then (if fitsB r b = true then false else acc) else if fitsB (c :: r) b = true then true else acc
theorem lstep_cons (b : List Nat) (acc : Bool) (c : Nat) (r : List Nat) : lstep b acc (c :: r) = if c = 33 then (if fitsB r b = true then false else acc) else if fitsB (c :: r) b = true then true else acc := rfl
def letsB (p b : Str) : Bool := ((Txt.split p ",").map tl).foldl (lstep (tl b)) false
def PatOk (p : Str) : Prop := (tl p).length ≤ 1000 ∧ ∀ x ∈ Txt.split p ",", tl x ≠ []
theorem comma_len : (("," : Str).length == 0) = false := by decide +kernel
/-- an item has its say, or leaves all as it is -/
theorem lstep_cases (b it : List Nat) : (∃ v, ∀ acc, lstep b acc it = v) ∨ ∀ acc, lstep b acc it = acc := by
  cases it with
  | nil => exact .inr fun _ => rfl
  | cons c r =>
    by_cases hc : c = 33
    · by_cases hf : fitsB r b = true
      · exact .inl ⟨false, fun acc => by rw [lstep_cons, if_pos hc, if_pos hf]⟩
      · exact .inr fun acc => by rw [lstep_cons, if_pos hc, if_neg hf]
    · by_cases hf : fitsB (c :: r) b = true
      · exact .inl ⟨true, fun acc => by rw [lstep_cons, if_neg hc, if_pos hf]⟩
      · exact .inr fun acc => by rw [lstep_cons, if_neg hc, if_neg hf]
end DL

namespace DL
open PySem PySem.Spec PyProof.Rows L2
open TL (tl)
section
variable {g : GS} {Q : DK} {l : List Nat} {p : Addr}
theorem v_slAny {lo hi : Option Int} (hz : l.length ≤ 16777216) (h : ∀ r : List Nat, (∀ c ∈ r, c ∈ l) → r.length ≤ l.length → Q (.str (mk r)) g) : slD (.str (mk l)) lo hi g Q :=
  ⟨by rw [szl, TL.len_tl, tl_mk]; exact hz, by
    rw [cutS_mk]
    exact h _ (fun c hc => List.mem_of_mem_drop (List.mem_of_mem_take hc)) (by rw [List.length_take, List.length_drop]; omega)⟩
theorem v_pop {ds : List D} {y : D} (hp : g p = some (.lst ds)) (hy : ds[ds.length - 1]? = some y) (h : Q y (gup g p (.lst ds.dropLast))) : popD (.ref p) [] g Q := ⟨ds, y, hp, hy, h⟩
theorem v_popAt {ds : List D} {y : D} {i : Int} (hp : g p = some (.lst ds)) (h0 : 0 ≤ i) (hn : ds.length ≤ 16777216) (hy : ds[i.toNat]? = some y) (h : Q y (gup g p (.lst (ds.eraseIdx i.toNat)))) : popD (.ref p) [.int i] g Q := by
  have hi := (List.getElem?_eq_some_iff.mp hy).1
  refine ⟨ds, i.toNat, y, hp, by omega, by omega, ?_, hy, h⟩
  unfold seqIndex?
  rw [if_neg (by omega : ¬ i < 0)]
  have e : (decide (0 ≤ i) && decide (i < (ds.length : Int))) = true := by rw [decide_eq_true h0, decide_eq_true (by omega)]; rfl
  exact if_pos e
end
/-! ### boards, globs, patterns that are drawn -/
structure BoardOk (z : Str) : Prop where
  ok : boardB z = true
  len : (tl z).length ≤ 60
  chr : ∀ c ∈ tl z, low c ∨ dig c ∨ c = 46
  ne : tl z ≠ []
theorem joinL_ne (y : List Nat) : ∀ (ps : List (List Nat)), ps ≠ [] → (∀ p ∈ ps, p ≠ []) → TL.joinL y ps ≠ []
  | [], h, _ => absurd rfl h
  | [q], _, h => h q (List.mem_singleton.mpr rfl)
  | q :: r :: ps, _, h => by
    show q ++ (y ++ TL.joinL y (r :: ps)) ≠ []
    have := h q List.mem_cons_self
    intro z
    exact this (List.append_eq_nil_iff.mp z).1
theorem NameOk.chars {z : Str} (h : NameOk z) : ∀ c ∈ tl z, low c ∨ dig c := by
  have := h.plain
  unfold nameB at this
  rw [Bool.and_eq_true] at this
  exact plainB_chars this.2
theorem NameOk.plainT {z : Str} (h : NameOk z) : plainB (tl z) = true := by
  have := h.plain
  unfold nameB at this
  rw [Bool.and_eq_true] at this
  exact this.2
theorem NameOk.ne {z : Str} (h : NameOk z) : tl z ≠ [] := fun e => by
  have := h.plainT
  rw [e] at this; cases this
theorem board_ok {ws : List Str} (h : ∀ w ∈ ws, NameOk w) (h0 : ws ≠ []) (hn : ws.length ≤ 6) : BoardOk (Txt.join "." ws) := by
  have hl := join_bd (y := ("." : Str)) (B := 8) (zs := ws) fun w hw => by have := (h w hw).len; omega
  have hd : (tl ("." : Str)).length = 1 := by decide +kernel
  rw [hd] at hl
  have hl : (tl (Txt.join "." ws)).length ≤ 54 := Nat.le_trans hl (Nat.mul_le_mul_right 9 hn)
  have hs : Txt.split (Txt.join "." ws) "." = ws := TL.split_join (s := 46) (S := []) (by decide +kernel) (by decide +kernel) h0 fun w hw hm => by
    have := (h w hw).chars 46 hm
    unfold low dig at this
    omega
  refine ⟨?_, by omega, fun c hc => ?_, ?_⟩
  · unfold boardB
    rw [hs, decide_eq_true (by omega : (tl (Txt.join "." ws)).length ≤ 600), Bool.true_and]
    exact List.all_eq_true.mpr fun w hw => (h w hw).plainT
  · rw [TL.join_eq, TL.tl_join] at hc
    rcases joinL_mem _ _ c hc with hc | ⟨p, hp, hc⟩
    · have e : tl ("." : Str) = [46] := by decide +kernel
      rw [e] at hc
      exact .inr (.inr (List.mem_singleton.mp hc))
    · obtain ⟨w, hw, rfl⟩ := List.mem_map.mp hp
      exact ((h w hw).chars c hc).elim .inl fun z => .inr (.inl z)
  · rw [TL.join_eq, TL.tl_join]
    refine joinL_ne _ _ (fun e => h0 (List.map_eq_nil_iff.mp e)) fun p hp => ?_
    obtain ⟨w, hw, rfl⟩ := List.mem_map.mp hp
    exact (h w hw).ne
structure GlobOk (z : Str) : Prop where
  ne : tl z ≠ []
  len : (tl z).length ≤ 70
  chr : ∀ c ∈ tl z, low c ∨ dig c ∨ c = 46 ∨ c = 42 ∨ c = 63
structure ItemOk (z : Str) : Prop where
  ne : tl z ≠ []
  len : (tl z).length ≤ 80
  chr : ∀ c ∈ tl z, c ≠ 44
theorem pat_ok {is : List Str} (h : ∀ w ∈ is, ItemOk w) (h0 : is ≠ []) (hn : is.length ≤ 10) : PatOk (Txt.join "," is) ∧ Txt.split (Txt.join "," is) "," = is := by
  have hl := join_bd (y := ("," : Str)) (B := 80) (zs := is) fun w hw => (h w hw).len
  have hd : (tl ("," : Str)).length = 1 := by decide +kernel
  rw [hd] at hl
  have hl : (tl (Txt.join "," is)).length ≤ 810 := Nat.le_trans hl (Nat.mul_le_mul_right 81 hn)
  have hs : Txt.split (Txt.join "," is) "," = is := TL.split_join (s := 44) (S := []) (by decide +kernel) (by decide +kernel) h0 fun w hw hm => (h w hw).chr 44 hm rfl
  exact ⟨⟨by omega, fun x hx => by rw [hs] at hx; exact (h x hx).ne⟩, hs⟩
theorem pat_star : PatOk "*" := by
  have e : Txt.join "," [("*" : Str)] = "*" := by decide +kernel
  have e2 : tl ("*" : Str) = [42] := by decide +kernel
  rw [← e]
  exact (pat_ok (is := ["*"]) (fun w hw => by
    rw [List.mem_singleton.mp hw]
    exact ⟨by rw [e2]; simp, by rw [e2]; simp, fun c hc => by rw [e2] at hc; rw [List.mem_singleton.mp hc]; decide⟩) (by simp) (by simp)).1
end DL

namespace DL
open PySem PySem.Spec PyProof.Rows L2
open TL (tl)
/-! ### the law's row of spots -/
def blD (n : Nat) (S : Nat → Bool) : List D := (List.range (n + 1)).map fun p => .bl (S p)
theorem blD_len (n : Nat) (S : Nat → Bool) : (blD n S).length = n + 1 := by unfold blD; rw [List.length_map, List.length_range]
theorem blD_get {n : Nat} {S : Nat → Bool} {p : Nat} (h : p ≤ n) : (blD n S)[p]? = some (.bl (S p)) := by
  unfold blD
  rw [List.getElem?_map, List.getElem?_range (by omega)]
  rfl
theorem blD_congr {n : Nat} {S T : Nat → Bool} (h : ∀ p, p ≤ n → S p = T p) : blD n S = blD n T := by
  unfold blD
  exact List.map_congr_left fun p hp => by rw [h p (by have := List.mem_range.mp hp; omega)]
theorem blD_set {n : Nat} {S T : Nat → Bool} {k : Nat} (h : ∀ p, p ≤ n → T p = (S p || decide (p = k))) : (blD n S).set k (.bl true) = blD n T := by
  refine List.ext_getElem? fun i => ?_
  by_cases hi : i ≤ n
  · rw [blD_get hi, List.getElem?_set, h i hi]
    by_cases hk : k = i
    · subst hk
      rw [if_pos rfl, if_pos (by rw [blD_len]; omega)]; simp
    · rw [if_neg hk, blD_get hi]
      have : ¬ i = k := fun z => hk z.symm
      simp [this]
  · rw [List.getElem?_eq_none (by rw [List.length_set, blD_len]; omega), List.getElem?_eq_none (by rw [blD_len]; omega)]
theorem blD_false (n : Nat) : (List.replicate (n + 1) [D.bl false]).flatten = blD n fun _ => false := by
  unfold blD
  induction n with
  | zero => rfl
  | succ n ih => rw [List.range_succ, List.map_append, ← ih, List.replicate_succ', List.flatten_append]; rfl
theorem blD_start (n : Nat) : [D.bl true] ++ (List.replicate n [D.bl false]).flatten = blD n fun p => p == 0 := by
  unfold blD
  induction n with
  | zero => rfl
  | succ n ih => rw [List.range_succ, List.map_append, ← ih, List.replicate_succ', List.flatten_append, List.append_assoc]; rfl
theorem v_rep {g : GS} {Q : DK} {p : Addr} {xs : List D} {k : Int} (hp : g p = some (.lst xs)) (h0 : 0 ≤ k) (hz : xs.length * k.toNat ≤ 16777216) (h1 : k ≤ 16777216) (h : ∀ r, g r = none → Q (.ref r) (gup g r (.lst (List.replicate k.toNat xs).flatten))) : mulD (.ref p) (.int k) g Q :=
  ⟨xs, hp, by omega, by omega, by rw [szl]; exact hz, h⟩
theorem perm_erase {α : Type} : ∀ (l : List α) (i : Nat) (h : i < l.length), (l[i] :: l.eraseIdx i).Perm l
  | a :: r, 0, _ => List.Perm.refl _
  | a :: r, i + 1, h => by
    have hr : i < r.length := by simpa using h
    have ih := perm_erase r i hr
    exact (List.Perm.swap a r[i] (r.eraseIdx i)).trans (List.Perm.cons a ih)
theorem ixN_at {n k : Nat} {i : Int} (h : i = (k : Int)) (hk : k < n) : ixN n i = some k := by
  subst h
  unfold ixN
  rw [if_pos (by omega), if_pos (by omega)]
  congr 1
theorem starTo_end {g : List Nat} {R : Nat → Bool} {k p : Nat} (h : p ≤ k) : (if p ≤ k then starC g R p else R p) = starC g R p := if_pos h
def starTo (g : List Nat) (R : Nat → Bool) (k p : Nat) : Bool := if p ≤ k then starC g R p else R p
theorem starTo_0 (g : List Nat) (R : Nat → Bool) (p : Nat) : starTo g R 0 p = R p := by
  unfold starTo
  by_cases h : p ≤ 0
  · rw [if_pos h]
    have : p = 0 := by omega
    subst this; rfl
  · rw [if_neg h]
theorem starTo_self (g : List Nat) (R : Nat → Bool) (k : Nat) : starTo g R k k = starC g R k := if_pos (Nat.le_refl _)
theorem starTo_yes {g : List Nat} {R : Nat → Bool} {k : Nat} (h1 : starC g R k = true) (h2 : g[k]? = some 42) (p : Nat) : starTo g R (k + 1) p = (starTo g R k p || decide (p = k + 1)) := by
  unfold starTo
  by_cases h : p ≤ k
  · rw [if_pos h, if_pos (by omega), decide_eq_false (by omega), Bool.or_false]
  · by_cases e : p = k + 1
    · subst e
      rw [if_pos (Nat.le_refl _), decide_eq_true rfl, Bool.or_true, starC_step, h1, h2]; simp
    · rw [if_neg h, if_neg (by omega), decide_eq_false e, Bool.or_false]
theorem starTo_no {g : List Nat} {R : Nat → Bool} {k : Nat} (h1 : ¬ (starC g R k = true ∧ g[k]? = some 42)) (p : Nat) : starTo g R (k + 1) p = starTo g R k p := by
  unfold starTo
  by_cases h : p ≤ k
  · rw [if_pos h, if_pos (by omega)]
  · by_cases e : p = k + 1
    · subst e
      rw [if_pos (Nat.le_refl _), if_neg h, starC_step]
      have : (g[k]? == some 42 && starC g R k) = false := by
        cases h3 : (g[k]? == some 42 && starC g R k) with
        | false => rfl
        | true =>
          rw [Bool.and_eq_true] at h3
          exact absurd ⟨h3.2, eq_of_beq h3.1⟩ h1
      rw [this, Bool.or_false]
    · rw [if_neg h, if_neg (by omega)]
def bOn (g : List Nat) (c : Nat) (S : Nat → Bool) (k p : Nat) : Bool := (decide (p < k) && (S p && g[p]? == some 42)) || match p with
  | 0 => false
  | p + 1 => decide (p < k) && (S p && (g[p]? == some 63 || g[p]? == some c))
theorem bOn_succ (g : List Nat) (c : Nat) (S : Nat → Bool) (k p : Nat) : bOn g c S k (p + 1) = ((decide (p + 1 < k) && (S (p + 1) && g[p + 1]? == some 42)) || (decide (p < k) && (S p && (g[p]? == some 63 || g[p]? == some c)))) := rfl
theorem bOn_zero (g : List Nat) (c : Nat) (S : Nat → Bool) (k : Nat) : bOn g c S k 0 = (decide (0 < k) && (S 0 && g[0]? == some 42)) := by
  show (_ || false) = _
  rw [Bool.or_false]
theorem bOn_0 (g : List Nat) (c : Nat) (S : Nat → Bool) (p : Nat) : bOn g c S 0 p = false := by
  cases p with
  | zero => rw [bOn_zero]; rfl
  | succ p => rw [bOn_succ]; rfl
theorem bOn_end (g : List Nat) (c : Nat) (S : Nat → Bool) (p : Nat) : bOn g c S g.length p = baseB g c S p := by
  have e : ∀ p x, (decide (p < g.length) && (S p && g[p]? == some x)) = (S p && g[p]? == some x) := fun p x => by
    by_cases h : p < g.length
    · rw [decide_eq_true h, Bool.true_and]
    · rw [List.getElem?_eq_none (by omega)]; simp
  have e2 : ∀ p, (decide (p < g.length) && (S p && (g[p]? == some 63 || g[p]? == some c))) = (S p && (g[p]? == some 63 || g[p]? == some c)) := fun p => by
    by_cases h : p < g.length
    · rw [decide_eq_true h, Bool.true_and]
    · rw [List.getElem?_eq_none (by omega)]; simp
  cases p with
  | zero =>
    rw [bOn_zero, e]
    show _ = ((S 0 && g[0]? == some 42) || false)
    rw [Bool.or_false]
  | succ p => rw [bOn_succ, e, e2]; rfl
theorem bOn_step {g : List Nat} {c : Nat} {S : Nat → Bool} {k : Nat} {c1 c2 : Bool} (h1 : c1 = (S k && g[k]? == some 42)) (h2 : c2 = (S k && (g[k]? == some 63 || g[k]? == some c))) (p : Nat) :
    bOn g c S (k + 1) p = ((bOn g c S k p || (c1 && decide (p = k))) || (c2 && decide (p = k + 1))) := by
  subst h1 h2
  have d : ∀ p, decide (p < k + 1) = (decide (p < k) || decide (p = k)) := fun p => by
    by_cases a : p < k
    · rw [decide_eq_true a, decide_eq_true (by omega)]; rfl
    · by_cases b : p = k
      · rw [decide_eq_true b, decide_eq_true (by omega)]; simp
      · rw [decide_eq_false a, decide_eq_false b, decide_eq_false (by omega)]; rfl
  cases p with
  | zero =>
    rw [bOn_zero, bOn_zero, d, decide_eq_false (by omega : ¬ 0 = k + 1), Bool.and_false, Bool.or_false]
    by_cases e : 0 = k
    · subst e; simp
    · simp [e]
  | succ p =>
    rw [bOn_succ, bOn_succ, d, d]
    have e3 : decide (p + 1 = k + 1) = decide (p = k) := decide_eq_decide.mpr (by omega)
    rw [e3]
    by_cases e1 : p + 1 = k
    · subst e1
      have e2 : ¬ p = p + 1 := by omega
      simp [e2]
      exact Bool.or_comm _ _
    · by_cases e2 : p = k
      · subst e2; simp [e1]
      · simp [e1, e2]
end DL

namespace DL
open PySem L2
open PySem.W (alike dataLt AllAlike Sortable dataLe sortVals dataKind EachIs sorting_copy_old)
/-! ### sorted of data -/
def leP (a b : D) : Bool := dataLe false pd a b
def srtOk (ds : List D) : Prop := pures ds = true ∧ deps ds ≤ 60 ∧ AllAlike (ds.map pd) ∧ Sortable (ds.map pd)
def sortedD : DRC := fun xs g Q => match xs with
  | [.ref p] => ∃ ds, rdL g p ds ∧ srtOk ds ∧ ∀ r, g r = none → Q (.ref r) (gup g r (.lst (ds.mergeSort leP)))
  | _ => False
theorem pds_map (ds : List D) : pds ds = ds.map pd := by
  induction ds with
  | nil => rfl
  | cons d ds ih => rw [pds, ih]; rfl
section
variable {X : Cx} {K : PySem.W.Frag} {H : Hp}
theorem pures_mem : ∀ {ds : List D}, pures ds = true → ∀ d ∈ ds, pure? d = true
  | d :: ds, h, x, hx => by
    rw [pures, Bool.and_eq_true] at h
    rcases List.mem_cons.mp hx with rfl | hx
    · exact h.1
    · exact pures_mem h.2 x hx
theorem deps_mem : ∀ {ds : List D} {n : Nat}, deps ds ≤ n → ∀ d ∈ ds, dep d ≤ n
  | d :: ds, n, h, x, hx => by
    rw [deps] at h
    rcases List.mem_cons.mp hx with rfl | hx
    · omega
    · exact deps_mem (by omega) x hx
/-- a list of values stands for the data -/
def StD (K : PySem.W.Frag) (H : Hp) (u : Value) (d : D) : Prop := ∃ v, RepD K H v d ∧ RelV v u
theorem std_of : ∀ {vs : List V} {us : List Value} {ds : List D}, RepL K H vs ds → Vals vs us → EachIs (StD K H) us ds
  | _, _, _, .nil, .nil => .nil
  | _, _, _, .cons r l, .cons v t => .cons ⟨_, r, v⟩ (std_of l t)
theorem of_std : ∀ {us : List Value} {ds : List D}, EachIs (StD K H) us ds → ∃ vs, RepL K H vs ds ∧ Vals vs us
  | _, _, .nil => ⟨[], .nil, .nil⟩
  | _, _, .cons ⟨v, r, q⟩ t => by
    obtain ⟨vs, l, w⟩ := of_std t
    exact ⟨v :: vs, .cons r l, .cons q w⟩
theorem each_and {α β : Type} {R S : α → β → Prop} : ∀ {as : List α} {bs : List β}, EachIs R as bs → (∀ a b, b ∈ bs → R a b → S a b) → EachIs S as bs
  | _, _, .nil, _ => .nil
  | _, _, .cons h t, k => .cons (k _ _ List.mem_cons_self h) (each_and t fun a b hb => k a b (List.mem_cons_of_mem _ hb))
theorem each_mapD {α : Type} {R : α → PyData → Prop} : ∀ {as : List α} {bs : List D}, EachIs (fun a b => R a (pd b)) as bs → EachIs R as (bs.map pd)
  | _, _, .nil => .nil
  | _, _, .cons h t => .cons h (each_mapD t)
theorem call_sortedD (hu : X.A.units + 65 < cLine) : CallR X (.builtin "sorted") (lRC X.K sortedD) := fun pins s σ H xs us Q I rs ⟨ds, g, Qd, l, rg, q, k⟩ => by
  rcases l with _ | ⟨r1, _ | ⟨r2, l⟩⟩
  · exact q.elim
  · cases r1 with
    | ref p =>
      obtain ⟨ds, hp, ⟨hpu, hdp, hal, hsk⟩, q⟩ := q
      obtain ⟨vs, hs, l⟩ := rg.sq hp
      obtain ⟨its, rv, hl, hz⟩ := I.list hs
      rw [Vals.ref1 rs]
      have hlen := rv.length
      have e0 := std_of l rv
      have er : EachIs (fun u d => ∃ as, Reads s.heap u (pd d) as) its ds := each_and e0 fun u d hd ⟨v, r, w⟩ => Dp.reads I (pd d) v u (r.dp (pures_mem hpu d hd)) w
      have er2 : EachIs (fun u d => ∃ as, Reads (PySem.W.sortingHeap (PySem.W.copyHeap s.heap its) (s.heap.objs.size + 1) its) u (pd d) as) its ds := each_and er fun u d _ ⟨as, r⟩ => ⟨as, PyProof.Rows.Reads.keeps (fun b o e => sorting_copy_old e) r⟩
      have S := PySem.W.SortsAt.data (prog := X.prog) (w := X.w) (A := X.A.in1.in1) (s := { s with heap := PySem.W.sortingHeap (PySem.W.copyHeap s.heap its) (s.heap.objs.size + 1) its }) (each_mapD er2) hal hsk (fun d hd => by
        obtain ⟨d', hd', rfl⟩ := List.mem_map.mp hd
        have h1 := pd_dep d'
        have h2 := deps_mem hdp d' hd'
        show X.A.units + 1 + 1 + _ < _
        omega)
      have out := PySem.W.sortVals_data (R := StD X.K H) (enc := pd) false e0 er2 hal
      obtain ⟨vs', l', w'⟩ := of_std out
      refine PySem.W.sorted_vals hl.isList S (by rw [← hlen]; exact hz) ?_
      obtain ⟨ep, he'⟩ := PyProof.Rows.sortedAll_at s.heap its (sortVals (dataKind (PySem.W.sortingHeap (PySem.W.copyHeap s.heap its) (s.heap.objs.size + 1) its) (ds.map pd)) false its its).toArray
      have hl2 : vs'.length = its.length := by rw [w'.length]; exact PySem.W.sortVals_length false rfl
      have hz2 : vs'.length ≤ sizeLine := by rw [hl2, ← hlen]; exact hz
      exact ⟨.ref _, upd H (s.heap.objs.size + 1) (.lst vs'), I.laid (t' := s.toks) (fun _ _ => PyProof.Rows.sortedAll_old) (Nat.le_succ _) ⟨hz2, _, ep, w', he'⟩, rfl, rg.finL k (I.hok.fresh (Nat.le_succ _)) l' q⟩
    | _ => exact q.elim
  · cases r1 <;> exact q.elim
end
end DL

namespace DL
open PySem PySem.Spec PyProof.Rows L2
open TL (tl)
/-! ### books -/
structure SiteR where
  name : Str
  off : Int
  mem : Int
  term : Int
  lot : Str
abbrev SiteR.d (s : SiteR) : D := .tup [.str "site", .str s.name, .int s.off, .int s.mem, .int s.term, .str s.lot]
structure FeedR where
  giver : Str
  taker : Str
  pat : Str
  hops : Int
  size : Int
abbrev FeedR.d (f : FeedR) : D := .tup [.str "feed", .str f.giver, .str f.taker, .str f.pat, .int f.hops, .int f.size]
structure StwR where
  pat : Str
  addr : Str
  pol : D
abbrev StwR.d (s : StwR) : D := .tup [.str "steward", .str s.pat, .str s.addr, s.pol]
abbrev lineD (p : Str × Str) : D := .tup [.str p.1, .str p.2]
structure BookR where
  window : Int
  w1 : Int
  w2 : Int
  sites : List SiteR
  lines : List (Str × Str)
  feeds : List FeedR
  stws : List StwR
  lists : List D
abbrev BookR.ds (b : BookR) : List D := [.str "book", .int b.window, .tup [.int b.w1, .int b.w2], .tup (b.sites.map SiteR.d), .tup (b.lines.map lineD), .tup (b.feeds.map FeedR.d), .tup (b.stws.map StwR.d), .tup b.lists]
/-- the steward of a board -/
def stewardOf (ss : List StwR) (b : Str) : Option Str := (ss.find? fun s => letsB s.pat b).map StwR.addr
def optD : Option Str → D
  | none => .non
  | some z => .str z
def dOf {α : Type} (f : α → D) : Option α → D
  | none => .non
  | some a => f a
def siteOf (ss : List SiteR) (n : Str) : Option SiteR := ss.find? fun s => decide (s.name = n)
def feedOf (fs : List FeedR) (a b : Str) : Option FeedR := fs.find? fun f => decide (f.giver = a) && decide (f.taker = b)
def polOf (ss : List StwR) (z : Str) : Option StwR := ss.find? fun s => decide (s.addr = z)
/-- the seals needed -/
def needStep (ss : List StwR) (acc : List Str) (b : Str) : List Str := match stewardOf ss b with
  | none => acc
  | some a => if a ∈ acc then acc else acc ++ [a]
def needed (ss : List StwR) (bs : List Str) : List Str := bs.foldl (needStep ss) []
theorem needed_len (ss : List StwR) : ∀ (bs : List Str) (acc : List Str), (bs.foldl (needStep ss) acc).length ≤ acc.length + bs.length
  | [], acc => Nat.le_refl _
  | b :: bs, acc => by
    rw [List.foldl_cons, List.length_cons]
    have := needed_len ss bs (needStep ss acc b)
    have h2 : (needStep ss acc b).length ≤ acc.length + 1 := by
      unfold needStep
      split
      · omega
      · split
        · omega
        · rw [List.length_append]; exact Nat.le_refl _
    omega
theorem find_first {α : Type} {l : List α} {i : Nat} {x : α} {p : α → Bool} (hi : l[i]? = some x) (h : ∀ y ∈ l.take i, p y = false) (hx : p x = true) : l.find? p = some x := by
  have hl := (List.getElem?_eq_some_iff.mp hi)
  have e := List.take_append_drop i l
  rw [List.drop_eq_getElem_cons hl.1, hl.2] at e
  rw [← e, List.find?_append, List.find?_eq_none.mpr fun y hy => by rw [h y hy]; decide, List.find?_cons_of_pos hx]
  rfl
/-- what is right about a book that is drawn -/
structure SiteOk (s : SiteR) : Prop where
  name : NameOk s.name
  lot : PatOk s.lot
structure FeedOkR (f : FeedR) : Prop where
  giver : NameOk f.giver
  taker : NameOk f.taker
  pat : PatOk f.pat
  hops : 1 ≤ f.hops ∧ f.hops ≤ 9
  size : 1 ≤ f.size ∧ f.size ≤ 99
structure StwOk (s : StwR) : Prop where
  pat : PatOk s.pat
  addr : (tl s.addr).length ≤ 100 ∧ tl s.addr ≠ []
structure BookOk (b : BookR) : Prop where
  sites : ∀ s ∈ b.sites, SiteOk s
  ns : b.sites.length ≤ 100
  nf : b.feeds.length ≤ 1000
  nl : b.lines.length ≤ 1000
  nd : (b.sites.map (·.name)).Nodup
  lines : ∀ p ∈ b.lines, (∃ s ∈ b.sites, s.name = p.1) ∧ ∃ s ∈ b.sites, s.name = p.2
  feeds : ∀ f ∈ b.feeds, FeedOkR f ∧ (∃ s ∈ b.sites, s.name = f.giver) ∧ ∃ s ∈ b.sites, s.name = f.taker
  win : 0 ≤ b.window ∧ b.window ≤ 100
  waits : 1 ≤ b.w1 ∧ b.w1 ≤ b.w2 ∧ b.w2 ≤ 100
end DL

namespace DL
open PySem L2
/-! ### sum, max, min of a list of ints -/
section
variable {X : Cx} {K : PySem.W.Frag} {H : Hp}
def intsD (r : List Int → DK → GS → Prop) : DRC := fun xs g Q => match xs with
  | [.ref p] => ∃ ns : List Int, rdL g p (ns.map D.int) ∧ r ns Q g
  | _ => False
abbrev sumD : DRC := intsD fun ns Q g => Q (.int ns.sum) g
abbrev maxLD : DRC := intsD fun ns Q g => 0 < ns.length ∧ ∀ m, m ∈ ns → (∀ y, y ∈ ns → y ≤ m) → Q (.int m) g
abbrev minID : DRC := intsD fun ns Q g => 0 < ns.length ∧ ∀ m, m ∈ ns → (∀ y, y ∈ ns → m ≤ y) → Q (.int m) g
theorem call_ints {f : Value} {r : List Int → DK → GS → Prop} (h : ∀ {pins : List (Addr × Obj)} {s : Shared} {σ : L2.St} {H : Hp} {us : List Value} {Q : VK} {g : GS} {Qd : DK} {p : Addr} {ns : List Int}, Inv X pins σ H s → Vals [V.ref p] us → SqL X.K H p (ns.map V.int) → RepG X.K H g → KD X.K H Qd Q → r ns Qd g → wpAny (model X.prog X.w) X.A (call f us) (EP X pins σ Q) X.xe s) : CallR X f (lRC X.K (intsD r)) := fun pins s σ H xs us Q I rs ⟨ds, g, Qd, l, rg, q, k⟩ => by
  rcases l with _ | ⟨r1, _ | ⟨r2, l⟩⟩
  · exact q.elim
  · cases r1 with
    | ref p =>
      obtain ⟨ns, hp, q⟩ := q
      obtain ⟨xs, hs, l⟩ := rg.sq hp
      have := l.ints ns
      subst this
      exact h I rs hs rg k q
    | _ => exact q.elim
  · cases r1 <;> exact q.elim
theorem call_sumD (hc : X.calm = true) : CallR X (.builtin "sum") (lRC X.K sumD) := call_ints fun I rs hs rg k q => cr_sum hc _ _ _ _ _ _ _ I rs ⟨_, _, rfl, hs, rg.fin k (.int _) q⟩
theorem call_maxLD (hc : X.calm = true) : CallR X (.builtin "max") (lRC X.K maxLD) := call_ints fun I rs hs rg k q => cr_max hc _ _ _ _ _ _ _ I rs ⟨_, _, rfl, hs, q.1, fun m h1 h2 => rg.fin k (.int _) (q.2 m h1 h2)⟩
theorem call_minID (hc : X.calm = true) : CallR X (.builtin "min") (lRC X.K minID) := call_ints fun I rs hs rg k q => cr_min hc _ _ _ _ _ _ _ I rs ⟨_, _, rfl, hs, q.1, fun m h1 h2 => rg.fin k (.int _) (q.2 m h1 h2)⟩
def minSD : DRC := fun xs g Q => match xs with
  | [.ref p] => ∃ ss : List Str, rdL g p (ss.map D.str) ∧ ss ≠ [] ∧ ∀ m, m ∈ ss → (∀ y, y ∈ ss → ¬ y.cps.toList < m.cps.toList) → Q (.str m) g
  | _ => False
open PySem.W (dataLt AllAlike minD) in
theorem minD_strs : ∀ (ss : List Str) (x : Str), ∃ m : Str, minD (.str x) (ss.map PyData.str) = .str m ∧ m ∈ x :: ss ∧ ∀ y ∈ x :: ss, ¬ y.cps.toList < m.cps.toList
  | [], x => ⟨x, rfl, List.mem_cons_self, fun y hy => by rw [List.mem_singleton.mp hy]; exact List.lt_irrefl _⟩
  | y :: ss, x => by
    have e : minD (.str x) ((y :: ss).map PyData.str) = minD (if y.cps.toList < x.cps.toList then .str y else .str x) (ss.map PyData.str) := by
      unfold minD
      rw [List.map_cons, List.foldl_cons, PySem.W.dataLt_str]
      by_cases h : y.cps.toList < x.cps.toList
      · rw [if_pos h, if_pos (decide_eq_true h)]
      · rw [if_neg h, if_neg (by rw [decide_eq_false h]; decide)]
    rw [e]
    by_cases h : y.cps.toList < x.cps.toList
    · rw [if_pos h]
      obtain ⟨m, h1, h2, h3⟩ := minD_strs ss y
      refine ⟨m, h1, List.mem_cons_of_mem _ h2, fun z hz => ?_⟩
      rcases List.mem_cons.mp hz with rfl | hz
      · exact fun hlt => h3 y List.mem_cons_self (List.lt_trans h hlt)
      · exact h3 z hz
    · rw [if_neg h]
      obtain ⟨m, h1, h2, h3⟩ := minD_strs ss x
      refine ⟨m, h1, ?_, fun z hz => ?_⟩
      · rcases List.mem_cons.mp h2 with rfl | h2
        · exact List.mem_cons_self
        · exact List.mem_cons_of_mem _ (List.mem_cons_of_mem _ h2)
      · rcases List.mem_cons.mp hz with rfl | hz
        · exact h3 z List.mem_cons_self
        · rcases List.mem_cons.mp hz with rfl | hz
          · intro hlt
            have h5 := List.not_lt.mp h
            have h6 := List.not_lt.mp (h3 x List.mem_cons_self)
            exact absurd hlt (List.not_lt.mpr (List.le_trans h6 h5))
          · exact h3 z (List.mem_cons_of_mem _ hz)
open PyProof.Rows in
theorem call_minSD (hc : X.calm = true) (hu : X.A.units + 65 < cLine) : CallR X (.builtin "min") (lRC X.K minSD) := fun pins s σ H xs us Q I rs ⟨ds, g, Qd, l, rg, q, k⟩ => by
  rcases l with _ | ⟨r1, _ | ⟨r2, l⟩⟩
  · exact q.elim
  · cases r1 with
    | ref p =>
      obtain ⟨ss, hp, h0, q⟩ := q
      obtain ⟨xs, hs, l⟩ := rg.sq hp
      have := l.strs ss
      subst this
      obtain ⟨its, rv, hl, hz⟩ := I.list hs
      rw [Vals.ref1 rs]
      obtain ⟨x, t, rfl⟩ : ∃ x t, ss = x :: t := by
        cases ss with
        | nil => exact absurd rfl h0
        | cons x t => exact ⟨x, t, rfl⟩
      have hra : ∀ {vs : List Str} {us : List Value}, Vals (vs.map V.str) us → ReadsAll s.heap us (vs.map PyData.str) [] := fun {vs} => by
        induction vs with
        | nil => intro us h; cases h; exact .nil
        | cons a vs ih =>
          intro us h
          rw [List.map_cons] at h
          cases h with
          | cons h1 h2 =>
            obtain ⟨tk, rfl⟩ := h1
            exact .cons (.str a tk) (ih h2)
      obtain ⟨m, e1, e2, e3⟩ := minD_strs t x
      have hal : PySem.W.AlikeAll ((x :: t).map PyData.str) := ⟨fun d hd d' hd' => by
        obtain ⟨y, _, rfl⟩ := List.mem_map.mp hd
        obtain ⟨z, _, rfl⟩ := List.mem_map.mp hd'
        rfl, fun d hd => by
        obtain ⟨y, _, rfl⟩ := List.mem_map.mp hd
        exact fun z => by cases z⟩
      have hdp : PyData.depthAll ((x :: t).map PyData.str) = 0 := by
        generalize x :: t = l
        induction l with
        | nil => rfl
        | cons a l ih => rw [List.map_cons, PyData.depthAll, ih]; rfl
      refine PySem.W.min_list_data (x := .str x) (xs := t.map .str) (I.ok.hd hc) hl.isList (hra (vs := x :: t) rv) hal (by
        show X.A.units + 1 + PyData.depthAll ((x :: t).map PyData.str) < cLine
        rw [hdp]; omega) fun i v h' tk bs hi hr hk => ?_
      rw [e1] at hr
      cases hr
      exact ⟨.str m, H, I.kept hk, ⟨_, rfl⟩, rg.fin k (.str m) (q m e2 e3)⟩
    | _ => exact q.elim
  · cases r1 <;> exact q.elim
abbrev minLD : DRC := fun xs g Q => minID xs g Q ∨ minSD xs g Q
theorem call_minLD (hc : X.calm = true) (hu : X.A.units + 65 < cLine) : CallR X (.builtin "min") (lRC X.K minLD) := fun pins s σ H xs us Q I rs ⟨ds, g, Qd, l, rg, q, k⟩ => q.elim (fun q => call_minID hc pins s σ H xs us Q I rs ⟨ds, g, Qd, l, rg, q, k⟩) fun q => call_minSD hc hu pins s σ H xs us Q I rs ⟨ds, g, Qd, l, rg, q, k⟩
theorem v_minLS {g : GS} {Q : DK} {p : Addr} {ss : List Str} (hp : g p = some (.lst (ss.map D.str))) (h0 : ss ≠ []) (h : ∀ m, m ∈ ss → (∀ y, y ∈ ss → ¬ y.cps.toList < m.cps.toList) → Q (.str m) g) : minLD [.ref p] g Q := .inr ⟨ss, .inl hp, h0, h⟩
end
end DL

namespace DL
open PySem PySem.Spec PyProof.Rows L2
open TL (tl)
theorem set_same {e : EV} {j : Nat} : ∃ x, e = e.set j x := ⟨(e[j]?).getD none, by
  apply List.ext_getElem?
  intro i
  rw [List.getElem?_set]
  by_cases h : j = i
  · subst h
    rw [if_pos rfl]
    by_cases hl : j < e.length
    · rw [if_pos hl, List.getElem?_eq_getElem hl]; rfl
    · rw [if_neg hl, List.getElem?_eq_none (by omega)]
  · rw [if_neg h]⟩
theorem set_set {e : EV} {j : Nat} {x y : Option D} : (e.set j x).set j y = e.set j y := List.set_set ..
/-- a loop that stops at the first that has p -/
theorem find_iv {α : Type} {ds : List DL.D} {keep : GS → Prop} {tb : DTS} {D : DEnds} {e : EV} {g1 : GS} {j : Nat} (R : GS → Prop) (l : List α) (td : α → DL.D) (p : α → Bool) (hl : ds = l.map td) (h0 : R g1) (hk : ∀ g', R g' → keep g')
    (step : ∀ (i : Nat) (a : α) (x : Option DL.D) (W : EV → GS → Prop) g', l[i]? = some a → R g' → (p a = true → l.find? p = some a) → (p a = false → ∀ g'', R g'' → W ((e.set j x).set j (some (td a))) g'') →
      tb { D with nx := W, ct := W, bk := D.nx } ((e.set j x).set j (some (td a))) g')
    (fin : ∀ x g', R g' → l.find? p = none → D.nx (e.set j x) g') :
    ∃ Iv : Nat → EV → GS → Prop, Iv 0 e g1 ∧ (∀ i e' g', i ≤ ds.length → Iv i e' g' → keep g') ∧ (∀ i d e' g', ds[i]? = some d → Iv i e' g' → gNm j d e' g' fun e2 g2 => tb { D with nx := Iv (i + 1), ct := Iv (i + 1), bk := D.nx } e2 g2) ∧ ∀ e' g', Iv ds.length e' g' → D.nx e' g' := by
  subst hl
  refine ⟨fun i e' g' => R g' ∧ (∀ y ∈ l.take i, p y = false) ∧ ∃ x, e' = e.set j x, ⟨h0, (fun y h => nomatch h), set_same⟩, fun i e' g' _ h => hk g' h.1, ?_, ?_⟩
  · rintro i d e' g' hd ⟨U, hA, x, rfl⟩
    rw [List.getElem?_map] at hd
    cases hi : l[i]? with
    | none => rw [hi] at hd; cases hd
    | some a =>
      rw [hi] at hd
      cases hd
      refine step i a x _ g' hi U (fun h => find_first hi hA h) fun h g'' U2 => ⟨U2, fun y hy => ?_, ?_⟩
      · rw [List.take_add_one, hi] at hy
        rcases List.mem_append.mp hy with hy | hy
        · exact hA y hy
        · rw [List.mem_singleton.mp hy]; exact h
      · exact ⟨_, set_set⟩
  · rintro e' g' ⟨U, hA, x, rfl⟩
    rw [List.length_map, List.take_length] at hA
    exact fin x g' U (List.find?_eq_none.mpr fun y hy => by rw [hA y hy]; decide)
theorem dOf_some {α : Type} (f : α → D) (a : α) : dOf f (some a) = f a := rfl
theorem dOf_none {α : Type} (f : α → D) : dOf f none = .non := rfl
theorem atI_zero {α : Type} {x : α} {r : List α} : atI (x :: r) 0 = some x := atI_ofNat rfl (by omega)
theorem v_ixT0 {g : GS} {Q : DK} {x : D} {r : List D} (h : Q x g) : ixD (.tup (x :: r)) (.int 0) g Q := v_ixT atI_zero h
/-! ### sorted texts -/
open PySem.W (dataLt AllAlike Sortable dataLe alike keyToks)
theorem leP_str (a b : Str) : leP (.str a) (.str b) = !decide (b.cps.toList < a.cps.toList) := by
  show (!dataLt (.str b) (.str a)) = _
  rw [PySem.W.dataLt_str]
theorem leP_trans (a b c : D) (h1 : leP a b = true) (h2 : leP b c = true) : leP a c = true := (PySem.W.sortLe_total (PyProof.Rows.listOrd PyProof.Rows.itemOrd) false fun b => keyToks (pd b)).trans a b c h1 h2
theorem leP_total (a b : D) : (leP a b || leP b a) = true := by
  rcases (PySem.W.sortLe_total (PyProof.Rows.listOrd PyProof.Rows.itemOrd) false fun b => keyToks (pd b)).total a b with h | h
  · have h : leP a b = true := h
    rw [h, Bool.true_or]
  · have h : leP b a = true := h
    rw [h, Bool.or_true]
theorem leP_key {a b : D} (h1 : leP a b = true) (h2 : leP b a = true) : keyToks (pd a) = keyToks (pd b) := by
  have h1 : (!dataLt (pd b) (pd a)) = true := h1
  have h2 : (!dataLt (pd a) (pd b)) = true := h2
  rw [Bool.not_eq_true'] at h1 h2
  exact (PyProof.Rows.listOrd PyProof.Rows.itemOrd).total _ _ h2 h1
theorem sortD_perm {as bs : List D} (hp : as.Perm bs) (hinj : ∀ a ∈ as, ∀ b ∈ as, keyToks (pd a) = keyToks (pd b) → a = b) : as.mergeSort leP = bs.mergeSort leP := by
  have p1 := List.mergeSort_perm as leP
  have p2 := List.mergeSort_perm bs leP
  refine List.Perm.eq_of_pairwise (le := fun a b => leP a b = true) ?_ (List.pairwise_mergeSort leP_trans leP_total as) (List.pairwise_mergeSort leP_trans leP_total bs) (p1.trans (hp.trans p2.symm))
  intro a b ha hb h1 h2
  exact hinj a (p1.mem_iff.mp ha) b (hp.mem_iff.mpr (p2.mem_iff.mp hb)) (leP_key h1 h2)
theorem key_str {a b : Str} (h : keyToks (pd (.str a)) = keyToks (pd (.str b))) : a = b := by
  have h : [(Sum.inr a.cps.toList : Int ⊕ List Nat)] = [.inr b.cps.toList] := h
  injection h with h
  injection h with h
  exact PySem.W.str_of_cps h
/-- texts in their order -/
def sortS (ss : List Str) : List D := (ss.map D.str).mergeSort leP
theorem sortS_perm {as bs : List Str} (h : as.Perm bs) : sortS as = sortS bs := sortD_perm (List.Perm.map _ h) fun a ha b hb e => by
  obtain ⟨x, _, rfl⟩ := List.mem_map.mp ha
  obtain ⟨y, _, rfl⟩ := List.mem_map.mp hb
  rw [key_str e]
theorem sortS_mem {ss : List Str} {d : D} (h : d ∈ sortS ss) : ∃ z ∈ ss, d = .str z := by
  obtain ⟨z, h1, h2⟩ := List.mem_map.mp ((List.mergeSort_perm _ leP).mem_iff.mp h)
  exact ⟨z, h1, h2.symm⟩
theorem sortS_strs (ss : List Str) : ∃ zs : List Str, sortS ss = zs.map D.str ∧ zs.Perm ss := by
  obtain ⟨zs, h1, h2⟩ := strs_of (P := fun z => z ∈ ss) (acc := sortS ss) fun d hd => by
    obtain ⟨z, hz, e⟩ := sortS_mem hd
    exact ⟨z, e, hz⟩
  refine ⟨zs, h1, ?_⟩
  have := List.mergeSort_perm (ss.map D.str) leP
  have e : (ss.map D.str).mergeSort leP = zs.map D.str := h1
  rw [e] at this
  have h3 := List.Perm.map (fun d => match d with | .str z => z | _ => "") this
  rw [List.map_map, List.map_map] at h3
  have e2 : ∀ l : List Str, l.map ((fun d : D => match d with | .str z => z | _ => "") ∘ D.str) = l := fun l => by
    induction l with
    | nil => rfl
    | cons a l ih => rw [List.map_cons, ih]; rfl
  rw [e2, e2] at h3
  exact h3
abbrev sOk (z : Str) : Prop := PyData.strOk z = true
theorem sOk_of {z : Str} (h : ∀ c ∈ tl z, c < 1114112) : sOk z := by
  show z.cps.all (fun c => decide (c < 0x110000)) = true
  rw [Array.all_eq_true']
  intro c hc
  exact decide_eq_true (h c (Array.mem_toList_iff.mpr hc))
theorem NameOk.sOk {z : Str} (h : NameOk z) : DL.sOk z := sOk_of fun c hc => by
  have := h.chars c hc
  unfold low dig at this
  omega
theorem pures_strs : ∀ {ss : List Str}, (∀ z ∈ ss, sOk z) → pures (ss.map D.str) = true
  | [], _ => rfl
  | a :: l, h => by
    rw [List.map_cons, pures, pures_strs fun z hz => h z (List.mem_cons_of_mem _ hz), Bool.and_true]
    rw [pure?]
    exact h a List.mem_cons_self
theorem deps_strs (ss : List Str) : deps (ss.map D.str) = 0 := by
  induction ss with
  | nil => rfl
  | cons a l ih => rw [List.map_cons, deps, ih]; rfl
theorem srt_strs {ss : List Str} (h : ∀ z ∈ ss, sOk z) : srtOk (ss.map D.str) := by
  refine ⟨pures_strs h, by rw [deps_strs]; omega, ?_, ?_⟩
  · intro d hd d' hd'
    rw [List.map_map] at hd hd'
    obtain ⟨x, _, rfl⟩ := List.mem_map.mp hd
    obtain ⟨y, _, rfl⟩ := List.mem_map.mp hd'
    rfl
  · refine .inr fun d hd => ?_
    rw [List.map_map] at hd
    obtain ⟨x, _, rfl⟩ := List.mem_map.mp hd
    exact ⟨(fun z => by cases z), fun _ z => by cases z⟩
section
variable {g : GS} {Q : DK} {p : Addr}
theorem v_sortS {ss : List Str} (hp : g p = some (.lst (ss.map D.str))) (hs : ∀ z ∈ ss, sOk z) (h : ∀ r, g r = none → Q (.ref r) (gup g r (.lst (sortS ss)))) : sortedD [.ref p] g Q :=
  ⟨_, .inl hp, srt_strs hs, h⟩
theorem v_max2S {i j : Str} (h : Q (.str (if i.cps.toList < j.cps.toList then j else i)) g) : max2D [.str i, .str j] g Q := h
theorem v_min2S {i j : Str} (h : Q (.str (if j.cps.toList < i.cps.toList then j else i)) g) : min2D [.str i, .str j] g Q := h
theorem v_maxL {p : Addr} {ns : List Int} (hp : g p = some (.lst (ns.map D.int))) (h0 : ns ≠ []) (h : ∀ m, m ∈ ns → (∀ y, y ∈ ns → y ≤ m) → Q (.int m) g) : maxLD [.ref p] g Q := ⟨ns, .inl hp, List.length_pos_iff.mpr h0, h⟩
theorem v_sumL {p : Addr} {ns : List Int} (hp : g p = some (.lst (ns.map D.int))) (h : Q (.int ns.sum) g) : sumD [.ref p] g Q := ⟨ns, .inl hp, h⟩
end
theorem find_nodup {α : Type} {f : α → Str} {l : List α} (hn : (l.map f).Nodup) {t : α} (ht : t ∈ l) : (l.find? fun x => decide (f x = f t)) = some t := by
  induction l with
  | nil => cases ht
  | cons a l ih =>
    rw [List.map_cons, List.nodup_cons] at hn
    by_cases h : f a = f t
    · rw [List.find?_cons_of_pos (by simpa using h)]
      rcases List.mem_cons.mp ht with e | h2
      · rw [e]
      · exact absurd (by rw [h]; exact List.mem_map_of_mem h2) hn.1
    · rw [List.find?_cons_of_neg (by simpa using h)]
      rcases List.mem_cons.mp ht with e | h2
      · exact absurd (by rw [e]) h
      · exact ih hn.2 h2
/-! ### lines of a book -/
theorem perm_map_inv {α β : Type} {f : α → β} : ∀ {ys xs : List β}, ys.Perm xs → ∀ l : List α, xs = l.map f → ∃ l' : List α, ys = l'.map f ∧ l'.Perm l := fun h => by
  induction h with
  | nil => intro l e; exact ⟨[], rfl, by rw [List.map_eq_nil_iff.mp e.symm]⟩
  | cons x p ih =>
    intro l e
    cases l with
    | nil => cases e
    | cons a l =>
      rw [List.map_cons] at e
      injection e with e1 e2
      obtain ⟨l', h1, h2⟩ := ih l e2
      exact ⟨a :: l', by rw [List.map_cons, e1, h1], h2.cons a⟩
  | swap x y l0 =>
    intro l e
    match l, e with
    | a :: b :: l, e =>
      rw [List.map_cons, List.map_cons] at e
      injection e with e1 e2
      injection e2 with e2 e3
      exact ⟨b :: a :: l, by rw [List.map_cons, List.map_cons, e1, e2, e3], List.Perm.swap ..⟩
  | trans p1 p2 ih1 ih2 =>
    intro l e
    obtain ⟨l2, h1, h2⟩ := ih2 l e
    obtain ⟨l3, h3, h4⟩ := ih1 l2 h1
    exact ⟨l3, h3, h4.trans h2⟩
def nbStep (n : Str) (acc : List Str) (p : Str × Str) : List Str := if p.2 = n then (if p.1 = n then acc ++ [p.2] else acc) ++ [p.1] else if p.1 = n then acc ++ [p.2] else acc
def nbrs (ls : List (Str × Str)) (n : Str) : List Str := ls.foldl (nbStep n) []
def near (ls : List (Str × Str)) (n : Str) : List Str := (ls.filter fun p => decide (p.1 = n)).map (·.2) ++ (ls.filter fun p => decide (p.2 = n)).map (·.1)
theorem nb_len (n : Str) : ∀ (ls : List (Str × Str)) (acc : List Str), (ls.foldl (nbStep n) acc).length ≤ acc.length + 2 * ls.length
  | [], acc => Nat.le_refl _
  | p :: ls, acc => by
    rw [List.foldl_cons, List.length_cons]
    have := nb_len n ls (nbStep n acc p)
    have h2 : (nbStep n acc p).length ≤ acc.length + 2 := by
      unfold nbStep
      split <;> split <;> simp
    omega
theorem nb_mem (n : Str) {P : Str → Prop} : ∀ (ls : List (Str × Str)) (acc : List Str), (∀ p ∈ ls, P p.1 ∧ P p.2) → (∀ z ∈ acc, P z) → ∀ z ∈ ls.foldl (nbStep n) acc, P z
  | [], acc, _, ha => ha
  | p :: ls, acc, h, ha => by
    rw [List.foldl_cons]
    refine nb_mem n ls _ (fun q hq => h q (List.mem_cons_of_mem _ hq)) fun z hz => ?_
    have h1 := h p List.mem_cons_self
    unfold nbStep at hz
    have app : ∀ {l : List Str} {x : Str}, (∀ y ∈ l, P y) → P x → ∀ y ∈ l ++ [x], P y := fun hl hx y hy => by
      rcases List.mem_append.mp hy with hy | hy
      · exact hl y hy
      · rw [List.mem_singleton.mp hy]; exact hx
    have in1 : ∀ y ∈ (if p.1 = n then acc ++ [p.2] else acc), P y := fun y hy => by
      by_cases h2 : p.1 = n
      · rw [if_pos h2] at hy; exact app ha h1.2 y hy
      · rw [if_neg h2] at hy; exact ha y hy
    by_cases h2 : p.2 = n
    · rw [if_pos h2] at hz
      exact app in1 h1.1 z hz
    · rw [if_neg h2] at hz
      exact in1 z hz
theorem near_mem {ls : List (Str × Str)} {n : Str} {P : Str → Prop} (h : ∀ p ∈ ls, P p.1 ∧ P p.2) : ∀ z ∈ near ls n, P z := fun z hz => by
  unfold near at hz
  rcases List.mem_append.mp hz with hz | hz
  · obtain ⟨p, hp, rfl⟩ := List.mem_map.mp hz
    exact (h p (List.mem_filter.mp hp).1).2
  · obtain ⟨p, hp, rfl⟩ := List.mem_map.mp hz
    exact (h p (List.mem_filter.mp hp).1).1
theorem near_perm (n : Str) : ∀ (ls : List (Str × Str)) (acc : List Str), (ls.foldl (nbStep n) acc).Perm (acc ++ near ls n)
  | [], acc => by
    rw [show near [] n = [] from rfl, List.append_nil]
    exact List.Perm.refl _
  | p :: ls, acc => by
    rw [List.foldl_cons]
    refine (near_perm n ls (nbStep n acc p)).trans ?_
    rw [List.perm_iff_count]
    intro a
    unfold nbStep near
    by_cases h1 : p.1 = n
    · by_cases h2 : p.2 = n
      · rw [if_pos h2, if_pos h1, List.filter_cons_of_pos (by simpa using h1), List.filter_cons_of_pos (by simpa using h2)]
        simp only [List.count_append, List.map_cons, List.count_cons, List.count_nil]
        omega
      · rw [if_neg h2, if_pos h1, List.filter_cons_of_pos (by simpa using h1), List.filter_cons_of_neg (by simpa using h2)]
        simp only [List.count_append, List.map_cons, List.count_cons, List.count_nil]
        omega
    · by_cases h2 : p.2 = n
      · rw [if_pos h2, if_neg h1, List.filter_cons_of_neg (by simpa using h1), List.filter_cons_of_pos (by simpa using h2)]
        simp only [List.count_append, List.map_cons, List.count_cons, List.count_nil]
        omega
      · rw [if_neg h2, if_neg h1, List.filter_cons_of_neg (by simpa using h1), List.filter_cons_of_neg (by simpa using h2)]
theorem sort_near (ls : List (Str × Str)) (n : Str) : sortS (nbrs ls n) = sortS (near ls n) := sortS_perm (by
  have := near_perm n ls []
  rwa [List.nil_append] at this)
theorem fine_line {a b : Str} (ha : sOk a) (hb : sOk b) : fine (.tup [.str a, .str b]) := ⟨by simp only [pure?, pures]; rw [ha, hb]; rfl, by simp [dep, deps]⟩
theorem pures_lines : ∀ {ps : List (Str × Str)}, (∀ p ∈ ps, sOk p.1 ∧ sOk p.2) → pures (ps.map lineD) = true
  | [], _ => rfl
  | a :: l, h => by
    have h1 := h a List.mem_cons_self
    rw [List.map_cons, pures, pures_lines fun z hz => h z (List.mem_cons_of_mem _ hz), Bool.and_true]
    exact (fine_line h1.1 h1.2).1
theorem deps_lines (ps : List (Str × Str)) : deps (ps.map lineD) ≤ 60 := by
  induction ps with
  | nil => rw [List.map_nil, deps]; omega
  | cons a l ih =>
    rw [List.map_cons, deps]
    have e : dep (lineD a) ≤ 60 := by
      show dep (.tup [.str a.1, .str a.2]) ≤ 60
      simp only [dep, deps]
      omega
    omega
theorem srt_lines {ps : List (Str × Str)} (h : ∀ p ∈ ps, sOk p.1 ∧ sOk p.2) : srtOk (ps.map lineD) := by
  refine ⟨pures_lines h, deps_lines ps, ?_, .inl ?_⟩
  · intro d hd d' hd'
    rw [List.map_map] at hd hd'
    obtain ⟨x, _, rfl⟩ := List.mem_map.mp hd
    obtain ⟨y, _, rfl⟩ := List.mem_map.mp hd'
    rfl
  · intro d hd
    rw [List.map_map] at hd
    obtain ⟨x, _, rfl⟩ := List.mem_map.mp hd
    exact ⟨_, _, rfl⟩
section
variable {g : GS} {Q : DK} {p : Addr}
theorem v_sortLines {ps : List (Str × Str)} (hp : g p = some (.lst (ps.map lineD))) (hs : ∀ p ∈ ps, sOk p.1 ∧ sOk p.2) (h : ∀ r (qs : List (Str × Str)), qs.Perm ps → g r = none → Q (.ref r) (gup g r (.lst (qs.map lineD)))) : sortedD [.ref p] g Q :=
  ⟨_, .inl hp, srt_lines hs, fun r hr => by
    obtain ⟨qs, h1, h2⟩ := perm_map_inv (List.mergeSort_perm (ps.map lineD) leP) ps rfl
    rw [h1]
    exact h r qs h2 hr⟩
theorem v_notInLd {xs ds : List D} (hp : g p = some (.lst ds)) (hx : fine (.tup xs)) (h1 : pures ds = true) (h2 : deps ds ≤ 60) (h : Q (.bl (!(ds.any fun z => eqP z (.tup xs)))) g) : notInD (.tup xs) (.ref p) g Q :=
  ⟨ds, .inl hp, .inr ⟨hx, h1, h2⟩, h⟩
theorem v_inLd {xs ds : List D} (hp : g p = some (.lst ds)) (hx : fine (.tup xs)) (h1 : pures ds = true) (h2 : deps ds ≤ 60) (h : Q (.bl (ds.any fun z => eqP z (.tup xs))) g) : inD (.tup xs) (.ref p) g Q :=
  ⟨ds, .inl hp, .inr ⟨hx, h1, h2⟩, h⟩
end
theorem ite_mem {α : Type} {c : Prop} [Decidable c] {l : List α} {x y : α} (hx : x ∈ l) (hy : y ∈ l) : (if c then x else y) ∈ l := by
  by_cases h : c
  · rw [if_pos h]; exact hx
  · rw [if_neg h]; exact hy
theorem ite_of {α : Type} {c : Prop} [Decidable c] {P : α → Prop} {x y : α} (hx : P x) (hy : P y) : P (if c then y else x) := by
  by_cases h : c
  · rw [if_pos h]; exact hy
  · rw [if_neg h]; exact hx
theorem at_strs {ns : List Str} {v : Int} (h0 : 0 ≤ v) (h : v < ns.length) : ∃ z, z ∈ ns ∧ ns[v.toNat]? = some z ∧ atI (ns.map D.str) v = some (.str z) := by
  have hl : v.toNat < ns.length := by omega
  exact ⟨ns[v.toNat], List.getElem_mem hl, List.getElem?_eq_getElem hl, atI_ofNat (by rw [List.getElem?_map, List.getElem?_eq_getElem hl]; rfl) h0⟩
/-! ### addresses -/
theorem addr_cut {a h : List Nat} (ha : 64 ∉ a) : (a ++ 64 :: h).takeWhile (fun c => c ≠ 64) = a := by
  induction a with
  | nil => rfl
  | cons c a ih =>
    have h1 : c ≠ 64 := fun e => ha (by rw [e]; exact List.mem_cons_self)
    rw [List.cons_append, List.takeWhile_cons_of_pos (by simpa using h1), ih fun h => ha (List.mem_cons_of_mem _ h)]
theorem addr_inj {a b h k : Str} (ha : NameOk a) (hb : NameOk b) (e : a ++ ("@" : Str) ++ h = b ++ ("@" : Str) ++ k) : a = b := by
  have e2 := congrArg tl e
  rw [TL.tl_append, TL.tl_append, TL.tl_append, TL.tl_append] at e2
  have e3 : tl ("@" : Str) = [64] := by decide +kernel
  rw [e3, List.append_assoc, List.append_assoc, List.singleton_append, List.singleton_append] at e2
  have no : ∀ {z : Str}, NameOk z → 64 ∉ tl z := fun hz hm => by
    have := hz.chars 64 hm
    unfold low dig at this
    omega
  have e4 := congrArg (List.takeWhile fun c => decide (c ≠ 64)) e2
  rw [addr_cut (no ha), addr_cut (no hb)] at e4
  exact TL.ext_tl e4
end DL

namespace DL
open PySem PySem.Spec PyProof.Rows L2
open TL (tl)
/-! ### notices, policies, letters -/
abbrev numS (n : Int) : Str := Str.ofString (toString n)
def idT (z : Str) (n : Int) : Str := numS n ++ ("@" : Str) ++ z
theorem num_len {n : Int} (h0 : 0 ≤ n) (h : n < 1000000000000) : (tl (numS n)).length ≤ 12 := by
  unfold numS
  rw [num_mk h0, tl_mk]
  exact TL.numL_len (by omega) (by omega)
structure NtR where
  name : Str
  num : Int
  author : Str
  date : Int
  boards : List Str
  subj : Str
  refs : List D
  kw : Str
  krest : List D
  seals : List Str
  body : D
abbrev NtR.id (n : NtR) : D := .tup [.str n.name, .int n.num]
abbrev NtR.kind (n : NtR) : D := .tup (.str n.kw :: n.krest)
abbrev NtR.ds (n : NtR) : List D := [.str "notice", n.id, .str n.author, .int n.date, .tup (n.boards.map D.str), .str n.subj, .tup n.refs, n.kind, .tup (n.seals.map D.str), n.body]
structure NtB (n : NtR) : Prop where
  name : (tl n.name).length ≤ 100
  num : 0 ≤ n.num ∧ n.num < 1000000000
  seals : n.seals.length ≤ 1000
  boards : n.boards.length ≤ 1000
  bl : ∀ z ∈ n.boards, (tl z).length ≤ 1000000
/-- seals that are lacking -/
def sealsLeft (ss : List StwR) (n : NtR) : List Str := if n.kw = "strike" then [] else (needed ss n.boards).filter fun a => !decide (a ∈ n.seals)
def subKey (n : NtR) (k : Int) : Str := ("s:" : Str) ++ idT n.name n.num ++ (":" : Str) ++ numS n.seals.length ++ (":" : Str) ++ numS k
def subLet (n : NtR) (a : D) (seen : List D) : D := .tup [.str "letter", .str (subKey n seen.length), a, .tup [.str "submit", .tup n.ds, a, .tup seen]]
def subOut (ss : List StwR) (n : NtR) : D := match sealsLeft ss n with
  | [] => .non
  | a :: _ => subLet n (.str a) []
section
variable {g : GS} {Q : DK}
theorem v_addB {a b : Str} (hz : (tl a).length + (tl b).length ≤ 16777216) (h : (tl (a ++ b)).length = (tl a).length + (tl b).length → Q (.str (a ++ b)) g) : addD (.str a) (.str b) g Q :=
  v_addS (len2_le hz (Nat.le_refl _)) (h (by rw [TL.tl_append, List.length_append]))
end
theorem idT_len {z : Str} {n : Int} (h0 : 0 ≤ n) (h : n < 1000000000000) : (tl (idT z n)).length ≤ (tl z).length + 13 := by
  unfold idT
  rw [TL.tl_append, TL.tl_append, List.length_append, List.length_append]
  have := num_len h0 h
  have e : (tl ("@" : Str)).length = 1 := by decide +kernel
  omega
theorem sc_len : (tl ("s:" : Str)).length = 2 ∧ (tl ("n:" : Str)).length = 2 ∧ (tl ("c:" : Str)).length = 2 ∧ (tl (":" : Str)).length = 1 := ⟨by decide +kernel, by decide +kernel, by decide +kernel, by decide +kernel⟩
theorem ints_of {P : Int → Prop} : ∀ {acc : List D}, (∀ d ∈ acc, ∃ z, d = .int z ∧ P z) → ∃ as : List Int, acc = as.map D.int ∧ ∀ z ∈ as, P z
  | [], _ => ⟨[], rfl, fun z hz => nomatch hz⟩
  | d :: acc, h => by
    obtain ⟨as, rfl, ha⟩ := ints_of (acc := acc) fun x hx => h x (List.mem_cons_of_mem _ hx)
    obtain ⟨z, rfl, hz⟩ := h d List.mem_cons_self
    exact ⟨z :: as, rfl, fun y hy => (List.mem_cons.mp hy).elim (fun e => by rw [e]; exact hz) (ha y)⟩
/-! policies that are drawn -/
inductive BasR where
  | board (p : Str) | frm (a b : Str) | word (w : Str) | over (n : Int) | sealed (a : Str) | any | answer | replace
def BasR.d : BasR → D
  | .board p => .tup [.str "board", .str p]
  | .frm a b => .tup [.str "from", .str a, .str b]
  | .word w => .tup [.str "word", .str w]
  | .over n => .tup [.str "over", .int n]
  | .sealed a => .tup [.str "sealed", .str a]
  | .any => .tup [.str "any"]
  | .answer => .tup [.str "answer"]
  | .replace => .tup [.str "replace"]
inductive TstR where
  | bas (b : BasR) | two (o : Str) (a b : BasR)
def TstR.d : TstR → D
  | .bas b => b.d
  | .two o a b => .tup [.str o, .tup [.str "not", a.d], b.d]
inductive VerR where
  | pass | hold | refuse (w : Str) | send (a : Str)
def VerR.d : VerR → D
  | .pass => .tup [.str "pass"]
  | .hold => .tup [.str "hold"]
  | .refuse w => .tup [.str "refuse", .str w]
  | .send a => .tup [.str "send", .str a]
abbrev RulR := TstR × VerR
def rulD (r : RulR) : D := .tup [r.1.d, r.2.d]
/-- words us, names of sites ns, addresses as -/
def BasOk (us ns as : List Str) : BasR → Prop
  | .board p => PatOk p
  | .frm a b => (a = "*" ∨ a = "ann" ∨ a = "b2") ∧ (b = "*" ∨ b ∈ ns)
  | .word w => w ∈ us
  | .over n => 0 ≤ n ∧ n < 5
  | .sealed a => a ∈ as
  | _ => True
def TstOk (us ns as : List Str) : TstR → Prop
  | .bas b => BasOk us ns as b
  | .two o a b => (o = "and" ∨ o = "or") ∧ BasOk us ns as a ∧ BasOk us ns as b
def VerOk (us as : List Str) : VerR → Prop
  | .refuse w => w ∈ us
  | .send a => a ∈ as
  | _ => True
def RulOk (us ns as : List Str) (r : RulR) : Prop := TstOk us ns as r.1 ∧ VerOk us as r.2
/-- bodies that are drawn -/
inductive BodR where
  | data (ns : List Int) | parts (r : Str) | rows (rs : List Str)
def BodR.d : BodR → D
  | .data ns => .tup [.str "data", .str "pairs", .tup (ns.map D.int)]
  | .parts r => .tup [.str "parts", .tup [.tup [.str "text", .str "plain", .tup [.str r]], .tup [.str "text", .str "plain", .tup []]]]
  | .rows rs => .tup [.str "text", .str "plain", .tup (rs.map D.str)]
end DL

namespace DL
open PySem PySem.Spec PyProof.Rows L2
open TL (tl)
/-! ### ways over lines -/
def adjB (ls : List (Str × Str)) (y z : Str) : Bool := ls.any fun p => (decide (p.1 = y) && decide (p.2 = z)) || (decide (p.2 = y) && decide (p.1 = z))
theorem adj_mem {ls : List (Str × Str)} {y z : Str} : adjB ls y z = true ↔ ∃ p ∈ ls, (p.1 = y ∧ p.2 = z) ∨ (p.2 = y ∧ p.1 = z) := by
  unfold adjB
  rw [List.any_eq_true]
  simp
theorem near_adj {ls : List (Str × Str)} {n z : Str} : z ∈ near ls n ↔ adjB ls n z = true := by
  rw [adj_mem]
  unfold near
  rw [List.mem_append, List.mem_map, List.mem_map]
  constructor
  · rintro (⟨p, hp, rfl⟩ | ⟨p, hp, rfl⟩)
    · exact ⟨p, (List.mem_filter.mp hp).1, .inl ⟨of_decide_eq_true (List.mem_filter.mp hp).2, rfl⟩⟩
    · exact ⟨p, (List.mem_filter.mp hp).1, .inr ⟨of_decide_eq_true (List.mem_filter.mp hp).2, rfl⟩⟩
  · rintro ⟨p, hp, ⟨h1, h2⟩ | ⟨h1, h2⟩⟩
    · exact .inl ⟨p, List.mem_filter.mpr ⟨hp, decide_eq_true h1⟩, h2⟩
    · exact .inr ⟨p, List.mem_filter.mpr ⟨hp, decide_eq_true h1⟩, h2⟩
theorem nbrs_adj {ls : List (Str × Str)} {n z : Str} : z ∈ nbrs ls n ↔ adjB ls n z = true := by
  have := near_perm n ls []
  rw [List.nil_append] at this
  rw [← near_adj]
  exact this.mem_iff
/-- the table behind t steps from a -/
def tb (ls : List (Str × Str)) (a : Str) : Nat → Str → Option Nat
  | 0, z => if z = a then some 0 else none
  | t + 1, z => match tb ls a t z with
    | some d => some d
    | none => if (ls.any fun p => (decide (tb ls a t p.1 = some t) && decide (p.2 = z)) || (decide (tb ls a t p.2 = some t) && decide (p.1 = z))) = true then some (t + 1) else none
section
variable {ls : List (Str × Str)} {a : Str}
theorem tb_new {t : Nat} {z : Str} : (ls.any fun p => (decide (tb ls a t p.1 = some t) && decide (p.2 = z)) || (decide (tb ls a t p.2 = some t) && decide (p.1 = z))) = true ↔ ∃ y, tb ls a t y = some t ∧ adjB ls y z = true := by
  rw [List.any_eq_true]
  constructor
  · rintro ⟨p, hp, h⟩
    rw [Bool.or_eq_true, Bool.and_eq_true, Bool.and_eq_true, decide_eq_true_iff, decide_eq_true_iff, decide_eq_true_iff, decide_eq_true_iff] at h
    rcases h with ⟨h1, h2⟩ | ⟨h1, h2⟩
    · exact ⟨p.1, h1, adj_mem.mpr ⟨p, hp, .inl ⟨rfl, h2⟩⟩⟩
    · exact ⟨p.2, h1, adj_mem.mpr ⟨p, hp, .inr ⟨rfl, h2⟩⟩⟩
  · rintro ⟨y, h1, h2⟩
    obtain ⟨p, hp, ⟨h3, h4⟩ | ⟨h3, h4⟩⟩ := adj_mem.mp h2
    · exact ⟨p, hp, by rw [h3, h1, h4]; simp⟩
    · exact ⟨p, hp, by rw [h3, h1, h4]; simp⟩
theorem tb_keep {t d : Nat} {z : Str} (h : tb ls a t z = some d) : tb ls a (t + 1) z = some d := by
  rw [tb, h]
theorem tb_none {t : Nat} {z : Str} (h : tb ls a t z = none) : tb ls a (t + 1) z = if (ls.any fun p => (decide (tb ls a t p.1 = some t) && decide (p.2 = z)) || (decide (tb ls a t p.2 = some t) && decide (p.1 = z))) = true then some (t + 1) else none := by
  rw [tb, h]
theorem tb_le : ∀ {t d : Nat} {z : Str}, tb ls a t z = some d → d ≤ t
  | 0, d, z, h => by
    rw [tb] at h
    split at h
    · cases h; omega
    · cases h
  | t + 1, d, z, h => by
    cases e : tb ls a t z with
    | some d2 =>
      rw [tb_keep e] at h
      cases h
      have := tb_le e
      omega
    | none =>
      rw [tb_none e] at h
      split at h
      · cases h; omega
      · cases h
/-- level t+1 comes from level t -/
theorem tb_pre {t : Nat} {z : Str} (h : tb ls a (t + 1) z = some (t + 1)) : tb ls a t z = none ∧ ∃ y, tb ls a t y = some t ∧ adjB ls y z = true := by
  cases e : tb ls a t z with
  | some d2 =>
    rw [tb_keep e] at h
    cases h
    have := tb_le e
    omega
  | none =>
    rw [tb_none e] at h
    split at h
    · exact ⟨rfl, tb_new.mp (by assumption)⟩
    · cases h
theorem tb_stab {t : Nat} (h : ∀ z, tb ls a t z ≠ some t) : ∀ k z, tb ls a (t + k) z = tb ls a t z ∧ tb ls a (t + k) z ≠ some (t + k)
  | 0, z => ⟨rfl, h z⟩
  | k + 1, z => by
    have ih := tb_stab h k
    have e : tb ls a (t + k + 1) z = tb ls a (t + k) z := by
      cases e : tb ls a (t + k) z with
      | some d => exact tb_keep e
      | none =>
        rw [tb_none e, if_neg]
        intro hn
        obtain ⟨y, hy, _⟩ := tb_new.mp hn
        exact (ih y).2 hy
    have e2 : tb ls a (t + (k + 1)) z = tb ls a (t + k) z := e
    refine ⟨e2.trans (ih z).1, fun h2 => ?_⟩
    rw [e2] at h2
    have := tb_le h2
    omega
/-- distinct names, one for each level -/
theorem tb_names {N : List Str} (ha : a ∈ N) (hl : ∀ p ∈ ls, p.1 ∈ N ∧ p.2 ∈ N) : ∀ (t : Nat) (z : Str), tb ls a t z = some t → ∃ ys : List Str, ys.length = t + 1 ∧ ys.Nodup ∧ (∀ y ∈ ys, y ∈ N) ∧ ∀ y ∈ ys, tb ls a t y ≠ none
  | 0, z, h => ⟨[a], rfl, by simp, fun y hy => by rw [List.mem_singleton.mp hy]; exact ha, fun y hy => by rw [List.mem_singleton.mp hy, tb, if_pos rfl]; simp⟩
  | t + 1, z, h => by
    obtain ⟨h0, y, h1, h2⟩ := tb_pre h
    obtain ⟨ys, e1, e2, e3, e4⟩ := tb_names ha hl t y h1
    refine ⟨z :: ys, by rw [List.length_cons, e1], List.nodup_cons.mpr ⟨fun hz => e4 z hz h0, e2⟩, fun x hx => ?_, fun x hx => ?_⟩
    · rcases List.mem_cons.mp hx with rfl | hx
      · obtain ⟨p, hp, ⟨_, h4⟩ | ⟨_, h4⟩⟩ := adj_mem.mp h2
        · rw [← h4]; exact (hl p hp).2
        · rw [← h4]; exact (hl p hp).1
      · exact e3 x hx
    · rcases List.mem_cons.mp hx with rfl | hx
      · rw [h]; simp
      · cases e : tb ls a t x with
        | none => exact absurd e (e4 x hx)
        | some d => rw [tb_keep e]; simp
theorem tb_bound {N : List Str} (ha : a ∈ N) (hl : ∀ p ∈ ls, p.1 ∈ N ∧ p.2 ∈ N) {t : Nat} {z : Str} (h : tb ls a t z = some t) : t + 1 ≤ N.length := by
  obtain ⟨ys, e1, e2, e3, _⟩ := tb_names ha hl t z h
  rw [← e1]
  exact nodup_len ys N e2 e3
/-- the table that stands -/
theorem tb_last {N : List Str} (ha : a ∈ N) (hl : ∀ p ∈ ls, p.1 ∈ N ∧ p.2 ∈ N) {t : Nat} (h : ∀ z, tb ls a t z ≠ some t) (z : Str) : tb ls a t z = tb ls a (N.length - 1) z := by
  have hpos : 0 < N.length := List.length_pos_iff.mpr fun e => by rw [e] at ha; cases ha
  have hN : ∀ z, tb ls a N.length z ≠ some N.length := fun z hz => by
    have := tb_bound ha hl hz
    omega
  have e0 : tb ls a N.length z = tb ls a (N.length - 1) z := by
    have e : N.length = N.length - 1 + 1 := by omega
    cases e1 : tb ls a (N.length - 1) z with
    | some d => rw [e]; exact tb_keep e1
    | none =>
      cases e2 : tb ls a N.length z with
      | none => rfl
      | some d =>
        have e3 := e2
        rw [e, tb_none e1] at e3
        split at e3
        · cases e3
          exact absurd e2 (by rw [← e]; exact hN z)
        · cases e3
  by_cases hle : t ≤ N.length
  · have := (tb_stab h (N.length - t) z).1
    rw [Nat.add_sub_cancel' hle] at this
    rw [← this, e0]
  · have := (tb_stab hN (t - N.length) z).1
    rw [Nat.add_sub_cancel' (by omega)] at this
    rw [this, e0]
end
/-- the way to z from a, with n names -/
def dst (ls : List (Str × Str)) (a : Str) (n : Nat) (z : Str) : Option Nat := tb ls a (n - 1) z
structure Net (ls : List (Str × Str)) (N : List Str) : Prop where
  ends : ∀ p ∈ ls, p.1 ∈ N ∧ p.2 ∈ N
  ok : ∀ z ∈ N, sOk z
  nl : ls.length ≤ 100000
  nn : N.length ≤ 1000
section
variable {ls : List (Str × Str)} {a : Str} {N : List Str}
theorem dst_stand (ha : a ∈ N) (hN : Net ls N) : ∀ k z, N.length - 1 ≤ k → tb ls a k z = dst ls a N.length z := fun k z hk => by
  have hpos : 0 < N.length := List.length_pos_iff.mpr fun e => by rw [e] at ha; cases ha
  by_cases e : k = N.length - 1
  · rw [e]; rfl
  · exact tb_last ha hN.ends (fun z hz => by have := tb_bound ha hN.ends hz; omega) z
theorem dst_in (ha : a ∈ N) (hN : Net ls N) {z : Str} {d : Nat} (h : dst ls a N.length z = some d) : z ∈ N := by
  unfold dst at h
  generalize N.length - 1 = t at h
  induction t generalizing d with
  | zero =>
    rw [tb] at h
    split at h
    · subst_vars; exact ha
    · cases h
  | succ t ih =>
    cases e : tb ls a t z with
    | some d2 => exact ih e
    | none =>
      rw [tb_none e] at h
      split at h
      · next hn =>
        obtain ⟨y, _, h2⟩ := tb_new.mp hn
        obtain ⟨p, hp, ⟨_, h4⟩ | ⟨_, h4⟩⟩ := adj_mem.mp h2
        · rw [← h4]; exact (hN.ends p hp).2
        · rw [← h4]; exact (hN.ends p hp).1
      · cases h
theorem dst_self (ha : a ∈ N) (hN : Net ls N) : dst ls a N.length a = some 0 := by
  unfold dst
  generalize N.length - 1 = t
  induction t with
  | zero => rw [tb, if_pos rfl]
  | succ t ih => exact tb_keep ih
theorem dst_zero (ha : a ∈ N) (hN : Net ls N) {z : Str} (h : dst ls a N.length z = some 0) : z = a := by
  unfold dst at h
  generalize N.length - 1 = t at h
  induction t with
  | zero =>
    rw [tb] at h
    split at h
    · assumption
    · cases h
  | succ t ih =>
    cases e : tb ls a t z with
    | some d2 => rw [tb_keep e] at h; cases h; exact ih e
    | none =>
      rw [tb_none e] at h
      split at h
      · cases h
      · cases h
/-- levels of a final table: each is reached at its own step -/
theorem tb_own : ∀ {t d : Nat} {z : Str}, tb ls a t z = some d → tb ls a d z = some d
  | 0, d, z, h => by
    have := tb_le h
    have e : d = 0 := by omega
    subst e
    exact h
  | t + 1, d, z, h => by
    cases e : tb ls a t z with
    | some d2 =>
      rw [tb_keep e] at h
      cases h
      exact tb_own e
    | none =>
      have h2 := h
      rw [tb_none e] at h
      split at h
      · cases h; exact h2
      · cases h
theorem tb_mono {t k d : Nat} {z : Str} (h : tb ls a t z = some d) : tb ls a (t + k) z = some d := by
  induction k with
  | zero => exact h
  | succ k ih => exact tb_keep ih
theorem dst_pre (ha : a ∈ N) (hN : Net ls N) {z : Str} {d : Nat} (h : dst ls a N.length z = some (d + 1)) : ∃ y, dst ls a N.length y = some d ∧ adjB ls z y = true := by
  obtain ⟨_, y, h1, h2⟩ := tb_pre (tb_own h)
  have hle := tb_le h
  refine ⟨y, ?_, ?_⟩
  · have := tb_mono (k := N.length - 1 - d) h1
    rwa [Nat.add_sub_cancel' (by omega)] at this
  · obtain ⟨p, hp, ⟨h3, h4⟩ | ⟨h3, h4⟩⟩ := adj_mem.mp h2
    · exact adj_mem.mpr ⟨p, hp, .inr ⟨h4, h3⟩⟩
    · exact adj_mem.mpr ⟨p, hp, .inl ⟨h4, h3⟩⟩
/-- who is beside a found one is found -/
theorem dst_closed (ha : a ∈ N) (hN : Net ls N) {y z : Str} (h : dst ls a N.length y ≠ none) (hz : adjB ls y z = true) : dst ls a N.length z ≠ none := fun e => by
  cases e1 : dst ls a N.length y with
  | none => exact h e1
  | some d =>
    have h1 := tb_own e1
    have e2 : tb ls a (d + 1) z ≠ none := fun e3 => by
      cases e4 : tb ls a d z with
      | some k => rw [tb_keep e4] at e3; cases e3
      | none =>
        rw [tb_none e4, if_pos (tb_new.mpr ⟨y, h1, hz⟩)] at e3
        cases e3
    cases e5 : tb ls a (d + 1) z with
    | none => exact e2 e5
    | some k =>
      have := tb_mono (k := N.length - 1) e5
      have e6 := dst_stand ha hN (d + 1 + (N.length - 1)) z (by omega)
      rw [this, e] at e6
      cases e6
end
/-! ways back -/
theorem adj_symm {ls : List (Str × Str)} {y z : Str} (h : adjB ls y z = true) : adjB ls z y = true := by
  obtain ⟨p, hp, ⟨h3, h4⟩ | ⟨h3, h4⟩⟩ := adj_mem.mp h
  · exact adj_mem.mpr ⟨p, hp, .inr ⟨h4, h3⟩⟩
  · exact adj_mem.mpr ⟨p, hp, .inl ⟨h4, h3⟩⟩
inductive Wk (ls : List (Str × Str)) (x : Str) : Nat → Str → Prop
  | nil : Wk ls x 0 x
  | snoc {n : Nat} {y z : Str} : Wk ls x n y → adjB ls y z = true → Wk ls x (n + 1) z
theorem Wk.cons {ls : List (Str × Str)} {x y : Str} (h : adjB ls x y = true) : ∀ {n : Nat} {z : Str}, Wk ls y n z → Wk ls x (n + 1) z
  | _, _, .nil => .snoc .nil h
  | _, _, .snoc w a => .snoc (Wk.cons h w) a
theorem Wk.rev {ls : List (Str × Str)} {x : Str} : ∀ {n : Nat} {z : Str}, Wk ls x n z → Wk ls z n x
  | _, _, .nil => .nil
  | _, _, .snoc w a => Wk.cons (adj_symm a) w.rev
theorem wk_of {ls : List (Str × Str)} {a : Str} : ∀ {d : Nat} {z : Str}, tb ls a d z = some d → Wk ls a d z
  | 0, z, h => by
    rw [tb] at h
    split at h
    · subst_vars; exact .nil
    · cases h
  | d + 1, z, h => by
    obtain ⟨_, y, h1, h2⟩ := tb_pre h
    exact .snoc (wk_of h1) h2
theorem of_wk {ls : List (Str × Str)} {a : Str} : ∀ {n : Nat} {z : Str}, Wk ls a n z → ∃ d, d ≤ n ∧ tb ls a n z = some d
  | _, _, .nil => ⟨0, Nat.le_refl _, by rw [tb, if_pos rfl]⟩
  | n + 1, z, .snoc (y := y) w ha => by
    obtain ⟨d, hd, e⟩ := of_wk w
    have h1 := tb_own e
    have h2 : ∃ k, tb ls a (d + 1) z = some k := by
      cases e4 : tb ls a d z with
      | some k => exact ⟨k, tb_keep e4⟩
      | none => exact ⟨_, by rw [tb_none e4, if_pos (tb_new.mpr ⟨y, h1, ha⟩)]⟩
    obtain ⟨k, hk⟩ := h2
    have := tb_le hk
    refine ⟨k, by omega, ?_⟩
    have := tb_mono (k := n - d) hk
    rwa [show d + 1 + (n - d) = n + 1 by omega] at this
theorem dst_symm {ls : List (Str × Str)} {N : List Str} {x y : Str} (hx : x ∈ N) (hy : y ∈ N) (hN : Net ls N) : dst ls x N.length y = dst ls y N.length x := by
  have one : ∀ {x y : Str}, x ∈ N → y ∈ N → ∀ d, dst ls x N.length y = some d → ∃ d', d' ≤ d ∧ dst ls y N.length x = some d' := fun {x y} hx hy d h => by
    obtain ⟨d', h1, h2⟩ := of_wk (wk_of (tb_own h)).rev
    refine ⟨d', h1, ?_⟩
    have := tb_mono (k := N.length - 1) h2
    rw [dst_stand hy hN _ _ (by omega)] at this
    exact this
  cases e : dst ls x N.length y with
  | some d =>
    obtain ⟨d', h1, h2⟩ := one hx hy d e
    obtain ⟨d2, h3, h4⟩ := one hy hx d' h2
    rw [e] at h4
    cases h4
    rw [h2]
    congr 1
    omega
  | none =>
    cases e2 : dst ls y N.length x with
    | none => rfl
    | some d =>
      obtain ⟨d', _, h2⟩ := one hy hx d e2
      rw [e] at h2
      cases h2
/-- one nearer -/
def nxB (ls : List (Str × Str)) (go : Str) (n : Nat) (h z : Str) : Bool := match dst ls go n h with
  | some (d + 1) => decide (dst ls go n z = some d)
  | _ => false
/-! a step of the law's own spread -/
def mS (ls : List (Str × Str)) (a : Str) (t : Nat) (S : Str → Bool) (z : Str) : Option Nat := match tb ls a t z with
  | some d => some d
  | none => if S z = true then some (t + 1) else none
theorem mS_old {ls : List (Str × Str)} {a : Str} {t : Nat} {S : Str → Bool} {z : Str} {d : Nat} (h : tb ls a t z = some d) : mS ls a t S z = some d := by
  unfold mS; rw [h]
theorem mS_new {ls : List (Str × Str)} {a : Str} {t : Nat} {S : Str → Bool} {z : Str} (h : tb ls a t z = none) : mS ls a t S z = if S z = true then some (t + 1) else none := by
  unfold mS; rw [h]
theorem mS_lvl {ls : List (Str × Str)} {a : Str} {t : Nat} {S : Str → Bool} {z : Str} : mS ls a t S z = some t ↔ tb ls a t z = some t := by
  cases h : tb ls a t z with
  | some d => rw [mS_old h]
  | none =>
    rw [mS_new h]
    by_cases hs : S z = true
    · rw [if_pos hs]; simp
    · rw [if_neg hs]
/-! dictionaries of ways -/
def Rp (kvs : List (L2.Key × D)) (f : Str → Option Nat) : Prop := ∀ z, getD kvs (.inr z) = (f z).map fun (d : Nat) => D.int d
theorem Rp.put {kvs : List (L2.Key × D)} {f f' : Str → Option Nat} (h : Rp kvs f) (z : Str) (k : Nat) (he : ∀ y, f' y = if y = z then some k else f y) : Rp (putD kvs (.inr z) (.int k)) f' := fun y => by
  rw [getD_put, he y]
  by_cases e : y = z
  · rw [if_pos e, if_pos (by rw [e])]; rfl
  · rw [if_neg e, if_neg (fun e2 => e (by injection e2)), h y]
def midT (ls : List (Str × Str)) (a : Str) (t : Nat) (fur : List Str) (z : Str) : Option Nat := match tb ls a t z with
  | some d => some d
  | none => if z ∈ fur then some (t + 1) else none
theorem mS_tb (ls : List (Str × Str)) (a : Str) (t : Nat) : mS ls a t (fun z => ls.any fun p => (decide (tb ls a t p.1 = some t) && decide (p.2 = z)) || (decide (tb ls a t p.2 = some t) && decide (p.1 = z))) = tb ls a (t + 1) := funext fun z => by
  cases h : tb ls a t z with
  | some d => rw [mS_old h, tb_keep h]
  | none => rw [mS_new h, tb_none h]
theorem mS_zero (ls : List (Str × Str)) (a : Str) (t : Nat) : mS ls a t (fun _ => false) = tb ls a t := funext fun z => by
  cases h : tb ls a t z with
  | some d => rw [mS_old h]
  | none => rw [mS_new h]; rfl
/-- one look of the spread: from x to y -/
theorem mS_look {ls : List (Str × Str)} {a : Str} {t : Nat} {S S' : Str → Bool} {x y : Str} {kvs : List (L2.Key × D)} (hR : Rp kvs (mS ls a t S)) (hS : ∀ z, S' z = (S z || (decide (tb ls a t x = some t) && decide (y = z)))) :
    (tb ls a t x = some t ∧ mS ls a t S y = none → Rp (putD kvs (.inr y) (.int ((t + 1 : Nat) : Int))) (mS ls a t S')) ∧ (¬ (tb ls a t x = some t ∧ mS ls a t S y = none) → Rp kvs (mS ls a t S')) := by
  constructor
  · rintro ⟨h1, h2⟩
    have hy : tb ls a t y = none := by
      cases h : tb ls a t y with
      | some d => rw [mS_old h] at h2; cases h2
      | none => rfl
    refine Rp.put hR y (t + 1) fun z => ?_
    by_cases hz : z = y
    · subst hz
      rw [if_pos rfl, mS_new hy, hS, h1]
      simp
    · rw [if_neg hz]
      cases h : tb ls a t z with
      | some d => rw [mS_old h, mS_old h]
      | none =>
        rw [mS_new h, mS_new h, hS, decide_eq_false (p := y = z) (fun e => hz e.symm), Bool.and_false, Bool.or_false]
  · intro hn z
    rw [hR z]
    congr 1
    cases h : tb ls a t z with
    | some d => rw [mS_old h, mS_old h]
    | none =>
      rw [mS_new h, mS_new h, hS]
      by_cases hx : tb ls a t x = some t
      · by_cases hy : y = z
        · subst hy
          have h2 : mS ls a t S y ≠ none := fun e => hn ⟨hx, e⟩
          rw [mS_new h] at h2
          by_cases hs : S y = true
          · rw [hs]; rfl
          · rw [if_neg hs] at h2; exact absurd rfl h2
        · rw [decide_eq_false hy, Bool.and_false, Bool.or_false]
      · rw [decide_eq_false hx, Bool.false_and, Bool.or_false]
theorem midT_nil (ls : List (Str × Str)) (a : Str) (t : Nat) : midT ls a t [] = tb ls a t := funext fun z => by
  unfold midT
  split
  · next h => rw [h]
  · next h => rw [h]; rfl
theorem midT_old {ls : List (Str × Str)} {a : Str} {t : Nat} {fur : List Str} {z : Str} {d : Nat} (h : tb ls a t z = some d) : midT ls a t fur z = some d := by
  unfold midT; rw [h]
theorem midT_new {ls : List (Str × Str)} {a : Str} {t : Nat} {fur : List Str} {z : Str} (h : tb ls a t z = none) : midT ls a t fur z = if z ∈ fur then some (t + 1) else none := by
  unfold midT; rw [h]
/-- when all from the edge is done, the table is that of the next step -/
theorem midT_end {ls : List (Str × Str)} {a : Str} {t : Nat} {fur : List Str} (h1 : ∀ z ∈ fur, tb ls a t z = none ∧ ∃ y, tb ls a t y = some t ∧ adjB ls y z = true) (h2 : ∀ y, tb ls a t y = some t → ∀ z, adjB ls y z = true → tb ls a t z ≠ none ∨ z ∈ fur) :
    midT ls a t fur = tb ls a (t + 1) ∧ ∀ z, z ∈ fur ↔ tb ls a (t + 1) z = some (t + 1) := by
  have key : ∀ z, tb ls a t z = none → (z ∈ fur ↔ ∃ y, tb ls a t y = some t ∧ adjB ls y z = true) := fun z hz =>
    ⟨fun h => (h1 z h).2, fun ⟨y, hy, ha⟩ => (h2 y hy z ha).resolve_left fun hn => hn hz⟩
  have e : ∀ z, midT ls a t fur z = tb ls a (t + 1) z := fun z => by
    cases hz : tb ls a t z with
    | some d => rw [midT_old hz, tb_keep hz]
    | none =>
      rw [midT_new hz, tb_none hz]
      by_cases hm : z ∈ fur
      · rw [if_pos hm, if_pos (tb_new.mpr ((key z hz).mp hm))]
      · rw [if_neg hm, if_neg fun h => hm ((key z hz).mpr (tb_new.mp h))]
  refine ⟨funext e, fun z => ⟨fun hm => ?_, fun h => ?_⟩⟩
  · rw [← e z, midT_new (h1 z hm).1, if_pos hm]
  · obtain ⟨h3, h4⟩ := tb_pre h
    exact (key z h3).mpr h4
/-! the least of some texts -/
def IsMin (l : List Str) : Option Str → Prop
  | none => l = []
  | some m => m ∈ l ∧ ∀ y ∈ l, ¬ y.cps.toList < m.cps.toList
theorem isMin_unique {l l' : List Str} {o o' : Option Str} (hl : ∀ z, z ∈ l ↔ z ∈ l') (h : IsMin l o) (h' : IsMin l' o') : o = o' := by
  cases o with
  | none => cases o' with
    | none => rfl
    | some m =>
      have := (hl m).mpr h'.1
      rw [h] at this
      cases this
  | some m => cases o' with
    | none =>
      have := (hl m).mp h.1
      rw [h'] at this
      cases this
    | some k =>
      have h1 := h.2 k ((hl k).mpr h'.1)
      have h2 := h'.2 m ((hl m).mp h.1)
      have e : m.cps.toList = k.cps.toList := List.le_antisymm (List.not_lt.mp h1) (List.not_lt.mp h2)
      rw [TL.ext_tl e]
end DL

namespace DL
open PySem PySem.Spec PyProof.Rows L2
open TL (tl)
/-! ### sorted of a dictionary -/
def sortI (ks : List Int) : List D := (ks.map D.int).mergeSort leP
theorem leP_int (a b : Int) : leP (.int a) (.int b) = decide (a ≤ b) := by
  show (!PySem.W.dataLt (.int b) (.int a)) = _
  rw [PySem.W.dataLt_int]
  by_cases h : b < a
  · rw [decide_eq_true h, decide_eq_false (by omega)]; rfl
  · rw [decide_eq_false h, decide_eq_true (by omega)]; rfl
theorem sortI_perm {as bs : List Int} (h : as.Perm bs) : sortI as = sortI bs := sortD_perm (List.Perm.map _ h) fun a ha b hb e => by
  obtain ⟨x, _, rfl⟩ := List.mem_map.mp ha
  obtain ⟨y, _, rfl⟩ := List.mem_map.mp hb
  have h : [(Sum.inl x : Int ⊕ List Nat)] = [.inl y] := e
  injection h with h
  injection h with h
  rw [h]
theorem sortI_of {ys : List Int} (h : ys.Pairwise (· ≤ ·)) : sortI ys = ys.map D.int := by
  unfold sortI
  refine List.mergeSort_of_pairwise ?_
  rw [List.pairwise_map]
  exact h.imp fun {a b} hab => by rw [leP_int]; exact decide_eq_true hab
theorem rising_pw : ∀ {ys : List Str} {x : Str}, risingS x ys = true → (x :: ys).Pairwise fun a b => leP (.str a) (.str b) = true
  | [], x, _ => List.pairwise_singleton ..
  | y :: ys, x, h => by
    rw [risingS, Bool.and_eq_true] at h
    have ih := rising_pw h.2
    refine List.pairwise_cons.mpr ⟨fun z hz => ?_, ih⟩
    have h1 : leP (.str x) (.str y) = true := by
      rw [leP_str, ← ltCps_eq]
      exact h.1
    rcases List.mem_cons.mp hz with rfl | hz
    · exact h1
    · exact leP_trans _ _ _ h1 ((List.pairwise_cons.mp ih).1 z hz)
theorem sortedS_pw : ∀ {ys : List Str}, sortedS ys = true → ys.Pairwise fun a b => leP (.str a) (.str b) = true
  | [], _ => .nil
  | x :: ys, h => rising_pw h
theorem sortS_of {ys : List Str} (h : ys.Pairwise fun a b => leP (.str a) (.str b) = true) : sortS ys = ys.map D.str := by
  unfold sortS
  refine List.mergeSort_of_pairwise ?_
  rw [List.pairwise_map]
  exact h
section
variable {X : Cx} {K : PySem.W.Frag} {H : Hp}
def sortedKD : DRC := fun xs g Q => match xs with
  | [.ref p] => ∃ kvs, g p = some (.dct kvs) ∧ ((∃ ks : List Str, kvs.map (·.1) = ks.map Sum.inr ∧ ks.length < 64 ∧ ∀ r, g r = none → Q (.ref r) (gup g r (.lst (sortS ks)))) ∨
      ∃ ks : List Int, kvs.map (·.1) = ks.map Sum.inl ∧ ks.length < 64 ∧ ∀ r, g r = none → Q (.ref r) (gup g r (.lst (sortI ks))))
  | _ => False
theorem call_sortedKD (hc : X.calm = true) : CallR X (.builtin "sorted") (lRC X.K sortedKD) := fun pins s σ H xs us Q I rs ⟨ds, g, Qd, l, rg, q, k⟩ => by
  rcases l with _ | ⟨r1, _ | ⟨r2, l⟩⟩
  · exact q.elim
  · cases r1 with
    | ref p =>
      obtain ⟨kvs, hp, q⟩ := q
      obtain ⟨vs, hH, rk⟩ := rg.dct hp
      have ek := rk.keys
      rcases q with ⟨ks, e, h64, q⟩ | ⟨ks, e, h64, q⟩
      · refine L2.call_sortedD hc pins s σ H _ us Q I rs ⟨p, vs, ks, rfl, .inl hH, by rw [ek, e], h64, fun ys r hy hs hr => ?_⟩
        have e2 : ys.map D.str = sortS ks := by rw [← sortS_of (sortedS_pw hs), sortS_perm hy]
        refine rg.finL k hr (ds := sortS ks) ?_ q
        rw [← e2]
        exact RepL.ofStrs ys
      · refine L2.call_sortedDI hc pins s σ H _ us Q I rs ⟨p, vs, ks, rfl, .inl hH, by rw [ek, e], h64, fun ys r hy hs hr => ?_⟩
        have e2 : ys.map D.int = sortI ks := by rw [← sortI_of hs, sortI_perm hy]
        refine rg.finL k hr (ds := sortI ks) ?_ q
        rw [← e2]
        exact RepL.ofInts ys
    | _ => exact q.elim
  · cases r1 <;> exact q.elim
end
end DL

namespace DL
open PySem PySem.Spec PyProof.Rows L2
open TL (tl)
/-! ### lists of members -/
structure ListR where
  addr : Str
  board : Option Str
  mem : List Str
abbrev ListR.d (l : ListR) : D := .tup [.str "list", .str l.addr, optD l.board, .tup (l.mem.map D.str)]
def listAt (ls : List ListR) (z : Str) : Option ListR := ls.find? fun l => decide (l.addr = z)
def homeOf (z : Str) : Str := match Txt.split z "@" with
  | [_, b] => b
  | _ => ""
structure AddrS (z : Str) : Prop where
  two : ∃ a, Txt.split z "@" = [a, homeOf z]
  len : (tl z).length ≤ 1000
  ok : sOk z
structure PartS (z : Str) : Prop where
  chr : ∀ c ∈ tl z, c ≠ 64 ∧ c < 1114112
  len : (tl z).length ≤ 20
theorem NameOk.part {z : Str} (h : NameOk z) : PartS z := ⟨fun c hc => by
  have := h.chars c hc
  unfold low dig at this
  omega, by have := h.len; omega⟩
theorem addrS_mk {p h : Str} (hp : PartS p) (hh : PartS h) : AddrS (p ++ ("@" : Str) ++ h) ∧ homeOf (p ++ ("@" : Str) ++ h) = h := by
  have e1 : tl ("@" : Str) = [64] := by decide +kernel
  have e : p ++ ("@" : Str) ++ h = Txt.join "@" [p, h] := TL.ext_tl (by
    rw [TL.join_eq, TL.tl_join, TL.tl_append, TL.tl_append]
    show _ = tl p ++ (tl ("@" : Str) ++ tl h)
    rw [List.append_assoc])
  have hs : Txt.split (p ++ ("@" : Str) ++ h) "@" = [p, h] := by
    rw [e]
    exact TL.split_join (s := 64) (S := []) (by decide +kernel) (by decide +kernel) (by simp) fun w hw hm => by
      simp only [List.mem_cons, List.not_mem_nil, or_false] at hw
      rcases hw with rfl | rfl
      · exact (hp.chr 64 hm).1 rfl
      · exact (hh.chr 64 hm).1 rfl
  have hhome : homeOf (p ++ ("@" : Str) ++ h) = h := by
    unfold homeOf
    rw [hs]
  have l1 := hp.len
  have l2 := hh.len
  refine ⟨⟨⟨p, by rw [hhome]; exact hs⟩, ?_, sOk_of fun c hc => ?_⟩, hhome⟩
  · rw [TL.tl_append, TL.tl_append, List.length_append, List.length_append, e1, List.length_singleton]
    omega
  · rw [TL.tl_append, TL.tl_append, e1] at hc
    rcases List.mem_append.mp hc with hc | hc
    · rcases List.mem_append.mp hc with hc | hc
      · exact (hp.chr c hc).2
      · rw [List.mem_singleton.mp hc]; omega
    · exact (hh.chr c hc).2
/-- keys of a dictionary -/
theorem getD_some (kvs : List (L2.Key × D)) (k : L2.Key) : (getD kvs k).isSome = true ↔ k ∈ kvs.map (·.1) := by
  unfold getD
  rw [Option.isSome_map, List.find?_isSome, List.mem_map]
  constructor
  · rintro ⟨x, hx, e⟩
    exact ⟨x, hx, of_decide_eq_true e⟩
  · rintro ⟨x, hx, e⟩
    exact ⟨x, hx, decide_eq_true e⟩
theorem putD_any (kvs : List (L2.Key × D)) (k : L2.Key) : (kvs.any fun kv => decide (kv.1 = k)) = true ↔ k ∈ kvs.map (·.1) := by
  rw [List.any_eq_true, List.mem_map]
  constructor
  · rintro ⟨x, hx, e⟩
    exact ⟨x, hx, of_decide_eq_true e⟩
  · rintro ⟨x, hx, e⟩
    exact ⟨x, hx, decide_eq_true e⟩
theorem putD_old {kvs : List (L2.Key × D)} {k : L2.Key} (h : k ∈ kvs.map (·.1)) (v : D) : (putD kvs k v).map (·.1) = kvs.map (·.1) := by
  unfold putD
  rw [if_pos ((putD_any kvs k).mpr h), List.map_map]
  apply List.map_congr_left
  intro a _
  show (if a.1 = k then (a.1, v) else a).1 = a.1
  split <;> rfl
theorem putD_add {kvs : List (L2.Key × D)} {k : L2.Key} (h : k ∉ kvs.map (·.1)) (v : D) : (putD kvs k v).map (·.1) = kvs.map (·.1) ++ [k] := by
  unfold putD
  rw [if_neg fun e => h ((putD_any kvs k).mp e), List.map_append]
  rfl
abbrev Ky (kvs : List (L2.Key × D)) (ms : List Str) : Prop := kvs.map (·.1) = ms.map Sum.inr
theorem inr_mem {ms : List Str} {z : Str} : (Sum.inr z : L2.Key) ∈ ms.map (Sum.inr : Str → L2.Key) ↔ z ∈ ms := by
  rw [List.mem_map]
  constructor
  · rintro ⟨x, hx, e⟩
    injection e with e
    rw [← e]; exact hx
  · intro h
    exact ⟨z, h, rfl⟩
theorem Ky.has {kvs : List (L2.Key × D)} {ms : List Str} (h : Ky kvs ms) (z : Str) : (getD kvs (.inr z)).isSome = decide (z ∈ ms) := by
  have e := getD_some kvs (.inr z)
  have h : kvs.map (·.1) = ms.map Sum.inr := h
  rw [h] at e
  have e2 := e.trans inr_mem
  by_cases hz : z ∈ ms
  · rw [decide_eq_true hz]; exact e2.mpr hz
  · rw [decide_eq_false hz]
    exact Bool.eq_false_iff.mpr fun h => hz (e2.mp h)
theorem Ky.put_old {kvs : List (L2.Key × D)} {ms : List Str} (h : Ky kvs ms) {z : Str} (hz : z ∈ ms) (v : D) : Ky (putD kvs (.inr z) v) ms := by
  have h : kvs.map (·.1) = ms.map Sum.inr := h
  show (putD kvs (.inr z) v).map (·.1) = _
  rw [putD_old (by rw [h]; exact inr_mem.mpr hz), h]
theorem Ky.put_new {kvs : List (L2.Key × D)} {ms : List Str} (h : Ky kvs ms) {z : Str} (hz : z ∉ ms) (v : D) : Ky (putD kvs (.inr z) v) (ms ++ [z]) := by
  have h : kvs.map (·.1) = ms.map Sum.inr := h
  show (putD kvs (.inr z) v).map (·.1) = _
  rw [putD_add (by rw [h]; exact fun e => hz (inr_mem.mp e)), h, List.map_append]
  rfl
theorem Ky.len {kvs : List (L2.Key × D)} {ms : List Str} (h : Ky kvs ms) : kvs.length = ms.length := by
  have := congrArg List.length h
  rwa [List.length_map, List.length_map] at this
/-! who is met -/
section
variable (L : List ListR) (nb : Str → Str → Bool) (a : Str)
inductive Rch : Str → Prop
  | base : Rch a
  | step {l : ListR} {m : Str} : Rch l.addr → l ∈ L → m ∈ l.mem → nb l.addr m = true → m ∈ L.map ListR.addr → Rch m
def Ppl (m : Str) : Prop := ∃ l ∈ L, Rch L nb a l.addr ∧ m ∈ l.mem ∧ nb l.addr m = true ∧ m ∉ L.map ListR.addr
/-- list x is done: its near members are met or told -/
def Done (ms ps : List Str) (l : ListR) : Prop := ∀ m ∈ l.mem, nb l.addr m = true → (m ∈ L.map ListR.addr → m ∈ ms) ∧ (m ∉ L.map ListR.addr → m ∈ ps)
end
variable {L : List ListR} {nb : Str → Str → Bool} {a : Str}
theorem Done.mono {ms ms' ps ps' : List Str} {l : ListR} (h : Done L nb ms ps l) (h1 : ∀ x ∈ ms, x ∈ ms') (h2 : ∀ x ∈ ps, x ∈ ps') : Done L nb ms' ps' l := fun m hm hn => ⟨fun e => h1 _ ((h m hm hn).1 e), fun e => h2 _ ((h m hm hn).2 e)⟩
theorem ppl_of {ms ps : List Str} (ha : a ∈ ms) (hd : ∀ l ∈ L, l.addr ∈ ms → Done L nb ms ps l) (hp : ∀ p ∈ ps, Ppl L nb a p) : ∀ m, m ∈ ps ↔ Ppl L nb a m := fun m => by
  have hr : ∀ x, Rch L nb a x → x ∈ ms := fun x h => by
    induction h with
    | base => exact ha
    | step h1 h2 h3 h4 h5 ih => exact (hd _ h2 ih _ h3 h4).1 h5
  exact ⟨hp m, fun ⟨l, h1, h2, h3, h4, h5⟩ => (hd l h1 (hr _ h2) m h3 h4).2 h5⟩
theorem nodup_perm {as bs : List Str} (h1 : as.Nodup) (h2 : bs.Nodup) (h : ∀ m, m ∈ as ↔ m ∈ bs) : as.Perm bs := by
  rw [List.perm_iff_count]
  intro x
  rw [h1.count, h2.count]
  by_cases hx : x ∈ as
  · rw [if_pos hx, if_pos ((h x).mp hx)]
  · rw [if_neg hx, if_neg fun e => hx ((h x).mpr e)]
end DL

namespace DL
open PySem PySem.Spec PyProof.Rows L2
/-! ### instances of own classes -/
def putFd (f : Str) (v : D) : List (Str × D) → List (Str × D)
  | [] => [(f, v)]
  | (g, x) :: r => if g = f then (g, v) :: r else (g, x) :: putFd f v r
theorem lookup_putFd (f g : Str) (v : D) : ∀ fs : List (Str × D), (putFd f v fs).lookup g = if g = f then some v else fs.lookup g
  | [] => by
    show List.lookup g [(f, v)] = _
    by_cases h : g = f
    · have hb : (g == f) = true := beq_iff_eq.mpr h
      rw [if_pos h, List.lookup_cons, hb]
    · have hb : (g == f) = false := beq_eq_false_iff_ne.mpr h
      rw [if_neg h, List.lookup_cons, hb]
  | (k, x) :: r => by
    show List.lookup g (if k = f then (k, v) :: r else (k, x) :: putFd f v r) = _
    by_cases hk : k = f
    · rw [if_pos hk, List.lookup_cons, List.lookup_cons]
      by_cases h : g = f
      · have hb : (g == k) = true := beq_iff_eq.mpr (by rw [h, hk])
        rw [if_pos h, hb]
      · have hb : (g == k) = false := beq_eq_false_iff_ne.mpr (by rw [hk]; exact h)
        rw [if_neg h, hb]
    · rw [if_neg hk, List.lookup_cons, List.lookup_cons, lookup_putFd f g v r]
      by_cases h : g = f
      · have hb : (g == k) = false := beq_eq_false_iff_ne.mpr (by rw [h]; exact fun e => hk e.symm)
        rw [if_pos h, if_pos h, hb]
      · rw [if_neg h, if_neg h]
section
variable {X : Cx} {K : PySem.W.Frag} {H : Hp}
theorem RepF.look {f : Str} : ∀ {vs : List (Str × V)} {fs : List (Str × D)} {d : D}, RepF K H vs fs → fs.lookup f = some d → ∃ v, vs.lookup f = some v ∧ RepD K H v d
  | _, _, _, .nil, h => by cases h
  | _, _, d, .cons (a := (k, x)) (b := (k2, y)) (l₁ := vs) (l₂ := fs) h t, hl => by
    obtain ⟨e, r⟩ := h
    have e : k = k2 := e
    subst e
    rw [List.lookup_cons] at hl
    by_cases hb : (f == k) = true
    · rw [hb] at hl
      cases hl
      exact ⟨x, by rw [List.lookup_cons, hb], r⟩
    · have hb : (f == k) = false := by simpa using hb
      rw [hb] at hl
      obtain ⟨v, h1, h2⟩ := RepF.look t hl
      exact ⟨v, by rw [List.lookup_cons, hb]; exact h1, h2⟩
theorem RepF.look0 {f : Str} : ∀ {vs : List (Str × V)} {fs : List (Str × D)}, RepF K H vs fs → fs.lookup f = none → vs.lookup f = none
  | _, _, .nil, _ => rfl
  | _, _, .cons (a := (k, x)) (b := (k2, y)) (l₁ := vs) (l₂ := fs) h t, hl => by
    obtain ⟨e, r⟩ := h
    have e : k = k2 := e
    subst e
    rw [List.lookup_cons] at hl ⊢
    by_cases hb : (f == k) = true
    · rw [hb] at hl
      cases hl
    · have hb : (f == k) = false := by simpa using hb
      rw [hb] at hl ⊢
      exact RepF.look0 t hl
theorem RepF.put {f : Str} {v : V} {d : D} (r : RepD K H v d) : ∀ {vs : List (Str × V)} {fs : List (Str × D)}, RepF K H vs fs → RepF K H (putF f v vs) (putFd f d fs)
  | _, _, .nil => .cons ⟨rfl, r⟩ .nil
  | _, _, .cons (a := (k, x)) (b := (k2, y)) (l₁ := vs) (l₂ := fs) h t => by
    obtain ⟨e, r2⟩ := h
    have e : k = k2 := e
    subst e
    show RepF K H (if k = f then (k, v) :: vs else (k, x) :: putF f v vs) (if k = f then (k, d) :: fs else (k, y) :: putFd f d fs)
    by_cases hk : k = f
    · rw [if_pos hk, if_pos hk]
      exact .cons ⟨rfl, r⟩ t
    · rw [if_neg hk, if_neg hk]
      exact .cons ⟨rfl, r2⟩ (RepF.put r t)
theorem RepF.len {vs : List (Str × V)} {fs : List (Str × D)} (r : RepF K H vs fs) : vs.length = fs.length := PySem.Paired.length r
variable {o value e : Expr} {es : List Expr} {to tv : DTE} {t : DTA} {pos pos' apos p0 : Pos} {n f m x : Str} {k : Nat} {fa pa : Addr} {fd : FuncData} {ps : List Str} {sp : DSp}
/-- o.f -/
def dFld (n f : Str) (to : DTE) : DTE := fun e g Q => to e g fun x g1 => ∃ a fs d, x = .ref a ∧ g1 a = some (.ins n fs) ∧ fs.lookup f = some d ∧ Q d g1
theorem de_fld (c : Cls X.K (clsA X.K n)) (na : NoAttr X.K (clsA X.K n) f) (ho : DE X o to) (hb : attributeBase o f X.env (eval o X.env) = eval o X.env := by rfl) : DE X (.Attribute o f pos) (dFld n f to) := ⟨peW (pe_fld ho.pe hb) fun σ H Q ⟨e, g, Qd, re, rg, q, k⟩ =>
  ⟨e, g, _, re, rg, q, fun v d H1 g1 x1 rg1 r q1 => by
    obtain ⟨a, fs, d2, rfl, hg, hl, q2⟩ := q1
    cases r
    obtain ⟨dx, vs, hH, rf⟩ := rg1.ins hg
    obtain ⟨v2, hl2, r2⟩ := RepF.look rf hl
    exact ⟨a, _, dx, vs, v2, rfl, hH, c, na, hl2, rg1.fin (k.mono x1) r2 q2⟩⟩⟩
theorem RepG.setF {g : GS} (r : RepG K H g) {a : Addr} {dx : Addr} {ys : List (Str × V)} (hn : H a = some (.ins (clsA K n) dx ys)) {vs : List (Str × V)} {fs : List (Str × D)} (l : RepF K H vs fs) : RepG K (L2.upd H a (.ins (clsA K n) dx vs)) (gup g a (.ins n fs)) :=
  r.upd (.ins hn) ⟨dx, vs, upd_same .., RepF.mono (.ins hn) l⟩
/-- o.f = value -/
def dSFld (n f : Str) (to tv : DTE) : DTS := fun D e g => tv e g fun v g1 => to e g1 fun x g2 => ∃ a fs, x = .ref a ∧ g2 a = some (.ins n fs) ∧ fs.length < 1000 ∧ D.nx e (gup g2 a (.ins n (putFd f v fs)))
theorem ds_fld (c : Cls X.K (clsA X.K n)) (na : NoAttr X.K (clsA X.K n) f) (ho : DE X o to) (hv : DE X value tv) (hs : swapsWith value (some (.Attribute o f pos')) pos.line X.env = pure false := by rfl) : DS X (.Assign [.Attribute o f pos'] value pos) (dSFld n f to tv) := ⟨psW (ps_fld ho.pe hv.pe hs) fun D σ H ⟨e, g, Dd, re, rg, q, k1, _⟩ =>
  ⟨e, g, _, re, rg, q, fun v dv H1 g1 x1 rg1 rv q1 => ⟨e, g1, _, re.mono x1, rg1, q1, fun x dx H2 g2 x2 rg2 rx q2 => by
    obtain ⟨a, fs, rfl, hg, hz, q3⟩ := q2
    cases rx
    obtain ⟨dx, vs, hH, rf⟩ := rg2.ins hg
    have xx : Ext H (upd H2 a (.ins (clsA X.K n) dx (putF f v vs))) := (x1.trans x2).trans (.ins hH)
    exact ⟨a, _, dx, vs, rfl, hH, c, na, by rw [RepF.len rf]; exact hz, (k1.mono xx).fin (re.mono xx) (RepG.setF rg2 hH (RepF.put (rv.mono x2) rf)) q3⟩⟩⟩⟩
/-- o.m(..) -/
def dMeth (n m : Str) (sp : DSp) (to : DTE) (t : DTA) : DTE := fun e g Q => to e g fun x g1 => ∃ a fs, x = .ref a ∧ g1 a = some (.ins n fs) ∧ fs.lookup m = none ∧ t e g1 fun ds g2 => sp (x :: ds) g2 Q
theorem lmeth {σ : L2.St} {Q : VK} {E : XK} (h : lE K (dMeth n m sp to t) σ H Q) : tMeth (clsA K n) m (lSp K sp) [] E (lE K to) (lA K t) σ H Q := by
  obtain ⟨e, g, Qd, re, rg, q, k⟩ := h
  refine ⟨e, g, _, re, rg, q, fun v d H1 g1 x1 rg1 r q1 => ?_⟩
  obtain ⟨a, fs, rfl, hg, hl, q2⟩ := q1
  cases r
  obtain ⟨dx, vs, hH, rf⟩ := rg1.ins hg
  refine ⟨a, dx, vs, rfl, hH, RepF.look0 rf hl, e, g1, _, re.mono x1, rg1, q2, fun us ds H2 g2 x2 rg2 l2 q3 => ?_⟩
  exact ⟨_, g2, Qd, .cons (.ref a) (by rw [List.append_nil]; exact l2), rg2, q3, k.mono (x1.trans x2)⟩
theorem de_meth {pl : Sem Bool} (c : Cls X.K (clsA X.K n)) (hm : Meth X.K (clsA X.K n) m fa) (F : FnOk X.prog X.w X.K X.mg X.base CX0 k fa fd ps (lSp X.K sp)) (hr : Room k X.A) (hb : Binds X.K fd ps []) (ho : DE X o to) (ha : DA X (e :: es) t)
    (hst : starEach (e :: es) X.env = (false, eval e X.env) :: starEach es X.env := by rfl) (hpl : (backTo pos (starEach es X.env)).any (·.1) = false := by rfl)
    (ht : eval (.Call (.Attribute o m apos) (e :: es) [] pos) X.env = (do
      let ov ← eval o X.env
      standAt apos.atName
      let (f, first) ← holding [ov] (getMethod ov m pl)
      callWith pos f first (backTo pos (starEach (e :: es) X.env)) (backToKw pos (keywordEach [] X.env))) := by rfl) :
    DE X (.Call (.Attribute o m apos) (e :: es) [] pos) (dMeth n m sp to t) := ⟨peW (pe_meth ho.pe c hm F hr hb .nil pass0 ha.pa hst hpl ht) fun _ _ _ h => lmeth h⟩
theorem de_meth0 {pl : Sem Bool} (c : Cls X.K (clsA X.K n)) (hm : Meth X.K (clsA X.K n) m fa) (F : FnOk X.prog X.w X.K X.mg X.base CX0 k fa fd ps (lSp X.K sp)) (hr : Room k X.A) (hb : Binds X.K fd ps []) (ho : DE X o to)
    (ht : eval (.Call (.Attribute o m apos) [] [] pos) X.env = (do
      let ov ← eval o X.env
      standAt apos.atName
      let (f, first) ← holding [ov] (getMethod ov m pl)
      callWith pos f first (backTo pos (starEach [] X.env)) (backToKw pos (keywordEach [] X.env))) := by rfl) :
    DE X (.Call (.Attribute o m apos) [] [] pos) (dMeth n m sp to dNil) := ⟨peW (pe_meth0 ho.pe c hm F hr hb .nil pass0 ht) fun σ H Q h => by
  obtain ⟨e, g, Qd, re, rg, q, k⟩ := h
  refine ⟨e, g, _, re, rg, q, fun v d H1 g1 x1 rg1 r q1 => ?_⟩
  obtain ⟨a, fs, rfl, hg, hl, q2⟩ := q1
  cases r
  obtain ⟨dx, vs, hH, rf⟩ := rg1.ins hg
  exact ⟨a, dx, vs, rfl, hH, RepF.look0 rf hl, _, g1, Qd, .cons (.ref a) .nil, rg1, q2, k.mono x1⟩⟩
/-- C(..) -/
def dMake (n : Str) (sp : DSp) (t : DTA) : DTE := fun e g Q => t e g fun ds g1 => ∀ a, g1 a = none → sp (.ref a :: ds) (gup g1 a (.ins n [])) fun d g2 => d = .non ∧ Q (.ref a) g2
theorem de_make (M : Mk X.K (clsA X.K n) fa) (F : FnOk X.prog X.w X.K X.mg X.base CX0 k fa fd ps (lSp X.K sp)) (hr : Room (k + 1) X.A) (hg : Gl X x) (hm : X.mg x = some (.ref (clsA X.K n))) (hb : Binds X.K fd ps []) (ha : DA X (e :: es) t)
    (hdb : (x == ("__debug__" : Str)) = false := by decide) (he : starEach (e :: es) X.env = (false, eval e X.env) :: starEach es X.env := by rfl) (hpl : (backTo pos (starEach es X.env)).any (·.1) = false := by rfl) :
    DE X (.Call (.Name x p0) (e :: es) [] pos) (dMake n sp t) := ⟨peW (pe_make M F hr hg hm hb .nil pass0 ha.pa hdb he hpl) fun σ H Q h => by
  obtain ⟨e, g, Qd, re, rg, q, k⟩ := h
  refine ⟨e, g, _, re, rg, q, fun us ds H1 g1 x1 rg1 l1 q1 => fun a dx ha hdx hne => ?_⟩
  have rg2 := rg1.hid (o := .own a) hdx
  have ha2 : upd H1 dx (.own a) a = none := by rw [upd_ne (Ne.symm hne)]; exact ha
  have xx : Ext H1 (upd (upd H1 dx (.own a)) a (.ins (clsA X.K n) dx [])) := (Ext.new hdx).trans (.new ha2)
  have rg3 : RepG X.K (upd (upd H1 dx (.own a)) a (.ins (clsA X.K n) dx [])) (gup g1 a (.ins n [])) := rg2.upd (.new ha2) ⟨dx, [], upd_same .., .nil⟩
  refine ⟨_, _, _, .cons (.ref a) (by rw [List.append_nil]; exact RepL.mono xx l1), rg3, q1 a (rg1.free ha), fun v d H4 g4 x4 rg4 r4 q4 => ?_⟩
  obtain ⟨rfl, q4⟩ := q4
  cases r4
  exact ⟨rfl, rg4.fin (k.mono ((x1.trans xx).trans x4)) (.ref a) q4⟩⟩
/-- o.f, a property -/
def dProp (n : Str) (sp : DSp) (to : DTE) : DTE := fun e g Q => to e g fun x g1 => ∃ a fs, x = .ref a ∧ g1 a = some (.ins n fs) ∧ sp [x] g1 Q
theorem de_prop (c : Cls X.K (clsA X.K n)) (hp : PropOf X.K (clsA X.K n) f pa fa) (F : FnOk X.prog X.w X.K X.mg X.base CX0 k fa fd ps (lSp X.K sp)) (hr : Room (k + 1) X.A) (hb : Binds X.K fd ps []) (ho : DE X o to) (hab : attributeBase o f X.env (eval o X.env) = eval o X.env := by rfl) : DE X (.Attribute o f pos) (dProp n sp to) := ⟨peW (pe_prop ho.pe c hp F hr hb .nil pass0 hab) fun σ H Q h => by
  obtain ⟨e, g, Qd, re, rg, q, k⟩ := h
  refine ⟨e, g, _, re, rg, q, fun v d H1 g1 x1 rg1 r q1 => ?_⟩
  obtain ⟨a, fs, rfl, hg, q2⟩ := q1
  cases r
  obtain ⟨dx, vs, hH, rf⟩ := rg1.ins hg
  exact ⟨a, dx, vs, rfl, hH, _, g1, Qd, .cons (.ref a) .nil, rg1, q2, k.mono x1⟩⟩
/-- list(range(a, b)), list(range(b)) -/
def dLRg2 (ta tb : DTE) : DTE := fun e g Q => ta e g fun x g1 => tb e g1 fun y g2 => ∃ i j, x = .int i ∧ y = .int j ∧ RgOk i j ∧ ∀ p, g2 p = none → Q (.ref p) (gup g2 p (.lst (ran i (j - i).toNat)))
def dLRg1 (tb : DTE) : DTE := fun e g Q => tb e g fun y g2 => ∃ j, y = .int j ∧ RgOk 0 j ∧ ∀ p, g2 p = none → Q (.ref p) (gup g2 p (.lst (ran 0 j.toNat)))
theorem rep_rg (H : Hp) (i j : Int) : RepL K H (rgV i j) (ran i (j - i).toNat) := by
  have e1 : rgV i j = ((List.range (j - i).toNat).map fun (k : Nat) => i + (k : Int)).map V.int := by
    unfold rgV
    rw [List.map_map]; rfl
  have e2 : ran i (j - i).toNat = ((List.range (j - i).toNat).map fun (k : Nat) => i + (k : Int)).map D.int := by
    unfold ran
    rw [List.map_map]; rfl
  rw [e1, e2]
  exact RepL.ofInts _
theorem de_lrg2 {a b : Expr} {ta tb : DTE} {p1 p2 : Pos} (hc : X.calm = true) (hg : Gl X "list") (hm : X.mg "list" = none) (hg2 : Gl X "range") (hm2 : X.mg "range" = none) (ha : DE X a ta) (hb : DE X b tb)
    (na : starEach [a, b] X.env = (false, eval a X.env) :: starEach [b] X.env := by rfl) (nb : starEach [b] X.env = (false, eval b X.env) :: starEach [] X.env := by rfl) (hp : (backTo p2 (starEach [b] X.env)).any (·.1) = false := by rfl)
    (nc : starEach [.Call (.Name "range" p1) [a, b] [] p2] X.env = (false, eval (.Call (.Name "range" p1) [a, b] [] p2) X.env) :: starEach [] X.env := by rfl) : DE X (.Call (.Name "list" p0) [.Call (.Name "range" p1) [a, b] [] p2] [] pos) (dLRg2 ta tb) :=
  ⟨peW (pe_listRg hc hg hm (prg_2 hg2 hm2 ha.pe hb.pe na nb hp) nc) fun σ H Q ⟨e, g, Qd, re, rg, q, k⟩ =>
    ⟨e, g, _, re, rg, q, fun v d H1 g1 x1 rg1 r1 q1 => ⟨e, g1, _, re.mono x1, rg1, q1, fun v2 d2 H2 g2 x2 rg2 r2 ⟨i, j, e1, e2, hk, q2⟩ => by
      subst e1; subst e2
      cases r1; cases r2
      exact ⟨i, j, rfl, rfl, hk, fun n hn => rg2.finL (k.mono (x1.trans x2)) hn (rep_rg _ i j) q2⟩⟩⟩⟩
end
section
variable {e : EV} {g : GS} {Q : DK} {to tv ta tb : DTE} {t : DTA} {n f m : Str} {sp : DSp} {D : DEnds}
theorem s_fld (h : to e g fun x g1 => ∃ a fs d, x = .ref a ∧ g1 a = some (.ins n fs) ∧ fs.lookup f = some d ∧ Q d g1) : dFld n f to e g Q := h
theorem s_sfld (h : tv e g fun v g1 => to e g1 fun x g2 => ∃ a fs, x = .ref a ∧ g2 a = some (.ins n fs) ∧ fs.length < 1000 ∧ D.nx e (gup g2 a (.ins n (putFd f v fs)))) : dSFld n f to tv D e g := h
theorem s_meth (h : to e g fun x g1 => ∃ a fs, x = .ref a ∧ g1 a = some (.ins n fs) ∧ fs.lookup m = none ∧ t e g1 fun ds g2 => sp (x :: ds) g2 Q) : dMeth n m sp to t e g Q := h
theorem s_make (h : t e g fun ds g1 => ∀ a, g1 a = none → sp (.ref a :: ds) (gup g1 a (.ins n [])) fun d g2 => d = .non ∧ Q (.ref a) g2) : dMake n sp t e g Q := h
theorem s_prop (h : to e g fun x g1 => ∃ a fs, x = .ref a ∧ g1 a = some (.ins n fs) ∧ sp [x] g1 Q) : dProp n sp to e g Q := h
theorem s_lrg2 (h : ta e g fun x g1 => tb e g1 fun y g2 => ∃ i j, x = .int i ∧ y = .int j ∧ RgOk i j ∧ ∀ p, g2 p = none → Q (.ref p) (gup g2 p (.lst (ran i (j - i).toNat)))) : dLRg2 ta tb e g Q := h
end
end DL

namespace DL
open PySem PySem.Spec PyProof.Rows L2
/-! ### stories -/
inductive ChR where
  | new (n : Int) (id : D) | gone (n : Int)
@[reducible] def ChR.d : ChR → D
  | .new n id => .tup [.str "new", .int n, id]
  | .gone n => .tup [.str "gone", .int n]
def stepK (kvs : List (L2.Key × D)) : ChR → List (L2.Key × D)
  | .new n id => putD kvs (.inl n) id
  | .gone n => delD kvs (.inl n)
def kvsOf (cs : List ChR) : List (L2.Key × D) := cs.foldl stepK []
def stepN (ns : List Int) : ChR → List Int
  | .new n _ => if n ∈ ns then ns else ns ++ [n]
  | .gone n => ns.filter fun x => decide (x ≠ n)
def numsOf (cs : List ChR) : List Int := cs.foldl stepN []
abbrev Kyi (kvs : List (L2.Key × D)) (ns : List Int) : Prop := kvs.map (·.1) = ns.map Sum.inl
theorem inl_mem {ns : List Int} {z : Int} : (Sum.inl z : L2.Key) ∈ ns.map (Sum.inl : Int → L2.Key) ↔ z ∈ ns := by
  rw [List.mem_map]
  constructor
  · rintro ⟨x, hx, e⟩
    injection e with e
    rw [← e]; exact hx
  · intro h
    exact ⟨z, h, rfl⟩
theorem Kyi.step {kvs : List (L2.Key × D)} {ns : List Int} (h : Kyi kvs ns) (c : ChR) : Kyi (stepK kvs c) (stepN ns c) := by
  have h : kvs.map (·.1) = ns.map Sum.inl := h
  cases c with
  | new n id =>
    show (putD kvs (.inl n) id).map (·.1) = (if n ∈ ns then ns else ns ++ [n]).map Sum.inl
    by_cases hn : n ∈ ns
    · rw [if_pos hn, putD_old (by rw [h]; exact inl_mem.mpr hn), h]
    · rw [if_neg hn, putD_add (by rw [h]; exact fun e => hn (inl_mem.mp e)), h, List.map_append]
      rfl
  | gone n =>
    show (delD kvs (.inl n)).map (·.1) = (ns.filter fun x => decide (x ≠ n)).map Sum.inl
    unfold delD
    have e1 : (kvs.filter fun kv => decide (kv.1 ≠ (Sum.inl n : L2.Key))).map (·.1) = (kvs.map (·.1)).filter fun k => decide (k ≠ (Sum.inl n : L2.Key)) := by
      rw [List.filter_map]; rfl
    rw [e1, h, List.filter_map]
    congr 1
    apply List.filter_congr
    intro x _
    by_cases hx : x = n
    · subst hx; simp
    · have h2 : (Sum.inl x : L2.Key) ≠ Sum.inl n := fun e => hx (by injection e)
      simp [hx]
theorem kvs_nums (cs : List ChR) : Kyi (kvsOf cs) (numsOf cs) := by
  have : ∀ (cs : List ChR) (kvs : List (L2.Key × D)) (ns : List Int), Kyi kvs ns → Kyi (cs.foldl stepK kvs) (cs.foldl stepN ns) := fun cs => by
    induction cs with
    | nil => exact fun _ _ h => h
    | cons c cs ih => exact fun kvs ns h => ih _ _ (h.step c)
  exact this cs [] [] rfl
theorem nums_len (cs : List ChR) : (numsOf cs).length ≤ cs.length := by
  have : ∀ (cs : List ChR) (ns : List Int), (cs.foldl stepN ns).length ≤ ns.length + cs.length := fun cs => by
    induction cs with
    | nil => exact fun ns => Nat.le_refl _
    | cons c cs ih =>
      intro ns
      rw [List.foldl_cons, List.length_cons]
      have h1 := ih (stepN ns c)
      have h2 : (stepN ns c).length ≤ ns.length + 1 := by
        cases c with
        | new n id =>
          show (if n ∈ ns then ns else ns ++ [n]).length ≤ _
          split
          · omega
          · rw [List.length_append]; exact Nat.le_refl _
        | gone n => exact Nat.le_trans (List.length_filter_le _ _) (by omega)
      omega
  have := this cs []
  rwa [List.length_nil, Nat.zero_add] at this
theorem kvsOf_snoc (cs : List ChR) (c : ChR) : kvsOf (cs ++ [c]) = stepK (kvsOf cs) c := by
  unfold kvsOf; rw [List.foldl_append]; rfl
theorem numsOf_snoc (cs : List ChR) (c : ChR) : numsOf (cs ++ [c]) = stepN (numsOf cs) c := by
  unfold numsOf; rw [List.foldl_append]; rfl
/-- what is gone was there -/
def WfC (cs : List ChR) : Prop := ∀ (i : Nat) n, cs[i]? = some (.gone n) → n ∈ numsOf (cs.take i)
theorem kvs_has {cs : List ChR} {n : Int} (h : n ∈ numsOf cs) : (getD (kvsOf cs) (.inl n)).isSome = true := (getD_some _ _).mpr (by
  have := kvs_nums cs
  have this : (kvsOf cs).map (·.1) = (numsOf cs).map Sum.inl := this
  rw [this]; exact inl_mem.mpr h)
theorem putD_mem {kvs : List (L2.Key × D)} {k : L2.Key} {v : D} {x : L2.Key × D} (h : x ∈ putD kvs k v) : x ∈ kvs ∨ x.2 = v := by
  unfold putD at h
  split at h
  · obtain ⟨y, hy, e⟩ := List.mem_map.mp h
    split at e
    · right; rw [← e]
    · left; rw [← e]; exact hy
  · rcases List.mem_append.mp h with h | h
    · exact .inl h
    · right; rw [List.mem_singleton.mp h]
theorem kvs_ids : ∀ (cs : List ChR) (kvs : List (L2.Key × D)) {P : D → Prop}, (∀ x ∈ kvs, P x.2) → (∀ n i, ChR.new n i ∈ cs → P i) → ∀ x ∈ cs.foldl stepK kvs, P x.2
  | [], kvs, _, h, _ => h
  | c :: cs, kvs, P, h, h2 => by
    rw [List.foldl_cons]
    refine kvs_ids cs _ (fun x hx => ?_) fun n i hi => h2 n i (List.mem_cons_of_mem _ hi)
    cases c with
    | new n id =>
      rcases putD_mem hx with hx | hx
      · exact h x hx
      · rw [hx]; exact h2 n id List.mem_cons_self
    | gone n => exact h x (List.mem_filter.mp hx).1
theorem kvs_val {cs : List ChR} {k : L2.Key} {v : D} (h : getD (kvsOf cs) k = some v) : ∃ n, ChR.new n v ∈ cs := by
  unfold getD at h
  cases e : (kvsOf cs).find? fun kv => decide (kv.1 = k) with
  | none => rw [e] at h; cases h
  | some x =>
    rw [e] at h
    have h : x.2 = v := by injection h
    have hm := List.mem_of_find?_eq_some e
    have := kvs_ids cs [] (P := fun i => ∃ n, ChR.new n i ∈ cs) (fun x h => by cases h) (fun n i hi => ⟨n, hi⟩) x hm
    rw [h] at this
    exact this
theorem sortI_ints (ns : List Int) : ∃ ys : List Int, sortI ns = ys.map D.int ∧ ys.Perm ns := by
  have p := List.mergeSort_perm (ns.map D.int) leP
  obtain ⟨l', h1, h2⟩ := perm_map_inv p ns rfl
  exact ⟨l', h1, h2⟩
def lookV (kvs : List (L2.Key × D)) (n : Int) : D := .tup [.int n, (getD kvs (.inl n)).getD .non]
/-- the pairs, ascending -/
def viewL (cs : List ChR) : List D := (sortI (numsOf cs)).map fun d => match d with
  | .int n => lookV (kvsOf cs) n
  | _ => .non
def SFs (l n : Int) (k d : Addr) : List (Str × D) := [("limit", .int l), ("last_stamp", .int n), ("kept_changes", .ref k), ("id_by_number", .ref d)]
section
variable {l n v : Int} {k d : Addr}
theorem sf_limit : (SFs l n k d).lookup ("limit" : Str) = some (.int l) := by
  unfold SFs
  rw [List.lookup_cons, show (("limit" : Str) == "limit") = true from by decide +kernel]
theorem sf_last : (SFs l n k d).lookup ("last_stamp" : Str) = some (.int n) := by
  unfold SFs
  rw [List.lookup_cons, show (("last_stamp" : Str) == "limit") = false from by decide +kernel]
  show List.lookup _ _ = _
  rw [List.lookup_cons, show (("last_stamp" : Str) == "last_stamp") = true from by decide +kernel]
theorem sf_kept : (SFs l n k d).lookup ("kept_changes" : Str) = some (.ref k) := by
  unfold SFs
  rw [List.lookup_cons, show (("kept_changes" : Str) == "limit") = false from by decide +kernel]
  show List.lookup _ _ = _
  rw [List.lookup_cons, show (("kept_changes" : Str) == "last_stamp") = false from by decide +kernel]
  show List.lookup _ _ = _
  rw [List.lookup_cons, show (("kept_changes" : Str) == "kept_changes") = true from by decide +kernel]
theorem sf_ids : (SFs l n k d).lookup ("id_by_number" : Str) = some (.ref d) := by
  unfold SFs
  rw [List.lookup_cons, show (("id_by_number" : Str) == "limit") = false from by decide +kernel]
  show List.lookup _ _ = _
  rw [List.lookup_cons, show (("id_by_number" : Str) == "last_stamp") = false from by decide +kernel]
  show List.lookup _ _ = _
  rw [List.lookup_cons, show (("id_by_number" : Str) == "kept_changes") = false from by decide +kernel]
  show List.lookup _ _ = _
  rw [List.lookup_cons, show (("id_by_number" : Str) == "id_by_number") = true from by decide +kernel]
theorem sf_none {m : Str} (h : m ≠ "limit" ∧ m ≠ "last_stamp" ∧ m ≠ "kept_changes" ∧ m ≠ "id_by_number") : (SFs l n k d).lookup m = none := by
  unfold SFs
  simp only [List.lookup_cons, beq_eq_false_iff_ne.mpr h.1, beq_eq_false_iff_ne.mpr h.2.1, beq_eq_false_iff_ne.mpr h.2.2.1, beq_eq_false_iff_ne.mpr h.2.2.2]
  rfl
theorem sf_put : putFd "last_stamp" (.int v) (SFs l n k d) = SFs l v k d := by
  unfold SFs
  rw [putFd, if_neg (by decide +kernel), putFd, if_pos rfl]
theorem sf_make {d1 d2 : D} {fs : List (Str × D)} (h1 : d1 = D.ref k) (h2 : d2 = D.ref d) : putFd "id_by_number" d2 (putFd "kept_changes" d1 (putFd "last_stamp" (.int n) (putFd "limit" (.int l) []))) = SFs l n k d := by
  subst h1; subst h2
  rw [putFd, putFd, if_neg (by decide +kernel), putFd, putFd, if_neg (by decide +kernel), putFd, if_neg (by decide +kernel), putFd, putFd, if_neg (by decide +kernel), putFd, if_neg (by decide +kernel), putFd, if_neg (by decide +kernel), putFd]
  rfl
end
theorem putFd_len (f : Str) (v : D) : ∀ fs : List (Str × D), (putFd f v fs).length ≤ fs.length + 1
  | [] => Nat.le_refl _
  | (g, x) :: r => by
    show (if g = f then (g, v) :: r else (g, x) :: putFd f v r).length ≤ _
    split
    · simp
    · have := putFd_len f v r
      rw [List.length_cons, List.length_cons]
      omega
theorem viewL_of {cs : List ChR} {ys : List Int} (h : sortI (numsOf cs) = ys.map D.int) : viewL cs = ys.map (lookV (kvsOf cs)) := by
  unfold viewL
  rw [h, List.map_map]
  rfl
/-- a story at a that has heard cs -/
structure StAt (g : GS) (a k d : Addr) (l : Int) (cs : List ChR) : Prop where
  ins : g a = some (.ins "Story" (SFs l cs.length k d))
  kept : g k = some (.lst ((cs.drop (cs.length - l.toNat)).map ChR.d))
  ids : g d = some (.dct (kvsOf cs))
  l0 : 0 ≤ l
theorem StAt.up {g g' : GS} {a k d : Addr} {l : Int} {cs : List ChR} (h : StAt g a k d l cs) (U : Up [] g g') : StAt g' a k d l cs := ⟨U.get0 h.ins, U.get0 h.kept, U.get0 h.ids, h.l0⟩
theorem StAt.ne {g : GS} {a k d : Addr} {l : Int} {cs : List ChR} (h : StAt g a k d l cs) : a ≠ k ∧ a ≠ d ∧ k ≠ d := by
  have h1 := h.ins
  have h2 := h.kept
  have h3 := h.ids
  refine ⟨fun e => ?_, fun e => ?_, fun e => ?_⟩
  · rw [e, h2] at h1; cases h1
  · rw [e, h3] at h1; cases h1
  · rw [e, h3] at h2; cases h2
end DL

namespace DL
open PySem PySem.Spec PyProof.Rows L2
/-! ### desks that hear stories -/
theorem nums_nodup (cs : List ChR) : (numsOf cs).Nodup := by
  have : ∀ (cs : List ChR) (ns : List Int), ns.Nodup → (cs.foldl stepN ns).Nodup := fun cs => by
    induction cs with
    | nil => exact fun _ h => h
    | cons c cs ih =>
      intro ns h
      refine ih _ ?_
      cases c with
      | new n id =>
        show (if n ∈ ns then ns else ns ++ [n]).Nodup
        split
        · exact h
        · rename_i hn
          rw [List.nodup_append]
          exact ⟨h, by simp, fun a ha b hb e => hn (by rw [List.mem_singleton] at hb; rw [← hb, ← e]; exact ha)⟩
      | gone n => exact h.sublist List.filter_sublist
  exact this cs [] List.nodup_nil
theorem mem_nums (cs : List ChR) (n : Int) : n ∈ numsOf cs ↔ (getD (kvsOf cs) (.inl n)).isSome = true := by
  rw [getD_some]
  have h : (kvsOf cs).map (·.1) = (numsOf cs).map Sum.inl := kvs_nums cs
  rw [h]
  exact inl_mem.symm
/-- the same table, perhaps in another order -/
def EqV (cs cs' : List ChR) : Prop := ∀ n : Int, getD (kvsOf cs) (.inl n) = getD (kvsOf cs') (.inl n)
theorem EqV.refl (cs : List ChR) : EqV cs cs := fun _ => rfl
theorem EqV.trans {a b c : List ChR} (h : EqV a b) (k : EqV b c) : EqV a c := fun n => (h n).trans (k n)
theorem EqV.mem {cs cs' : List ChR} (h : EqV cs cs') (n : Int) : n ∈ numsOf cs ↔ n ∈ numsOf cs' := by rw [mem_nums, mem_nums, h n]
theorem EqV.snoc {cs cs' : List ChR} (h : EqV cs cs') (c : ChR) : EqV (cs ++ [c]) (cs' ++ [c]) := fun n => by
  rw [kvsOf_snoc, kvsOf_snoc]
  cases c with
  | new m id =>
    show getD (putD _ _ _) _ = getD (putD _ _ _) _
    rw [getD_put, getD_put, h n]
  | gone m =>
    show getD (delD _ _) _ = getD (delD _ _) _
    rw [getD_del, getD_del, h n]
theorem EqV.app {cs cs' : List ChR} (h : EqV cs cs') (ch : List ChR) : EqV (cs ++ ch) (cs' ++ ch) := by
  induction ch generalizing cs cs' with
  | nil => rw [List.append_nil, List.append_nil]; exact h
  | cons c ch ih =>
    have := ih (h.snoc c)
    rwa [List.append_assoc, List.append_assoc] at this
theorem EqV.view {cs cs' : List ChR} (h : EqV cs cs') : viewL cs = viewL cs' := by
  have hp : (numsOf cs).Perm (numsOf cs') := (List.perm_ext_iff_of_nodup (nums_nodup _) (nums_nodup _)).mpr h.mem
  unfold viewL
  rw [sortI_perm hp]
  refine List.map_congr_left fun d _ => ?_
  cases d with
  | int n => show lookV _ n = lookV _ n; unfold lookV; rw [h n]
  | _ => rfl
/-- the changes that a table of pairs makes -/
def newsOf (ys : List Int) (kvs : List (L2.Key × D)) : List ChR := ys.map fun n => .new n ((getD kvs (.inl n)).getD .non)
theorem news_get (kvs : List (L2.Key × D)) (j : Int) : ∀ ys : List Int, getD (kvsOf (newsOf ys kvs)) (.inl j) = if j ∈ ys then some ((getD kvs (.inl j)).getD .non) else none := by
  have : ∀ zs : List Int, getD (kvsOf (newsOf zs.reverse kvs)) (.inl j) = if j ∈ zs.reverse then some ((getD kvs (.inl j)).getD .non) else none := fun zs => by
    induction zs with
    | nil => rfl
    | cons y zs ih =>
      rw [List.reverse_cons]
      have e : newsOf (zs.reverse ++ [y]) kvs = newsOf zs.reverse kvs ++ [.new y ((getD kvs (.inl y)).getD .non)] := by unfold newsOf; rw [List.map_append]; rfl
      rw [e, kvsOf_snoc]
      show getD (putD _ _ _) _ = _
      rw [getD_put, ih]
      by_cases hj : j = y
      · subst hj
        rw [if_pos rfl, if_pos (by simp)]
      · have h2 : (Sum.inl j : L2.Key) ≠ Sum.inl y := fun e => hj (by injection e)
        rw [if_neg h2]
        have h3 : j ∈ zs.reverse ++ [y] ↔ j ∈ zs.reverse := by rw [List.mem_append, List.mem_singleton]; exact ⟨fun h => h.elim id fun e => absurd e hj, .inl⟩
        by_cases h4 : j ∈ zs.reverse
        · rw [if_pos h4, if_pos (h3.mpr h4)]
        · rw [if_neg h4, if_neg fun h => h4 (h3.mp h)]
  intro ys
  have := this ys.reverse
  rwa [List.reverse_reverse] at this
theorem news_eqv {cs : List ChR} {ys : List Int} (h : ys.Perm (numsOf cs)) : EqV (newsOf ys (kvsOf cs)) cs := fun n => by
  rw [news_get]
  by_cases hn : n ∈ ys
  · rw [if_pos hn]
    have := (mem_nums cs n).mp (h.mem_iff.mp hn)
    obtain ⟨v, hv⟩ := Option.isSome_iff_exists.mp this
    rw [hv]; rfl
  · rw [if_neg hn]
    cases e : getD (kvsOf cs) (.inl n) with
    | none => rfl
    | some v => exact absurd (h.mem_iff.mpr ((mem_nums cs n).mpr (by rw [e]; rfl))) hn
theorem wfc_take {cs : List ChR} (h : WfC cs) (m : Nat) : WfC (cs.take m) := fun i n hi => by
  rw [List.getElem?_take] at hi
  split at hi
  · have := h i n hi
    rwa [List.take_take, Nat.min_eq_left (by omega)]
  · cases hi
def wholeA (cs : List ChR) : D := .tup [.str "whole", .int cs.length, .tup (viewL cs)]
def sinceA (t : Nat) (chs : List ChR) : D := .tup [.str "since", .int t, .tup (chs.map ChR.d)]
def KFs (n : Int) (d : Addr) : List (Str × D) := [("stamp_heard", .int n), ("id_by_number", .ref d)]
section
variable {n v : Int} {d e : Addr}
theorem kf_stamp : (KFs n d).lookup ("stamp_heard" : Str) = some (.int n) := by
  unfold KFs
  rw [List.lookup_cons, show (("stamp_heard" : Str) == "stamp_heard") = true from by decide +kernel]
theorem kf_ids : (KFs n d).lookup ("id_by_number" : Str) = some (.ref d) := by
  unfold KFs
  rw [List.lookup_cons, show (("id_by_number" : Str) == "stamp_heard") = false from by decide +kernel]
  show List.lookup _ _ = _
  rw [List.lookup_cons, show (("id_by_number" : Str) == "id_by_number") = true from by decide +kernel]
theorem kf_none {m : Str} (h : m ≠ "stamp_heard" ∧ m ≠ "id_by_number") : (KFs n d).lookup m = none := by
  unfold KFs
  simp only [List.lookup_cons, beq_eq_false_iff_ne.mpr h.1, beq_eq_false_iff_ne.mpr h.2]
  rfl
theorem kf_put : putFd "stamp_heard" (.int v) (KFs n d) = KFs v d := by
  unfold KFs
  rw [putFd, if_pos rfl]
theorem kf_put2 : putFd "id_by_number" (.ref e) (KFs n d) = KFs n e := by
  unfold KFs
  rw [putFd, if_neg (by decide +kernel), putFd, if_pos rfl]
theorem kf_make : putFd "id_by_number" (.ref d) (putFd "stamp_heard" (.int n) []) = KFs n d := by
  rw [putFd, putFd, if_neg (by decide +kernel), putFd]
  rfl
end
/-- a desk at a, its table at d, that has heard the first changes cs -/
structure DeskAt (g : GS) (a d : Addr) (cs : List ChR) : Prop where
  ins : g a = some (.ins "Desk" (KFs cs.length d))
  ids : ∃ cs', g d = some (.dct (kvsOf cs')) ∧ EqV cs' cs ∧ cs'.length ≤ cs.length
theorem DeskAt.up {g g' : GS} {a d : Addr} {cs : List ChR} (h : DeskAt g a d cs) (U : Up [] g g') : DeskAt g' a d cs := by
  obtain ⟨h1, cs', h2, h3⟩ := h
  exact ⟨U.get0 h1, cs', U.get0 h2, h3⟩
theorem DeskAt.upS {g g' : GS} {S : List Addr} {a d : Addr} {cs : List ChR} (h : DeskAt g a d cs) (U : Up S g g') (n1 : a ∉ S) (n2 : d ∉ S) : DeskAt g' a d cs := by
  obtain ⟨h1, cs', h2, h3⟩ := h
  exact ⟨U.1 _ _ n1 h1, cs', U.1 _ _ n2 h2, h3⟩
theorem DeskAt.ne {g : GS} {a d : Addr} {cs : List ChR} (h : DeskAt g a d cs) : a ≠ d := fun e => by
  obtain ⟨h1, cs', h2, _⟩ := h
  rw [e, h2] at h1; cases h1
theorem StAt.upS {g g' : GS} {S : List Addr} {a k d : Addr} {l : Int} {cs : List ChR} (h : StAt g a k d l cs) (U : Up S g g') (n1 : a ∉ S) (n2 : k ∉ S) (n3 : d ∉ S) : StAt g' a k d l cs := ⟨U.1 _ _ n1 h.ins, U.1 _ _ n2 h.kept, U.1 _ _ n3 h.ids, h.l0⟩
theorem Src.upS {s : SI} {g g' : GS} {m : Nat} {S : List Addr} (h : Src s g m) (U : Up S g g') (n1 : s.L ∉ S) (n2 : s.L0 ∉ S) : Src s g' m := by
  obtain ⟨h1, h2, c, big, seed, n, h3, h4⟩ := h
  exact ⟨U.1 _ _ n2 h1, h2, c, big, seed, n, U.1 _ _ n1 h3, h4⟩
theorem up_make {g g' : GS} {a : Addr} {o : MO} (ha : g a = none) (U : Up [a] (gup g a o) g') : Up [] g g' := ⟨fun l m _ h => by
  have n : l ≠ a := fun z => by rw [z, ha] at h; cases h
  exact U.1 l m (fun z => n (List.mem_singleton.mp z)) (by rw [gup_ne n]; exact h), fun l h => U.2 l (gup_some h a)⟩
theorem ne_of {g : GS} {p q : Addr} {x y : MO} (h : g p = some x) (k : g q = some y) (n : x ≠ y) : p ≠ q := fun e => n (by rw [e, k] at h; injection h with h; exact h.symm)
theorem lst_ins {xs : List D} {c : Str} {fs : List (Str × D)} : MO.lst xs ≠ MO.ins c fs := fun z => by cases z
theorem lst_dct {xs : List D} {kvs : List (L2.Key × D)} : MO.lst xs ≠ MO.dct kvs := fun z => by cases z
section
variable {X : Cx} {fd : FuncData} {ps : List Str} {n x : Str} {k : Nat} {fa : Addr} {sp : DSp} {p0 pos : Pos}
theorem de_make0 (M : Mk X.K (clsA X.K n) fa) (F : FnOk X.prog X.w X.K X.mg X.base CX0 k fa fd ps (lSp X.K sp)) (hr : Room (k + 1) X.A) (hg : Gl X x) (hm : X.mg x = some (.ref (clsA X.K n))) (hb : Binds X.K fd ps [])
    (hdb : (x == ("__debug__" : Str)) = false := by decide) :
    DE X (.Call (.Name x p0) [] [] pos) (dMake n sp dNil) := ⟨peW (pe_make0 M F hr hg hm hb .nil pass0 hdb) fun σ H Q h => by
  obtain ⟨e, g, Qd, re, rg, q, k⟩ := h
  refine fun a dx ha hdx hne => ?_
  have rg2 := rg.hid (o := .own a) hdx
  have ha2 : upd H dx (.own a) a = none := by rw [upd_ne (Ne.symm hne)]; exact ha
  have xx : Ext H (upd (upd H dx (.own a)) a (.ins (clsA X.K n) dx [])) := (Ext.new hdx).trans (.new ha2)
  have rg3 : RepG X.K (upd (upd H dx (.own a)) a (.ins (clsA X.K n) dx [])) (gup g a (.ins n [])) := rg2.upd (.new ha2) ⟨dx, [], upd_same .., .nil⟩
  refine ⟨_, _, _, .cons (.ref a) .nil, rg3, q a (rg.free ha), fun v d H4 g4 x4 rg4 r4 q4 => ?_⟩
  obtain ⟨rfl, q4⟩ := q4
  cases r4
  exact ⟨rfl, rg4.fin (k.mono (xx.trans x4)) (.ref a) q4⟩⟩
end
end DL

namespace DL
open PySem PySem.Spec PyProof.Rows L2
open TL (tl)
section
variable {ds : List DL.D} {keep : GS → Prop} {tg : DTG} {tb : DTS} {D : DEnds} {e : EV} {g1 : GS}
theorem for1 (j1 : Nat) (R : Nat → Option DL.D → GS → Prop) (h0 : ∃ x1, e = List.set (e) j1 x1 ∧ R 0 x1 g1) (hk : ∀ i x1 g', i ≤ ds.length → R i x1 g' → keep g')
    (hs : ∀ i d x1 g', ds[i]? = some d → R i x1 g' → tg d (List.set (e) j1 x1) g' fun e2 g2 => tb { D with nx := fun e' g' => ∃ y1, e' = List.set (e) j1 y1 ∧ R (i + 1) y1 g', ct := fun e' g' => ∃ y1, e' = List.set (e) j1 y1 ∧ R (i + 1) y1 g', bk := D.nx } e2 g2) (hd : ∀ x1 g', R ds.length x1 g' → D.nx (List.set (e) j1 x1) g') :
    ∃ Iv : Nat → EV → GS → Prop, Iv 0 e g1 ∧ (∀ i e' g', i ≤ ds.length → Iv i e' g' → keep g') ∧ (∀ i d e' g', ds[i]? = some d → Iv i e' g' → tg d e' g' fun e2 g2 => tb { D with nx := Iv (i + 1), ct := Iv (i + 1), bk := D.nx } e2 g2) ∧ ∀ e' g', Iv ds.length e' g' → D.nx e' g' :=
  ⟨fun i e' g' => ∃ x1, e' = List.set (e) j1 x1 ∧ R i x1 g', h0, fun i e' g' hi ⟨x1, _, h⟩ => hk i x1 g' hi h, fun i d e' g' hd ⟨x1, he, h⟩ => by subst he; exact hs i d x1 g' hd h, fun e' g' ⟨x1, he, h⟩ => by subst he; exact hd x1 g' h⟩
theorem for2 (j1 j2 : Nat) (R : Nat → Option DL.D → Option DL.D → GS → Prop) (h0 : ∃ x1 x2, e = List.set (List.set (e) j1 x1) j2 x2 ∧ R 0 x1 x2 g1) (hk : ∀ i x1 x2 g', i ≤ ds.length → R i x1 x2 g' → keep g')
    (hs : ∀ i d x1 x2 g', ds[i]? = some d → R i x1 x2 g' → tg d (List.set (List.set (e) j1 x1) j2 x2) g' fun e2 g2 => tb { D with nx := fun e' g' => ∃ y1 y2, e' = List.set (List.set (e) j1 y1) j2 y2 ∧ R (i + 1) y1 y2 g', ct := fun e' g' => ∃ y1 y2, e' = List.set (List.set (e) j1 y1) j2 y2 ∧ R (i + 1) y1 y2 g', bk := D.nx } e2 g2) (hd : ∀ x1 x2 g', R ds.length x1 x2 g' → D.nx (List.set (List.set (e) j1 x1) j2 x2) g') :
    ∃ Iv : Nat → EV → GS → Prop, Iv 0 e g1 ∧ (∀ i e' g', i ≤ ds.length → Iv i e' g' → keep g') ∧ (∀ i d e' g', ds[i]? = some d → Iv i e' g' → tg d e' g' fun e2 g2 => tb { D with nx := Iv (i + 1), ct := Iv (i + 1), bk := D.nx } e2 g2) ∧ ∀ e' g', Iv ds.length e' g' → D.nx e' g' :=
  ⟨fun i e' g' => ∃ x1 x2, e' = List.set (List.set (e) j1 x1) j2 x2 ∧ R i x1 x2 g', h0, fun i e' g' hi ⟨x1, x2, _, h⟩ => hk i x1 x2 g' hi h, fun i d e' g' hd ⟨x1, x2, he, h⟩ => by subst he; exact hs i d x1 x2 g' hd h, fun e' g' ⟨x1, x2, he, h⟩ => by subst he; exact hd x1 x2 g' h⟩
theorem for3 (j1 j2 j3 : Nat) (R : Nat → Option DL.D → Option DL.D → Option DL.D → GS → Prop) (h0 : ∃ x1 x2 x3, e = List.set (List.set (List.set (e) j1 x1) j2 x2) j3 x3 ∧ R 0 x1 x2 x3 g1) (hk : ∀ i x1 x2 x3 g', i ≤ ds.length → R i x1 x2 x3 g' → keep g')
    (hs : ∀ i d x1 x2 x3 g', ds[i]? = some d → R i x1 x2 x3 g' → tg d (List.set (List.set (List.set (e) j1 x1) j2 x2) j3 x3) g' fun e2 g2 => tb { D with nx := fun e' g' => ∃ y1 y2 y3, e' = List.set (List.set (List.set (e) j1 y1) j2 y2) j3 y3 ∧ R (i + 1) y1 y2 y3 g', ct := fun e' g' => ∃ y1 y2 y3, e' = List.set (List.set (List.set (e) j1 y1) j2 y2) j3 y3 ∧ R (i + 1) y1 y2 y3 g', bk := D.nx } e2 g2) (hd : ∀ x1 x2 x3 g', R ds.length x1 x2 x3 g' → D.nx (List.set (List.set (List.set (e) j1 x1) j2 x2) j3 x3) g') :
    ∃ Iv : Nat → EV → GS → Prop, Iv 0 e g1 ∧ (∀ i e' g', i ≤ ds.length → Iv i e' g' → keep g') ∧ (∀ i d e' g', ds[i]? = some d → Iv i e' g' → tg d e' g' fun e2 g2 => tb { D with nx := Iv (i + 1), ct := Iv (i + 1), bk := D.nx } e2 g2) ∧ ∀ e' g', Iv ds.length e' g' → D.nx e' g' :=
  ⟨fun i e' g' => ∃ x1 x2 x3, e' = List.set (List.set (List.set (e) j1 x1) j2 x2) j3 x3 ∧ R i x1 x2 x3 g', h0, fun i e' g' hi ⟨x1, x2, x3, _, h⟩ => hk i x1 x2 x3 g' hi h, fun i d e' g' hd ⟨x1, x2, x3, he, h⟩ => by subst he; exact hs i d x1 x2 x3 g' hd h, fun e' g' ⟨x1, x2, x3, he, h⟩ => by subst he; exact hd x1 x2 x3 g' h⟩
theorem for4 (j1 j2 j3 j4 : Nat) (R : Nat → Option DL.D → Option DL.D → Option DL.D → Option DL.D → GS → Prop) (h0 : ∃ x1 x2 x3 x4, e = List.set (List.set (List.set (List.set (e) j1 x1) j2 x2) j3 x3) j4 x4 ∧ R 0 x1 x2 x3 x4 g1) (hk : ∀ i x1 x2 x3 x4 g', i ≤ ds.length → R i x1 x2 x3 x4 g' → keep g')
    (hs : ∀ i d x1 x2 x3 x4 g', ds[i]? = some d → R i x1 x2 x3 x4 g' → tg d (List.set (List.set (List.set (List.set (e) j1 x1) j2 x2) j3 x3) j4 x4) g' fun e2 g2 => tb { D with nx := fun e' g' => ∃ y1 y2 y3 y4, e' = List.set (List.set (List.set (List.set (e) j1 y1) j2 y2) j3 y3) j4 y4 ∧ R (i + 1) y1 y2 y3 y4 g', ct := fun e' g' => ∃ y1 y2 y3 y4, e' = List.set (List.set (List.set (List.set (e) j1 y1) j2 y2) j3 y3) j4 y4 ∧ R (i + 1) y1 y2 y3 y4 g', bk := D.nx } e2 g2) (hd : ∀ x1 x2 x3 x4 g', R ds.length x1 x2 x3 x4 g' → D.nx (List.set (List.set (List.set (List.set (e) j1 x1) j2 x2) j3 x3) j4 x4) g') :
    ∃ Iv : Nat → EV → GS → Prop, Iv 0 e g1 ∧ (∀ i e' g', i ≤ ds.length → Iv i e' g' → keep g') ∧ (∀ i d e' g', ds[i]? = some d → Iv i e' g' → tg d e' g' fun e2 g2 => tb { D with nx := Iv (i + 1), ct := Iv (i + 1), bk := D.nx } e2 g2) ∧ ∀ e' g', Iv ds.length e' g' → D.nx e' g' :=
  ⟨fun i e' g' => ∃ x1 x2 x3 x4, e' = List.set (List.set (List.set (List.set (e) j1 x1) j2 x2) j3 x3) j4 x4 ∧ R i x1 x2 x3 x4 g', h0, fun i e' g' hi ⟨x1, x2, x3, x4, _, h⟩ => hk i x1 x2 x3 x4 g' hi h, fun i d e' g' hd ⟨x1, x2, x3, x4, he, h⟩ => by subst he; exact hs i d x1 x2 x3 x4 g' hd h, fun e' g' ⟨x1, x2, x3, x4, he, h⟩ => by subst he; exact hd x1 x2 x3 x4 g' h⟩
theorem for5 (j1 j2 j3 j4 j5 : Nat) (R : Nat → Option DL.D → Option DL.D → Option DL.D → Option DL.D → Option DL.D → GS → Prop) (h0 : ∃ x1 x2 x3 x4 x5, e = List.set (List.set (List.set (List.set (List.set (e) j1 x1) j2 x2) j3 x3) j4 x4) j5 x5 ∧ R 0 x1 x2 x3 x4 x5 g1) (hk : ∀ i x1 x2 x3 x4 x5 g', i ≤ ds.length → R i x1 x2 x3 x4 x5 g' → keep g')
    (hs : ∀ i d x1 x2 x3 x4 x5 g', ds[i]? = some d → R i x1 x2 x3 x4 x5 g' → tg d (List.set (List.set (List.set (List.set (List.set (e) j1 x1) j2 x2) j3 x3) j4 x4) j5 x5) g' fun e2 g2 => tb { D with nx := fun e' g' => ∃ y1 y2 y3 y4 y5, e' = List.set (List.set (List.set (List.set (List.set (e) j1 y1) j2 y2) j3 y3) j4 y4) j5 y5 ∧ R (i + 1) y1 y2 y3 y4 y5 g', ct := fun e' g' => ∃ y1 y2 y3 y4 y5, e' = List.set (List.set (List.set (List.set (List.set (e) j1 y1) j2 y2) j3 y3) j4 y4) j5 y5 ∧ R (i + 1) y1 y2 y3 y4 y5 g', bk := D.nx } e2 g2) (hd : ∀ x1 x2 x3 x4 x5 g', R ds.length x1 x2 x3 x4 x5 g' → D.nx (List.set (List.set (List.set (List.set (List.set (e) j1 x1) j2 x2) j3 x3) j4 x4) j5 x5) g') :
    ∃ Iv : Nat → EV → GS → Prop, Iv 0 e g1 ∧ (∀ i e' g', i ≤ ds.length → Iv i e' g' → keep g') ∧ (∀ i d e' g', ds[i]? = some d → Iv i e' g' → tg d e' g' fun e2 g2 => tb { D with nx := Iv (i + 1), ct := Iv (i + 1), bk := D.nx } e2 g2) ∧ ∀ e' g', Iv ds.length e' g' → D.nx e' g' :=
  ⟨fun i e' g' => ∃ x1 x2 x3 x4 x5, e' = List.set (List.set (List.set (List.set (List.set (e) j1 x1) j2 x2) j3 x3) j4 x4) j5 x5 ∧ R i x1 x2 x3 x4 x5 g', h0, fun i e' g' hi ⟨x1, x2, x3, x4, x5, _, h⟩ => hk i x1 x2 x3 x4 x5 g' hi h, fun i d e' g' hd ⟨x1, x2, x3, x4, x5, he, h⟩ => by subst he; exact hs i d x1 x2 x3 x4 x5 g' hd h, fun e' g' ⟨x1, x2, x3, x4, x5, he, h⟩ => by subst he; exact hd x1 x2 x3 x4 x5 g' h⟩
theorem for6 (j1 j2 j3 j4 j5 j6 : Nat) (R : Nat → Option DL.D → Option DL.D → Option DL.D → Option DL.D → Option DL.D → Option DL.D → GS → Prop) (h0 : ∃ x1 x2 x3 x4 x5 x6, e = List.set (List.set (List.set (List.set (List.set (List.set (e) j1 x1) j2 x2) j3 x3) j4 x4) j5 x5) j6 x6 ∧ R 0 x1 x2 x3 x4 x5 x6 g1) (hk : ∀ i x1 x2 x3 x4 x5 x6 g', i ≤ ds.length → R i x1 x2 x3 x4 x5 x6 g' → keep g')
    (hs : ∀ i d x1 x2 x3 x4 x5 x6 g', ds[i]? = some d → R i x1 x2 x3 x4 x5 x6 g' → tg d (List.set (List.set (List.set (List.set (List.set (List.set (e) j1 x1) j2 x2) j3 x3) j4 x4) j5 x5) j6 x6) g' fun e2 g2 => tb { D with nx := fun e' g' => ∃ y1 y2 y3 y4 y5 y6, e' = List.set (List.set (List.set (List.set (List.set (List.set (e) j1 y1) j2 y2) j3 y3) j4 y4) j5 y5) j6 y6 ∧ R (i + 1) y1 y2 y3 y4 y5 y6 g', ct := fun e' g' => ∃ y1 y2 y3 y4 y5 y6, e' = List.set (List.set (List.set (List.set (List.set (List.set (e) j1 y1) j2 y2) j3 y3) j4 y4) j5 y5) j6 y6 ∧ R (i + 1) y1 y2 y3 y4 y5 y6 g', bk := D.nx } e2 g2) (hd : ∀ x1 x2 x3 x4 x5 x6 g', R ds.length x1 x2 x3 x4 x5 x6 g' → D.nx (List.set (List.set (List.set (List.set (List.set (List.set (e) j1 x1) j2 x2) j3 x3) j4 x4) j5 x5) j6 x6) g') :
    ∃ Iv : Nat → EV → GS → Prop, Iv 0 e g1 ∧ (∀ i e' g', i ≤ ds.length → Iv i e' g' → keep g') ∧ (∀ i d e' g', ds[i]? = some d → Iv i e' g' → tg d e' g' fun e2 g2 => tb { D with nx := Iv (i + 1), ct := Iv (i + 1), bk := D.nx } e2 g2) ∧ ∀ e' g', Iv ds.length e' g' → D.nx e' g' :=
  ⟨fun i e' g' => ∃ x1 x2 x3 x4 x5 x6, e' = List.set (List.set (List.set (List.set (List.set (List.set (e) j1 x1) j2 x2) j3 x3) j4 x4) j5 x5) j6 x6 ∧ R i x1 x2 x3 x4 x5 x6 g', h0, fun i e' g' hi ⟨x1, x2, x3, x4, x5, x6, _, h⟩ => hk i x1 x2 x3 x4 x5 x6 g' hi h, fun i d e' g' hd ⟨x1, x2, x3, x4, x5, x6, he, h⟩ => by subst he; exact hs i d x1 x2 x3 x4 x5 x6 g' hd h, fun e' g' ⟨x1, x2, x3, x4, x5, x6, he, h⟩ => by subst he; exact hd x1 x2 x3 x4 x5 x6 g' h⟩
theorem for7 (j1 j2 j3 j4 j5 j6 j7 : Nat) (R : Nat → Option DL.D → Option DL.D → Option DL.D → Option DL.D → Option DL.D → Option DL.D → Option DL.D → GS → Prop) (h0 : ∃ x1 x2 x3 x4 x5 x6 x7, e = List.set (List.set (List.set (List.set (List.set (List.set (List.set (e) j1 x1) j2 x2) j3 x3) j4 x4) j5 x5) j6 x6) j7 x7 ∧ R 0 x1 x2 x3 x4 x5 x6 x7 g1) (hk : ∀ i x1 x2 x3 x4 x5 x6 x7 g', i ≤ ds.length → R i x1 x2 x3 x4 x5 x6 x7 g' → keep g')
    (hs : ∀ i d x1 x2 x3 x4 x5 x6 x7 g', ds[i]? = some d → R i x1 x2 x3 x4 x5 x6 x7 g' → tg d (List.set (List.set (List.set (List.set (List.set (List.set (List.set (e) j1 x1) j2 x2) j3 x3) j4 x4) j5 x5) j6 x6) j7 x7) g' fun e2 g2 => tb { D with nx := fun e' g' => ∃ y1 y2 y3 y4 y5 y6 y7, e' = List.set (List.set (List.set (List.set (List.set (List.set (List.set (e) j1 y1) j2 y2) j3 y3) j4 y4) j5 y5) j6 y6) j7 y7 ∧ R (i + 1) y1 y2 y3 y4 y5 y6 y7 g', ct := fun e' g' => ∃ y1 y2 y3 y4 y5 y6 y7, e' = List.set (List.set (List.set (List.set (List.set (List.set (List.set (e) j1 y1) j2 y2) j3 y3) j4 y4) j5 y5) j6 y6) j7 y7 ∧ R (i + 1) y1 y2 y3 y4 y5 y6 y7 g', bk := D.nx } e2 g2) (hd : ∀ x1 x2 x3 x4 x5 x6 x7 g', R ds.length x1 x2 x3 x4 x5 x6 x7 g' → D.nx (List.set (List.set (List.set (List.set (List.set (List.set (List.set (e) j1 x1) j2 x2) j3 x3) j4 x4) j5 x5) j6 x6) j7 x7) g') :
    ∃ Iv : Nat → EV → GS → Prop, Iv 0 e g1 ∧ (∀ i e' g', i ≤ ds.length → Iv i e' g' → keep g') ∧ (∀ i d e' g', ds[i]? = some d → Iv i e' g' → tg d e' g' fun e2 g2 => tb { D with nx := Iv (i + 1), ct := Iv (i + 1), bk := D.nx } e2 g2) ∧ ∀ e' g', Iv ds.length e' g' → D.nx e' g' :=
  ⟨fun i e' g' => ∃ x1 x2 x3 x4 x5 x6 x7, e' = List.set (List.set (List.set (List.set (List.set (List.set (List.set (e) j1 x1) j2 x2) j3 x3) j4 x4) j5 x5) j6 x6) j7 x7 ∧ R i x1 x2 x3 x4 x5 x6 x7 g', h0, fun i e' g' hi ⟨x1, x2, x3, x4, x5, x6, x7, _, h⟩ => hk i x1 x2 x3 x4 x5 x6 x7 g' hi h, fun i d e' g' hd ⟨x1, x2, x3, x4, x5, x6, x7, he, h⟩ => by subst he; exact hs i d x1 x2 x3 x4 x5 x6 x7 g' hd h, fun e' g' ⟨x1, x2, x3, x4, x5, x6, x7, he, h⟩ => by subst he; exact hd x1 x2 x3 x4 x5 x6 x7 g' h⟩
theorem for8 (j1 j2 j3 j4 j5 j6 j7 j8 : Nat) (R : Nat → Option DL.D → Option DL.D → Option DL.D → Option DL.D → Option DL.D → Option DL.D → Option DL.D → Option DL.D → GS → Prop) (h0 : ∃ x1 x2 x3 x4 x5 x6 x7 x8, e = List.set (List.set (List.set (List.set (List.set (List.set (List.set (List.set (e) j1 x1) j2 x2) j3 x3) j4 x4) j5 x5) j6 x6) j7 x7) j8 x8 ∧ R 0 x1 x2 x3 x4 x5 x6 x7 x8 g1) (hk : ∀ i x1 x2 x3 x4 x5 x6 x7 x8 g', i ≤ ds.length → R i x1 x2 x3 x4 x5 x6 x7 x8 g' → keep g')
    (hs : ∀ i d x1 x2 x3 x4 x5 x6 x7 x8 g', ds[i]? = some d → R i x1 x2 x3 x4 x5 x6 x7 x8 g' → tg d (List.set (List.set (List.set (List.set (List.set (List.set (List.set (List.set (e) j1 x1) j2 x2) j3 x3) j4 x4) j5 x5) j6 x6) j7 x7) j8 x8) g' fun e2 g2 => tb { D with nx := fun e' g' => ∃ y1 y2 y3 y4 y5 y6 y7 y8, e' = List.set (List.set (List.set (List.set (List.set (List.set (List.set (List.set (e) j1 y1) j2 y2) j3 y3) j4 y4) j5 y5) j6 y6) j7 y7) j8 y8 ∧ R (i + 1) y1 y2 y3 y4 y5 y6 y7 y8 g', ct := fun e' g' => ∃ y1 y2 y3 y4 y5 y6 y7 y8, e' = List.set (List.set (List.set (List.set (List.set (List.set (List.set (List.set (e) j1 y1) j2 y2) j3 y3) j4 y4) j5 y5) j6 y6) j7 y7) j8 y8 ∧ R (i + 1) y1 y2 y3 y4 y5 y6 y7 y8 g', bk := D.nx } e2 g2) (hd : ∀ x1 x2 x3 x4 x5 x6 x7 x8 g', R ds.length x1 x2 x3 x4 x5 x6 x7 x8 g' → D.nx (List.set (List.set (List.set (List.set (List.set (List.set (List.set (List.set (e) j1 x1) j2 x2) j3 x3) j4 x4) j5 x5) j6 x6) j7 x7) j8 x8) g') :
    ∃ Iv : Nat → EV → GS → Prop, Iv 0 e g1 ∧ (∀ i e' g', i ≤ ds.length → Iv i e' g' → keep g') ∧ (∀ i d e' g', ds[i]? = some d → Iv i e' g' → tg d e' g' fun e2 g2 => tb { D with nx := Iv (i + 1), ct := Iv (i + 1), bk := D.nx } e2 g2) ∧ ∀ e' g', Iv ds.length e' g' → D.nx e' g' :=
  ⟨fun i e' g' => ∃ x1 x2 x3 x4 x5 x6 x7 x8, e' = List.set (List.set (List.set (List.set (List.set (List.set (List.set (List.set (e) j1 x1) j2 x2) j3 x3) j4 x4) j5 x5) j6 x6) j7 x7) j8 x8 ∧ R i x1 x2 x3 x4 x5 x6 x7 x8 g', h0, fun i e' g' hi ⟨x1, x2, x3, x4, x5, x6, x7, x8, _, h⟩ => hk i x1 x2 x3 x4 x5 x6 x7 x8 g' hi h, fun i d e' g' hd ⟨x1, x2, x3, x4, x5, x6, x7, x8, he, h⟩ => by subst he; exact hs i d x1 x2 x3 x4 x5 x6 x7 x8 g' hd h, fun e' g' ⟨x1, x2, x3, x4, x5, x6, x7, x8, he, h⟩ => by subst he; exact hd x1 x2 x3 x4 x5 x6 x7 x8 g' h⟩
theorem for9 (j1 j2 j3 j4 j5 j6 j7 j8 j9 : Nat) (R : Nat → Option DL.D → Option DL.D → Option DL.D → Option DL.D → Option DL.D → Option DL.D → Option DL.D → Option DL.D → Option DL.D → GS → Prop) (h0 : ∃ x1 x2 x3 x4 x5 x6 x7 x8 x9, e = List.set (List.set (List.set (List.set (List.set (List.set (List.set (List.set (List.set (e) j1 x1) j2 x2) j3 x3) j4 x4) j5 x5) j6 x6) j7 x7) j8 x8) j9 x9 ∧ R 0 x1 x2 x3 x4 x5 x6 x7 x8 x9 g1) (hk : ∀ i x1 x2 x3 x4 x5 x6 x7 x8 x9 g', i ≤ ds.length → R i x1 x2 x3 x4 x5 x6 x7 x8 x9 g' → keep g')
    (hs : ∀ i d x1 x2 x3 x4 x5 x6 x7 x8 x9 g', ds[i]? = some d → R i x1 x2 x3 x4 x5 x6 x7 x8 x9 g' → tg d (List.set (List.set (List.set (List.set (List.set (List.set (List.set (List.set (List.set (e) j1 x1) j2 x2) j3 x3) j4 x4) j5 x5) j6 x6) j7 x7) j8 x8) j9 x9) g' fun e2 g2 => tb { D with nx := fun e' g' => ∃ y1 y2 y3 y4 y5 y6 y7 y8 y9, e' = List.set (List.set (List.set (List.set (List.set (List.set (List.set (List.set (List.set (e) j1 y1) j2 y2) j3 y3) j4 y4) j5 y5) j6 y6) j7 y7) j8 y8) j9 y9 ∧ R (i + 1) y1 y2 y3 y4 y5 y6 y7 y8 y9 g', ct := fun e' g' => ∃ y1 y2 y3 y4 y5 y6 y7 y8 y9, e' = List.set (List.set (List.set (List.set (List.set (List.set (List.set (List.set (List.set (e) j1 y1) j2 y2) j3 y3) j4 y4) j5 y5) j6 y6) j7 y7) j8 y8) j9 y9 ∧ R (i + 1) y1 y2 y3 y4 y5 y6 y7 y8 y9 g', bk := D.nx } e2 g2) (hd : ∀ x1 x2 x3 x4 x5 x6 x7 x8 x9 g', R ds.length x1 x2 x3 x4 x5 x6 x7 x8 x9 g' → D.nx (List.set (List.set (List.set (List.set (List.set (List.set (List.set (List.set (List.set (e) j1 x1) j2 x2) j3 x3) j4 x4) j5 x5) j6 x6) j7 x7) j8 x8) j9 x9) g') :
    ∃ Iv : Nat → EV → GS → Prop, Iv 0 e g1 ∧ (∀ i e' g', i ≤ ds.length → Iv i e' g' → keep g') ∧ (∀ i d e' g', ds[i]? = some d → Iv i e' g' → tg d e' g' fun e2 g2 => tb { D with nx := Iv (i + 1), ct := Iv (i + 1), bk := D.nx } e2 g2) ∧ ∀ e' g', Iv ds.length e' g' → D.nx e' g' :=
  ⟨fun i e' g' => ∃ x1 x2 x3 x4 x5 x6 x7 x8 x9, e' = List.set (List.set (List.set (List.set (List.set (List.set (List.set (List.set (List.set (e) j1 x1) j2 x2) j3 x3) j4 x4) j5 x5) j6 x6) j7 x7) j8 x8) j9 x9 ∧ R i x1 x2 x3 x4 x5 x6 x7 x8 x9 g', h0, fun i e' g' hi ⟨x1, x2, x3, x4, x5, x6, x7, x8, x9, _, h⟩ => hk i x1 x2 x3 x4 x5 x6 x7 x8 x9 g' hi h, fun i d e' g' hd ⟨x1, x2, x3, x4, x5, x6, x7, x8, x9, he, h⟩ => by subst he; exact hs i d x1 x2 x3 x4 x5 x6 x7 x8 x9 g' hd h, fun e' g' ⟨x1, x2, x3, x4, x5, x6, x7, x8, x9, he, h⟩ => by subst he; exact hd x1 x2 x3 x4 x5 x6 x7 x8 x9 g' h⟩
theorem for10 (j1 j2 j3 j4 j5 j6 j7 j8 j9 j10 : Nat) (R : Nat → Option DL.D → Option DL.D → Option DL.D → Option DL.D → Option DL.D → Option DL.D → Option DL.D → Option DL.D → Option DL.D → Option DL.D → GS → Prop) (h0 : ∃ x1 x2 x3 x4 x5 x6 x7 x8 x9 x10, e = List.set (List.set (List.set (List.set (List.set (List.set (List.set (List.set (List.set (List.set (e) j1 x1) j2 x2) j3 x3) j4 x4) j5 x5) j6 x6) j7 x7) j8 x8) j9 x9) j10 x10 ∧ R 0 x1 x2 x3 x4 x5 x6 x7 x8 x9 x10 g1) (hk : ∀ i x1 x2 x3 x4 x5 x6 x7 x8 x9 x10 g', i ≤ ds.length → R i x1 x2 x3 x4 x5 x6 x7 x8 x9 x10 g' → keep g')
    (hs : ∀ i d x1 x2 x3 x4 x5 x6 x7 x8 x9 x10 g', ds[i]? = some d → R i x1 x2 x3 x4 x5 x6 x7 x8 x9 x10 g' → tg d (List.set (List.set (List.set (List.set (List.set (List.set (List.set (List.set (List.set (List.set (e) j1 x1) j2 x2) j3 x3) j4 x4) j5 x5) j6 x6) j7 x7) j8 x8) j9 x9) j10 x10) g' fun e2 g2 => tb { D with nx := fun e' g' => ∃ y1 y2 y3 y4 y5 y6 y7 y8 y9 y10, e' = List.set (List.set (List.set (List.set (List.set (List.set (List.set (List.set (List.set (List.set (e) j1 y1) j2 y2) j3 y3) j4 y4) j5 y5) j6 y6) j7 y7) j8 y8) j9 y9) j10 y10 ∧ R (i + 1) y1 y2 y3 y4 y5 y6 y7 y8 y9 y10 g', ct := fun e' g' => ∃ y1 y2 y3 y4 y5 y6 y7 y8 y9 y10, e' = List.set (List.set (List.set (List.set (List.set (List.set (List.set (List.set (List.set (List.set (e) j1 y1) j2 y2) j3 y3) j4 y4) j5 y5) j6 y6) j7 y7) j8 y8) j9 y9) j10 y10 ∧ R (i + 1) y1 y2 y3 y4 y5 y6 y7 y8 y9 y10 g', bk := D.nx } e2 g2) (hd : ∀ x1 x2 x3 x4 x5 x6 x7 x8 x9 x10 g', R ds.length x1 x2 x3 x4 x5 x6 x7 x8 x9 x10 g' → D.nx (List.set (List.set (List.set (List.set (List.set (List.set (List.set (List.set (List.set (List.set (e) j1 x1) j2 x2) j3 x3) j4 x4) j5 x5) j6 x6) j7 x7) j8 x8) j9 x9) j10 x10) g') :
    ∃ Iv : Nat → EV → GS → Prop, Iv 0 e g1 ∧ (∀ i e' g', i ≤ ds.length → Iv i e' g' → keep g') ∧ (∀ i d e' g', ds[i]? = some d → Iv i e' g' → tg d e' g' fun e2 g2 => tb { D with nx := Iv (i + 1), ct := Iv (i + 1), bk := D.nx } e2 g2) ∧ ∀ e' g', Iv ds.length e' g' → D.nx e' g' :=
  ⟨fun i e' g' => ∃ x1 x2 x3 x4 x5 x6 x7 x8 x9 x10, e' = List.set (List.set (List.set (List.set (List.set (List.set (List.set (List.set (List.set (List.set (e) j1 x1) j2 x2) j3 x3) j4 x4) j5 x5) j6 x6) j7 x7) j8 x8) j9 x9) j10 x10 ∧ R i x1 x2 x3 x4 x5 x6 x7 x8 x9 x10 g', h0, fun i e' g' hi ⟨x1, x2, x3, x4, x5, x6, x7, x8, x9, x10, _, h⟩ => hk i x1 x2 x3 x4 x5 x6 x7 x8 x9 x10 g' hi h, fun i d e' g' hd ⟨x1, x2, x3, x4, x5, x6, x7, x8, x9, x10, he, h⟩ => by subst he; exact hs i d x1 x2 x3 x4 x5 x6 x7 x8 x9 x10 g' hd h, fun e' g' ⟨x1, x2, x3, x4, x5, x6, x7, x8, x9, x10, he, h⟩ => by subst he; exact hd x1 x2 x3 x4 x5 x6 x7 x8 x9 x10 g' h⟩
theorem for11 (j1 j2 j3 j4 j5 j6 j7 j8 j9 j10 j11 : Nat) (R : Nat → Option DL.D → Option DL.D → Option DL.D → Option DL.D → Option DL.D → Option DL.D → Option DL.D → Option DL.D → Option DL.D → Option DL.D → Option DL.D → GS → Prop) (h0 : ∃ x1 x2 x3 x4 x5 x6 x7 x8 x9 x10 x11, e = List.set (List.set (List.set (List.set (List.set (List.set (List.set (List.set (List.set (List.set (List.set (e) j1 x1) j2 x2) j3 x3) j4 x4) j5 x5) j6 x6) j7 x7) j8 x8) j9 x9) j10 x10) j11 x11 ∧ R 0 x1 x2 x3 x4 x5 x6 x7 x8 x9 x10 x11 g1) (hk : ∀ i x1 x2 x3 x4 x5 x6 x7 x8 x9 x10 x11 g', i ≤ ds.length → R i x1 x2 x3 x4 x5 x6 x7 x8 x9 x10 x11 g' → keep g')
    (hs : ∀ i d x1 x2 x3 x4 x5 x6 x7 x8 x9 x10 x11 g', ds[i]? = some d → R i x1 x2 x3 x4 x5 x6 x7 x8 x9 x10 x11 g' → tg d (List.set (List.set (List.set (List.set (List.set (List.set (List.set (List.set (List.set (List.set (List.set (e) j1 x1) j2 x2) j3 x3) j4 x4) j5 x5) j6 x6) j7 x7) j8 x8) j9 x9) j10 x10) j11 x11) g' fun e2 g2 => tb { D with nx := fun e' g' => ∃ y1 y2 y3 y4 y5 y6 y7 y8 y9 y10 y11, e' = List.set (List.set (List.set (List.set (List.set (List.set (List.set (List.set (List.set (List.set (List.set (e) j1 y1) j2 y2) j3 y3) j4 y4) j5 y5) j6 y6) j7 y7) j8 y8) j9 y9) j10 y10) j11 y11 ∧ R (i + 1) y1 y2 y3 y4 y5 y6 y7 y8 y9 y10 y11 g', ct := fun e' g' => ∃ y1 y2 y3 y4 y5 y6 y7 y8 y9 y10 y11, e' = List.set (List.set (List.set (List.set (List.set (List.set (List.set (List.set (List.set (List.set (List.set (e) j1 y1) j2 y2) j3 y3) j4 y4) j5 y5) j6 y6) j7 y7) j8 y8) j9 y9) j10 y10) j11 y11 ∧ R (i + 1) y1 y2 y3 y4 y5 y6 y7 y8 y9 y10 y11 g', bk := D.nx } e2 g2) (hd : ∀ x1 x2 x3 x4 x5 x6 x7 x8 x9 x10 x11 g', R ds.length x1 x2 x3 x4 x5 x6 x7 x8 x9 x10 x11 g' → D.nx (List.set (List.set (List.set (List.set (List.set (List.set (List.set (List.set (List.set (List.set (List.set (e) j1 x1) j2 x2) j3 x3) j4 x4) j5 x5) j6 x6) j7 x7) j8 x8) j9 x9) j10 x10) j11 x11) g') :
    ∃ Iv : Nat → EV → GS → Prop, Iv 0 e g1 ∧ (∀ i e' g', i ≤ ds.length → Iv i e' g' → keep g') ∧ (∀ i d e' g', ds[i]? = some d → Iv i e' g' → tg d e' g' fun e2 g2 => tb { D with nx := Iv (i + 1), ct := Iv (i + 1), bk := D.nx } e2 g2) ∧ ∀ e' g', Iv ds.length e' g' → D.nx e' g' :=
  ⟨fun i e' g' => ∃ x1 x2 x3 x4 x5 x6 x7 x8 x9 x10 x11, e' = List.set (List.set (List.set (List.set (List.set (List.set (List.set (List.set (List.set (List.set (List.set (e) j1 x1) j2 x2) j3 x3) j4 x4) j5 x5) j6 x6) j7 x7) j8 x8) j9 x9) j10 x10) j11 x11 ∧ R i x1 x2 x3 x4 x5 x6 x7 x8 x9 x10 x11 g', h0, fun i e' g' hi ⟨x1, x2, x3, x4, x5, x6, x7, x8, x9, x10, x11, _, h⟩ => hk i x1 x2 x3 x4 x5 x6 x7 x8 x9 x10 x11 g' hi h, fun i d e' g' hd ⟨x1, x2, x3, x4, x5, x6, x7, x8, x9, x10, x11, he, h⟩ => by subst he; exact hs i d x1 x2 x3 x4 x5 x6 x7 x8 x9 x10 x11 g' hd h, fun e' g' ⟨x1, x2, x3, x4, x5, x6, x7, x8, x9, x10, x11, he, h⟩ => by subst he; exact hd x1 x2 x3 x4 x5 x6 x7 x8 x9 x10 x11 g' h⟩
theorem for12 (j1 j2 j3 j4 j5 j6 j7 j8 j9 j10 j11 j12 : Nat) (R : Nat → Option DL.D → Option DL.D → Option DL.D → Option DL.D → Option DL.D → Option DL.D → Option DL.D → Option DL.D → Option DL.D → Option DL.D → Option DL.D → Option DL.D → GS → Prop) (h0 : ∃ x1 x2 x3 x4 x5 x6 x7 x8 x9 x10 x11 x12, e = List.set (List.set (List.set (List.set (List.set (List.set (List.set (List.set (List.set (List.set (List.set (List.set (e) j1 x1) j2 x2) j3 x3) j4 x4) j5 x5) j6 x6) j7 x7) j8 x8) j9 x9) j10 x10) j11 x11) j12 x12 ∧ R 0 x1 x2 x3 x4 x5 x6 x7 x8 x9 x10 x11 x12 g1) (hk : ∀ i x1 x2 x3 x4 x5 x6 x7 x8 x9 x10 x11 x12 g', i ≤ ds.length → R i x1 x2 x3 x4 x5 x6 x7 x8 x9 x10 x11 x12 g' → keep g')
    (hs : ∀ i d x1 x2 x3 x4 x5 x6 x7 x8 x9 x10 x11 x12 g', ds[i]? = some d → R i x1 x2 x3 x4 x5 x6 x7 x8 x9 x10 x11 x12 g' → tg d (List.set (List.set (List.set (List.set (List.set (List.set (List.set (List.set (List.set (List.set (List.set (List.set (e) j1 x1) j2 x2) j3 x3) j4 x4) j5 x5) j6 x6) j7 x7) j8 x8) j9 x9) j10 x10) j11 x11) j12 x12) g' fun e2 g2 => tb { D with nx := fun e' g' => ∃ y1 y2 y3 y4 y5 y6 y7 y8 y9 y10 y11 y12, e' = List.set (List.set (List.set (List.set (List.set (List.set (List.set (List.set (List.set (List.set (List.set (List.set (e) j1 y1) j2 y2) j3 y3) j4 y4) j5 y5) j6 y6) j7 y7) j8 y8) j9 y9) j10 y10) j11 y11) j12 y12 ∧ R (i + 1) y1 y2 y3 y4 y5 y6 y7 y8 y9 y10 y11 y12 g', ct := fun e' g' => ∃ y1 y2 y3 y4 y5 y6 y7 y8 y9 y10 y11 y12, e' = List.set (List.set (List.set (List.set (List.set (List.set (List.set (List.set (List.set (List.set (List.set (List.set (e) j1 y1) j2 y2) j3 y3) j4 y4) j5 y5) j6 y6) j7 y7) j8 y8) j9 y9) j10 y10) j11 y11) j12 y12 ∧ R (i + 1) y1 y2 y3 y4 y5 y6 y7 y8 y9 y10 y11 y12 g', bk := D.nx } e2 g2) (hd : ∀ x1 x2 x3 x4 x5 x6 x7 x8 x9 x10 x11 x12 g', R ds.length x1 x2 x3 x4 x5 x6 x7 x8 x9 x10 x11 x12 g' → D.nx (List.set (List.set (List.set (List.set (List.set (List.set (List.set (List.set (List.set (List.set (List.set (List.set (e) j1 x1) j2 x2) j3 x3) j4 x4) j5 x5) j6 x6) j7 x7) j8 x8) j9 x9) j10 x10) j11 x11) j12 x12) g') :
    ∃ Iv : Nat → EV → GS → Prop, Iv 0 e g1 ∧ (∀ i e' g', i ≤ ds.length → Iv i e' g' → keep g') ∧ (∀ i d e' g', ds[i]? = some d → Iv i e' g' → tg d e' g' fun e2 g2 => tb { D with nx := Iv (i + 1), ct := Iv (i + 1), bk := D.nx } e2 g2) ∧ ∀ e' g', Iv ds.length e' g' → D.nx e' g' :=
  ⟨fun i e' g' => ∃ x1 x2 x3 x4 x5 x6 x7 x8 x9 x10 x11 x12, e' = List.set (List.set (List.set (List.set (List.set (List.set (List.set (List.set (List.set (List.set (List.set (List.set (e) j1 x1) j2 x2) j3 x3) j4 x4) j5 x5) j6 x6) j7 x7) j8 x8) j9 x9) j10 x10) j11 x11) j12 x12 ∧ R i x1 x2 x3 x4 x5 x6 x7 x8 x9 x10 x11 x12 g', h0, fun i e' g' hi ⟨x1, x2, x3, x4, x5, x6, x7, x8, x9, x10, x11, x12, _, h⟩ => hk i x1 x2 x3 x4 x5 x6 x7 x8 x9 x10 x11 x12 g' hi h, fun i d e' g' hd ⟨x1, x2, x3, x4, x5, x6, x7, x8, x9, x10, x11, x12, he, h⟩ => by subst he; exact hs i d x1 x2 x3 x4 x5 x6 x7 x8 x9 x10 x11 x12 g' hd h, fun e' g' ⟨x1, x2, x3, x4, x5, x6, x7, x8, x9, x10, x11, x12, he, h⟩ => by subst he; exact hd x1 x2 x3 x4 x5 x6 x7 x8 x9 x10 x11 x12 g' h⟩
theorem for13 (j1 j2 j3 j4 j5 j6 j7 j8 j9 j10 j11 j12 j13 : Nat) (R : Nat → Option DL.D → Option DL.D → Option DL.D → Option DL.D → Option DL.D → Option DL.D → Option DL.D → Option DL.D → Option DL.D → Option DL.D → Option DL.D → Option DL.D → Option DL.D → GS → Prop) (h0 : ∃ x1 x2 x3 x4 x5 x6 x7 x8 x9 x10 x11 x12 x13, e = List.set (List.set (List.set (List.set (List.set (List.set (List.set (List.set (List.set (List.set (List.set (List.set (List.set (e) j1 x1) j2 x2) j3 x3) j4 x4) j5 x5) j6 x6) j7 x7) j8 x8) j9 x9) j10 x10) j11 x11) j12 x12) j13 x13 ∧ R 0 x1 x2 x3 x4 x5 x6 x7 x8 x9 x10 x11 x12 x13 g1) (hk : ∀ i x1 x2 x3 x4 x5 x6 x7 x8 x9 x10 x11 x12 x13 g', i ≤ ds.length → R i x1 x2 x3 x4 x5 x6 x7 x8 x9 x10 x11 x12 x13 g' → keep g')
    (hs : ∀ i d x1 x2 x3 x4 x5 x6 x7 x8 x9 x10 x11 x12 x13 g', ds[i]? = some d → R i x1 x2 x3 x4 x5 x6 x7 x8 x9 x10 x11 x12 x13 g' → tg d (List.set (List.set (List.set (List.set (List.set (List.set (List.set (List.set (List.set (List.set (List.set (List.set (List.set (e) j1 x1) j2 x2) j3 x3) j4 x4) j5 x5) j6 x6) j7 x7) j8 x8) j9 x9) j10 x10) j11 x11) j12 x12) j13 x13) g' fun e2 g2 => tb { D with nx := fun e' g' => ∃ y1 y2 y3 y4 y5 y6 y7 y8 y9 y10 y11 y12 y13, e' = List.set (List.set (List.set (List.set (List.set (List.set (List.set (List.set (List.set (List.set (List.set (List.set (List.set (e) j1 y1) j2 y2) j3 y3) j4 y4) j5 y5) j6 y6) j7 y7) j8 y8) j9 y9) j10 y10) j11 y11) j12 y12) j13 y13 ∧ R (i + 1) y1 y2 y3 y4 y5 y6 y7 y8 y9 y10 y11 y12 y13 g', ct := fun e' g' => ∃ y1 y2 y3 y4 y5 y6 y7 y8 y9 y10 y11 y12 y13, e' = List.set (List.set (List.set (List.set (List.set (List.set (List.set (List.set (List.set (List.set (List.set (List.set (List.set (e) j1 y1) j2 y2) j3 y3) j4 y4) j5 y5) j6 y6) j7 y7) j8 y8) j9 y9) j10 y10) j11 y11) j12 y12) j13 y13 ∧ R (i + 1) y1 y2 y3 y4 y5 y6 y7 y8 y9 y10 y11 y12 y13 g', bk := D.nx } e2 g2) (hd : ∀ x1 x2 x3 x4 x5 x6 x7 x8 x9 x10 x11 x12 x13 g', R ds.length x1 x2 x3 x4 x5 x6 x7 x8 x9 x10 x11 x12 x13 g' → D.nx (List.set (List.set (List.set (List.set (List.set (List.set (List.set (List.set (List.set (List.set (List.set (List.set (List.set (e) j1 x1) j2 x2) j3 x3) j4 x4) j5 x5) j6 x6) j7 x7) j8 x8) j9 x9) j10 x10) j11 x11) j12 x12) j13 x13) g') :
    ∃ Iv : Nat → EV → GS → Prop, Iv 0 e g1 ∧ (∀ i e' g', i ≤ ds.length → Iv i e' g' → keep g') ∧ (∀ i d e' g', ds[i]? = some d → Iv i e' g' → tg d e' g' fun e2 g2 => tb { D with nx := Iv (i + 1), ct := Iv (i + 1), bk := D.nx } e2 g2) ∧ ∀ e' g', Iv ds.length e' g' → D.nx e' g' :=
  ⟨fun i e' g' => ∃ x1 x2 x3 x4 x5 x6 x7 x8 x9 x10 x11 x12 x13, e' = List.set (List.set (List.set (List.set (List.set (List.set (List.set (List.set (List.set (List.set (List.set (List.set (List.set (e) j1 x1) j2 x2) j3 x3) j4 x4) j5 x5) j6 x6) j7 x7) j8 x8) j9 x9) j10 x10) j11 x11) j12 x12) j13 x13 ∧ R i x1 x2 x3 x4 x5 x6 x7 x8 x9 x10 x11 x12 x13 g', h0, fun i e' g' hi ⟨x1, x2, x3, x4, x5, x6, x7, x8, x9, x10, x11, x12, x13, _, h⟩ => hk i x1 x2 x3 x4 x5 x6 x7 x8 x9 x10 x11 x12 x13 g' hi h, fun i d e' g' hd ⟨x1, x2, x3, x4, x5, x6, x7, x8, x9, x10, x11, x12, x13, he, h⟩ => by subst he; exact hs i d x1 x2 x3 x4 x5 x6 x7 x8 x9 x10 x11 x12 x13 g' hd h, fun e' g' ⟨x1, x2, x3, x4, x5, x6, x7, x8, x9, x10, x11, x12, x13, he, h⟩ => by subst he; exact hd x1 x2 x3 x4 x5 x6 x7 x8 x9 x10 x11 x12 x13 g' h⟩
theorem for14 (j1 j2 j3 j4 j5 j6 j7 j8 j9 j10 j11 j12 j13 j14 : Nat) (R : Nat → Option DL.D → Option DL.D → Option DL.D → Option DL.D → Option DL.D → Option DL.D → Option DL.D → Option DL.D → Option DL.D → Option DL.D → Option DL.D → Option DL.D → Option DL.D → Option DL.D → GS → Prop) (h0 : ∃ x1 x2 x3 x4 x5 x6 x7 x8 x9 x10 x11 x12 x13 x14, e = List.set (List.set (List.set (List.set (List.set (List.set (List.set (List.set (List.set (List.set (List.set (List.set (List.set (List.set (e) j1 x1) j2 x2) j3 x3) j4 x4) j5 x5) j6 x6) j7 x7) j8 x8) j9 x9) j10 x10) j11 x11) j12 x12) j13 x13) j14 x14 ∧ R 0 x1 x2 x3 x4 x5 x6 x7 x8 x9 x10 x11 x12 x13 x14 g1) (hk : ∀ i x1 x2 x3 x4 x5 x6 x7 x8 x9 x10 x11 x12 x13 x14 g', i ≤ ds.length → R i x1 x2 x3 x4 x5 x6 x7 x8 x9 x10 x11 x12 x13 x14 g' → keep g')
    (hs : ∀ i d x1 x2 x3 x4 x5 x6 x7 x8 x9 x10 x11 x12 x13 x14 g', ds[i]? = some d → R i x1 x2 x3 x4 x5 x6 x7 x8 x9 x10 x11 x12 x13 x14 g' → tg d (List.set (List.set (List.set (List.set (List.set (List.set (List.set (List.set (List.set (List.set (List.set (List.set (List.set (List.set (e) j1 x1) j2 x2) j3 x3) j4 x4) j5 x5) j6 x6) j7 x7) j8 x8) j9 x9) j10 x10) j11 x11) j12 x12) j13 x13) j14 x14) g' fun e2 g2 => tb { D with nx := fun e' g' => ∃ y1 y2 y3 y4 y5 y6 y7 y8 y9 y10 y11 y12 y13 y14, e' = List.set (List.set (List.set (List.set (List.set (List.set (List.set (List.set (List.set (List.set (List.set (List.set (List.set (List.set (e) j1 y1) j2 y2) j3 y3) j4 y4) j5 y5) j6 y6) j7 y7) j8 y8) j9 y9) j10 y10) j11 y11) j12 y12) j13 y13) j14 y14 ∧ R (i + 1) y1 y2 y3 y4 y5 y6 y7 y8 y9 y10 y11 y12 y13 y14 g', ct := fun e' g' => ∃ y1 y2 y3 y4 y5 y6 y7 y8 y9 y10 y11 y12 y13 y14, e' = List.set (List.set (List.set (List.set (List.set (List.set (List.set (List.set (List.set (List.set (List.set (List.set (List.set (List.set (e) j1 y1) j2 y2) j3 y3) j4 y4) j5 y5) j6 y6) j7 y7) j8 y8) j9 y9) j10 y10) j11 y11) j12 y12) j13 y13) j14 y14 ∧ R (i + 1) y1 y2 y3 y4 y5 y6 y7 y8 y9 y10 y11 y12 y13 y14 g', bk := D.nx } e2 g2) (hd : ∀ x1 x2 x3 x4 x5 x6 x7 x8 x9 x10 x11 x12 x13 x14 g', R ds.length x1 x2 x3 x4 x5 x6 x7 x8 x9 x10 x11 x12 x13 x14 g' → D.nx (List.set (List.set (List.set (List.set (List.set (List.set (List.set (List.set (List.set (List.set (List.set (List.set (List.set (List.set (e) j1 x1) j2 x2) j3 x3) j4 x4) j5 x5) j6 x6) j7 x7) j8 x8) j9 x9) j10 x10) j11 x11) j12 x12) j13 x13) j14 x14) g') :
    ∃ Iv : Nat → EV → GS → Prop, Iv 0 e g1 ∧ (∀ i e' g', i ≤ ds.length → Iv i e' g' → keep g') ∧ (∀ i d e' g', ds[i]? = some d → Iv i e' g' → tg d e' g' fun e2 g2 => tb { D with nx := Iv (i + 1), ct := Iv (i + 1), bk := D.nx } e2 g2) ∧ ∀ e' g', Iv ds.length e' g' → D.nx e' g' :=
  ⟨fun i e' g' => ∃ x1 x2 x3 x4 x5 x6 x7 x8 x9 x10 x11 x12 x13 x14, e' = List.set (List.set (List.set (List.set (List.set (List.set (List.set (List.set (List.set (List.set (List.set (List.set (List.set (List.set (e) j1 x1) j2 x2) j3 x3) j4 x4) j5 x5) j6 x6) j7 x7) j8 x8) j9 x9) j10 x10) j11 x11) j12 x12) j13 x13) j14 x14 ∧ R i x1 x2 x3 x4 x5 x6 x7 x8 x9 x10 x11 x12 x13 x14 g', h0, fun i e' g' hi ⟨x1, x2, x3, x4, x5, x6, x7, x8, x9, x10, x11, x12, x13, x14, _, h⟩ => hk i x1 x2 x3 x4 x5 x6 x7 x8 x9 x10 x11 x12 x13 x14 g' hi h, fun i d e' g' hd ⟨x1, x2, x3, x4, x5, x6, x7, x8, x9, x10, x11, x12, x13, x14, he, h⟩ => by subst he; exact hs i d x1 x2 x3 x4 x5 x6 x7 x8 x9 x10 x11 x12 x13 x14 g' hd h, fun e' g' ⟨x1, x2, x3, x4, x5, x6, x7, x8, x9, x10, x11, x12, x13, x14, he, h⟩ => by subst he; exact hd x1 x2 x3 x4 x5 x6 x7 x8 x9 x10 x11 x12 x13 x14 g' h⟩
end
section
variable {c : DTT} {tb : DTS} {D : DEnds} {e : EV} {g : GS}
theorem whl1 (j1 : Nat) (R : Nat → Option DL.D → GS → Prop) (m : Nat) (h0 : ∃ x1, e = List.set (e) j1 x1 ∧ R m x1 g)
    (hs : ∀ m x1 g', R m x1 g' → c (List.set (e) j1 x1) g' fun b g1 => if b = true then ∃ N : EV → GS → Prop, (∀ e' g', N e' g' → ∃ m', m' < m ∧ (∃ y1, e' = List.set (e) j1 y1 ∧ R m' y1 g')) ∧ tb { D with nx := N, ct := N, bk := D.nx } (List.set (e) j1 x1) g1 else D.nx (List.set (e) j1 x1) g1) : dWhile c tb D e g := by
  refine s_while (fun m e' g' => ∃ x1, e' = List.set (e) j1 x1 ∧ R m x1 g') m h0 ?_
  rintro m e' g' ⟨x1, rfl, h⟩
  exact hs m x1 g' h
theorem whl2 (j1 j2 : Nat) (R : Nat → Option DL.D → Option DL.D → GS → Prop) (m : Nat) (h0 : ∃ x1 x2, e = List.set (List.set (e) j1 x1) j2 x2 ∧ R m x1 x2 g)
    (hs : ∀ m x1 x2 g', R m x1 x2 g' → c (List.set (List.set (e) j1 x1) j2 x2) g' fun b g1 => if b = true then ∃ N : EV → GS → Prop, (∀ e' g', N e' g' → ∃ m', m' < m ∧ (∃ y1 y2, e' = List.set (List.set (e) j1 y1) j2 y2 ∧ R m' y1 y2 g')) ∧ tb { D with nx := N, ct := N, bk := D.nx } (List.set (List.set (e) j1 x1) j2 x2) g1 else D.nx (List.set (List.set (e) j1 x1) j2 x2) g1) : dWhile c tb D e g := by
  refine s_while (fun m e' g' => ∃ x1 x2, e' = List.set (List.set (e) j1 x1) j2 x2 ∧ R m x1 x2 g') m h0 ?_
  rintro m e' g' ⟨x1, x2, rfl, h⟩
  exact hs m x1 x2 g' h
theorem whl3 (j1 j2 j3 : Nat) (R : Nat → Option DL.D → Option DL.D → Option DL.D → GS → Prop) (m : Nat) (h0 : ∃ x1 x2 x3, e = List.set (List.set (List.set (e) j1 x1) j2 x2) j3 x3 ∧ R m x1 x2 x3 g)
    (hs : ∀ m x1 x2 x3 g', R m x1 x2 x3 g' → c (List.set (List.set (List.set (e) j1 x1) j2 x2) j3 x3) g' fun b g1 => if b = true then ∃ N : EV → GS → Prop, (∀ e' g', N e' g' → ∃ m', m' < m ∧ (∃ y1 y2 y3, e' = List.set (List.set (List.set (e) j1 y1) j2 y2) j3 y3 ∧ R m' y1 y2 y3 g')) ∧ tb { D with nx := N, ct := N, bk := D.nx } (List.set (List.set (List.set (e) j1 x1) j2 x2) j3 x3) g1 else D.nx (List.set (List.set (List.set (e) j1 x1) j2 x2) j3 x3) g1) : dWhile c tb D e g := by
  refine s_while (fun m e' g' => ∃ x1 x2 x3, e' = List.set (List.set (List.set (e) j1 x1) j2 x2) j3 x3 ∧ R m x1 x2 x3 g') m h0 ?_
  rintro m e' g' ⟨x1, x2, x3, rfl, h⟩
  exact hs m x1 x2 x3 g' h
theorem whl4 (j1 j2 j3 j4 : Nat) (R : Nat → Option DL.D → Option DL.D → Option DL.D → Option DL.D → GS → Prop) (m : Nat) (h0 : ∃ x1 x2 x3 x4, e = List.set (List.set (List.set (List.set (e) j1 x1) j2 x2) j3 x3) j4 x4 ∧ R m x1 x2 x3 x4 g)
    (hs : ∀ m x1 x2 x3 x4 g', R m x1 x2 x3 x4 g' → c (List.set (List.set (List.set (List.set (e) j1 x1) j2 x2) j3 x3) j4 x4) g' fun b g1 => if b = true then ∃ N : EV → GS → Prop, (∀ e' g', N e' g' → ∃ m', m' < m ∧ (∃ y1 y2 y3 y4, e' = List.set (List.set (List.set (List.set (e) j1 y1) j2 y2) j3 y3) j4 y4 ∧ R m' y1 y2 y3 y4 g')) ∧ tb { D with nx := N, ct := N, bk := D.nx } (List.set (List.set (List.set (List.set (e) j1 x1) j2 x2) j3 x3) j4 x4) g1 else D.nx (List.set (List.set (List.set (List.set (e) j1 x1) j2 x2) j3 x3) j4 x4) g1) : dWhile c tb D e g := by
  refine s_while (fun m e' g' => ∃ x1 x2 x3 x4, e' = List.set (List.set (List.set (List.set (e) j1 x1) j2 x2) j3 x3) j4 x4 ∧ R m x1 x2 x3 x4 g') m h0 ?_
  rintro m e' g' ⟨x1, x2, x3, x4, rfl, h⟩
  exact hs m x1 x2 x3 x4 g' h
theorem whl5 (j1 j2 j3 j4 j5 : Nat) (R : Nat → Option DL.D → Option DL.D → Option DL.D → Option DL.D → Option DL.D → GS → Prop) (m : Nat) (h0 : ∃ x1 x2 x3 x4 x5, e = List.set (List.set (List.set (List.set (List.set (e) j1 x1) j2 x2) j3 x3) j4 x4) j5 x5 ∧ R m x1 x2 x3 x4 x5 g)
    (hs : ∀ m x1 x2 x3 x4 x5 g', R m x1 x2 x3 x4 x5 g' → c (List.set (List.set (List.set (List.set (List.set (e) j1 x1) j2 x2) j3 x3) j4 x4) j5 x5) g' fun b g1 => if b = true then ∃ N : EV → GS → Prop, (∀ e' g', N e' g' → ∃ m', m' < m ∧ (∃ y1 y2 y3 y4 y5, e' = List.set (List.set (List.set (List.set (List.set (e) j1 y1) j2 y2) j3 y3) j4 y4) j5 y5 ∧ R m' y1 y2 y3 y4 y5 g')) ∧ tb { D with nx := N, ct := N, bk := D.nx } (List.set (List.set (List.set (List.set (List.set (e) j1 x1) j2 x2) j3 x3) j4 x4) j5 x5) g1 else D.nx (List.set (List.set (List.set (List.set (List.set (e) j1 x1) j2 x2) j3 x3) j4 x4) j5 x5) g1) : dWhile c tb D e g := by
  refine s_while (fun m e' g' => ∃ x1 x2 x3 x4 x5, e' = List.set (List.set (List.set (List.set (List.set (e) j1 x1) j2 x2) j3 x3) j4 x4) j5 x5 ∧ R m x1 x2 x3 x4 x5 g') m h0 ?_
  rintro m e' g' ⟨x1, x2, x3, x4, x5, rfl, h⟩
  exact hs m x1 x2 x3 x4 x5 g' h
theorem whl6 (j1 j2 j3 j4 j5 j6 : Nat) (R : Nat → Option DL.D → Option DL.D → Option DL.D → Option DL.D → Option DL.D → Option DL.D → GS → Prop) (m : Nat) (h0 : ∃ x1 x2 x3 x4 x5 x6, e = List.set (List.set (List.set (List.set (List.set (List.set (e) j1 x1) j2 x2) j3 x3) j4 x4) j5 x5) j6 x6 ∧ R m x1 x2 x3 x4 x5 x6 g)
    (hs : ∀ m x1 x2 x3 x4 x5 x6 g', R m x1 x2 x3 x4 x5 x6 g' → c (List.set (List.set (List.set (List.set (List.set (List.set (e) j1 x1) j2 x2) j3 x3) j4 x4) j5 x5) j6 x6) g' fun b g1 => if b = true then ∃ N : EV → GS → Prop, (∀ e' g', N e' g' → ∃ m', m' < m ∧ (∃ y1 y2 y3 y4 y5 y6, e' = List.set (List.set (List.set (List.set (List.set (List.set (e) j1 y1) j2 y2) j3 y3) j4 y4) j5 y5) j6 y6 ∧ R m' y1 y2 y3 y4 y5 y6 g')) ∧ tb { D with nx := N, ct := N, bk := D.nx } (List.set (List.set (List.set (List.set (List.set (List.set (e) j1 x1) j2 x2) j3 x3) j4 x4) j5 x5) j6 x6) g1 else D.nx (List.set (List.set (List.set (List.set (List.set (List.set (e) j1 x1) j2 x2) j3 x3) j4 x4) j5 x5) j6 x6) g1) : dWhile c tb D e g := by
  refine s_while (fun m e' g' => ∃ x1 x2 x3 x4 x5 x6, e' = List.set (List.set (List.set (List.set (List.set (List.set (e) j1 x1) j2 x2) j3 x3) j4 x4) j5 x5) j6 x6 ∧ R m x1 x2 x3 x4 x5 x6 g') m h0 ?_
  rintro m e' g' ⟨x1, x2, x3, x4, x5, x6, rfl, h⟩
  exact hs m x1 x2 x3 x4 x5 x6 g' h
theorem whl7 (j1 j2 j3 j4 j5 j6 j7 : Nat) (R : Nat → Option DL.D → Option DL.D → Option DL.D → Option DL.D → Option DL.D → Option DL.D → Option DL.D → GS → Prop) (m : Nat) (h0 : ∃ x1 x2 x3 x4 x5 x6 x7, e = List.set (List.set (List.set (List.set (List.set (List.set (List.set (e) j1 x1) j2 x2) j3 x3) j4 x4) j5 x5) j6 x6) j7 x7 ∧ R m x1 x2 x3 x4 x5 x6 x7 g)
    (hs : ∀ m x1 x2 x3 x4 x5 x6 x7 g', R m x1 x2 x3 x4 x5 x6 x7 g' → c (List.set (List.set (List.set (List.set (List.set (List.set (List.set (e) j1 x1) j2 x2) j3 x3) j4 x4) j5 x5) j6 x6) j7 x7) g' fun b g1 => if b = true then ∃ N : EV → GS → Prop, (∀ e' g', N e' g' → ∃ m', m' < m ∧ (∃ y1 y2 y3 y4 y5 y6 y7, e' = List.set (List.set (List.set (List.set (List.set (List.set (List.set (e) j1 y1) j2 y2) j3 y3) j4 y4) j5 y5) j6 y6) j7 y7 ∧ R m' y1 y2 y3 y4 y5 y6 y7 g')) ∧ tb { D with nx := N, ct := N, bk := D.nx } (List.set (List.set (List.set (List.set (List.set (List.set (List.set (e) j1 x1) j2 x2) j3 x3) j4 x4) j5 x5) j6 x6) j7 x7) g1 else D.nx (List.set (List.set (List.set (List.set (List.set (List.set (List.set (e) j1 x1) j2 x2) j3 x3) j4 x4) j5 x5) j6 x6) j7 x7) g1) : dWhile c tb D e g := by
  refine s_while (fun m e' g' => ∃ x1 x2 x3 x4 x5 x6 x7, e' = List.set (List.set (List.set (List.set (List.set (List.set (List.set (e) j1 x1) j2 x2) j3 x3) j4 x4) j5 x5) j6 x6) j7 x7 ∧ R m x1 x2 x3 x4 x5 x6 x7 g') m h0 ?_
  rintro m e' g' ⟨x1, x2, x3, x4, x5, x6, x7, rfl, h⟩
  exact hs m x1 x2 x3 x4 x5 x6 x7 g' h
theorem whl8 (j1 j2 j3 j4 j5 j6 j7 j8 : Nat) (R : Nat → Option DL.D → Option DL.D → Option DL.D → Option DL.D → Option DL.D → Option DL.D → Option DL.D → Option DL.D → GS → Prop) (m : Nat) (h0 : ∃ x1 x2 x3 x4 x5 x6 x7 x8, e = List.set (List.set (List.set (List.set (List.set (List.set (List.set (List.set (e) j1 x1) j2 x2) j3 x3) j4 x4) j5 x5) j6 x6) j7 x7) j8 x8 ∧ R m x1 x2 x3 x4 x5 x6 x7 x8 g)
    (hs : ∀ m x1 x2 x3 x4 x5 x6 x7 x8 g', R m x1 x2 x3 x4 x5 x6 x7 x8 g' → c (List.set (List.set (List.set (List.set (List.set (List.set (List.set (List.set (e) j1 x1) j2 x2) j3 x3) j4 x4) j5 x5) j6 x6) j7 x7) j8 x8) g' fun b g1 => if b = true then ∃ N : EV → GS → Prop, (∀ e' g', N e' g' → ∃ m', m' < m ∧ (∃ y1 y2 y3 y4 y5 y6 y7 y8, e' = List.set (List.set (List.set (List.set (List.set (List.set (List.set (List.set (e) j1 y1) j2 y2) j3 y3) j4 y4) j5 y5) j6 y6) j7 y7) j8 y8 ∧ R m' y1 y2 y3 y4 y5 y6 y7 y8 g')) ∧ tb { D with nx := N, ct := N, bk := D.nx } (List.set (List.set (List.set (List.set (List.set (List.set (List.set (List.set (e) j1 x1) j2 x2) j3 x3) j4 x4) j5 x5) j6 x6) j7 x7) j8 x8) g1 else D.nx (List.set (List.set (List.set (List.set (List.set (List.set (List.set (List.set (e) j1 x1) j2 x2) j3 x3) j4 x4) j5 x5) j6 x6) j7 x7) j8 x8) g1) : dWhile c tb D e g := by
  refine s_while (fun m e' g' => ∃ x1 x2 x3 x4 x5 x6 x7 x8, e' = List.set (List.set (List.set (List.set (List.set (List.set (List.set (List.set (e) j1 x1) j2 x2) j3 x3) j4 x4) j5 x5) j6 x6) j7 x7) j8 x8 ∧ R m x1 x2 x3 x4 x5 x6 x7 x8 g') m h0 ?_
  rintro m e' g' ⟨x1, x2, x3, x4, x5, x6, x7, x8, rfl, h⟩
  exact hs m x1 x2 x3 x4 x5 x6 x7 x8 g' h
theorem whl9 (j1 j2 j3 j4 j5 j6 j7 j8 j9 : Nat) (R : Nat → Option DL.D → Option DL.D → Option DL.D → Option DL.D → Option DL.D → Option DL.D → Option DL.D → Option DL.D → Option DL.D → GS → Prop) (m : Nat) (h0 : ∃ x1 x2 x3 x4 x5 x6 x7 x8 x9, e = List.set (List.set (List.set (List.set (List.set (List.set (List.set (List.set (List.set (e) j1 x1) j2 x2) j3 x3) j4 x4) j5 x5) j6 x6) j7 x7) j8 x8) j9 x9 ∧ R m x1 x2 x3 x4 x5 x6 x7 x8 x9 g)
    (hs : ∀ m x1 x2 x3 x4 x5 x6 x7 x8 x9 g', R m x1 x2 x3 x4 x5 x6 x7 x8 x9 g' → c (List.set (List.set (List.set (List.set (List.set (List.set (List.set (List.set (List.set (e) j1 x1) j2 x2) j3 x3) j4 x4) j5 x5) j6 x6) j7 x7) j8 x8) j9 x9) g' fun b g1 => if b = true then ∃ N : EV → GS → Prop, (∀ e' g', N e' g' → ∃ m', m' < m ∧ (∃ y1 y2 y3 y4 y5 y6 y7 y8 y9, e' = List.set (List.set (List.set (List.set (List.set (List.set (List.set (List.set (List.set (e) j1 y1) j2 y2) j3 y3) j4 y4) j5 y5) j6 y6) j7 y7) j8 y8) j9 y9 ∧ R m' y1 y2 y3 y4 y5 y6 y7 y8 y9 g')) ∧ tb { D with nx := N, ct := N, bk := D.nx } (List.set (List.set (List.set (List.set (List.set (List.set (List.set (List.set (List.set (e) j1 x1) j2 x2) j3 x3) j4 x4) j5 x5) j6 x6) j7 x7) j8 x8) j9 x9) g1 else D.nx (List.set (List.set (List.set (List.set (List.set (List.set (List.set (List.set (List.set (e) j1 x1) j2 x2) j3 x3) j4 x4) j5 x5) j6 x6) j7 x7) j8 x8) j9 x9) g1) : dWhile c tb D e g := by
  refine s_while (fun m e' g' => ∃ x1 x2 x3 x4 x5 x6 x7 x8 x9, e' = List.set (List.set (List.set (List.set (List.set (List.set (List.set (List.set (List.set (e) j1 x1) j2 x2) j3 x3) j4 x4) j5 x5) j6 x6) j7 x7) j8 x8) j9 x9 ∧ R m x1 x2 x3 x4 x5 x6 x7 x8 x9 g') m h0 ?_
  rintro m e' g' ⟨x1, x2, x3, x4, x5, x6, x7, x8, x9, rfl, h⟩
  exact hs m x1 x2 x3 x4 x5 x6 x7 x8 x9 g' h
theorem whl10 (j1 j2 j3 j4 j5 j6 j7 j8 j9 j10 : Nat) (R : Nat → Option DL.D → Option DL.D → Option DL.D → Option DL.D → Option DL.D → Option DL.D → Option DL.D → Option DL.D → Option DL.D → Option DL.D → GS → Prop) (m : Nat) (h0 : ∃ x1 x2 x3 x4 x5 x6 x7 x8 x9 x10, e = List.set (List.set (List.set (List.set (List.set (List.set (List.set (List.set (List.set (List.set (e) j1 x1) j2 x2) j3 x3) j4 x4) j5 x5) j6 x6) j7 x7) j8 x8) j9 x9) j10 x10 ∧ R m x1 x2 x3 x4 x5 x6 x7 x8 x9 x10 g)
    (hs : ∀ m x1 x2 x3 x4 x5 x6 x7 x8 x9 x10 g', R m x1 x2 x3 x4 x5 x6 x7 x8 x9 x10 g' → c (List.set (List.set (List.set (List.set (List.set (List.set (List.set (List.set (List.set (List.set (e) j1 x1) j2 x2) j3 x3) j4 x4) j5 x5) j6 x6) j7 x7) j8 x8) j9 x9) j10 x10) g' fun b g1 => if b = true then ∃ N : EV → GS → Prop, (∀ e' g', N e' g' → ∃ m', m' < m ∧ (∃ y1 y2 y3 y4 y5 y6 y7 y8 y9 y10, e' = List.set (List.set (List.set (List.set (List.set (List.set (List.set (List.set (List.set (List.set (e) j1 y1) j2 y2) j3 y3) j4 y4) j5 y5) j6 y6) j7 y7) j8 y8) j9 y9) j10 y10 ∧ R m' y1 y2 y3 y4 y5 y6 y7 y8 y9 y10 g')) ∧ tb { D with nx := N, ct := N, bk := D.nx } (List.set (List.set (List.set (List.set (List.set (List.set (List.set (List.set (List.set (List.set (e) j1 x1) j2 x2) j3 x3) j4 x4) j5 x5) j6 x6) j7 x7) j8 x8) j9 x9) j10 x10) g1 else D.nx (List.set (List.set (List.set (List.set (List.set (List.set (List.set (List.set (List.set (List.set (e) j1 x1) j2 x2) j3 x3) j4 x4) j5 x5) j6 x6) j7 x7) j8 x8) j9 x9) j10 x10) g1) : dWhile c tb D e g := by
  refine s_while (fun m e' g' => ∃ x1 x2 x3 x4 x5 x6 x7 x8 x9 x10, e' = List.set (List.set (List.set (List.set (List.set (List.set (List.set (List.set (List.set (List.set (e) j1 x1) j2 x2) j3 x3) j4 x4) j5 x5) j6 x6) j7 x7) j8 x8) j9 x9) j10 x10 ∧ R m x1 x2 x3 x4 x5 x6 x7 x8 x9 x10 g') m h0 ?_
  rintro m e' g' ⟨x1, x2, x3, x4, x5, x6, x7, x8, x9, x10, rfl, h⟩
  exact hs m x1 x2 x3 x4 x5 x6 x7 x8 x9 x10 g' h
theorem whl11 (j1 j2 j3 j4 j5 j6 j7 j8 j9 j10 j11 : Nat) (R : Nat → Option DL.D → Option DL.D → Option DL.D → Option DL.D → Option DL.D → Option DL.D → Option DL.D → Option DL.D → Option DL.D → Option DL.D → Option DL.D → GS → Prop) (m : Nat) (h0 : ∃ x1 x2 x3 x4 x5 x6 x7 x8 x9 x10 x11, e = List.set (List.set (List.set (List.set (List.set (List.set (List.set (List.set (List.set (List.set (List.set (e) j1 x1) j2 x2) j3 x3) j4 x4) j5 x5) j6 x6) j7 x7) j8 x8) j9 x9) j10 x10) j11 x11 ∧ R m x1 x2 x3 x4 x5 x6 x7 x8 x9 x10 x11 g)
    (hs : ∀ m x1 x2 x3 x4 x5 x6 x7 x8 x9 x10 x11 g', R m x1 x2 x3 x4 x5 x6 x7 x8 x9 x10 x11 g' → c (List.set (List.set (List.set (List.set (List.set (List.set (List.set (List.set (List.set (List.set (List.set (e) j1 x1) j2 x2) j3 x3) j4 x4) j5 x5) j6 x6) j7 x7) j8 x8) j9 x9) j10 x10) j11 x11) g' fun b g1 => if b = true then ∃ N : EV → GS → Prop, (∀ e' g', N e' g' → ∃ m', m' < m ∧ (∃ y1 y2 y3 y4 y5 y6 y7 y8 y9 y10 y11, e' = List.set (List.set (List.set (List.set (List.set (List.set (List.set (List.set (List.set (List.set (List.set (e) j1 y1) j2 y2) j3 y3) j4 y4) j5 y5) j6 y6) j7 y7) j8 y8) j9 y9) j10 y10) j11 y11 ∧ R m' y1 y2 y3 y4 y5 y6 y7 y8 y9 y10 y11 g')) ∧ tb { D with nx := N, ct := N, bk := D.nx } (List.set (List.set (List.set (List.set (List.set (List.set (List.set (List.set (List.set (List.set (List.set (e) j1 x1) j2 x2) j3 x3) j4 x4) j5 x5) j6 x6) j7 x7) j8 x8) j9 x9) j10 x10) j11 x11) g1 else D.nx (List.set (List.set (List.set (List.set (List.set (List.set (List.set (List.set (List.set (List.set (List.set (e) j1 x1) j2 x2) j3 x3) j4 x4) j5 x5) j6 x6) j7 x7) j8 x8) j9 x9) j10 x10) j11 x11) g1) : dWhile c tb D e g := by
  refine s_while (fun m e' g' => ∃ x1 x2 x3 x4 x5 x6 x7 x8 x9 x10 x11, e' = List.set (List.set (List.set (List.set (List.set (List.set (List.set (List.set (List.set (List.set (List.set (e) j1 x1) j2 x2) j3 x3) j4 x4) j5 x5) j6 x6) j7 x7) j8 x8) j9 x9) j10 x10) j11 x11 ∧ R m x1 x2 x3 x4 x5 x6 x7 x8 x9 x10 x11 g') m h0 ?_
  rintro m e' g' ⟨x1, x2, x3, x4, x5, x6, x7, x8, x9, x10, x11, rfl, h⟩
  exact hs m x1 x2 x3 x4 x5 x6 x7 x8 x9 x10 x11 g' h
theorem whl12 (j1 j2 j3 j4 j5 j6 j7 j8 j9 j10 j11 j12 : Nat) (R : Nat → Option DL.D → Option DL.D → Option DL.D → Option DL.D → Option DL.D → Option DL.D → Option DL.D → Option DL.D → Option DL.D → Option DL.D → Option DL.D → Option DL.D → GS → Prop) (m : Nat) (h0 : ∃ x1 x2 x3 x4 x5 x6 x7 x8 x9 x10 x11 x12, e = List.set (List.set (List.set (List.set (List.set (List.set (List.set (List.set (List.set (List.set (List.set (List.set (e) j1 x1) j2 x2) j3 x3) j4 x4) j5 x5) j6 x6) j7 x7) j8 x8) j9 x9) j10 x10) j11 x11) j12 x12 ∧ R m x1 x2 x3 x4 x5 x6 x7 x8 x9 x10 x11 x12 g)
    (hs : ∀ m x1 x2 x3 x4 x5 x6 x7 x8 x9 x10 x11 x12 g', R m x1 x2 x3 x4 x5 x6 x7 x8 x9 x10 x11 x12 g' → c (List.set (List.set (List.set (List.set (List.set (List.set (List.set (List.set (List.set (List.set (List.set (List.set (e) j1 x1) j2 x2) j3 x3) j4 x4) j5 x5) j6 x6) j7 x7) j8 x8) j9 x9) j10 x10) j11 x11) j12 x12) g' fun b g1 => if b = true then ∃ N : EV → GS → Prop, (∀ e' g', N e' g' → ∃ m', m' < m ∧ (∃ y1 y2 y3 y4 y5 y6 y7 y8 y9 y10 y11 y12, e' = List.set (List.set (List.set (List.set (List.set (List.set (List.set (List.set (List.set (List.set (List.set (List.set (e) j1 y1) j2 y2) j3 y3) j4 y4) j5 y5) j6 y6) j7 y7) j8 y8) j9 y9) j10 y10) j11 y11) j12 y12 ∧ R m' y1 y2 y3 y4 y5 y6 y7 y8 y9 y10 y11 y12 g')) ∧ tb { D with nx := N, ct := N, bk := D.nx } (List.set (List.set (List.set (List.set (List.set (List.set (List.set (List.set (List.set (List.set (List.set (List.set (e) j1 x1) j2 x2) j3 x3) j4 x4) j5 x5) j6 x6) j7 x7) j8 x8) j9 x9) j10 x10) j11 x11) j12 x12) g1 else D.nx (List.set (List.set (List.set (List.set (List.set (List.set (List.set (List.set (List.set (List.set (List.set (List.set (e) j1 x1) j2 x2) j3 x3) j4 x4) j5 x5) j6 x6) j7 x7) j8 x8) j9 x9) j10 x10) j11 x11) j12 x12) g1) : dWhile c tb D e g := by
  refine s_while (fun m e' g' => ∃ x1 x2 x3 x4 x5 x6 x7 x8 x9 x10 x11 x12, e' = List.set (List.set (List.set (List.set (List.set (List.set (List.set (List.set (List.set (List.set (List.set (List.set (e) j1 x1) j2 x2) j3 x3) j4 x4) j5 x5) j6 x6) j7 x7) j8 x8) j9 x9) j10 x10) j11 x11) j12 x12 ∧ R m x1 x2 x3 x4 x5 x6 x7 x8 x9 x10 x11 x12 g') m h0 ?_
  rintro m e' g' ⟨x1, x2, x3, x4, x5, x6, x7, x8, x9, x10, x11, x12, rfl, h⟩
  exact hs m x1 x2 x3 x4 x5 x6 x7 x8 x9 x10 x11 x12 g' h
theorem whl13 (j1 j2 j3 j4 j5 j6 j7 j8 j9 j10 j11 j12 j13 : Nat) (R : Nat → Option DL.D → Option DL.D → Option DL.D → Option DL.D → Option DL.D → Option DL.D → Option DL.D → Option DL.D → Option DL.D → Option DL.D → Option DL.D → Option DL.D → Option DL.D → GS → Prop) (m : Nat) (h0 : ∃ x1 x2 x3 x4 x5 x6 x7 x8 x9 x10 x11 x12 x13, e = List.set (List.set (List.set (List.set (List.set (List.set (List.set (List.set (List.set (List.set (List.set (List.set (List.set (e) j1 x1) j2 x2) j3 x3) j4 x4) j5 x5) j6 x6) j7 x7) j8 x8) j9 x9) j10 x10) j11 x11) j12 x12) j13 x13 ∧ R m x1 x2 x3 x4 x5 x6 x7 x8 x9 x10 x11 x12 x13 g)
    (hs : ∀ m x1 x2 x3 x4 x5 x6 x7 x8 x9 x10 x11 x12 x13 g', R m x1 x2 x3 x4 x5 x6 x7 x8 x9 x10 x11 x12 x13 g' → c (List.set (List.set (List.set (List.set (List.set (List.set (List.set (List.set (List.set (List.set (List.set (List.set (List.set (e) j1 x1) j2 x2) j3 x3) j4 x4) j5 x5) j6 x6) j7 x7) j8 x8) j9 x9) j10 x10) j11 x11) j12 x12) j13 x13) g' fun b g1 => if b = true then ∃ N : EV → GS → Prop, (∀ e' g', N e' g' → ∃ m', m' < m ∧ (∃ y1 y2 y3 y4 y5 y6 y7 y8 y9 y10 y11 y12 y13, e' = List.set (List.set (List.set (List.set (List.set (List.set (List.set (List.set (List.set (List.set (List.set (List.set (List.set (e) j1 y1) j2 y2) j3 y3) j4 y4) j5 y5) j6 y6) j7 y7) j8 y8) j9 y9) j10 y10) j11 y11) j12 y12) j13 y13 ∧ R m' y1 y2 y3 y4 y5 y6 y7 y8 y9 y10 y11 y12 y13 g')) ∧ tb { D with nx := N, ct := N, bk := D.nx } (List.set (List.set (List.set (List.set (List.set (List.set (List.set (List.set (List.set (List.set (List.set (List.set (List.set (e) j1 x1) j2 x2) j3 x3) j4 x4) j5 x5) j6 x6) j7 x7) j8 x8) j9 x9) j10 x10) j11 x11) j12 x12) j13 x13) g1 else D.nx (List.set (List.set (List.set (List.set (List.set (List.set (List.set (List.set (List.set (List.set (List.set (List.set (List.set (e) j1 x1) j2 x2) j3 x3) j4 x4) j5 x5) j6 x6) j7 x7) j8 x8) j9 x9) j10 x10) j11 x11) j12 x12) j13 x13) g1) : dWhile c tb D e g := by
  refine s_while (fun m e' g' => ∃ x1 x2 x3 x4 x5 x6 x7 x8 x9 x10 x11 x12 x13, e' = List.set (List.set (List.set (List.set (List.set (List.set (List.set (List.set (List.set (List.set (List.set (List.set (List.set (e) j1 x1) j2 x2) j3 x3) j4 x4) j5 x5) j6 x6) j7 x7) j8 x8) j9 x9) j10 x10) j11 x11) j12 x12) j13 x13 ∧ R m x1 x2 x3 x4 x5 x6 x7 x8 x9 x10 x11 x12 x13 g') m h0 ?_
  rintro m e' g' ⟨x1, x2, x3, x4, x5, x6, x7, x8, x9, x10, x11, x12, x13, rfl, h⟩
  exact hs m x1 x2 x3 x4 x5 x6 x7 x8 x9 x10 x11 x12 x13 g' h
theorem whl14 (j1 j2 j3 j4 j5 j6 j7 j8 j9 j10 j11 j12 j13 j14 : Nat) (R : Nat → Option DL.D → Option DL.D → Option DL.D → Option DL.D → Option DL.D → Option DL.D → Option DL.D → Option DL.D → Option DL.D → Option DL.D → Option DL.D → Option DL.D → Option DL.D → Option DL.D → GS → Prop) (m : Nat) (h0 : ∃ x1 x2 x3 x4 x5 x6 x7 x8 x9 x10 x11 x12 x13 x14, e = List.set (List.set (List.set (List.set (List.set (List.set (List.set (List.set (List.set (List.set (List.set (List.set (List.set (List.set (e) j1 x1) j2 x2) j3 x3) j4 x4) j5 x5) j6 x6) j7 x7) j8 x8) j9 x9) j10 x10) j11 x11) j12 x12) j13 x13) j14 x14 ∧ R m x1 x2 x3 x4 x5 x6 x7 x8 x9 x10 x11 x12 x13 x14 g)
    (hs : ∀ m x1 x2 x3 x4 x5 x6 x7 x8 x9 x10 x11 x12 x13 x14 g', R m x1 x2 x3 x4 x5 x6 x7 x8 x9 x10 x11 x12 x13 x14 g' → c (List.set (List.set (List.set (List.set (List.set (List.set (List.set (List.set (List.set (List.set (List.set (List.set (List.set (List.set (e) j1 x1) j2 x2) j3 x3) j4 x4) j5 x5) j6 x6) j7 x7) j8 x8) j9 x9) j10 x10) j11 x11) j12 x12) j13 x13) j14 x14) g' fun b g1 => if b = true then ∃ N : EV → GS → Prop, (∀ e' g', N e' g' → ∃ m', m' < m ∧ (∃ y1 y2 y3 y4 y5 y6 y7 y8 y9 y10 y11 y12 y13 y14, e' = List.set (List.set (List.set (List.set (List.set (List.set (List.set (List.set (List.set (List.set (List.set (List.set (List.set (List.set (e) j1 y1) j2 y2) j3 y3) j4 y4) j5 y5) j6 y6) j7 y7) j8 y8) j9 y9) j10 y10) j11 y11) j12 y12) j13 y13) j14 y14 ∧ R m' y1 y2 y3 y4 y5 y6 y7 y8 y9 y10 y11 y12 y13 y14 g')) ∧ tb { D with nx := N, ct := N, bk := D.nx } (List.set (List.set (List.set (List.set (List.set (List.set (List.set (List.set (List.set (List.set (List.set (List.set (List.set (List.set (e) j1 x1) j2 x2) j3 x3) j4 x4) j5 x5) j6 x6) j7 x7) j8 x8) j9 x9) j10 x10) j11 x11) j12 x12) j13 x13) j14 x14) g1 else D.nx (List.set (List.set (List.set (List.set (List.set (List.set (List.set (List.set (List.set (List.set (List.set (List.set (List.set (List.set (e) j1 x1) j2 x2) j3 x3) j4 x4) j5 x5) j6 x6) j7 x7) j8 x8) j9 x9) j10 x10) j11 x11) j12 x12) j13 x13) j14 x14) g1) : dWhile c tb D e g := by
  refine s_while (fun m e' g' => ∃ x1 x2 x3 x4 x5 x6 x7 x8 x9 x10 x11 x12 x13 x14, e' = List.set (List.set (List.set (List.set (List.set (List.set (List.set (List.set (List.set (List.set (List.set (List.set (List.set (List.set (e) j1 x1) j2 x2) j3 x3) j4 x4) j5 x5) j6 x6) j7 x7) j8 x8) j9 x9) j10 x10) j11 x11) j12 x12) j13 x13) j14 x14 ∧ R m x1 x2 x3 x4 x5 x6 x7 x8 x9 x10 x11 x12 x13 x14 g') m h0 ?_
  rintro m e' g' ⟨x1, x2, x3, x4, x5, x6, x7, x8, x9, x10, x11, x12, x13, x14, rfl, h⟩
  exact hs m x1 x2 x3 x4 x5 x6 x7 x8 x9 x10 x11 x12 x13 x14 g' h
theorem wh_in {P : EV → GS → Prop} (h : tb { D with nx := P, ct := P, bk := D.nx } e g) : ∃ N : EV → GS → Prop, (∀ e' g', N e' g' → P e' g') ∧ tb { D with nx := N, ct := N, bk := D.nx } e g := ⟨P, fun _ _ h => h, h⟩
end
end DL

namespace DL
open PySem PySem.Spec PyProof.Rows L2
open TL (tl)
/-! ### dictionaries whose keys are tuples -/
abbrev kT (k : List Key) : D := .tup (k.map kD)
section
variable {X : Cx} {K : PySem.W.Frag} {H H' : Hp} {σ : L2.St}
variable {a b c e tg iter elt o i value f : Expr} {es rest : List Expr} {ta tb tc te td ty tv tx : DTE} {tA tB : DTT} {t : DTA} {pos pos' apos cpos : Pos}
theorem reps_kT : ∀ {vs : List V} (ks : List Key), RepL K H vs (ks.map kD) → vs = ks.map kV
  | _, [], .nil => rfl
  | _, k :: ks, .cons h t => by rw [List.map_cons, h.kD, reps_kT ks t]
theorem RepD.kT {v : V} {k : List Key} (r : RepD K H v (.tup (k.map DL.kD))) : ∃ b, v = .ref b ∧ H b = some (.tup (k.map kV)) := by
  cases r with
  | tup h l => rw [reps_kT k l] at h; exact ⟨_, rfl, h⟩
theorem RepG.dtt {g : GS} (r : RepG K H g) {p : Addr} {kvs : List (List Key × D)} (h : g p = some (.dtt kvs)) : ∃ vs, H p = some (.dT vs) ∧ RepKV K H vs kvs := r p _ h
theorem RepG.laidT {g : GS} (r : RepG K H g) {n : Addr} (hn : H n = none) {vs : List (List Key × V)} {kvs : List (List Key × D)} (l : RepKV K H vs kvs) : RepG K (L2.upd H n (.dT vs)) (gup g n (.dtt kvs)) :=
  r.upd (.new hn) ⟨vs, upd_same, RepKV.mono (.new hn) l⟩
theorem RepG.setT {g : GS} (r : RepG K H g) {n : Addr} {ys : List (List Key × V)} (hn : H n = some (.dT ys)) {vs : List (List Key × V)} {kvs : List (List Key × D)} (l : RepKV K H vs kvs) : RepG K (L2.upd H n (.dT vs)) (gup g n (.dtt kvs)) :=
  r.upd (.dT hn) ⟨vs, upd_same, RepKV.mono (.dT hn) l⟩
def dTNew : DTE := fun _ g Q => ∀ p, g p = none → Q (.ref p) (gup g p (.dtt []))
theorem de_tnew : DE X (.Dict [] [] pos) dTNew := ⟨peW pe_dnewT fun σ H Q ⟨e, g, Qd, re, rg, q, k⟩ p hp => k _ _ _ _ (.new hp) (rg.laidT hp .nil) (.ref p) (q p (rg.free hp))⟩
def dTGet (td ty : DTE) : DTE := fun e g Q => td e g fun x g1 => ty e g1 fun y g2 => ∃ p kvs k v, x = .ref p ∧ g2 p = some (.dtt kvs) ∧ y = kT k ∧ getD kvs k = some v ∧ Q v g2
def dTIn (ty td : DTE) : DTE := fun e g Q => ty e g fun y g1 => td e g1 fun x g2 => ∃ p kvs k, x = .ref p ∧ g2 p = some (.dtt kvs) ∧ y = kT k ∧ Q (.bl (getD kvs k).isSome) g2
def dTNotIn (ty td : DTE) : DTE := fun e g Q => ty e g fun y g1 => td e g1 fun x g2 => ∃ p kvs k, x = .ref p ∧ g2 p = some (.dtt kvs) ∧ y = kT k ∧ Q (.bl (!(getD kvs k).isSome)) g2
theorem de_tget (hu : X.A.units + 1 < cLine) (ho : DE X o td) (hi : DE X i ty) (hs : NoSl i) : DE X (.Subscript o i pos) (dTGet td ty) := ⟨peW (pe_dget hu ho.pe hi.pe hs) fun σ H Q ⟨e, g, Qd, re, rg, q, k⟩ =>
  ⟨e, g, _, re, rg, q, fun x dx H1 g1 x1 rg1 r1 q1 => ⟨e, g1, _, re.mono x1, rg1, q1, fun y dy H2 g2 x2 rg2 r2 q2 => by
    obtain ⟨p, kvs, kk, v, rfl, h, rfl, hv, q2⟩ := q2
    cases r1
    obtain ⟨b, rfl, hb⟩ := r2.kT
    obtain ⟨vs, e1, r⟩ := rg2.dtt h
    rcases r.get (k := kk) with ⟨z, _⟩ | ⟨d, w, e2, e3, r3⟩
    · rw [z] at hv; cases hv
    · rw [hv] at e2
      cases e2
      exact ⟨p, w, rfl, by rw [← e3]; exact .t e1 hb, k _ _ _ _ (x1.trans x2) rg2 r3 q2⟩⟩⟩⟩
theorem ltin {neg : Bool} {Q : VK} {y x : V} {dx dy : D} {H2 : Hp} {g2 : GS} {Qd : DK} (r1 : RepD K H2 y dy) (r2 : RepD K H2 x dx) (rg2 : RepG K H2 g2) (k : KD K H2 Qd Q) (q : ∃ p kvs kk, dx = .ref p ∧ g2 p = some (.dtt kvs) ∧ dy = kT kk ∧ Qd (.bl (if neg then !(getD kvs kk).isSome else (getD kvs kk).isSome)) g2) : ∃ a o, x = .ref a ∧ DGet H2 a y o ∧ Q (.bl (if neg then !o.isSome else o.isSome)) H2 := by
  obtain ⟨p, kvs, kk, rfl, h, rfl, q⟩ := q
  cases r2
  obtain ⟨b, rfl, hb⟩ := r1.kT
  obtain ⟨vs, e1, r⟩ := rg2.dtt h
  refine ⟨p, valV vs kk, rfl, .t e1 hb, ?_⟩
  have e : (valV vs kk).isSome = (getD kvs kk).isSome := by
    rcases r.get (k := kk) with ⟨z, z2⟩ | ⟨d, w, e2, e3, r3⟩
    · rw [z, z2]; rfl
    · rw [e2, e3]; rfl
  rw [e]
  exact rg2.fin k (.bl _) q
theorem de_tin (hu : X.A.units + 1 < cLine) (hi : DE X i ty) (ho : DE X o td) (hm : behindInMarks .In o = false) : DE X (.Compare i [.In] [o] pos) (dTIn ty td) := ⟨peW (pe_cmp (pc_din hu hi.pe ho.pe) hm) fun σ H Q ⟨e, g, Qd, re, rg, q, k⟩ =>
  ⟨e, g, _, re, rg, q, fun y dy H1 g1 x1 rg1 r1 q1 => ⟨e, g1, _, re.mono x1, rg1, q1, fun x dx H2 g2 x2 rg2 r2 q2 => ltin (neg := false) (r1.mono x2) r2 rg2 (k.mono (x1.trans x2)) q2⟩⟩⟩
theorem de_tnotin (hu : X.A.units + 1 < cLine) (hi : DE X i ty) (ho : DE X o td) (hm : behindInMarks .NotIn o = false) : DE X (.Compare i [.NotIn] [o] pos) (dTNotIn ty td) := ⟨peW (pe_cmp (pc_dnotin hu hi.pe ho.pe) hm) fun σ H Q ⟨e, g, Qd, re, rg, q, k⟩ =>
  ⟨e, g, _, re, rg, q, fun y dy H1 g1 x1 rg1 r1 q1 => ⟨e, g1, _, re.mono x1, rg1, q1, fun x dx H2 g2 x2 rg2 r2 q2 => ltin (neg := true) (r1.mono x2) r2 rg2 (k.mono (x1.trans x2)) q2⟩⟩⟩
theorem dt_tin (hu : X.A.units + 1 < cLine) (hi : DE X i ty) (ho : DE X o td) (hm : behindInMarks .In o = false) : DT X (.Compare i [.In] [o] pos) (dTest (dTIn ty td)) := ⟨ptW (pt_cmp (pc_din hu hi.pe ho.pe) hm) fun σ H Q h => tB_lift (fun σ H Q ⟨e, g, Qd, re, rg, q, k⟩ =>
  ⟨e, g, _, re, rg, q, fun y dy H1 g1 x1 rg1 r1 q1 => ⟨e, g1, _, re.mono x1, rg1, q1, fun x dx H2 g2 x2 rg2 r2 q2 => ltin (neg := false) (r1.mono x2) r2 rg2 (k.mono (x1.trans x2)) q2⟩⟩) h⟩
theorem dt_tnotin (hu : X.A.units + 1 < cLine) (hi : DE X i ty) (ho : DE X o td) (hm : behindInMarks .NotIn o = false) : DT X (.Compare i [.NotIn] [o] pos) (dTest (dTNotIn ty td)) := ⟨ptW (pt_cmp (pc_dnotin hu hi.pe ho.pe) hm) fun σ H Q h => tB_lift (fun σ H Q ⟨e, g, Qd, re, rg, q, k⟩ =>
  ⟨e, g, _, re, rg, q, fun y dy H1 g1 x1 rg1 r1 q1 => ⟨e, g1, _, re.mono x1, rg1, q1, fun x dx H2 g2 x2 rg2 r2 q2 => ltin (neg := true) (r1.mono x2) r2 rg2 (k.mono (x1.trans x2)) q2⟩⟩) h⟩
def dTPut (td ty tv : DTE) : DTS := fun D e g => tv e g fun v g1 => td e g1 fun x g2 => ty e g2 fun y g3 => ∃ p kvs k, x = .ref p ∧ g3 p = some (.dtt kvs) ∧ y = kT k ∧ kvs.length < sizeLine ∧ D.nx e (gup g3 p (.dtt (putD kvs k v)))
theorem ds_tput (hu : X.A.units + 1 < cLine) (ho : DE X o td) (hi : DE X i ty) (hv : DE X value tv) (hs : swapsWith value (some (.Subscript o i pos')) pos.line X.env = pure false := by rfl) : DS X (.Assign [.Subscript o i pos'] value pos) (dTPut td ty tv) := ⟨psW (ps_dput hu ho.pe hi.pe hv.pe hs) fun D σ H ⟨e, g, Dd, re, rg, q, k1, _⟩ =>
  ⟨e, g, _, re, rg, q, fun v dv H1 g1 x1 rg1 rv q1 => ⟨e, g1, _, re.mono x1, rg1, q1, fun x dx H2 g2 x2 rg2 rx q2 => ⟨e, g2, _, re.mono (x1.trans x2), rg2, q2, fun y dy H3 g3 x3 rg3 ry q3 => by
    obtain ⟨p, kvs, k, rfl, h, rfl, hz, q3⟩ := q3
    cases rx
    obtain ⟨b, rfl, hb⟩ := ry.kT
    obtain ⟨vs, e1, r⟩ := rg3.dtt h
    have xx : Ext H (upd H3 p (.dT (putK vs k v))) := ((x1.trans x2).trans x3).trans (.dT e1)
    exact ⟨p, _, rfl, .t e1 hb (by rw [r.length]; exact hz), (k1.mono xx).fin (re.mono xx) (rg3.setT e1 (r.put k (rv.mono (x2.trans x3)))) q3⟩⟩⟩⟩⟩
def dTGet1 (td ty : DTE) : DTE := fun e g Q => td e g fun x g1 => ∃ p, x = .ref p ∧ (∃ kvs, g1 p = some (.dtt kvs)) ∧ ty e g1 fun y g2 => ∃ kvs k, g2 p = some (.dtt kvs) ∧ y = kT k ∧ Q ((getD kvs k).getD .non) g2
def dTGet2 (td ty tx : DTE) : DTE := fun e g Q => td e g fun x g1 => ∃ p, x = .ref p ∧ (∃ kvs, g1 p = some (.dtt kvs)) ∧ ty e g1 fun y g2 => tx e g2 fun z g3 => ∃ kvs k, g3 p = some (.dtt kvs) ∧ y = kT k ∧ Q ((getD kvs k).getD z) g3
theorem de_tget1 (hu : X.A.units + 1 < cLine) (ho : DE X o td) (hi : DE X e ty) (m : M1 X o "get" apos e cpos := by exact ⟨rfl, rfl, rfl, rfl⟩) : DE X (.Call (.Attribute o "get" apos) [e] [] cpos) (dTGet1 td ty) := ⟨peW (pe_dget1 hu ho.pe hi.pe m) fun σ H Q ⟨e, g, Qd, re, rg, q, k⟩ =>
  ⟨e, g, _, re, rg, q, fun x dx H1 g1 x1 rg1 rx q1 => by
    obtain ⟨p, rfl, ⟨kvs, h0⟩, q1⟩ := q1
    cases rx
    obtain ⟨vs0, e0, _⟩ := rg1.dtt h0
    refine ⟨p, rfl, .inr ⟨vs0, .inl e0⟩, e, g1, _, re.mono x1, rg1, q1, fun y dy H2 g2 x2 rg2 ry q2 => ?_⟩
    obtain ⟨kvs2, kk, h2, rfl, q2⟩ := q2
    obtain ⟨b, rfl, hb⟩ := ry.kT
    obtain ⟨vs, e2, r⟩ := rg2.dtt h2
    exact ⟨valV vs kk, .t e2 hb, k _ _ _ _ (x1.trans x2) rg2 (r.getD1 kk .non) q2⟩⟩⟩
theorem de_tget2 (hu : X.A.units + 1 < cLine) (ho : DE X o td) (hi : DE X e ty) (hx : DE X f tx) (m : M2 X o "get" apos e f cpos := by exact ⟨rfl, rfl, rfl, rfl⟩) : DE X (.Call (.Attribute o "get" apos) [e, f] [] cpos) (dTGet2 td ty tx) := ⟨peW (pe_dget2 hu ho.pe hi.pe hx.pe m) fun σ H Q ⟨e, g, Qd, re, rg, q, k⟩ =>
  ⟨e, g, _, re, rg, q, fun x dx H1 g1 x1 rg1 rx q1 => by
    obtain ⟨p, rfl, ⟨kvs, h0⟩, q1⟩ := q1
    cases rx
    obtain ⟨vs0, e0, _⟩ := rg1.dtt h0
    refine ⟨p, rfl, .inr ⟨vs0, .inl e0⟩, e, g1, _, re.mono x1, rg1, q1, fun y dy H2 g2 x2 rg2 ry q2 => ⟨e, g2, _, re.mono (x1.trans x2), rg2, q2, fun z dz H3 g3 x3 rg3 rz q3 => ?_⟩⟩
    obtain ⟨kvs2, kk, h2, rfl, q3⟩ := q3
    obtain ⟨b, rfl, hb⟩ := ry.kT
    obtain ⟨vs, e2, r⟩ := rg3.dtt h2
    exact ⟨valV vs kk, .t e2 (x3.1 _ _ hb), k _ _ _ _ ((x1.trans x2).trans x3) rg3 (r.getD1 kk rz) q3⟩⟩⟩
end
/-! ### walking a dictionary: it is locked meanwhile -/
def lkO : MO → Option MO
  | .dct kvs => some (.dctf kvs)
  | .dtt kvs => some (.dttf kvs)
  | _ => none
section
variable {X : Cx} {K : PySem.W.Frag} {H H' : Hp} {σ : L2.St}
variable {a b c e tg iter elt o i value f : Expr} {es rest : List Expr} {ta tb tc te td ty tv tx : DTE} {tA tB : DTT} {t : DTA} {T : DTS} {pos pos' apos cpos : Pos} {st : Stmt}
def dLockE (te : DTE) : DTE := fun e g Q => ∃ p o o', g p = some o ∧ lkO o = some o' ∧ te e (gup g p o') fun v g' => g' p = some o' ∧ Q v (gup g' p o)
def dLock (T : DTS) : DTS := fun D e g => ∃ p o o', g p = some o ∧ lkO o = some o' ∧ T { nx := fun e' g' => g' p = some o' ∧ D.nx e' (gup g' p o), rt := fun v g' => g' p = some o' ∧ D.rt v (gup g' p o), bk := fun e' g' => g' p = some o' ∧ D.bk e' (gup g' p o), ct := fun e' g' => g' p = some o' ∧ D.ct e' (gup g' p o) } e (gup g p o')
def Lk (K : PySem.W.Frag) (H : Hp) (p : Addr) (o o' : MO) (u : HO) : Prop := H p = some u ∧ Mut (some u) ∧ (∀ od (H' : Hp), H' p = some (.frz od u) → RepO K H' p o' → RepO K (L2.upd H' p u) p o) ∧ (∀ od xs, u ≠ .tup xs ∧ u ≠ .lst xs ∧ u ≠ .frz od (.lst xs)) ∧ ∀ od, RepO K (L2.upd H p (.frz od u)) p o'
theorem lk_of {g : GS} (rg : RepG K H g) {p : Addr} {o o' : MO} (hp : g p = some o) (ho : lkO o = some o') : ∃ u, Lk K H p o o' u := by
  have z := rg p o hp
  cases o with
  | dct kvs =>
    obtain ⟨vs, e, q⟩ := z
    cases ho
    have x0 : ∀ o, Ext0 H (L2.upd H p o) := fun o => (Ext.dk (o := o) e).e0
    refine ⟨.dK vs, e, trivial, fun od H' h1 ⟨o2, vs2, h2, q2⟩ => ?_, fun _ _ => ⟨(fun z => nomatch z), (fun z => nomatch z), (fun z => nomatch z)⟩, fun od => ⟨od, vs, upd_same, RepKV.mono0 (x0 _) q⟩⟩
    rw [h1] at h2
    cases h2
    have ne : ∀ {b u}, H' b = some u → u ≠ .frz od (.dK vs) → b ≠ p := fun e1 n z => by rw [z, h1] at e1; cases e1; exact n rfl
    exact ⟨vs, upd_same, RepKV.mono0 ⟨fun b xs e => by rw [upd_ne (ne e (fun z => nomatch z))]; exact e, fun b o xs e => by rw [upd_ne (ne e (fun z => nomatch z))]; exact e⟩ q2⟩
  | dtt kvs =>
    obtain ⟨vs, e, q⟩ := z
    cases ho
    have x0 : ∀ o, Ext0 H (L2.upd H p o) := fun o => (Ext.dT (o := o) e).e0
    refine ⟨.dT vs, e, trivial, fun od H' h1 ⟨o2, vs2, h2, q2⟩ => ?_, fun _ _ => ⟨(fun z => nomatch z), (fun z => nomatch z), (fun z => nomatch z)⟩, fun od => ⟨od, vs, upd_same, RepKV.mono0 (x0 _) q⟩⟩
    rw [h1] at h2
    cases h2
    have ne : ∀ {b u}, H' b = some u → u ≠ .frz od (.dT vs) → b ≠ p := fun e1 n z => by rw [z, h1] at e1; cases e1; exact n rfl
    exact ⟨vs, upd_same, RepKV.mono0 ⟨fun b xs e => by rw [upd_ne (ne e (fun z => nomatch z))]; exact e, fun b o xs e => by rw [upd_ne (ne e (fun z => nomatch z))]; exact e⟩ q2⟩
  | _ => cases ho
section
variable {p : Addr} {o o' : MO} {u : HO} {od : Obj}
theorem Lk.in0 (l : Lk K H p o o' u) (od : Obj) : Ext0 H (L2.upd H p (.frz od u)) :=
  ⟨fun b xs e => by rw [upd_ne (fun z => by rw [z, l.1] at e; cases e; exact (l.2.2.2.1 od xs).1 rfl)]; exact e, fun b o xs e => by rw [upd_ne (fun z => by rw [z, l.1] at e; cases e; exact l.2.1)]; exact e⟩
theorem Lk.ext (l : Lk K H p o o' u) (x : Ext (L2.upd H p (.frz od u)) H') : H' p = some (.frz od u) ∧ Ext H (L2.upd H' p u) ∧ Ext0 H' (L2.upd H' p u) := by
  have e1 := x.2 p od u upd_same
  refine ⟨e1, ⟨fun b xs e => ?_, fun b ob v e => ?_⟩, fun b xs e => ?_, fun b ob xs e => ?_⟩
  · have nb : b ≠ p := fun z => by rw [z, l.1] at e; cases e; exact (l.2.2.2.1 od xs).1 rfl
    rw [upd_ne nb]
    exact x.1 b xs (by rw [upd_ne nb]; exact e)
  · have nb : b ≠ p := fun z => by rw [z, l.1] at e; cases e; exact l.2.1
    rw [upd_ne nb]
    exact x.2 b ob v (by rw [upd_ne nb]; exact e)
  · have nb : b ≠ p := fun z => by rw [z, e1] at e; cases e
    rw [upd_ne nb]; exact e
  · have nb : b ≠ p := fun z => by
      rw [z, e1] at e
      have e : HO.frz od u = .frz ob (.lst xs) := Option.some.inj e
      injection e with _ e
      exact (l.2.2.2.1 od xs).2.1 e
    rw [upd_ne nb]; exact e
theorem Lk.back (l : Lk K H p o o' u) {g : GS} (x : Ext (L2.upd H p (.frz od u)) H') (rg : RepG K H' g) (hg : g p = some o') : RepG K (L2.upd H' p u) (gup g p o) :=
  rg.upd0 (l.ext x).2.2 (l.2.2.1 od H' (l.ext x).1 (rg p o' hg))
end
theorem de_lock (h : DE X e te) : DE X e (dLockE te) := ⟨peW (pe_lock h.pe) fun σ H Q ⟨e, g, Qd, re, rg, ⟨p, o, o', hp, ho, q⟩, k⟩ => by
  obtain ⟨u, l⟩ := lk_of rg hp ho
  refine ⟨p, u, l.1, l.2.1, fun od => ⟨e, gup g p o', _, re.mono0 (l.in0 od), rg.upd0 (l.in0 od) (l.2.2.2.2 od), q, fun v d H' g' x' rg' r q' => ?_⟩⟩
  obtain ⟨e1, x1, x2⟩ := l.ext x'
  exact ⟨e1, k _ _ _ _ x1 (l.back x' rg' q'.1) (r.mono0 x2) q'.2⟩⟩
theorem ds_lock (h : DS X st T) : DS X st (dLock T) := ⟨psW (ps_lock h.ps) fun D σ H ⟨e, g, Dd, re, rg, ⟨p, o, o', hp, ho, q⟩, k1, k2, k3, k4⟩ => by
  obtain ⟨u, l⟩ := lk_of rg hp ho
  have ks : ∀ (od : Obj) {Q : EV → GS → Prop} {Q' : L2.St → Hp → Prop}, KS X.K H Q Q' → KS X.K (L2.upd H p (.frz od u)) (fun e' g' => g' p = some o' ∧ Q e' (gup g' p o)) fun σ' H' => H' p = some (.frz od u) ∧ Q' σ' (L2.upd H' p u) := fun od Q Q' k σ' H' e' g' x' re' rg' q' => by
    obtain ⟨e1, x1, x2⟩ := l.ext x'
    exact ⟨e1, k _ _ _ _ x1 (re'.mono0 x2) (l.back x' rg' q'.1) q'.2⟩
  refine ⟨p, u, l.1, l.2.1, fun od => ⟨e, gup g p o', _, re.mono0 (l.in0 od), rg.upd0 (l.in0 od) (l.2.2.2.2 od), q, ks od k1, fun v d H' g' x' rg' r q' => ?_, ks od k3, ks od k4⟩⟩
  obtain ⟨e1, x1, x2⟩ := l.ext x'
  exact ⟨e1, k2 _ _ _ _ x1 (l.back x' rg' q'.1) (r.mono0 x2) q'.2⟩⟩
def iDk (ta : DTE) : DTI := fun e g R => ta e g fun x g1 => ∃ p, x = .ref p ∧ ((∃ kvs, g1 p = some (.dctf kvs) ∧ R (kvs.map fun kv => kD kv.1) (fun g => g p = some (.dctf kvs)) g1) ∨ ∃ kvs, g1 p = some (.dttf kvs) ∧ R (kvs.map fun kv => kT kv.1) (fun g => g p = some (.dttf kvs)) g1)
theorem RepKV.getAt {κ : Type} : ∀ {vs : List (κ × V)} {kvs : List (κ × D)} {i : Nat} {kv : κ × D}, RepKV K H vs kvs → kvs[i]? = some kv → ∃ v, vs[i]? = some (kv.1, v) ∧ RepD K H v kv.2 := fun {vs kvs i kv} r h => by
  induction r generalizing i with
  | nil => cases h
  | @cons p q ps qs hq t ih =>
    cases i with
    | zero =>
      have e : q = kv := by simpa using h
      subst e
      exact ⟨p.2, by show some p = some (q.1, p.2); rw [← hq.1], hq.2⟩
    | succ i => exact ih (by simpa using h)
theorem di_dk (h : DE X a ta) : DI X tg a (iDk ta) := ⟨piW (pi_keys h.pe) fun σ H R ⟨e, g, Rd, re, rg, q, k⟩ => ⟨e, g, _, re, rg, q, fun v d H1 g1 x1 rg1 r1 q1 => by
  obtain ⟨p, rfl, q1⟩ := q1
  cases r1
  rcases q1 with ⟨kvs, hp, q1⟩ | ⟨kvs, hp, q1⟩
  · obtain ⟨o, vs, e1, r⟩ := rg1 p _ hp
    refine ⟨p, o, rfl, .inl ⟨vs, e1, k _ _ _ _ _ x1 rg1 (fun i H2 g2 x2 rg2 hk => ?_) q1⟩⟩
    obtain ⟨o2, vs2, e2, r2⟩ := rg2 p _ hk
    have e3 := x2.2 p o _ e1
    rw [e3] at e2
    cases e2
    have hl : vs.length = kvs.length := RepKV.length r2
    refine ⟨fun hi => ⟨e3, by rw [hl, hi, List.length_map]; exact Nat.le_refl _⟩, fun d hd => ?_⟩
    rw [List.getElem?_map] at hd
    cases hc : kvs[i]? with
    | none => rw [hc] at hd; cases hd
    | some kv =>
      rw [hc] at hd
      cases hd
      have hi := (List.getElem?_eq_some_iff.mp hc).1
      refine ⟨⟨e3, by omega⟩, fun y H3 ⟨e4, kk, w, e5, e6⟩ => ?_⟩
      subst e4
      subst e6
      obtain ⟨v, e7, _⟩ := r2.getAt hc
      rw [e5] at e7
      cases e7
      exact ⟨.refl _, rg2, repK _⟩
  · obtain ⟨o, vs, e1, r⟩ := rg1 p _ hp
    refine ⟨p, o, rfl, .inr ⟨vs, e1, k _ _ _ _ _ x1 rg1 (fun i H2 g2 x2 rg2 hk => ?_) q1⟩⟩
    obtain ⟨o2, vs2, e2, r2⟩ := rg2 p _ hk
    have e3 := x2.2 p o _ e1
    rw [e3] at e2
    cases e2
    have hl : vs.length = kvs.length := RepKV.length r2
    refine ⟨fun hi => ⟨e3, by rw [hl, hi, List.length_map]; exact Nat.le_refl _⟩, fun d hd => ?_⟩
    rw [List.getElem?_map] at hd
    cases hc : kvs[i]? with
    | none => rw [hc] at hd; cases hd
    | some kv =>
      rw [hc] at hd
      cases hd
      have hi := (List.getElem?_eq_some_iff.mp hc).1
      refine ⟨⟨e3, by omega⟩, fun y H3 ⟨e4, kk, w, b, e5, e6, e8⟩ => ?_⟩
      subst e4
      subst e6
      obtain ⟨v, e7, _⟩ := r2.getAt hc
      rw [e5] at e7
      cases e7
      exact ⟨.refl _, rg2, .tup e8 (reps_of_kV _)⟩⟩⟩
where reps_of_kV : ∀ {H3 : Hp} (ks : List Key), RepL X.K H3 (ks.map kV) (ks.map kD)
  | _, [] => .nil
  | _, k :: ks => .cons (repK k) (reps_of_kV ks)
end
end DL

namespace DL
open PySem PySem.Spec PyProof.Rows PySem.W L2
open TL (tl)
theorem each_of_get {α β : Type} {R : α → β → Prop} : ∀ {as : List α} {bs : List β}, as.length = bs.length → (∀ (j : Nat) a b, as[j]? = some a → bs[j]? = some b → R a b) → EachIs R as bs
  | [], [], _, _ => .nil
  | a :: as, b :: bs, hl, h => .cons (h 0 a b rfl rfl) (each_of_get (by simpa using hl) fun j x y e1 e2 => h (j + 1) x y (by simpa using e1) (by simpa using e2))
  | [], _ :: _, hl, _ => by simp at hl
  | _ :: _, [], hl, _ => by simp at hl
theorem reps_keysT {K : PySem.W.Frag} {H : Hp} : ∀ (ks : List Key), RepL K H (ks.map kV) (ks.map kD)
  | [] => .nil
  | k :: ks => .cons (repK k) (reps_keysT ks)
section
variable {X : Cx} {K : PySem.W.Frag} {H : Hp}
def sortedTD : DRC := fun xs g Q => match xs with
  | [.ref p] => ∃ kvs : List (List Key × D), g p = some (.dtt kvs) ∧ srtOk (kvs.map fun kv => kT kv.1) ∧ ∀ r, g r = none → Q (.ref r) (gup g r (.lst ((kvs.map fun kv => kT kv.1).mergeSort leP)))
  | _ => False
theorem call_sortedTD (hc : X.calm = true) (hu : X.A.units + 65 < cLine) : CallR X (.builtin "sorted") (lRC X.K sortedTD) := fun pins s σ H xs us Q I rs ⟨ds, g, Qd, l, rg, q, k⟩ => by
  rcases l with _ | ⟨r1, _ | ⟨r2, l⟩⟩
  · exact q.elim
  · cases r1 with
    | ref p =>
      obtain ⟨kvs, hp, ⟨hpu, hdp, hal, hsk⟩, q⟩ := q
      obtain ⟨vs, hH, rk⟩ := rg.dtt hp
      rw [Vals.ref1 rs]
      obtain ⟨z, hd, xs, rel, o, es, ep, ho, hx, hdt, he, hn⟩ := (show ObjOk X.prog X.w H s.heap p (.dT vs) from I.hok p _ hH)
      have hes : es.size = xs.length := size_of_entries he
      have hl : vs.length = xs.length := Paired.length rel
      have hlk : vs.length = kvs.length := RepKV.length rk
      have hn16 : es.size ≤ sizeLine := by omega
      refine PySem.Calls.call_function_entry PyProof.Rows.kind_sorted PyProof.Rows.plain_sorted PyProof.Rows.entry_sorted (PyProof.Rows.args_sorted1 _) ?_
      unfold Builtin.«sorted»
      refine wpAny_bind (m := checkCount "sorted" 1 1 _) (wpAny_pure ?_)
      refine wpAny_bind (PySem.W.kdu_collect (A := X.A.in1) (KdlSrc.rawDict (es := es) (ep := ep) hd) (I.ok.hd hc) ⟨o, ho, hx, hdt⟩ hn16 fun h' tk acc hk hacc => ?_)
      have e0 : EachIs (StD X.K H) acc.toList (kvs.map fun kv => kT kv.1) := each_of_get (by rw [Array.length_toList, hacc.1, List.length_map]; omega) fun j u d e1 e2 => by
        rw [List.getElem?_map] at e2
        cases hc : kvs[j]? with
        | none => rw [hc] at e2; cases e2
        | some kv =>
          rw [hc] at e2
          cases e2
          obtain ⟨v, e3, _⟩ := rk.getAt hc
          obtain ⟨b, hb, b1, b2, _⟩ := paired_get rel e3
          obtain ⟨hi, e4⟩ := hacc.2 j u (by rw [← Array.getElem?_toList]; exact e1)
          have e5 := entry_at he j
          rw [hb] at e5
          have e6 : es[j]? = some es[j] := Array.getElem?_eq_getElem hi
          rw [e6] at e5
          have e7 : es[j] = entryOfKey (tupleKind (mixKind X.prog X.w)) b := Option.some.inj e5
          rw [e7] at e4
          subst e4
          exact ⟨.ref b.2.1, .tup b2 (reps_keysT _), rfl⟩
      have I1 : Inv X pins σ H { s with heap := h', toks := tk } := I.kept hk
      have er : EachIs (fun u d => ∃ as, Reads h' u (pd d) as) acc.toList (kvs.map fun kv => kT kv.1) := each_and e0 fun u d hd ⟨v, r, w⟩ => Dp.reads I1 (pd d) v u (r.dp (pures_mem hpu d hd)) w
      have hal2 : acc.toList.length ≤ sizeLine := by rw [Array.length_toList, hacc.1]; exact hn16
      refine wpAny_bind (wpAny_newList ?_ hal2)
      have hoL : (h'.push (seqObj "list" acc.toList.toArray 0)).get? h'.objs.size = some (seqObj "list" acc.toList.toArray 0) := Heap.get?_push_size _ rfl
      have sold : ∀ b ob, h'.get? b = some ob → (PySem.W.sortingHeap (h'.push (seqObj "list" acc.toList.toArray 0)) h'.objs.size acc.toList).get? b = some ob := fun b ob e => PySem.W.sortingHeap_old (Nat.ne_of_lt (Heap.lt_size e)) (Heap.get?_push_of_some _ e)
      have er2 : EachIs (fun u d => ∃ as, Reads (PySem.W.sortingHeap (h'.push (seqObj "list" acc.toList.toArray 0)) h'.objs.size acc.toList) u (pd d) as) acc.toList (kvs.map fun kv => kT kv.1) := each_and er fun u d _ ⟨as, r⟩ => ⟨as, PyProof.Rows.Reads.keeps (fun b o e => sold b o e) r⟩
      show wpAny _ _ _ _ _ { s with heap := h'.push (seqObj "list" acc.toList.toArray 0), toks := tk }
      have S := PySem.W.SortsAt.data (prog := X.prog) (w := X.w) (A := X.A.in1.in1) (s := { s with heap := PySem.W.sortingHeap (h'.push (seqObj "list" acc.toList.toArray 0)) h'.objs.size acc.toList, toks := tk }) (each_mapD er2) hal hsk (fun d hd => by
        obtain ⟨d', hd', rfl⟩ := List.mem_map.mp hd
        have h1 := pd_dep d'
        have h2 := deps_mem hdp d' hd'
        show X.A.units + 1 + 1 + _ < _
        omega)
      have out := PySem.W.sortVals_data (R := StD X.K H) (enc := pd) false e0 er2 hal
      obtain ⟨vs', l', w'⟩ := of_std out
      refine wpAny_bind (wpAny_holding (wpAny_call_entry PyProof.Rows.slot_list_sort ⟨_, hoL, rfl⟩ PyProof.Rows.entry_list_sort
        (PySem.W.list_sort_vals (s := { s with heap := h'.push (seqObj "list" acc.toList.toArray 0), toks := tk }) hoL S hal2 ⟨_, rfl, ?_⟩)
        (PyProof.Rows.args_list_sort _)))
      obtain ⟨e', he'⟩ := PyProof.Rows.sortedHeap_at (vs := acc.toList) (out := (sortVals (dataKind (PySem.W.sortingHeap (h'.push (seqObj "list" acc.toList.toArray 0)) h'.objs.size acc.toList) ((kvs.map fun kv => kT kv.1).map pd)) false acc.toList acc.toList).toArray) hoL
      have hl2 : vs'.length = acc.toList.length := by rw [w'.length]; exact PySem.W.sortVals_length false rfl
      have hlen : vs'.length ≤ sizeLine := by rw [hl2]; exact hal2
      refine wpAny_pure ⟨_, rfl, .ref h'.objs.size, upd H h'.objs.size (.lst vs'), I1.laid (t' := tk) (fun b u e => ?_) (Nat.le_refl _)
        (show ObjOk X.prog X.w _ _ _ (.lst vs') from ⟨hlen, _, e', w', he'⟩), rfl, rg.finL k (I1.hok.fresh (Nat.le_refl _)) l' q⟩
      have hb : b < h'.objs.size := Heap.lt_size e
      rw [PyProof.Rows.sortedHeap_old (Nat.ne_of_lt hb) (by rw [size_push']; exact Nat.lt_succ_of_lt hb)]
      exact Heap.get?_push_of_some _ e
    | _ => exact q.elim
  · cases r1 <;> exact q.elim
/-! ### list(d) -/
def lstKD : DRC := fun xs g Q => match xs with
  | [.ref p] => (∃ kvs, g p = some (.dct kvs) ∧ ∀ r, g r = none → Q (.ref r) (gup g r (.lst (kvs.map fun kv => kD kv.1)))) ∨ ∃ kvs, g p = some (.dtt kvs) ∧ ∀ r, g r = none → Q (.ref r) (gup g r (.lst (kvs.map fun kv => kT kv.1)))
  | _ => False
theorem call_lstKD (hc : X.calm = true) : CallR X (.type "list") (lRC X.K lstKD) := fun pins s σ H xs us Q I rs ⟨ds, g, Qd, l, rg, q, k⟩ => by
  rcases l with _ | ⟨r1, _ | ⟨r2, l⟩⟩
  · exact q.elim
  · cases r1 with
    | ref p =>
      rcases q with ⟨kvs, hp, q⟩ | ⟨kvs, hp, q⟩
      · obtain ⟨vs, hH, rk⟩ := rg.dct hp
        refine call_list_dK hc pins s σ H _ us Q I rs ⟨p, vs, rfl, hH, fun n hn => rg.finL k hn ?_ q⟩
        have : vs.map (fun kv => kV kv.1) = kvs.map fun kv => kV kv.1 := by
          have e := congrArg (List.map kV) rk.keys
          rw [List.map_map, List.map_map] at e
          exact e
        rw [this]
        clear this hp q hH rk
        induction kvs with
        | nil => exact .nil
        | cons kv kvs ih => exact .cons (repK _) ih
      · obtain ⟨vs, hH, rk⟩ := rg.dtt hp
        refine call_list_dT hc pins s σ H _ us Q I rs ⟨p, vs, rfl, .inl hH, fun n bs hn hb => rg.finL k hn ?_ q⟩
        have ek : vs.map (·.1) = kvs.map (·.1) := rk.keys
        clear hp q hH rk k
        unfold IsKeys at hb
        induction hb generalizing kvs with
        | nil => cases kvs with
          | nil => exact .nil
          | cons kv kvs => cases ek
        | @cons a b as bs h1 h2 ih => cases kvs with
          | nil => cases ek
          | cons kv kvs =>
            rw [List.map_cons, List.map_cons] at ek
            injection ek with e1 e2
            refine .cons (.tup ?_ (reps_keysT _)) (ih kvs e2)
            rw [← e1]; exact h1
    | _ => exact q.elim
  · cases r1 <;> exact q.elim
def lenKD : DRC := fun xs g Q => match xs with
  | [.ref p] => ∃ kvs : List (List Key × D), g p = some (.dtt kvs) ∧ Q (.int (kvs.length : Nat)) g
  | _ => False
theorem call_lenKD : CallR X (.builtin "len") (lRC X.K lenKD) := fun pins s σ H xs us Q I rs ⟨ds, g, Qd, l, rg, q, k⟩ => by
  rcases l with _ | ⟨r1, _ | ⟨r2, l⟩⟩
  · exact q.elim
  · cases r1 with
    | ref p =>
      obtain ⟨kvs, hp, q⟩ := q
      obtain ⟨vs, hH, rk⟩ := rg.dtt hp
      exact call_len_dT pins s σ H _ us Q I rs ⟨p, vs, rfl, hH, by rw [RepKV.length rk]; exact rg.fin k (.int _) q⟩
    | _ => exact q.elim
  · cases r1 <;> exact q.elim
end
end DL

namespace DL
open PySem PySem.Spec PyProof.Rows L2
open TL (tl)
open PySem.W (keyToks keyToksAll)
/-! ### the steps of dictionaries by tuples, of locks -/
section
variable {D : DEnds} {e : EV} {g : GS} {Q : DK} {QB : Bool → GS → Prop} {td ty tv tx te : DTE} {T : DTS}
theorem s_tnew (h : ∀ p, g p = none → Q (.ref p) (gup g p (.dtt []))) : dTNew e g Q := h
theorem s_tget (h : td e g fun x g1 => ty e g1 fun y g2 => ∃ p kvs k v, x = .ref p ∧ g2 p = some (.dtt kvs) ∧ y = kT k ∧ getD kvs k = some v ∧ Q v g2) : dTGet td ty e g Q := h
theorem s_tin (h : ty e g fun y g1 => td e g1 fun x g2 => ∃ p kvs k, x = .ref p ∧ g2 p = some (.dtt kvs) ∧ y = kT k ∧ Q (.bl (getD kvs k).isSome) g2) : dTIn ty td e g Q := h
theorem s_tnotin (h : ty e g fun y g1 => td e g1 fun x g2 => ∃ p kvs k, x = .ref p ∧ g2 p = some (.dtt kvs) ∧ y = kT k ∧ Q (.bl (!(getD kvs k).isSome)) g2) : dTNotIn ty td e g Q := h
theorem s_tput (h : tv e g fun v g1 => td e g1 fun x g2 => ty e g2 fun y g3 => ∃ p kvs k, x = .ref p ∧ g3 p = some (.dtt kvs) ∧ y = kT k ∧ kvs.length < sizeLine ∧ D.nx e (gup g3 p (.dtt (putD kvs k v)))) : dTPut td ty tv D e g := h
theorem s_tget1 (h : td e g fun x g1 => ∃ p, x = .ref p ∧ (∃ kvs, g1 p = some (.dtt kvs)) ∧ ty e g1 fun y g2 => ∃ kvs k, g2 p = some (.dtt kvs) ∧ y = kT k ∧ Q ((getD kvs k).getD .non) g2) : dTGet1 td ty e g Q := h
theorem s_tget2 (h : td e g fun x g1 => ∃ p, x = .ref p ∧ (∃ kvs, g1 p = some (.dtt kvs)) ∧ ty e g1 fun y g2 => tx e g2 fun z g3 => ∃ kvs k, g3 p = some (.dtt kvs) ∧ y = kT k ∧ Q ((getD kvs k).getD z) g3) : dTGet2 td ty tx e g Q := h
/-- a walked dictionary that nobody changes -/
theorem s_lockE {p : Addr} {o : MO} (o' : MO) (hp : g p = some o) (ho : lkO o = some o') (h : te e (gup g p o') fun v g' => g' p = some o' ∧ Q v (gup g' p o)) : dLockE te e g Q := ⟨p, o, o', hp, ho, h⟩
theorem s_lock {p : Addr} {o : MO} (o' : MO) (hp : g p = some o) (ho : lkO o = some o') (h : T { nx := fun e' g' => g' p = some o' ∧ D.nx e' (gup g' p o), rt := fun v g' => g' p = some o' ∧ D.rt v (gup g' p o), bk := fun e' g' => g' p = some o' ∧ D.bk e' (gup g' p o), ct := fun e' g' => g' p = some o' ∧ D.ct e' (gup g' p o) } e (gup g p o')) : dLock T D e g := ⟨p, o, o', hp, ho, h⟩
theorem s_iDk {R : List DL.D → (GS → Prop) → GS → Prop} {ta : DTE} (h : ta e g fun x g1 => ∃ p, x = .ref p ∧ ((∃ kvs, g1 p = some (.dctf kvs) ∧ R (kvs.map fun kv => kD kv.1) (fun g => g p = some (.dctf kvs)) g1) ∨ ∃ kvs, g1 p = some (.dttf kvs) ∧ R (kvs.map fun kv => kT kv.1) (fun g => g p = some (.dttf kvs)) g1)) : iDk ta e g R := h
end
theorem two {A B C : Prop} (main : A → B → C) (y : A) (n : B) : C := main y n
/-! ### keys of a dictionary by tuples -/
theorem getD_mem {κ : Type} [DecidableEq κ] (kvs : List (κ × D)) (k : κ) : (getD kvs k).isSome = decide (k ∈ kvs.map (·.1)) := by
  induction kvs with
  | nil => rfl
  | cons kv kvs ih =>
    unfold getD at ih ⊢
    rw [List.find?_cons]
    by_cases h : kv.1 = k
    · simp [h]
    · have h' : ¬ k = kv.1 := fun e => h e.symm
      simp only [h, decide_false, List.map_cons, List.mem_cons, h', false_or]
      exact ih
theorem putD_new {κ : Type} [DecidableEq κ] {kvs : List (κ × D)} {k : κ} {v : D} (h : k ∉ kvs.map (·.1)) : putD kvs k v = kvs ++ [(k, v)] := by
  unfold putD
  rw [if_neg]
  intro e
  rw [List.any_eq_true] at e
  obtain ⟨x, hx, e⟩ := e
  exact h (List.mem_map.mpr ⟨x, hx, of_decide_eq_true e⟩)
/-! ### ids -/
abbrev Idn := Str × Int
abbrev idD (x : Idn) : D := .tup [.str x.1, .int x.2]
abbrev idK (x : Idn) : List Key := [.inr x.1, .inl x.2]
abbrev NtR.ix (n : NtR) : Idn := (n.name, n.num)
theorem idK_inj {x y : Idn} (h : idK x = idK y) : x = y := by
  injection h with h1 h2
  injection h2 with h2 _
  injection h1 with h1
  injection h2 with h2
  exact Prod.ext h1 h2
theorem idD_inj {x y : Idn} (h : idD x = idD y) : x = y := by
  injection h with h
  injection h with h1 h2
  injection h2 with h2 _
  injection h1 with h1
  injection h2 with h2
  exact Prod.ext h1 h2
theorem fine_id {x : Idn} (h : sOk x.1) : fine (idD x) := ⟨by simp only [pure?, pures]; rw [h]; rfl, by simp [dep, deps]⟩
theorem eqP_id (x y : Idn) : eqP (idD x) (idD y) = decide (x = y) := by
  obtain ⟨a, i⟩ := x
  obtain ⟨b, j⟩ := y
  unfold eqP
  simp only [pd, pds, PyData.eqv, PyData.eqvAll]
  by_cases h : a = b
  · by_cases h2 : i = j
    · subst h; subst h2; simp
    · simp [h, h2]
  · simp [h]
theorem any_ids (t : Idn) (us : List Idn) : ((us.map idD).any fun z => eqP z (idD t)) = decide (t ∈ us) := by
  induction us with
  | nil => rfl
  | cons u us ih =>
    rw [List.map_cons, List.any_cons, ih, eqP_id]
    by_cases h : u = t
    · subst h; simp
    · have h' : ¬ t = u := fun z => h z.symm
      simp [h, h']
theorem pures_all {ds : List D} (h : ∀ d ∈ ds, fine d) : pures ds = true ∧ deps ds ≤ 60 := by
  induction ds with
  | nil => exact ⟨rfl, by rw [deps]; omega⟩
  | cons d ds ih =>
    have h1 := h d List.mem_cons_self
    have h2 := ih fun x hx => h x (List.mem_cons_of_mem _ hx)
    refine ⟨by rw [pures, h1.1, h2.1]; rfl, ?_⟩
    rw [deps]
    have := h1.2
    omega
theorem fine_ids {xs : List Idn} (h : ∀ x ∈ xs, sOk x.1) : pures (xs.map idD) = true ∧ deps (xs.map idD) ≤ 60 := pures_all fun d hd => by
  obtain ⟨x, hx, rfl⟩ := List.mem_map.mp hd
  exact fine_id (h x hx)
theorem srt_ids {xs : List Idn} (h : ∀ x ∈ xs, sOk x.1) : srtOk (xs.map idD) := by
  refine ⟨(fine_ids h).1, (fine_ids h).2, ?_, .inl ?_⟩
  · intro d hd d' hd'
    rw [List.map_map] at hd hd'
    obtain ⟨x, _, rfl⟩ := List.mem_map.mp hd
    obtain ⟨y, _, rfl⟩ := List.mem_map.mp hd'
    rfl
  · intro d hd
    rw [List.map_map] at hd
    obtain ⟨x, _, rfl⟩ := List.mem_map.mp hd
    exact ⟨_, _, rfl⟩
def sortD (ds : List D) : List D := ds.mergeSort leP
theorem sortD_len (ds : List D) : (sortD ds).length = ds.length := List.length_mergeSort ds
theorem sortD_mem {ds : List D} {d : D} : d ∈ sortD ds ↔ d ∈ ds := (List.mergeSort_perm ds leP).mem_iff
theorem key_id {a b : Idn} (h : keyToks (pd (idD a)) = keyToks (pd (idD b))) : a = b := by
  obtain ⟨x, i⟩ := a
  obtain ⟨y, j⟩ := b
  simp only [pd, pds, keyToks, keyToksAll, List.cons_append, List.nil_append, List.cons.injEq, true_and, Sum.inr.injEq, Sum.inl.injEq, and_true] at h
  rw [PySem.W.str_of_cps h.1, h.2]
theorem sortIds_perm {as bs : List Idn} (h : as.Perm bs) : sortD (as.map idD) = sortD (bs.map idD) := sortD_perm (List.Perm.map _ h) fun a ha b hb e => by
  obtain ⟨x, _, rfl⟩ := List.mem_map.mp ha
  obtain ⟨y, _, rfl⟩ := List.mem_map.mp hb
  rw [key_id e]
theorem v_sortIds {g : GS} {Q : DK} {p : Addr} {xs : List Idn} (hp : g p = some (.lst (xs.map idD))) (hs : ∀ x ∈ xs, sOk x.1) (h : ∀ r, g r = none → Q (.ref r) (gup g r (.lst (sortD (xs.map idD))))) : sortedD [.ref p] g Q := ⟨_, .inl hp, srt_ids hs, h⟩
theorem any_opts (t : Str) (os : List (Option Str)) : ((os.map optD).any fun z => eqP z (.str t)) = decide (some t ∈ os) := by
  induction os with
  | nil => rfl
  | cons o os ih =>
    rw [List.map_cons, List.any_cons, ih]
    cases o with
    | none =>
      have : eqP (optD none) (.str t) = false := rfl
      rw [this]; simp
    | some u =>
      show (eqP (.str u) (.str t) || _) = _
      rw [eqP_str]
      by_cases h : u = t
      · subst h; simp
      · have h' : ¬ t = u := fun z => h z.symm
        simp [h, h']
theorem v_inOpts {g : GS} {Q : DK} {p : Addr} {t : Str} {os : List (Option Str)} (hp : g p = some (.lst (os.map optD))) (h : Q (.bl (decide (some t ∈ os))) g) : inD (.str t) (.ref p) g Q :=
  ⟨_, .inl hp, .inl ⟨rfl, by rw [List.all_map, List.all_eq_true]; intro o _; cases o <;> rfl⟩, by rw [any_opts]; exact h⟩
theorem v_inBls {g : GS} {Q : DK} {p : Addr} {t : Bool} {bs : List Bool} (hp : g p = some (.lst (bs.map D.bl))) (h : Q (.bl (decide (t ∈ bs))) g) : inD (.bl t) (.ref p) g Q :=
  ⟨_, .inl hp, .inl ⟨rfl, by rw [List.all_map, List.all_eq_true]; intro o _; rfl⟩, by
    have : ((bs.map D.bl).any fun z => eqP z (.bl t)) = decide (t ∈ bs) := by
      clear h hp
      induction bs with
      | nil => rfl
      | cons b bs ih =>
        rw [List.map_cons, List.any_cons, ih]
        have : eqP (.bl b) (.bl t) = decide (b = t) := by cases b <;> cases t <;> rfl
        rw [this]
        by_cases h : b = t
        · subst h; simp
        · have h' : ¬ t = b := fun z => h z.symm
          simp [h, h']
    rw [this]; exact h⟩
theorem v_eqId {g : GS} {Q : DK} {x y : Idn} (hx : sOk x.1) (hy : sOk y.1) (h : Q (.bl (decide (x = y))) g) : eqD (idD x) (idD y) g Q := ⟨fine_id hx, fine_id hy, by rw [eqP_id]; exact h⟩
theorem v_neId {g : GS} {Q : DK} {x y : Idn} (hx : sOk x.1) (hy : sOk y.1) (h : Q (.bl (!decide (x = y))) g) : neD (idD x) (idD y) g Q := v_eqId (Q := notV Q) hx hy h
theorem v_inIds {g : GS} {Q : DK} {p : Addr} {t : Idn} {us : List Idn} (hp : g p = some (.lst (us.map idD))) (ht : sOk t.1) (hu : ∀ x ∈ us, sOk x.1) (h : Q (.bl (decide (t ∈ us))) g) : inD (idD t) (.ref p) g Q :=
  v_inLd hp (fine_id ht) (fine_ids hu).1 (fine_ids hu).2 (by rw [any_ids]; exact h)
theorem v_notInIds {g : GS} {Q : DK} {p : Addr} {t : Idn} {us : List Idn} (hp : g p = some (.lst (us.map idD))) (ht : sOk t.1) (hu : ∀ x ∈ us, sOk x.1) (h : Q (.bl (!decide (t ∈ us))) g) : notInD (idD t) (.ref p) g Q := v_inIds (Q := notV Q) hp ht hu h
/-! ### rights -/
def NtR.tgt (n : NtR) : D := n.krest.headD .non
def KdOk (n : NtR) : Prop := (n.kw = "post" ∧ n.krest = []) ∨ (n.kw ≠ "post" ∧ ∃ t : Idn, n.krest = [idD t] ∧ sOk t.1)
def keepsB (ss : List StwR) (a : Str) (bs : List Str) : Bool := decide (some a ∈ bs.map (stewardOf ss))
def rightB (ss : List StwR) (m o : NtR) : Bool := if m.kw = "post" ∨ o.kw = "strike" then false else if eqP m.tgt o.id = true then (if m.author = o.author then true else decide (m.kw = "strike") && keepsB ss m.author o.boards) else false
def hidB (ss : List StwR) (ns : List NtR) (o : NtR) : Bool := ns.any fun m => rightB ss m o
structure NtH (n : NtR) : Prop where
  kd : KdOk n
  nm : sOk n.name
  bd : ∀ z ∈ n.boards, (tl z).length ≤ 1000000
  bl : n.boards.length ≤ 1000
theorem right_post {ss : List StwR} {m o : NtR} (h : m.kw = "post") : rightB ss m o = false := if_pos (.inl h)
theorem hid_filter (ss : List StwR) (ns : List NtR) (o : NtR) : ((ns.filter fun m : NtR => !decide (m.kw = ("post" : Str))).any fun m => rightB ss m o) = hidB ss ns o := by
  unfold hidB
  induction ns with
  | nil => rfl
  | cons n ns ih =>
    rw [List.filter_cons]
    by_cases h : n.kw = "post"
    · rw [if_neg (by simp [h]), ih, List.any_cons, right_post h, Bool.false_or]
    · rw [if_pos (by simp [h]), List.any_cons, List.any_cons, ih]
end DL

namespace DL
open PySem PySem.Spec PyProof.Rows L2
open TL (tl)
/-! ### what is shown -/
def onB (n : NtR) (z : Str) (term clock : Int) : Bool := !decide (n.kw = "strike") && (decide (z ∈ n.boards) && decide (clock ≤ n.date + term))
abbrev rowD (n : NtR) : D := .tup [.int n.date, idD n.ix]
def sndD : D → D
  | .tup [_, x] => x
  | _ => .non
def ordL (ns : List NtR) : List D := (sortD (ns.map rowD)).map sndD
def shownL (ss : List StwR) (t : SiteR) (ns : List NtR) (z : Str) (clock : Int) : List D :=
  if letsB t.lot z = true then ordL (ns.filter fun n => !decide (n.ix ∈ (ns.filter (hidB ss ns)).map NtR.ix) && onB n z t.term clock) else []
theorem fine_row {n : NtR} (h : sOk n.name) : fine (rowD n) := ⟨by
    have h1 := (fine_id (x := n.ix) h).1
    have e : pure? (rowD n) = pures [.int n.date, idD n.ix] := by rw [rowD, pure?]
    rw [e, pures, pures, pures, h1]; rfl, by
    simp [dep, deps]⟩
theorem srt_rows {ns : List NtR} (h : ∀ n ∈ ns, sOk n.name) : srtOk (ns.map rowD) := by
  have hp := pures_all (ds := ns.map rowD) fun d hd => by
    obtain ⟨n, hn, rfl⟩ := List.mem_map.mp hd
    exact fine_row (h n hn)
  refine ⟨hp.1, hp.2, ?_, .inl ?_⟩
  · intro d hd d' hd'
    rw [List.map_map] at hd hd'
    obtain ⟨x, _, rfl⟩ := List.mem_map.mp hd
    obtain ⟨y, _, rfl⟩ := List.mem_map.mp hd'
    rfl
  · intro d hd
    rw [List.map_map] at hd
    obtain ⟨x, _, rfl⟩ := List.mem_map.mp hd
    exact ⟨_, _, rfl⟩
theorem ord_rows (ns : List NtR) : ∃ ms : List NtR, sortD (ns.map rowD) = ms.map rowD ∧ ms.Perm ns ∧ ordL ns = ms.map fun n => idD n.ix := by
  obtain ⟨ms, h1, h2⟩ := perm_map_inv (List.mergeSort_perm (ns.map rowD) leP) ns rfl
  refine ⟨ms, h1, h2, ?_⟩
  unfold ordL sortD
  rw [h1, List.map_map]
  rfl
theorem v_sortRows {g : GS} {Q : DK} {p : Addr} {ns : List NtR} (hp : g p = some (.lst (ns.map rowD))) (hs : ∀ n ∈ ns, sOk n.name) (h : ∀ r (ms : List NtR), ms.Perm ns → ordL ns = ms.map (fun n => idD n.ix) → g r = none → Q (.ref r) (gup g r (.lst (ms.map rowD)))) : sortedD [.ref p] g Q :=
  ⟨_, .inl hp, srt_rows hs, fun r hr => by
    obtain ⟨ms, h1, h2, h3⟩ := ord_rows ns
    have h1 : (ns.map rowD).mergeSort leP = ms.map rowD := h1
    rw [h1]
    exact h r ms h2 h3 hr⟩
theorem v_notInTup {g : GS} {Q : DK} {xs : List D} {ds : List D} (hx : fine (.tup xs)) (h1 : pures ds = true) (h2 : deps ds ≤ 60) (h : Q (.bl (!(ds.any fun z => eqP z (.tup xs)))) g) : notInD (.tup xs) (.tup ds) g Q := ⟨.inr ⟨hx, h1, h2⟩, h⟩
theorem v_inTup {g : GS} {Q : DK} {xs : List D} {ds : List D} (hx : fine (.tup xs)) (h1 : pures ds = true) (h2 : deps ds ≤ 60) (h : Q (.bl (ds.any fun z => eqP z (.tup xs))) g) : inD (.tup xs) (.tup ds) g Q := ⟨.inr ⟨hx, h1, h2⟩, h⟩
theorem any_perm {α : Type} {p : α → Bool} {as bs : List α} (h : as.Perm bs) : as.any p = bs.any p := by
  rw [Bool.eq_iff_iff, List.any_eq_true, List.any_eq_true]
  exact ⟨fun ⟨x, hx, e⟩ => ⟨x, h.mem_iff.mp hx, e⟩, fun ⟨x, hx, e⟩ => ⟨x, h.mem_iff.mpr hx, e⟩⟩
/-- an id within a sorted row of ids -/
theorem v_notInSortIds {g : GS} {Q : DK} {t : Idn} {us : List Idn} (ht : sOk t.1) (hu : ∀ x ∈ us, sOk x.1) (h : Q (.bl (!decide (t ∈ us))) g) : notInD (idD t) (.tup (sortD (us.map idD))) g Q := by
  have hf : pures (sortD (us.map idD)) = true ∧ deps (sortD (us.map idD)) ≤ 60 := pures_all fun d hd => by
    obtain ⟨x, hx, rfl⟩ := List.mem_map.mp (sortD_mem.mp hd)
    exact fine_id (hu x hx)
  refine v_notInTup (fine_id ht) hf.1 hf.2 ?_
  have e := any_perm (p := fun z => eqP z (idD t)) (List.mergeSort_perm (us.map idD) leP)
  rw [any_ids] at e
  have e : ((sortD (us.map idD)).any fun z => eqP z (idD t)) = decide (t ∈ us) := e
  rw [e]; exact h
end DL

namespace DL
open PySem PySem.Spec PyProof.Rows L2
open TL (tl)
/-! ### xs.count(y) of data -/
section
variable {X : Cx} {id : String}
def countD : DRM := fun x ys g Q => match x, ys with
  | .ref p, [y] => ∃ ds, rdL g p ds ∧ fine y ∧ pures ds = true ∧ deps ds ≤ 60 ∧ Q (.int ((ds.countP fun z => eqP z y : Nat) : Int)) g
  | _, _ => False
theorem countP_pds (f : PyData → Bool) : ∀ ds : List D, (pds ds).countP f = ds.countP fun z => f (pd z)
  | [] => rfl
  | d :: ds => by rw [pds, List.countP_cons, List.countP_cons, countP_pds f ds]
theorem mt_countD (hu : X.A.units + 65 < cLine) : MtR X "list.count" (lRM X.K countD) := fun pins s σ H x xs v us Q I rx rs ⟨d, ds, g, Qd, r, l, rg, q, k⟩ => by
  cases r with
  | ref p =>
    rcases l with _ | ⟨r1, _ | ⟨r2, l⟩⟩
    · exact q.elim
    · rename_i vy y hq0
      obtain ⟨es, hp, hf, hpu, hdp, q⟩ := q
      cases rx
      obtain ⟨uy, rfl, ry⟩ := rs.one
      obtain ⟨bs, rb⟩ := Dp.reads I (pd y) vy uy (r1.dp hf.1) ry
      have hl := rg.dpl hp hpu
      have hxs : PyData.canLayAll0 (pds es) = true := SeqAt.canLay_of_shaped (fines_shaped hpu hdp)
      have hroom : X.A.units + 1 + min (PyData.depthAll (pds es)) (pd y).depth < cLine := PyProof.Rows.room_in_shaped (fine_shaped hf) hu
      cases hl with
      | lst hs ha =>
        obtain ⟨its, rv, ⟨⟨cls, dd, data, sls⟩, n, ho, hc, hdn, hdt⟩, hlen⟩ := I.list hs
        simp only at hc hdt
        subst hc hdt
        obtain ⟨as, h4⟩ := Dp.readsAll I (pds es) _ its ha rv
        have hmap : its.map (SeqAt.readOf s.heap) = pds es := SeqAt.readsAll_map (pds es) its as hxs h4
        refine call_meets PySem.F.slot_list_count ⟨_, ho, rfl⟩ PySem.F.entry_list_count (PySem.F.args_list_count_2 _ _)
          (SeqAt.list_countAt p its.toArray n dd sls uy (fun u => PyData.eqv (SeqAt.readOf s.heap u) (pd y))) ⟨ho, SeqAt.items_eqAt (vs := its.toArray) (show ReadsAll s.heap its.toArray.toList (pds es) as from h4) rb hxs (SeqAt.canLay_of_shaped (fine_shaped hf)) hroom, ?_⟩
        have ec : its.toArray.toList.countP (fun u => PyData.eqv (SeqAt.readOf s.heap u) (pd y)) = es.countP fun z => eqP z y := by
          have : its.countP (fun u => PyData.eqv (SeqAt.readOf s.heap u) (pd y)) = (its.map (SeqAt.readOf s.heap)).countP fun z => PyData.eqv z (pd y) := by rw [List.countP_map]; rfl
          show its.countP _ = _
          rw [this, hmap, countP_pds]
          rfl
        exact ⟨.int _, H, I.tok _, ⟨s.toks, by rw [ec]⟩, rg.fin k (.int _) q⟩
    · cases r1 <;> exact q.elim
  | _ => exact q.elim
theorem v_countIds {g : GS} {Q : DK} {p : Addr} {t : Idn} {us : List Idn} (hp : g p = some (.lst (us.map idD))) (ht : sOk t.1) (hu : ∀ x ∈ us, sOk x.1) (h : Q (.int ((us.count t : Nat) : Int)) g) : countD (.ref p) [idD t] g Q :=
  ⟨_, .inl hp, fine_id ht, (fine_ids hu).1, (fine_ids hu).2, by
    have e : ((us.map idD).countP fun z => eqP z (idD t)) = us.count t := by
      rw [List.countP_map, List.count]
      refine List.countP_congr fun x _ => ?_
      show eqP (idD x) (idD t) = true ↔ _
      rw [eqP_id, decide_eq_true_iff, beq_iff_eq]
    rw [e]; exact h⟩
end
theorem v_notN {g : GS} {Q : DK} (h : Q (.bl false) g) : notND .non .non g Q := ⟨rfl, h⟩
/-! ### a list comprehension with any state -/
theorem lc_iv {ds : List DL.D} {keep : GS → Prop} {e : EV} {j : Nat} {te : DTE} {R : Addr → GS → Prop} {g : GS} (Iv : Addr → Nat → List DL.D → GS → Prop) (h0 : ∀ p, g p = none → Iv p 0 [] (gup g p (.lst [])))
    (hk : ∀ p i acc g', g p = none → i ≤ ds.length → Iv p i acc g' → keep g')
    (step : ∀ p i d acc g', g p = none → ds[i]? = some d → Iv p i acc g' → te (e.set j (some d)) g' fun y g4 => g4 p = some (.lst acc) ∧ acc.length < sizeLine ∧ Iv p (i + 1) (acc ++ [y]) (gup g4 p (.lst (acc ++ [y]))))
    (q : ∀ p acc g', g p = none → Iv p ds.length acc g' → R p g') :
    ∀ p, g p = none → ∃ Iv : Nat → List DL.D → GS → Prop, Iv 0 [] (gup g p (.lst [])) ∧ (∀ i acc g', i ≤ ds.length → Iv i acc g' → keep g') ∧
      (∀ i d acc g', ds[i]? = some d → Iv i acc g' → dYes (e.set j (some d)) g' fun b g3 => if b = true then te (e.set j (some d)) g3 fun y g4 => g4 p = some (.lst acc) ∧ acc.length < sizeLine ∧ Iv (i + 1) (acc ++ [y]) (gup g4 p (.lst (acc ++ [y]))) else Iv (i + 1) acc g3) ∧
      ∀ acc g', Iv ds.length acc g' → R p g' :=
  fun p hp => ⟨Iv p, h0 p hp, fun i acc g' hi h => hk p i acc g' hp hi h, fun i d acc g' hd h => step p i d acc g' hp hd h, fun acc g' h => q p acc g' hp h⟩
end DL

namespace DL
open PySem PySem.Spec PyProof.Rows L2
/-! ### cutting behind a statement that sets some slots -/
section
variable {T U : DTS} {D : DEnds} {e : EV} {g : GS}
theorem cut0 (P : GS → Prop) (h : T { D with nx := fun e' g' => e' = e ∧ P g' } e g) (k : ∀ g', P g' → U D e g') : dSeq T U D e g := s_cut (fun e' g' => e' = e ∧ P g') h fun e' g' ⟨h1, h2⟩ => by subst h1; exact k g' h2
theorem cut1 (j1 : Nat) (P : Option DL.D → GS → Prop) (h : T { D with nx := fun e' g' => ∃ x1, e' = List.set (e) j1 x1 ∧ P x1 g' } e g) (k : ∀ x1 g', P x1 g' → U D (List.set (e) j1 x1) g') : dSeq T U D e g := s_cut (fun e' g' => ∃ x1, e' = List.set (e) j1 x1 ∧ P x1 g') h fun e' g' ⟨x1, h1, h2⟩ => by subst h1; exact k x1 g' h2
theorem cut2 (j1 j2 : Nat) (P : Option DL.D → Option DL.D → GS → Prop) (h : T { D with nx := fun e' g' => ∃ x1 x2, e' = List.set (List.set (e) j1 x1) j2 x2 ∧ P x1 x2 g' } e g) (k : ∀ x1 x2 g', P x1 x2 g' → U D (List.set (List.set (e) j1 x1) j2 x2) g') : dSeq T U D e g := s_cut (fun e' g' => ∃ x1 x2, e' = List.set (List.set (e) j1 x1) j2 x2 ∧ P x1 x2 g') h fun e' g' ⟨x1, x2, h1, h2⟩ => by subst h1; exact k x1 x2 g' h2
theorem cut3 (j1 j2 j3 : Nat) (P : Option DL.D → Option DL.D → Option DL.D → GS → Prop) (h : T { D with nx := fun e' g' => ∃ x1 x2 x3, e' = List.set (List.set (List.set (e) j1 x1) j2 x2) j3 x3 ∧ P x1 x2 x3 g' } e g) (k : ∀ x1 x2 x3 g', P x1 x2 x3 g' → U D (List.set (List.set (List.set (e) j1 x1) j2 x2) j3 x3) g') : dSeq T U D e g := s_cut (fun e' g' => ∃ x1 x2 x3, e' = List.set (List.set (List.set (e) j1 x1) j2 x2) j3 x3 ∧ P x1 x2 x3 g') h fun e' g' ⟨x1, x2, x3, h1, h2⟩ => by subst h1; exact k x1 x2 x3 g' h2
theorem cut4 (j1 j2 j3 j4 : Nat) (P : Option DL.D → Option DL.D → Option DL.D → Option DL.D → GS → Prop) (h : T { D with nx := fun e' g' => ∃ x1 x2 x3 x4, e' = List.set (List.set (List.set (List.set (e) j1 x1) j2 x2) j3 x3) j4 x4 ∧ P x1 x2 x3 x4 g' } e g) (k : ∀ x1 x2 x3 x4 g', P x1 x2 x3 x4 g' → U D (List.set (List.set (List.set (List.set (e) j1 x1) j2 x2) j3 x3) j4 x4) g') : dSeq T U D e g := s_cut (fun e' g' => ∃ x1 x2 x3 x4, e' = List.set (List.set (List.set (List.set (e) j1 x1) j2 x2) j3 x3) j4 x4 ∧ P x1 x2 x3 x4 g') h fun e' g' ⟨x1, x2, x3, x4, h1, h2⟩ => by subst h1; exact k x1 x2 x3 x4 g' h2
theorem cut5 (j1 j2 j3 j4 j5 : Nat) (P : Option DL.D → Option DL.D → Option DL.D → Option DL.D → Option DL.D → GS → Prop) (h : T { D with nx := fun e' g' => ∃ x1 x2 x3 x4 x5, e' = List.set (List.set (List.set (List.set (List.set (e) j1 x1) j2 x2) j3 x3) j4 x4) j5 x5 ∧ P x1 x2 x3 x4 x5 g' } e g) (k : ∀ x1 x2 x3 x4 x5 g', P x1 x2 x3 x4 x5 g' → U D (List.set (List.set (List.set (List.set (List.set (e) j1 x1) j2 x2) j3 x3) j4 x4) j5 x5) g') : dSeq T U D e g := s_cut (fun e' g' => ∃ x1 x2 x3 x4 x5, e' = List.set (List.set (List.set (List.set (List.set (e) j1 x1) j2 x2) j3 x3) j4 x4) j5 x5 ∧ P x1 x2 x3 x4 x5 g') h fun e' g' ⟨x1, x2, x3, x4, x5, h1, h2⟩ => by subst h1; exact k x1 x2 x3 x4 x5 g' h2
theorem cut6 (j1 j2 j3 j4 j5 j6 : Nat) (P : Option DL.D → Option DL.D → Option DL.D → Option DL.D → Option DL.D → Option DL.D → GS → Prop) (h : T { D with nx := fun e' g' => ∃ x1 x2 x3 x4 x5 x6, e' = List.set (List.set (List.set (List.set (List.set (List.set (e) j1 x1) j2 x2) j3 x3) j4 x4) j5 x5) j6 x6 ∧ P x1 x2 x3 x4 x5 x6 g' } e g) (k : ∀ x1 x2 x3 x4 x5 x6 g', P x1 x2 x3 x4 x5 x6 g' → U D (List.set (List.set (List.set (List.set (List.set (List.set (e) j1 x1) j2 x2) j3 x3) j4 x4) j5 x5) j6 x6) g') : dSeq T U D e g := s_cut (fun e' g' => ∃ x1 x2 x3 x4 x5 x6, e' = List.set (List.set (List.set (List.set (List.set (List.set (e) j1 x1) j2 x2) j3 x3) j4 x4) j5 x5) j6 x6 ∧ P x1 x2 x3 x4 x5 x6 g') h fun e' g' ⟨x1, x2, x3, x4, x5, x6, h1, h2⟩ => by subst h1; exact k x1 x2 x3 x4 x5 x6 g' h2
theorem cut7 (j1 j2 j3 j4 j5 j6 j7 : Nat) (P : Option DL.D → Option DL.D → Option DL.D → Option DL.D → Option DL.D → Option DL.D → Option DL.D → GS → Prop) (h : T { D with nx := fun e' g' => ∃ x1 x2 x3 x4 x5 x6 x7, e' = List.set (List.set (List.set (List.set (List.set (List.set (List.set (e) j1 x1) j2 x2) j3 x3) j4 x4) j5 x5) j6 x6) j7 x7 ∧ P x1 x2 x3 x4 x5 x6 x7 g' } e g) (k : ∀ x1 x2 x3 x4 x5 x6 x7 g', P x1 x2 x3 x4 x5 x6 x7 g' → U D (List.set (List.set (List.set (List.set (List.set (List.set (List.set (e) j1 x1) j2 x2) j3 x3) j4 x4) j5 x5) j6 x6) j7 x7) g') : dSeq T U D e g := s_cut (fun e' g' => ∃ x1 x2 x3 x4 x5 x6 x7, e' = List.set (List.set (List.set (List.set (List.set (List.set (List.set (e) j1 x1) j2 x2) j3 x3) j4 x4) j5 x5) j6 x6) j7 x7 ∧ P x1 x2 x3 x4 x5 x6 x7 g') h fun e' g' ⟨x1, x2, x3, x4, x5, x6, x7, h1, h2⟩ => by subst h1; exact k x1 x2 x3 x4 x5 x6 x7 g' h2
end
end DL


namespace DL
open PySem PySem.Spec PyProof.Rows L2
/-! frames: what a reading knows of its own objects, kept through every step -/
inductive FK where
  | pu
  | go (s : SI) (m : Nat)
def FB : FK → GS → GS → Prop
  | .pu, g0, g => Up [] g0 g
  | .go s m, g0, g => (∃ m0, Src s g0 m0) ∧ Go s g0 g m
def FK.off : FK → Addr → Prop
  | .pu, _ => True
  | .go s _, p => p ≠ s.L
abbrev FL := List (Addr × MO × Bool)
def FE (k : FK) (g0 g : GS) (q : Addr × MO × Bool) : Prop := g q.1 = some q.2.1 ∧ k.off q.1 ∧ (q.2.2 = true ↔ g0 q.1 = none)
def Fr (k : FK) (g0 g : GS) (l : FL) : Prop := FB k g0 g ∧ (∀ q ∈ l, FE k g0 g q) ∧ l.Pairwise fun a b => a.2.2 = true → a.1 ≠ b.1
section
variable {k : FK} {g0 g g' : GS} {l : FL} {s : SI} {m m' : Nat} {p : Addr} {o o' : MO} {b : Bool}
theorem FB.fresh (h : FB k g0 g) (f : g p = none) : g0 p = none := by
  cases k with
  | pu => exact Up.fresh h f
  | go s m => exact h.2.1.fresh f
theorem FB.new (h : FB k g0 g) (f : g p = none) : FB k g0 (gup g p o) := by
  cases k with
  | pu => exact Up.trans h (.new f)
  | go s m => exact ⟨h.1, h.2.new f⟩
theorem FB.mut (h : FB k g0 g) (f : g0 p = none) : FB k g0 (gup g p o) := by
  cases k with
  | pu => exact Up.mut h f
  | go s m => obtain ⟨⟨m0, h0⟩, h⟩ := h; exact ⟨⟨m0, h0⟩, h.mut f h0⟩
theorem FB.offn (h : FB k g0 g) (f : g p = none) : k.off p := by
  cases k with
  | pu => trivial
  | go s m => exact h.2.2.neL f
theorem FB.off0 (h : FB k g0 g) (f : g0 p = none) : k.off p := by
  cases k with
  | pu => trivial
  | go s m => obtain ⟨⟨m0, h0⟩, h⟩ := h; exact h0.neL f
theorem Fr.at (F : Fr k g0 g l) (i : Nat) (e : l[i]? = some (p, o, b)) : g p = some o := (F.2.1 _ (List.mem_of_getElem? e)).1
theorem Fr.off (F : Fr k g0 g l) (i : Nat) (e : l[i]? = some (p, o, b)) : k.off p := (F.2.1 _ (List.mem_of_getElem? e)).2.1
theorem Fr.neL (F : Fr (.go s m) g0 g l) (i : Nat) (e : l[i]? = some (p, o, b)) : p ≠ s.L := (F.2.1 _ (List.mem_of_getElem? e)).2.1
theorem Fr.new (F : Fr k g0 g l) (o : MO) (h : g p = none) : Fr k g0 (gup g p o) ((p, o, true) :: l) := by
  have f0 := F.1.fresh h
  refine ⟨F.1.new h, fun q hq => ?_, List.pairwise_cons.mpr ⟨fun q hq _ => ne_fresh h (F.2.1 q hq).1, F.2.2⟩⟩
  rcases List.mem_cons.mp hq with rfl | hq
  · exact ⟨gup_same, F.1.offn h, fun _ => f0, fun _ => rfl⟩
  · have z := F.2.1 q hq
    exact ⟨by rw [gup_ne (Ne.symm (ne_fresh h z.1))]; exact z.1, z.2⟩
theorem Fr.mut (F : Fr k g0 g l) (i : Nat) (o' : MO) (e : l[i]? = some (p, o, true)) : Fr k g0 (gup g p o') (l.set i (p, o', true)) := by
  have hi : i < l.length := (List.getElem?_eq_some_iff.mp e).1
  have ei : l[i] = (p, o, true) := (List.getElem?_eq_some_iff.mp e).2
  have z := F.2.1 _ (List.mem_of_getElem? e)
  have f0 : g0 p = none := z.2.2.mp rfl
  have ne : ∀ j, j < l.length → j ≠ i → ∀ q, l[j]? = some q → q.1 ≠ p := fun j hj hji q hq => by
    have eq : l[j] = q := (List.getElem?_eq_some_iff.mp hq).2
    have pw := List.pairwise_iff_getElem.mp F.2.2
    by_cases h : j < i
    · intro hz
      have zq := F.2.1 q (List.mem_of_getElem? hq)
      have : q.2.2 = true := zq.2.2.mpr (by rw [hz]; exact f0)
      have := pw j i hj hi h (by rw [eq]; exact this)
      rw [eq, ei] at this
      exact this hz
    · intro hz
      have := pw i j hi hj (by omega) (by rw [ei])
      rw [eq, ei] at this
      exact this hz.symm
  refine ⟨F.1.mut f0, fun q hq => ?_, ?_⟩
  · obtain ⟨j, hj, eq⟩ := List.mem_iff_getElem.mp hq
    rw [List.length_set] at hj
    by_cases hji : j = i
    · subst hji
      rw [List.getElem_set_self] at eq
      subst eq
      exact ⟨gup_same, z.2.1, fun _ => f0, fun _ => rfl⟩
    · rw [List.getElem_set_ne (Ne.symm hji)] at eq
      have hq' : l[j]? = some q := by rw [← eq]; exact List.getElem?_eq_getElem hj
      have zq := F.2.1 q (List.mem_of_getElem? hq')
      exact ⟨by rw [gup_ne (ne j hj hji q hq')]; exact zq.1, zq.2⟩
  · refine List.pairwise_iff_getElem.mpr fun a c ha' hc' hac => ?_
    have ha := ha'
    have hc := hc'
    rw [List.length_set] at ha hc
    have pw := List.pairwise_iff_getElem.mp F.2.2 a c ha hc hac
    by_cases h1 : a = i
    · subst h1
      rw [List.getElem_set_self, List.getElem_set_ne (by omega)]
      intro _
      exact Ne.symm (ne c hc (by omega) _ (List.getElem?_eq_getElem hc))
    · by_cases h2 : c = i
      · subst h2
        rw [List.getElem_set_self, List.getElem_set_ne (by omega)]
        intro _
        exact ne a ha (by omega) _ (List.getElem?_eq_getElem ha)
      · rw [List.getElem_set_ne (Ne.symm h1), List.getElem_set_ne (Ne.symm h2)]
        exact pw
theorem Fr.call (F : Fr (.go s m) g0 g l) (G : Go s g g' m') : Fr (.go s m') g0 g' l :=
  ⟨⟨F.1.1, F.1.2.trans G⟩, fun q hq => have z := F.2.1 q hq; ⟨G.get z.2.1 z.1, z.2⟩, F.2.2⟩
theorem Fr.up (F : Fr k g0 g l) (u : Up [] g g') : Fr k g0 g' l := by
  refine ⟨?_, fun q hq => have z := F.2.1 q hq; ⟨u.get0 z.1, z.2⟩, F.2.2⟩
  cases k with
  | pu => exact Up.trans F.1 u
  | go s m => exact ⟨F.1.1, F.1.2.up u⟩
theorem Fr.src (F : Fr (.go s m) g0 g l) : Src s g m := F.1.2.2
theorem Fr.gov (F : Fr (.go s m) g0 g l) (h : m ≤ m') : Go s g0 g m' := F.1.2.le h
theorem Fr.upv (F : Fr .pu g0 g l) : Up [] g0 g := F.1
theorem Fr.le (F : Fr (.go s m) g0 g l) (h : m ≤ m') : Fr (.go s m') g0 g l := ⟨⟨F.1.1, F.1.2.le h⟩, F.2⟩
theorem Fr.startG (h : Src s g m) : Fr (.go s m) g g [] := ⟨⟨⟨m, h⟩, .start h⟩, fun _ z => (nomatch z), List.Pairwise.nil⟩
theorem Fr.startP : Fr .pu g g [] := ⟨.refl, fun _ z => (nomatch z), List.Pairwise.nil⟩
/-- an object that stood before -/
theorem Fr.argG (F : Fr (.go s m) g g l) (h : g p = some o) (n : p ≠ s.L) (hl : l.all (fun q => !q.2.2) = true := by rfl) : Fr (.go s m) g g ((p, o, false) :: l) := by
  refine ⟨F.1, fun q hq => ?_, List.pairwise_cons.mpr ⟨fun q hq z => (by cases z), F.2.2⟩⟩
  rcases List.mem_cons.mp hq with rfl | hq
  · exact ⟨h, n, fun z => (by cases z), fun z => by rw [h] at z; cases z⟩
  · exact F.2.1 q hq
theorem Fr.argP (F : Fr .pu g g l) (h : g p = some o) : Fr .pu g g ((p, o, false) :: l) := by
  refine ⟨F.1, fun q hq => ?_, List.pairwise_cons.mpr ⟨fun q hq z => (by cases z), F.2.2⟩⟩
  rcases List.mem_cons.mp hq with rfl | hq
  · exact ⟨h, trivial, fun z => (by cases z), fun z => by rw [h] at z; cases z⟩
  · exact F.2.1 q hq
/-- an object made by a call -/
theorem Fr.ret (F : Fr k g0 g l) (h : g p = none) (F' : Fr k g0 g' l) (h' : g' p = some o) : Fr k g0 g' ((p, o, true) :: l) := by
  have f0 := F.1.fresh h
  refine ⟨F'.1, fun q hq => ?_, List.pairwise_cons.mpr ⟨fun q hq _ => ne_fresh h (F.2.1 q hq).1, F'.2.2⟩⟩
  rcases List.mem_cons.mp hq with rfl | hq
  · exact ⟨h', F.1.off0 f0, fun _ => f0, fun _ => rfl⟩
  · exact F'.2.1 q hq
theorem Fr.retG {m2 : Nat} (F : Fr (.go s m) g0 g l) (h : g p = none) (G : Go s g g' m2) (h' : g' p = some o) : Fr (.go s m2) g0 g' ((p, o, true) :: l) := by
  have F' := F.call G
  have f0 := F.1.fresh h
  refine ⟨F'.1, fun q hq => ?_, List.pairwise_cons.mpr ⟨fun q hq _ => ne_fresh h (F.2.1 q hq).1, F'.2.2⟩⟩
  rcases List.mem_cons.mp hq with rfl | hq
  · exact ⟨h', F.1.off0 f0, fun _ => f0, fun _ => rfl⟩
  · exact F'.2.1 q hq
theorem Fr.fresh (F : Fr k g0 g l) (i : Nat) (e : l[i]? = some (p, o, true)) : g0 p = none := (F.2.1 _ (List.mem_of_getElem? e)).2.2.mp rfl
theorem Fr.drop (F : Fr k g0 g l) (n : Nat) : Fr k g0 g (l.drop n) := ⟨F.1, fun q hq => F.2.1 q (List.mem_of_mem_drop hq), F.2.2.sublist (List.drop_sublist ..)⟩
theorem Fr.sub {l' : FL} (F : Fr k g0 g l) (h : l'.Sublist l) : Fr k g0 g l' := ⟨F.1, fun q hq => F.2.1 q (h.subset hq), F.2.2.sublist h⟩
theorem Fr.nil (F : Fr k g0 g l) : Fr k g0 g [] := ⟨F.1, fun _ z => (nomatch z), List.Pairwise.nil⟩
/-- told from here -/
def unown (l : FL) : FL := l.map fun q => (q.1, q.2.1, false)
theorem Fr.here (F : Fr (.go s m) g0 g l) : Fr (.go s m) g g (unown l) := by
  refine ⟨⟨⟨m, F.src⟩, .start F.src⟩, fun q hq => ?_, ?_⟩
  · obtain ⟨x, hx, rfl⟩ := List.mem_map.mp hq
    have z := F.2.1 x hx
    exact ⟨z.1, z.2.1, fun z => (by cases z), fun w => by rw [z.1] at w; cases w⟩
  · refine List.pairwise_map.mpr (List.pairwise_of_forall fun a b z => ?_)
    cases z
theorem Fr.hereP (F : Fr k g0 g l) : Fr .pu g g (unown l) := by
  refine ⟨.refl, fun q hq => ?_, ?_⟩
  · obtain ⟨x, hx, rfl⟩ := List.mem_map.mp hq
    have z := F.2.1 x hx
    exact ⟨z.1, trivial, fun z => (by cases z), fun w => by rw [z.1] at w; cases w⟩
  · refine List.pairwise_map.mpr (List.pairwise_of_forall fun a b z => ?_)
    cases z
end
/-! ### rows of texts -/
def sOnly : List D → Bool
  | [] => true
  | .str _ :: r => sOnly r
  | _ => false
def mxl : List D → Nat
  | [] => 0
  | .str z :: r => max (TL.tl z).length (mxl r)
  | _ :: r => mxl r
theorem mxl_mem : ∀ {xs : List D} {d : D}, sOnly xs = true → d ∈ xs → ∃ l : List Nat, d = .str (mk l) ∧ l.length ≤ mxl xs
  | [], d, _, h => nomatch h
  | .str z :: r, d, h1, h => by
    rcases List.mem_cons.mp h with rfl | h
    · exact ⟨TL.tl z, by rw [mk_tl], by unfold mxl; omega⟩
    · obtain ⟨l, e, hl⟩ := mxl_mem (xs := r) h1 h
      exact ⟨l, e, by unfold mxl; omega⟩
theorem mxl_nil : mxl [] = 0 := rfl
theorem mxl_mk (l : List Nat) (r : List D) : mxl (.str (mk l) :: r) = max l.length (mxl r) := rfl
def iOnly : List D → Bool
  | [] => true
  | .int _ :: r => iOnly r
  | _ => false
def mxi : List D → Int
  | [] => -1000000
  | [.int i] => i
  | .int i :: r => max i (mxi r)
  | _ :: r => mxi r
def mni : List D → Int
  | [] => 1000000
  | [.int i] => i
  | .int i :: r => min i (mni r)
  | _ :: r => mni r
theorem mxi_mem : ∀ {xs : List D} {d : D}, iOnly xs = true → d ∈ xs → ∃ i : Int, d = .int i ∧ i ≤ mxi xs ∧ mni xs ≤ i
  | [], d, _, h => nomatch h
  | [.int i], d, h1, h => by
    rcases List.mem_cons.mp h with rfl | h
    · exact ⟨i, rfl, Int.le_refl _, Int.le_refl _⟩
    · exact nomatch h
  | .int i :: y :: r, d, h1, h => by
    have e1 : mxi (.int i :: y :: r) = max i (mxi (y :: r)) := rfl
    have e2 : mni (.int i :: y :: r) = min i (mni (y :: r)) := rfl
    rcases List.mem_cons.mp h with rfl | h
    · exact ⟨i, rfl, by omega, by omega⟩
    · obtain ⟨j, e, hl, hl2⟩ := mxi_mem (xs := y :: r) h1 h
      exact ⟨j, e, by omega, by omega⟩
/-! ### steps -/
/-- an object laid -/
def FA (g : GS) (o : MO) (R : Addr → GS → Prop) : Prop := ∀ p, g p = none → R p (gup g p o)
section
variable {e : EV} {g : GS} {Q : DK} {QA : List DL.D → GS → Prop} {D : DEnds} {d y : DL.D} {k : FK} {g0 : GS} {l : FL} {s : SI} {m : Nat} {p q : Addr} {o : MO} {b b' : Bool} {ds xs ys : List DL.D}
theorem k_FA {R : Addr → GS → Prop} (F : Fr k g0 g l) (h : ∀ p g', Fr k g0 g' ((p, o, true) :: l) → R p g') : FA g o R := fun p hp => h p _ (F.new _ hp)
theorem f_lst {t : DTA} (h : t e g fun xs g1 => xs.length ≤ sizeLine ∧ FA g1 (.lst xs) fun p g' => Q (.ref p) g') : dLst t e g Q := h
theorem f_dnew (h : FA g (.dct []) fun p g' => Q (.ref p) g') : dDNew e g Q := h
theorem f_tnew (h : FA g (.dtt []) fun p g' => Q (.ref p) g') : dTNew e g Q := h
theorem k_ixL {i : Int} (F : Fr k g0 g l) (n : Nat) (e : l[n]? = some (p, .lst ds, b)) (ha : L2.atI ds i = some d) (h : Q d g) : ixD (.ref p) (.int i) g Q := v_ixL (F.at n e) ha h
theorem k_lenL (F : Fr k g0 g l) (n : Nat) (e : l[n]? = some (p, .lst ds, b)) (h : Q (.int (ds.length : Nat)) g) : lenD [.ref p] g Q := v_lenL (F.at n e) h
theorem k_tupL (F : Fr k g0 g l) (n : Nat) (e : l[n]? = some (p, .lst ds, b)) (h : Q (.tup ds) g) : tupF [.ref p] g Q := v_tupL (F.at n e) h
theorem k_rcvL {P : Prop} (F : Fr k g0 g l) (n : Nat) (e : l[n]? = some (p, .lst ds, b)) (h : P) : rcv "list" (.ref p) g ∧ P := v_rcvL (F.at n e) h
theorem k_itL {P : Addr → List DL.D → Prop} (F : Fr k g0 g l) (n : Nat) (e : l[n]? = some (p, .lst ds, b)) (h : P p ds) : ∃ p' ds', (DL.D.ref p) = .ref p' ∧ rdL g p' ds' ∧ P p' ds' := x_lst (F.at n e) h
theorem k_app (F : Fr k g0 g l) (n : Nat) (e : l[n]? = some (p, .lst ds, true)) (hz : ds.length < 16777216) (h : ∀ g', Fr k g0 g' (l.set n (p, .lst (ds ++ [y]), true)) → Q .non g') : appD (.ref p) [y] g Q :=
  v_app' (F.at n e) (by rw [szl]; exact hz) (h _ (F.mut n _ e))
theorem k_set {i : Int} {j : Nat} {v : DL.D} {R : GS → Prop} (F : Fr k g0 g l) (n : Nat) (e : l[n]? = some (p, .lst ds, true)) (hj : ixN ds.length i = some j) (h : ∀ g', Fr k g0 g' (l.set n (p, .lst (ds.set j v), true)) → R g') : setD (.ref p) (.int i) v g R :=
  v_set (F.at n e) hj (h _ (F.mut n _ e))
theorem k_pop (F : Fr k g0 g l) (n : Nat) (e : l[n]? = some (p, .lst ds, true)) (hy : ds[ds.length - 1]? = some y) (h : ∀ g', Fr k g0 g' (l.set n (p, .lst ds.dropLast, true)) → Q y g') : popD (.ref p) [] g Q :=
  v_pop (F.at n e) hy (h _ (F.mut n _ e))
theorem k_popAt {i : Int} (F : Fr k g0 g l) (n : Nat) (e : l[n]? = some (p, .lst ds, true)) (h0 : 0 ≤ i) (hn : ds.length ≤ 16777216) (hy : ds[i.toNat]? = some y) (h : ∀ g', Fr k g0 g' (l.set n (p, .lst (ds.eraseIdx i.toNat), true)) → Q y g') : popD (.ref p) [.int i] g Q :=
  v_popAt (F.at n e) h0 hn hy (h _ (F.mut n _ e))
theorem k_slToL {i : Int} (F : Fr k g0 g l) (n : Nat) (e : l[n]? = some (p, .lst xs, b)) (h0 : 0 ≤ i) (h : ∀ r g', Fr k g0 g' ((r, .lst (xs.take i.toNat), true) :: l) → Q (.ref r) g') : slD (.ref p) none (some i) g Q := v_slToL (F.at n e) h0 fun r hr => h r _ (F.new _ hr)
theorem k_slFromL {i : Int} (F : Fr k g0 g l) (n : Nat) (e : l[n]? = some (p, .lst xs, b)) (h0 : 0 ≤ i) (h : ∀ r g', Fr k g0 g' ((r, .lst (xs.drop i.toNat), true) :: l) → Q (.ref r) g') : slD (.ref p) (some i) none g Q := v_slFromL (F.at n e) h0 fun r hr => h r _ (F.new _ hr)
theorem k_lstT (F : Fr k g0 g l) (h : ∀ r g', Fr k g0 g' ((r, .lst xs, true) :: l) → Q (.ref r) g') : lstF [.tup xs] g Q := v_lstT fun r hr => h r _ (F.new _ hr)
theorem k_lstL (F : Fr k g0 g l) (n : Nat) (e : l[n]? = some (p, .lst xs, b)) (h : ∀ r g', Fr k g0 g' ((r, .lst xs, true) :: l) → Q (.ref r) g') : lstF [.ref p] g Q := v_lstL (F.at n e) fun r hr => h r _ (F.new _ hr)
theorem k_addL (F : Fr k g0 g l) (n n' : Nat) (e : l[n]? = some (p, .lst xs, b)) (e' : l[n']? = some (q, .lst ys, b')) (hz : xs.length + ys.length ≤ 16777216) (h : ∀ r g', Fr k g0 g' ((r, .lst (xs ++ ys), true) :: l) → Q (.ref r) g') : addD (.ref p) (.ref q) g Q :=
  v_addL (F.at n e) (F.at n' e') (by rw [szl]; exact hz) fun r hr => h r _ (F.new _ hr)
theorem k_rep {i : Int} (F : Fr k g0 g l) (n : Nat) (e : l[n]? = some (p, .lst xs, b)) (h0 : 0 ≤ i) (hz : xs.length * i.toNat ≤ 16777216) (h1 : i ≤ 16777216) (h : ∀ r g', Fr k g0 g' ((r, .lst (List.replicate i.toNat xs).flatten, true) :: l) → Q (.ref r) g') : mulD (.ref p) (.int i) g Q :=
  v_rep (F.at n e) h0 hz h1 fun r hr => h r _ (F.new _ hr)
theorem k_split {a c : Str} (F : Fr k g0 g l) (hb : (c.length == 0) = false) (ha : a.length ≤ 16777214) (h : ∀ r g', Fr k g0 g' ((r, .lst ((Txt.split a c).map DL.D.str), true) :: l) → Q (.ref r) g') : splitD (.str a) [.str c] g Q := v_split hb ha fun r hr => h r _ (F.new _ hr)
theorem k_joinL {c : Str} {zs : List Str} {B : Nat} (F : Fr k g0 g l) (n : Nat) (e : l[n]? = some (p, .lst (zs.map DL.D.str), b)) (hB : ∀ z ∈ zs, (TL.tl z).length ≤ B) (hz : zs.length * (B + (TL.tl c).length) ≤ 16777216)
    (h : (TL.tl (Txt.join c zs)).length ≤ zs.length * (B + (TL.tl c).length) → Q (.str (Txt.join c zs)) g) : joinD (.str c) [.ref p] g Q := v_joinL (F.at n e) hB hz h
theorem k_ixM {i : Int} {l : List Nat} (hz : l.length ≤ 16777216) (h0 : 0 ≤ i) (h1 : i < l.length) (h : ∀ c, c ∈ l → Q (.str (mk [c])) g) : ixD (.str (mk l)) (.int i) g Q := by
  obtain ⟨c, hc, hat⟩ := atI_ex h0 h1
  exact v_ixM hz hat (h c hc)
theorem k_ixAL {i : Int} (F : Fr k g0 g l) (n : Nat) (e : l[n]? = some (p, .lst ds, b)) (h0 : 0 ≤ i) (h1 : i < ds.length) (h : ∀ d, d ∈ ds → Q d g) : ixD (.ref p) (.int i) g Q := by
  obtain ⟨c, hc, hat⟩ := atI_ex h0 h1
  exact v_ixL (F.at n e) hat (h c hc)
theorem k_ixASL {i : Int} (F : Fr k g0 g l) (n : Nat) (e : l[n]? = some (p, .lst ds, b)) (hs : sOnly ds = true) (h0 : 0 ≤ i) (h1 : i < ds.length) (h : ∀ r : List Nat, r.length ≤ mxl ds → Q (.str (mk r)) g) : ixD (.ref p) (.int i) g Q :=
  k_ixAL F n e h0 h1 fun d hd => by obtain ⟨r, rfl, hr⟩ := mxl_mem hs hd; exact h r hr
theorem k_ixAIL {i : Int} (F : Fr k g0 g l) (n : Nat) (e : l[n]? = some (p, .lst ds, b)) (hs : iOnly ds = true) (h0 : 0 ≤ i) (h1 : i < ds.length) (h : ∀ v : Int, v ≤ mxi ds → mni ds ≤ v → Q (.int v) g) : ixD (.ref p) (.int i) g Q :=
  k_ixAL F n e h0 h1 fun d hd => by obtain ⟨r, rfl, hr, hr2⟩ := mxi_mem hs hd; exact h r hr hr2
theorem k_ixAT {i : Int} (h0 : 0 ≤ i) (h1 : i < ds.length) (h : ∀ d, d ∈ ds → Q d g) : ixD (.tup ds) (.int i) g Q := by
  obtain ⟨c, hc, hat⟩ := atI_ex h0 h1
  exact v_ixT hat (h c hc)
theorem k_min2 {i j : Int} (h : Q (.int (min i j)) g) : min2D [.int i, .int j] g Q := v_min2 (by
  have : (if j < i then j else i) = min i j := by split <;> omega
  rw [this]; exact h)
theorem k_max2 {i j : Int} (h : Q (.int (max i j)) g) : max2D [.int i, .int j] g Q := v_max2 (by
  have : (if j > i then j else i) = max i j := by split <;> omega
  rw [this]; exact h)
theorem k_mul1 {c : Nat} {n : Int} (h1 : 0 ≤ n) (h2 : n ≤ 100000) (h : Q (.str (mk (List.replicate n.toNat c))) g) : mulD (.str (mk [c])) (.int n) g Q := v_mulM h1 h2 (by simp; omega) (by
  have : (List.replicate n.toNat [c]).flatten = List.replicate n.toNat c := by simp
  rw [this]; exact h)
theorem k_mulS {l : List Nat} {n : Int} (h1 : 0 ≤ n) (h2 : n ≤ 100000) (B : Nat) (hl : l.length ≤ B) (hB : B * n.toNat ≤ 16777216) (h : ∀ r : List Nat, r.length ≤ B * n.toNat → (∀ c ∈ r, c ∈ l) → Q (.str (mk r)) g) : mulD (.str (mk l)) (.int n) g Q := by
  have : l.length * n.toNat ≤ B * n.toNat := Nat.mul_le_mul_right _ hl
  exact v_mulX h1 h2 (by omega) fun r hr hc => h r (by omega) hc
theorem k_isI {z : Int} (h : Q (.bl false) g) : isND (.int z) .non g Q := ⟨rfl, h⟩
theorem k_notI {z : Int} (h : Q (.bl true) g) : notND (.int z) .non g Q := ⟨rfl, h⟩
theorem k_isS {z : Str} (h : Q (.bl false) g) : isND (.str z) .non g Q := ⟨rfl, h⟩
theorem k_notS {z : Str} (h : Q (.bl true) g) : notND (.str z) .non g Q := ⟨rfl, h⟩
theorem k_isT {z : List DL.D} (h : Q (.bl false) g) : isND (.tup z) .non g Q := ⟨rfl, h⟩
theorem k_notT {z : List DL.D} (h : Q (.bl true) g) : notND (.tup z) .non g Q := ⟨rfl, h⟩
theorem k_isR {z : Addr} (h : Q (.bl false) g) : isND (.ref z) .non g Q := ⟨rfl, h⟩
theorem k_notR {z : Addr} (h : Q (.bl true) g) : notND (.ref z) .non g Q := ⟨rfl, h⟩
theorem k_isB {z : Bool} (h : Q (.bl false) g) : isND (.bl z) .non g Q := ⟨rfl, h⟩
theorem k_notB {z : Bool} (h : Q (.bl true) g) : notND (.bl z) .non g Q := ⟨rfl, h⟩
theorem v_eq1 {a c : Nat} (h : Q (.bl (decide (a = c))) g) : eqD (.str (mk [a])) (.str (mk [c])) g Q := v_eqM (by
  have : decide ([a] = [c]) = decide (a = c) := decide_eq_decide.mpr ⟨fun h => by injection h, fun h => by rw [h]⟩
  rw [this]; exact h)
theorem v_ne1 {a c : Nat} (h : Q (.bl (!decide (a = c))) g) : neD (.str (mk [a])) (.str (mk [c])) g Q := v_eq1 (Q := notV Q) h
theorem v_in1M {c : Nat} {l : List Nat} (h : Q (.bl (decide (c ∈ l))) g) : inD (.str (mk [c])) (.str (mk l)) g Q := v_in1' h
theorem v_notIn1M {c : Nat} {l : List Nat} (h : Q (.bl (!decide (c ∈ l))) g) : notInD (.str (mk [c])) (.str (mk l)) g Q := v_in1' (Q := notV Q) h
/-- a text of at most B signs -/
def StB (B : Nat) (d : DL.D) : Prop := ∃ r : List Nat, d = .str (mk r) ∧ r.length ≤ B
theorem StB.strs {B : Nat} : ∀ {acc : List DL.D}, (∀ d ∈ acc, StB B d) → ∃ zs : List Str, acc = zs.map DL.D.str ∧ ∀ z ∈ zs, (TL.tl z).length ≤ B
  | [], _ => ⟨[], rfl, fun z hz => nomatch hz⟩
  | d :: acc, h => by
    obtain ⟨zs, rfl, hz⟩ := StB.strs fun x hx => h x (List.mem_cons_of_mem _ hx)
    obtain ⟨r, rfl, hr⟩ := h d List.mem_cons_self
    exact ⟨mk r :: zs, rfl, fun y hy => (List.mem_cons.mp hy).elim (fun e => by rw [e, tl_mk]; exact hr) (hz y)⟩
theorem k_joinS {c acc : List _} {B : Nat} (F : Fr k g0 g l) (n : Nat) (e : l[n]? = some (p, .lst acc, b)) (hP : ∀ d ∈ acc, StB B d) (hz : acc.length * (B + List.length c) ≤ 16777216)
    (h : ∀ r : List Nat, r.length ≤ acc.length * (B + c.length) → Q (.str (mk r)) g) : joinD (.str (mk c)) [.ref p] g Q := by
  obtain ⟨zs, rfl, hzs⟩ := StB.strs hP
  rw [List.length_map] at hz h
  exact v_joinL (F.at n e) hzs (by rw [tl_mk]; exact hz) fun hl => by
    have := h (TL.tl (Txt.join (mk c) zs)) (by rw [tl_mk] at hl; exact hl)
    rw [mk_tl] at this
    exact this
theorem ite_tt {A B : Prop} (h : A) : if true = true then A else B := by rw [if_pos rfl]; exact h
theorem ite_ff {A B : Prop} (h : B) : if false = true then A else B := by rw [if_neg (by decide)]; exact h
theorem ite_ntt {A B : Prop} (h : B) : if (!true) = true then A else B := by rw [if_neg (by decide)]; exact h
theorem ite_nff {A B : Prop} (h : A) : if (!false) = true then A else B := by rw [if_pos (by decide)]; exact h
end
/-! ### comprehensions with draws -/
theorem lcF {s : SI} {g0 g : GS} {m : Nat} {l : FL} {lo : Int} {n : Nat} {e : EV} {j : Nat} {te : DTE} {R : Addr → GS → Prop} (P : D → Prop) (cost : Nat) (F : Fr (.go s m) g0 g l) (hn : n ≤ 16777216)
    (step : ∀ (i : Nat) g' Q', i < n → Fr (.go s (m + cost * i)) g' g' (unown l) → (∀ d g'', P d → Go s g' g'' (m + cost * i + cost) → Q' d g'') → te (e.set j (some (.int (lo + i)))) g' Q')
    (q : ∀ (acc : List D) p g', acc.length = n → (∀ d ∈ acc, P d) → Fr (.go s (m + cost * n)) g0 g' ((p, .lst acc, true) :: l) → R p g') :
    ∀ p, g p = none → ∃ Iv : Nat → List D → GS → Prop, Iv 0 [] (gup g p (.lst [])) ∧ (∀ i acc g', i ≤ (ran lo n).length → Iv i acc g' → True) ∧
      (∀ i d acc g', (ran lo n)[i]? = some d → Iv i acc g' → dYes (e.set j (some d)) g' fun b g3 => if b = true then te (e.set j (some d)) g3 fun y g4 => g4 p = some (.lst acc) ∧ acc.length < sizeLine ∧ Iv (i + 1) (acc ++ [y]) (gup g4 p (.lst (acc ++ [y]))) else Iv (i + 1) acc g3) ∧
      ∀ acc g', Iv (ran lo n).length acc g' → R p g' := by
  intro p hp
  refine ⟨fun i acc g' => acc.length = i ∧ (∀ d ∈ acc, P d) ∧ Fr (.go s (m + cost * i)) g0 g' ((p, .lst acc, true) :: l), ⟨rfl, (fun d h => nomatch h), by simpa using F.new _ hp⟩, fun _ _ _ _ _ => trivial, fun i d acc g' hd ⟨hl, hP, G'⟩ => ?_, fun acc g' ⟨hl, hP, G'⟩ => ?_⟩
  · obtain ⟨hi, rfl⟩ := ran_get hd
    show te _ g' _
    refine step i g' _ hi (G'.here.drop 1) fun d g'' hd G2 => ?_
    have G3 := G'.call G2
    refine ⟨G3.at 0 rfl, by rw [szl]; omega, by rw [List.length_append, hl]; rfl, fun x hx => ?_, ?_⟩
    · rcases List.mem_append.mp hx with h | h
      · exact hP x h
      · rw [List.mem_singleton.mp h]; exact hd
    · have e1 : m + cost * i + cost = m + cost * (i + 1) := by rw [Nat.mul_add]; omega
      rw [e1] at G3
      exact G3.mut 0 _ rfl
  · rw [ran_len] at hl G'
    exact q acc p g' hl hP G'
theorem lcFL {α : Type} {s : SI} {g0 g : GS} {m : Nat} {l : FL} {ds : List D} {keep : GS → Prop} {e : EV} {j : Nat} {te : DTE} {R : Addr → GS → Prop} (xs : List α) (td : α → D) (hl : ds = xs.map td) (P : α → D → Prop) (cost : Nat) (F : Fr (.go s m) g0 g l) (hn : xs.length ≤ 16777216)
    (hk : ∀ i g', Fr (.go s (m + cost * i)) g0 g' l → keep g')
    (step : ∀ (i : Nat) (a : α) g' Q', xs[i]? = some a → Fr (.go s (m + cost * i)) g' g' (unown l) → (∀ d g'', P a d → Go s g' g'' (m + cost * i + cost) → Q' d g'') → te (e.set j (some (td a))) g' Q')
    (q : ∀ (acc : List D) p g', acc.length = xs.length → (∀ (i : Nat) (a : α) (d : D), xs[i]? = some a → acc[i]? = some d → P a d) → Fr (.go s (m + cost * xs.length)) g0 g' ((p, .lst acc, true) :: l) → R p g') :
    ∀ p, g p = none → ∃ Iv : Nat → List D → GS → Prop, Iv 0 [] (gup g p (.lst [])) ∧ (∀ i acc g', i ≤ ds.length → Iv i acc g' → keep g') ∧
      (∀ i d acc g', ds[i]? = some d → Iv i acc g' → dYes (e.set j (some d)) g' fun b g3 => if b = true then te (e.set j (some d)) g3 fun y g4 => g4 p = some (.lst acc) ∧ acc.length < sizeLine ∧ Iv (i + 1) (acc ++ [y]) (gup g4 p (.lst (acc ++ [y]))) else Iv (i + 1) acc g3) ∧
      ∀ acc g', Iv ds.length acc g' → R p g' := by
  subst hl
  intro p hp
  refine ⟨fun i acc g' => acc.length = i ∧ (∀ (k : Nat) (a : α) (d : D), xs[k]? = some a → acc[k]? = some d → P a d) ∧ Fr (.go s (m + cost * i)) g0 g' ((p, .lst acc, true) :: l), ⟨rfl, (fun k a d _ h => by simp at h), by simpa using F.new _ hp⟩, fun i _ g' _ h => hk i g' (h.2.2.drop 1), fun i d acc g' hd ⟨hl, hP, G'⟩ => ?_, fun acc g' ⟨hl, hP, G'⟩ => ?_⟩
  · rw [List.getElem?_map] at hd
    cases ha : xs[i]? with
    | none => rw [ha] at hd; cases hd
    | some a =>
    rw [ha] at hd
    cases hd
    have hi : i < xs.length := (List.getElem?_eq_some_iff.mp ha).1
    show te _ g' _
    refine step i a g' _ ha (G'.here.drop 1) fun d g'' hd G2 => ?_
    have G3 := G'.call G2
    refine ⟨G3.at 0 rfl, by rw [szl]; omega, by rw [List.length_append, hl]; rfl, fun k b x hb hk => ?_, ?_⟩
    · by_cases hkl : k < acc.length
      · rw [List.getElem?_append_left hkl] at hk
        exact hP k b x hb hk
      · rw [List.getElem?_append_right (by omega)] at hk
        have : k - acc.length = 0 := by
          have := (List.getElem?_eq_some_iff.mp hk).1
          simp at this; omega
        rw [this] at hk
        cases hk
        have : k = i := by omega
        subst this
        rw [ha] at hb
        cases hb
        exact hd
    · have e1 : m + cost * i + cost = m + cost * (i + 1) := by rw [Nat.mul_add]; omega
      rw [e1] at G3
      exact G3.mut 0 _ rfl
  · rw [List.length_map] at hl G'
    exact q acc p g' hl hP G'
end DL

namespace DL
open PySem
/-! patterns read: the scan and the items -/
def cut : List Nat → List (List Nat)
  | [] => [[]]
  | c :: cs => if c = 44 then [] :: cut cs else match cut cs with
    | p :: ps => (c :: p) :: ps
    | [] => [[c]]
theorem cut_ne : ∀ l, cut l ≠ []
  | [] => by simp [cut]
  | c :: cs => by
    unfold cut
    split
    · simp
    · split <;> simp
theorem cut_free : ∀ l, ∀ p ∈ cut l, 44 ∉ p
  | [], p, h => by simp [cut] at h; subst h; simp
  | c :: cs, p, h => by
    unfold cut at h
    split at h
    · rcases List.mem_cons.mp h with rfl | h
      · simp
      · exact cut_free cs p h
    · rename_i hc
      cases e : cut cs with
      | nil => exact absurd e (cut_ne cs)
      | cons q qs =>
        rw [e] at h
        have ih := cut_free cs
        rw [e] at ih
        rcases List.mem_cons.mp h with rfl | h
        · have := ih q List.mem_cons_self
          simp [this]
          omega
        · exact ih p (List.mem_cons_of_mem _ h)
theorem cut_join : ∀ l, TL.joinL [44] (cut l) = l
  | [] => rfl
  | c :: cs => by
    have ih := cut_join cs
    unfold cut
    cases e : cut cs with
    | nil => exact absurd e (cut_ne cs)
    | cons q qs =>
      rw [e] at ih
      split
      · rename_i hc
        show [] ++ ([44] ++ TL.joinL [44] (q :: qs)) = _
        rw [ih, hc]; rfl
      · cases qs with
        | nil =>
          have : q = cs := ih
          rw [← this]; rfl
        | cons r rs =>
          show (c :: q) ++ ([44] ++ TL.joinL [44] (r :: rs)) = _
          have : q ++ ([44] ++ TL.joinL [44] (r :: rs)) = cs := ih
          rw [← this]; rfl
theorem cut_snoc (c : Nat) : ∀ l, ∃ is q, cut l = is ++ [q] ∧ cut (l ++ [c]) = if c = 44 then is ++ [q] ++ [[]] else is ++ [q ++ [c]]
  | [] => by
    refine ⟨[], [], rfl, ?_⟩
    show cut [c] = _
    unfold cut
    split <;> rfl
  | d :: ds => by
    obtain ⟨is, q, e1, e2⟩ := cut_snoc c ds
    show ∃ is q, cut (d :: ds) = is ++ [q] ∧ cut (d :: (ds ++ [c])) = _
    have u : ∀ l, cut (d :: l) = if d = 44 then [] :: cut l else match cut l with
      | p :: ps => (d :: p) :: ps
      | [] => [[d]] := fun l => rfl
    rw [u, u, e1, e2]
    by_cases hd : d = 44
    · refine ⟨[] :: is, q, by rw [if_pos hd]; rfl, ?_⟩
      rw [if_pos hd]
      split <;> rfl
    · rw [if_neg hd, if_neg hd]
      cases is with
      | nil =>
        refine ⟨[], d :: q, rfl, ?_⟩
        by_cases hc : c = 44
        · rw [if_pos hc, if_pos hc]; rfl
        · rw [if_neg hc, if_neg hc]; rfl
      | cons r rs =>
        refine ⟨(d :: r) :: rs, q, rfl, ?_⟩
        by_cases hc : c = 44
        · rw [if_pos hc, if_pos hc]; rfl
        · rw [if_neg hc, if_neg hc]; rfl
def GL : List Nat := [97, 98, 99, 100, 101, 102, 103, 104, 105, 106, 107, 108, 109, 110, 111, 112, 113, 114, 115, 116, 117, 118, 119, 120, 121, 122, 48, 49, 50, 51, 52, 53, 54, 55, 56, 57, 46, 42, 63]
theorem gl_97 : (97 : Nat) ∈ GL := by decide
theorem gl_33 : (33 : Nat) ∉ GL := by decide
theorem gl_44 : (44 : Nat) ∉ GL := by decide
/-- an item's glob -/
def glb : List Nat → List Nat
  | 33 :: r => r
  | l => l
def okI (p : List Nat) : Bool := !(glb p).isEmpty && (glb p).all fun c => decide (c ∈ GL)
def isP (l : List Nat) : Bool := decide (l.length ≤ 60) && decide ((cut l).length ≤ 8) && (cut l).all okI
def bad (i a k c : Nat) : Bool := decide (60 ≤ i) || (!decide (c ∈ GL) && ((!decide (c = 33) && !decide (c = 44)) || decide (i = 59) || (decide (c = 33) && !decide (a = 44)) || (decide (c = 44) && (decide (a = 44 ∨ a = 33) || decide (k + 1 = 8)))))
def fw : List Nat → Nat → Nat → Nat → Option Nat
  | [], i, a, _ => if a = 44 ∨ a = 33 then some i else none
  | c :: cs, i, a, k => if bad i a k c then some i else fw cs (i + 1) c (if c = 44 then k + 1 else k)
def pre (l : List Nat) : Bool := isP l || isP (l ++ [97])
theorem glb_snoc {q : List Nat} {c : Nat} (h : q ≠ []) : glb (q ++ [c]) = glb q ++ [c] := by
  cases q with
  | nil => exact absurd rfl h
  | cons d ds =>
    by_cases hd : d = 33
    · subst hd; rfl
    · show glb (d :: (ds ++ [c])) = glb (d :: ds) ++ [c]
      unfold glb
      split
      · rename_i e; cases e; exact absurd rfl hd
      · split
        · rename_i e; cases e; exact absurd rfl hd
        · rfl
theorem okI_nil : okI [] = false := rfl
theorem okI_33 : okI [33] = false := rfl
/-- may become an item -/
def pk (q : List Nat) : Bool := decide (q = [] ∨ q = [33]) || okI q
theorem okI_snoc (q : List Nat) (c : Nat) (hc : c ≠ 33) : okI (q ++ [c]) = (pk q && decide (c ∈ GL)) := by
  by_cases h0 : q = []
  · subst h0
    show okI [c] = _
    have : glb [c] = [c] := by
      unfold glb
      split
      · rename_i e; cases e; exact absurd rfl hc
      · rfl
    unfold okI pk
    rw [this]
    simp
  · unfold okI pk okI
    rw [glb_snoc h0]
    by_cases h1 : q = [33]
    · subst h1
      show (!(([] : List Nat) ++ [c]).isEmpty && _) = _
      simp [glb]
    · have hg : (glb q).isEmpty = false := by
        cases q with
        | nil => exact absurd rfl h0
        | cons d ds =>
          by_cases hd : d = 33
          · subst hd
            cases ds with
            | nil => exact absurd rfl h1
            | cons _ _ => rfl
          · have : glb (d :: ds) = d :: ds := by
              unfold glb
              split
              · rename_i e; cases e; exact absurd rfl hd
              · rfl
            rw [this]; rfl
      simp [h0, h1, hg]
theorem okI_snoc33 (q : List Nat) : okI (q ++ [33]) = false := by
  by_cases h0 : q = []
  · subst h0; rfl
  · unfold okI
    rw [glb_snoc h0]
    simp [gl_33]
theorem pk_snoc33 (q : List Nat) : pk (q ++ [33]) = decide (q = []) := by
  unfold pk
  rw [okI_snoc33]
  cases q with
  | nil => rfl
  | cons d ds => simp
theorem pk_snoc (q : List Nat) (c : Nat) (hc : c ≠ 33) : pk (q ++ [c]) = (pk q && decide (c ∈ GL)) := by
  unfold pk
  rw [okI_snoc q c hc]
  unfold pk
  have e1 : ¬ (q ++ [c] = [] ∨ q ++ [c] = [33]) := by
    rintro (h | h)
    · simp at h
    · have := congrArg List.getLast? h
      simp at this
      exact hc this
  rw [decide_eq_false e1, Bool.false_or]
theorem ok_pk {q : List Nat} (h : okI q = true) : pk q = true := by unfold pk; rw [h, Bool.or_true]
theorem pre_is (is : List (List Nat)) (q : List Nat) (l : List Nat) (h : cut l = is ++ [q]) : pre l = (is.all okI && decide (is.length ≤ 7) && ((decide (l.length ≤ 60) && okI q) || (decide (l.length ≤ 59) && pk q))) := by
  obtain ⟨is', q', e1, e2⟩ := cut_snoc 97 l
  rw [h] at e1
  obtain ⟨rfl, e3⟩ := List.append_inj' e1 rfl
  cases e3
  rw [if_neg (by decide)] at e2
  unfold pre isP
  rw [h, e2]
  simp only [List.all_append, List.all_cons, List.all_nil, List.length_append, List.length_cons, List.length_nil, okI_snoc q 97 (by decide), gl_97, decide_true, Bool.and_true]
  cases is.all okI <;> cases hq : okI q <;> cases pk q <;> simp <;> by_cases h1 : is.length ≤ 7 <;> by_cases h2 : l.length ≤ 59 <;> by_cases h3 : l.length ≤ 60 <;> simp [*] <;> omega
/-- the scan's state behind a beginning -/
def StA (l : List Nat) (a k : Nat) : Prop := ∃ is q, cut l = is ++ [q] ∧ k = is.length ∧ (a = 44 ↔ q = []) ∧ (a = 33 ↔ q = [33])
theorem pk_last {q : List Nat} {c : Nat} (h : pk (q ++ [c]) = true) : (c = 33 ↔ q ++ [c] = [33]) := by
  constructor
  · rintro rfl
    rw [pk_snoc33] at h
    have := of_decide_eq_true h
    rw [this]; rfl
  · intro e
    have := congrArg List.getLast? e
    simpa using this
/-- one sign more -/
theorem pre_step {l : List Nat} {a k c : Nat} (st : StA l a k) (hp : l = [] ∨ pre l = true) : pre (l ++ [c]) = !bad l.length a k c ∧ (pre (l ++ [c]) = true → StA (l ++ [c]) c (if c = 44 then k + 1 else k)) := by
  obtain ⟨is, q, e1, ek, ha, hb⟩ := st
  have good : is.all okI = true ∧ is.length ≤ 7 ∧ pk q = true ∧ l.length ≤ 60 := by
    rcases hp with rfl | hp
    · have : is = [] ∧ q = [] := by
        have := e1.symm
        cases is with
        | nil => exact ⟨rfl, by simpa [cut] using this⟩
        | cons r rs =>
          have := congrArg List.length this
          simp [cut] at this
      obtain ⟨rfl, rfl⟩ := this
      exact ⟨rfl, by simp, rfl, by simp⟩
    · rw [pre_is is q l e1] at hp
      simp only [Bool.and_eq_true, Bool.or_eq_true, decide_eq_true_eq] at hp
      obtain ⟨⟨h1, h2⟩, h3⟩ := hp
      rcases h3 with ⟨h3, h4⟩ | ⟨h3, h4⟩
      · exact ⟨h1, h2, ok_pk h4, h3⟩
      · exact ⟨h1, h2, h4, by omega⟩
  obtain ⟨g1, g2, g3, g4⟩ := good
  obtain ⟨is', q', e3, e2⟩ := cut_snoc c l
  rw [e1] at e3
  obtain ⟨rfl, e4⟩ := List.append_inj' e3 rfl
  cases e4
  have hq : okI q = !decide (a = 44 ∨ a = 33) := by
    by_cases h : a = 44 ∨ a = 33
    · rw [decide_eq_true h]
      rcases h with h | h
      · rw [ha.mp h]; rfl
      · rw [hb.mp h]; rfl
    · rw [decide_eq_false h]
      have h0 : ¬ (q = [] ∨ q = [33]) := fun z => h (z.imp ha.mpr hb.mpr)
      unfold pk at g3
      rw [decide_eq_false h0, Bool.false_or] at g3
      exact g3
  by_cases hc : c = 44
  · subst hc
    rw [if_pos rfl] at e2
    rw [if_pos rfl]
    have hbad : bad l.length a k 44 = (decide (59 ≤ l.length) || decide (a = 44 ∨ a = 33) || decide (is.length = 7)) := by
      unfold bad
      rw [decide_eq_false gl_44, ek]
      by_cases h1 : 60 ≤ l.length <;> by_cases h2 : l.length = 59 <;> by_cases h3 : 59 ≤ l.length <;> by_cases h4 : is.length = 7 <;> simp [*] <;> omega
    refine ⟨?_, fun _ => ⟨is ++ [q], [], e2, by rw [List.length_append, ek]; rfl, by simp, by simp⟩⟩
    rw [pre_is _ _ _ e2, hbad]
    simp only [List.all_append, List.all_cons, List.all_nil, List.length_append, List.length_cons, List.length_nil, g1, hq, okI_nil, Bool.and_true, Bool.true_and, Bool.and_false, Bool.false_or, show pk [] = true from rfl]
    have e5 : decide (is.length + (0 + 1) ≤ 7) = !decide (is.length = 7) := by
      by_cases h : is.length = 7 <;> simp [h] <;> omega
    have e6 : decide (l.length + (0 + 1) ≤ 59) = !decide (59 ≤ l.length) := by
      by_cases h : 59 ≤ l.length <;> simp [h] <;> omega
    rw [e5, e6]
    cases decide (a = 44 ∨ a = 33) <;> cases decide (59 ≤ l.length) <;> cases decide (is.length = 7) <;> rfl
  · rw [if_neg hc] at e2
    rw [if_neg hc]
    refine ⟨?_, fun hpr => ⟨is, q ++ [c], e2, ek, by simp [hc], ?_⟩⟩
    · rw [pre_is _ _ _ e2]
      by_cases h33 : c = 33
      · subst h33
        have hbad : bad l.length a k 33 = (decide (59 ≤ l.length) || !decide (a = 44)) := by
          unfold bad
          rw [decide_eq_false gl_33]
          by_cases h1 : 60 ≤ l.length <;> by_cases h2 : l.length = 59 <;> by_cases h3 : 59 ≤ l.length <;> simp [*] <;> omega
        have e5 : decide (a = 44) = decide (q = []) := decide_eq_decide.mpr ha
        have e6 : decide (l.length + (0 + 1) ≤ 59) = !decide (59 ≤ l.length) := by
          by_cases h : 59 ≤ l.length <;> simp [h] <;> omega
        rw [hbad, okI_snoc33, pk_snoc33, e5]
        simp only [g1, List.length_append, List.length_cons, List.length_nil, decide_eq_true g2]
        rw [e6]
        cases decide (q = []) <;> cases decide (59 ≤ l.length) <;> simp
      · rw [okI_snoc q c h33, pk_snoc q c h33, g3, g1]
        have hbad : bad l.length a k c = (decide (60 ≤ l.length) || !decide (c ∈ GL)) := by
          unfold bad
          rw [decide_eq_false h33, decide_eq_false hc]
          simp
        rw [hbad]
        simp only [List.length_append, List.length_cons, List.length_nil, decide_eq_true g2]
        have e6 : decide (l.length + (0 + 1) ≤ 60) = !decide (60 ≤ l.length) := by
          by_cases h : 60 ≤ l.length <;> simp [h] <;> omega
        have e7 : decide (l.length + (0 + 1) ≤ 59) = true → decide (l.length + (0 + 1) ≤ 60) = true := fun z => by
          have := of_decide_eq_true z
          exact decide_eq_true (by omega)
        rw [← e6.symm.trans rfl] at *
        cases hg : decide (c ∈ GL) <;> cases h6 : decide (l.length + (0 + 1) ≤ 60) <;> cases h7 : decide (l.length + (0 + 1) ≤ 59) <;> simp_all
    · refine pk_last ?_
      rw [pre_is _ _ _ e2] at hpr
      simp only [Bool.and_eq_true, Bool.or_eq_true, decide_eq_true_eq] at hpr
      rcases hpr.2 with ⟨_, h⟩ | ⟨_, h⟩
      · exact ok_pk h
      · exact h
/-- what the law's own reader tells: the first beginning that is none -/
def due (l : List Nat) : Option Nat := match (List.range l.length).find? fun k => !pre (l.take (k + 1)) with
  | some k => some k
  | none => if isP l then none else some l.length
theorem st_nil : StA [] 44 0 := ⟨[], [], rfl, rfl, by simp, by simp⟩
theorem fw_run : ∀ (r l : List Nat) (a k : Nat), StA l a k → (l = [] ∨ pre l = true) → fw r l.length a k = (match (List.range r.length).find? fun j => !pre ((l ++ r).take (l.length + j + 1)) with
  | some j => some (l.length + j)
  | none => if isP (l ++ r) then none else some (l ++ r).length)
  | [], l, a, k, st, hp => by
    show (if a = 44 ∨ a = 33 then some l.length else none) = _
    rw [List.append_nil]
    simp only [List.length_nil, List.range_zero, List.find?_nil]
    obtain ⟨is, q, e1, ek, ha, hb⟩ := st
    by_cases h : a = 44 ∨ a = 33
    · have : isP l = false := by
        unfold isP
        rw [e1]
        have : okI q = false := by
          rcases h with h | h
          · rw [ha.mp h]; rfl
          · rw [hb.mp h]; rfl
        simp [this]
      rw [if_pos h, this]; rfl
    · have h0 : ¬ (q = [] ∨ q = [33]) := fun z => h (z.imp ha.mpr hb.mpr)
      have : isP l = true := by
        rcases hp with rfl | hp
        · exfalso
          have : is = [] ∧ q = [] := by
            have := e1.symm
            cases is with
            | nil => exact ⟨rfl, by simpa [cut] using this⟩
            | cons r rs =>
              have := congrArg List.length this
              simp [cut] at this
          exact h0 (.inl this.2)
        · rw [pre_is is q l e1] at hp
          unfold isP
          rw [e1]
          simp only [Bool.and_eq_true, Bool.or_eq_true, decide_eq_true_eq] at hp
          obtain ⟨⟨h1, h2⟩, h3⟩ := hp
          have hk : okI q = true := by
            rcases h3 with ⟨_, h4⟩ | ⟨_, h4⟩
            · exact h4
            · unfold pk at h4
              rw [decide_eq_false h0, Bool.false_or] at h4
              exact h4
          have h5 : l.length ≤ 60 := by rcases h3 with ⟨h, _⟩ | ⟨h, _⟩ <;> omega
          simp [h1, hk, h5]
          omega
      rw [if_neg h, this]; rfl
  | c :: r, l, a, k, st, hp => by
    obtain ⟨h1, h2⟩ := pre_step (c := c) st hp
    show (if bad l.length a k c then some l.length else fw r (l.length + 1) c (if c = 44 then k + 1 else k)) = _
    have et : (l ++ c :: r).take (l.length + 0 + 1) = l ++ [c] := by
      rw [Nat.add_zero, show l ++ c :: r = (l ++ [c]) ++ r by simp, show l.length + 1 = (l ++ [c]).length by simp]
      exact List.take_left
    have el : l ++ c :: r = (l ++ [c]) ++ r := by simp
    rw [List.length_cons, List.range_succ_eq_map, List.find?_cons, et]
    cases hb : bad l.length a k c with
    | true => rw [h1, hb]; rfl
    | false =>
      rw [h1, hb]
      have ih := fw_run r (l ++ [c]) c (if c = 44 then k + 1 else k) (h2 (by rw [h1, hb]; rfl)) (.inr (by rw [h1, hb]; rfl))
      rw [List.length_append] at ih
      simp only [Bool.not_false, Bool.not_true, Bool.false_eq_true, if_false]
      show fw r (l.length + 1) c _ = _
      rw [show l.length + [c].length = l.length + 1 from rfl] at ih
      rw [ih, List.find?_map, el]
      have e3 : (List.range r.length).find? (fun j => !pre (((l ++ [c]) ++ r).take (l.length + 1 + j + 1))) = (List.range r.length).find? ((fun j => !pre (((l ++ [c]) ++ r).take (l.length + j + 1))) ∘ Nat.succ) := by
        congr 1
        funext j
        show _ = !pre (((l ++ [c]) ++ r).take (l.length + (j + 1) + 1))
        rw [show l.length + 1 + j + 1 = l.length + (j + 1) + 1 by omega]
      rw [e3]
      cases (List.range r.length).find? ((fun j => !pre (((l ++ [c]) ++ r).take (l.length + j + 1))) ∘ Nat.succ) with
      | none => rfl
      | some j =>
        show some (l.length + 1 + j) = some (l.length + (j + 1))
        congr 1
        omega
theorem bad_iff {i a k c : Nat} : bad i a k c = true ↔ 60 ≤ i ∨ (¬ c ∈ GL ∧ ((c ≠ 33 ∧ c ≠ 44) ∨ i = 59 ∨ (c = 33 ∧ a ≠ 44) ∨ (c = 44 ∧ (a = 44 ∨ a = 33 ∨ k + 1 = 8)))) := by
  unfold bad
  simp only [Bool.or_eq_true, Bool.and_eq_true, decide_eq_true_eq, Bool.not_eq_true', decide_eq_false_iff_not]
  by_cases hG : c ∈ GL
  · simp only [hG, not_true_eq_false, false_and, or_false]
  · simp only [hG, not_false_eq_true, true_and]
    omega
theorem fw_due (l : List Nat) : fw l 0 44 0 = due l := by
  have h := fw_run l [] 44 0 st_nil (.inl rfl)
  simpa [due] using h
theorem cut_split (l : List Nat) : Txt.split (mk l) "," = (cut l).map mk := by
  have e : (mk l : Str) = Txt.join "," ((cut l).map mk) := TL.ext_tl (by
    have c1 : TL.tl ("," : Str) = [44] := by decide +kernel
    rw [TL.join_eq, tl_mk, TL.tl_join, List.map_map, c1]
    have : (cut l).map (TL.tl ∘ mk) = cut l := by
      exact (List.map_congr_left (g := id) (fun x _ => tl_mk x)).trans (List.map_id _)
    rw [this]
    exact (cut_join l).symm)
  rw [e]
  exact TL.split_join (s := 44) (S := []) (by decide +kernel) (by decide +kernel) (fun z => cut_ne l (List.map_eq_nil_iff.mp z)) fun p hp => by
    obtain ⟨x, hx, rfl⟩ := List.mem_map.mp hp
    rw [tl_mk]
    exact cut_free l x hx
theorem cut_le (l p : List Nat) (h : p ∈ cut l) : p.length ≤ l.length := by
  have := joinL_le [44] (cut l) p h
  rw [cut_join] at this
  exact this
theorem cut_len (l : List Nat) : (cut l).length ≤ l.length + 1 := by
  induction l with
  | nil => simp [cut]
  | cons c cs ih =>
    unfold cut
    split
    · simp; exact ih
    · cases e : cut cs with
      | nil => simp
      | cons p ps => rw [e] at ih; simp at ih ⊢; omega
/-- a row of a pattern's text, as written -/
def itD (p : List Nat) : DL.D := if p.head? = some 33 then .tup [.int 0, .str (mk p.tail)] else .tup [.int 1, .str (mk p)]
theorem take1 (p : List Nat) : decide (p.take 1 = [33]) = decide (p.head? = some 33) := by
  cases p with
  | nil => rfl
  | cons c cs => simp
theorem k_cut {k : FK} {g0 g : GS} {lo : FL} {l : List Nat} {Q : DK} (F : Fr k g0 g lo) (ha : l.length ≤ 16777214) (h : ∀ r g', Fr k g0 g' ((r, .lst ((cut l).map fun p => .str (mk p)), true) :: lo) → Q (.ref r) g') : splitD (.str (mk l)) [.str (mk [44])] g Q :=
  k_split F (by decide +kernel) (by rw [TL.len_tl, tl_mk]; exact ha) fun r g' F' => h r g' (by
    have e : ((Txt.split (mk l) (mk [44])).map DL.D.str) = (cut l).map fun p => .str (mk p) := by
      have c1 : (mk [44] : Str) = "," := by decide +kernel
      rw [c1, cut_split, List.map_map]; rfl
    rw [e] at F'
    exact F')
theorem fw_none {l : List Nat} (h : fw l 0 44 0 = none) : isP l = true := by
  rw [fw_due] at h
  unfold due at h
  split at h
  · cases h
  · split at h
    · assumption
    · cases h
theorem isP_items {l : List Nat} (h : isP l = true) : ∀ p ∈ cut l, okI p = true := by
  unfold isP at h
  simp only [Bool.and_eq_true, List.all_eq_true] at h
  exact h.2
theorem okI_ne {p : List Nat} (h : okI p = true) : p ≠ [] := fun z => by rw [z] at h; cases h
theorem isP_len {l : List Nat} (h : isP l = true) : l.length ≤ 60 ∧ (cut l).length ≤ 8 := by
  unfold isP at h
  simp only [Bool.and_eq_true, decide_eq_true_eq] at h
  exact h.1
/-- the items of a pattern -/
abbrev itemsD (l : List Nat) : List DL.D := (cut l).map itD
theorem get_map {α β : Type} {f : α → β} {xs : List α} {i : Nat} {d : β} (h : (xs.map f)[i]? = some d) : ∃ a, xs[i]? = some a ∧ d = f a := by
  rw [List.getElem?_map] at h
  cases e : xs[i]? with
  | none => rw [e] at h; cases h
  | some a => rw [e] at h; cases h; exact ⟨a, rfl, rfl⟩
theorem take_snoc {α : Type} {xs : List α} {i : Nat} {a : α} (h : xs[i]? = some a) : xs.take (i + 1) = xs.take i ++ [a] := by
  rw [List.take_add_one, h]; rfl
end DL

set_option maxHeartbeats 4000000
namespace DL
open PySem PySem.Spec PyProof.Rows L2
/-! [.. for a, b in ..] over pairs -/
def dLc2 (it : DTI) (j0 j1 : Nat) (tt : DTT) (te : DTE) : DTE := fun e g Q => it e g fun ds keep g1 => ∀ p, g1 p = none → ∃ Iv : Nat → List D → GS → Prop, Iv 0 [] (gup g1 p (.lst [])) ∧ (∀ i acc g', i ≤ ds.length → Iv i acc g' → keep g') ∧
  (∀ i d acc g', ds[i]? = some d → Iv i acc g' → ∃ a b, d = .tup [a, b] ∧ tt ((e.set j0 (some a)).set j1 (some b)) g' fun c g3 => if c = true then te ((e.set j0 (some a)).set j1 (some b)) g3 fun y g4 => g4 p = some (.lst acc) ∧ acc.length < sizeLine ∧ Iv (i + 1) (acc ++ [y]) (gup g4 p (.lst (acc ++ [y]))) else Iv (i + 1) acc g3) ∧
  ∀ acc g', Iv ds.length acc g' → Q (.ref p) g'
theorem wipe_two {σ : L2.St} {j0 j1 : Nat} {a b : V} (h : j0 ≠ j1) : wipe (((wipe σ [j0, j1]).set j0 (some a)).set j1 (some b)) [j0, j1] = wipe σ [j0, j1] := by
  show ((((((σ.set j1 none).set j0 none).set j0 (some a)).set j1 (some b)).set j1 none).set j0 none) = (σ.set j1 none).set j0 none
  apply List.ext_getElem?
  intro i
  simp only [List.getElem?_set, List.length_set]
  by_cases h0 : j0 = i <;> by_cases h1 : j1 = i <;> simp_all
theorem set_two {σ : L2.St} {j0 j1 : Nat} {a b : V} (h : j0 ≠ j1) : ((wipe σ [j0, j1]).set j0 (some a)).set j1 (some b) = (σ.set j0 (some a)).set j1 (some b) := by
  show ((((σ.set j1 none).set j0 none).set j0 (some a)).set j1 (some b)) = _
  apply List.ext_getElem?
  intro i
  simp only [List.getElem?_set, List.length_set]
  by_cases h0 : j0 = i <;> by_cases h1 : j1 = i <;> simp_all
section
variable {K : PySem.W.Frag} {tA : DTT} {te : DTE}
theorem lc2_lift {I : DTI} {j0 j1 : Nat} {σ : L2.St} {H : Hp} {Q : VK} (hj : j0 ≠ j1) (h : lE K (dLc2 I j0 j1 tA te) σ H Q) : tLc (lI K I) (gTup K 2 (gCons (gName j0) (gCons (gName j1) gNil))) (lT K tA) (lE K te) [j0, j1] σ H Q := by
  obtain ⟨e, g, Qd, re, rg, q, k⟩ := h
  refine ⟨e, g, _, re, rg, q, fun ds keep J H1 g1 x1 rg1 ok f n hn => ?_⟩
  obtain ⟨Iv, i0, hk, step, done⟩ := f n (rg1.free hn)
  refine ⟨fun i m H' => m = ds.length - i ∧ i ≤ ds.length ∧ ∃ acc g', Ext H1 H' ∧ RepG K H' g' ∧ Iv i acc g', ⟨ds.length, by omega, Nat.zero_le _, [], _, .new hn, rg1.laidL hn .nil, i0⟩, ?_⟩
  rintro i m H' ⟨rfl, hi, acc, g', x2, rg2, iv⟩
  have o := ok i H' g' x2 rg2 (hk i acc g' hi iv)
  by_cases hlt : i < ds.length
  · refine .inr ?_
    have hd : ds[i]? = some ds[i] := List.getElem?_eq_getElem hlt
    obtain ⟨go, yl⟩ := o.2 _ hd
    refine ⟨go, fun H' => ∃ acc g', Ext H1 H' ∧ RepG K H' g' ∧ Iv (i + 1) acc g', fun H3 ⟨e3, g3, a1, a2, a3⟩ => ⟨ds.length - (i + 1), by omega, rfl, hlt, e3, g3, a1, a2, a3⟩, fun x H2 y => ?_⟩
    obtain ⟨x3, rg3, r3⟩ := yl x H2 y
    obtain ⟨a, b, ed, st⟩ := step i ds[i] acc g' hd iv
    rw [ed] at r3
    cases r3 with
    | tup hs l =>
    cases l with
    | @cons va _ _ _ ra l =>
    cases l with
    | @cons vb _ _ _ rb l =>
    cases l
    have re3 : RepE K H2 (((wipe σ [j0, j1]).set j0 (some va)).set j1 (some vb)) ((e.set j0 (some a)).set j1 (some b)) := by
      rw [set_two hj]
      exact ((re.mono ((x1.trans x2).trans x3)).set ra j0).set rb j1
    refine ⟨_, _, rfl, tq hs, rfl, va, [vb], rfl, vb, [], rfl, rfl, wipe_two hj, _, _, _, re3, rg3, st, fun b H4 g4 x4 rg4 q4 => ?_⟩
    · have xx : Ext H1 H4 := (x2.trans x3).trans x4
      cases b with
      | false => exact ⟨acc, g4, xx, rg4, q4⟩
      | true =>
        rw [if_pos rfl] at q4
        show lE K te _ H4 _
        refine ⟨_, _, _, re3.mono x4, rg4, q4, fun v d H5 g5 x5 rg5 r5 ⟨h1, h2, h3⟩ => ?_⟩
        obtain ⟨ys, e1, l⟩ := rg5.lst h1
        exact ⟨ys, e1, by rw [l.length]; exact h2, acc ++ [d], _, (xx.trans x5).trans (.lst e1), rg5.setL e1 (l.app (.cons r5 .nil)), h3⟩
  · have e0 : i = ds.length := by omega
    subst e0
    exact .inl ⟨o.1 rfl, k _ _ _ _ (x1.trans x2) rg2 (.ref n) (done acc g' iv)⟩
end
section
variable {X : Cx} {elt tg iter : Expr} {pos : Pos} {tA : DTT} {te : DTE}
theorem de_lc2 {x y : Str} {j0 j1 : Nat} {ifs : List Expr} {scope : Scope} {I : DTI} (hj : j0 ≠ j1) (hc : X.calm = true) (hN : X.N.Nodup) (hi : DI X tg iter I) (ok : BlkOk X.N X.env.scope scope [(x, j0), (y, j1)])
    (hg : ∀ (s : Shared) (H : Hp) (C : Addr) (cl : List (Str × Addr)) (fp : List Addr), PG (X.blk s H scope (compEnvC scope cl C X.env) fp) tg (gTup X.K 2 (gCons (gName j0) (gCons (gName j1) gNil)))) (ht : ∀ (s : Shared) (H : Hp) (C : Addr) (cl : List (Str × Addr)) (fp : List Addr), DTs (X.blk s H scope (compEnvC scope cl C X.env) fp) ifs tA)
    (he : ∀ (s : Shared) (H : Hp) (C : Addr) (cl : List (Str × Addr)) (fp : List Addr), DE (X.blk s H scope (compEnvC scope cl C X.env) fp) elt te) (hs : ∀ x, foldedSetIterable iter X.env x = pure x := by intro _; rfl) :
    DE X (.ListComp elt [⟨tg, iter, ifs, 0⟩] scope pos) (dLc2 I j0 j1 tA te) :=
  ⟨peW (pe_lc (own := [(x, j0), (y, j1)]) hc hN hi.pi ok hg (fun s H C cl fp => (ht s H C cl fp).pts) (fun s H C cl fp => (he s H C cl fp).pe) hs) fun _ _ _ h => lc2_lift hj h⟩
end
/-! ### comprehensions with frames -/
section
variable {α : Type} {k : FK} {g0 g : GS} {lo : FL} {ds : List D} {keep : GS → Prop} {e : EV} {j j0 j1 : Nat} {tA : DTT} {te : DTE} {R : Addr → GS → Prop}
theorem lcM (xs : List α) (td f : α → D) (F : Fr k g0 g lo) (hl : ds = xs.map td) (hk : ∀ g', Fr k g0 g' lo → keep g') (hn : xs.length ≤ 16777216)
    (step : ∀ (i : Nat) (a : α) g' Q', xs[i]? = some a → Fr .pu g' g' (unown lo) → (∀ g'', Up [] g' g'' → Q' (f a) g'') → te (e.set j (some (td a))) g' Q')
    (q : ∀ p g', Fr k g0 g' ((p, .lst (xs.map f), true) :: lo) → R p g') :
    ∀ p, g p = none → ∃ Iv : Nat → List D → GS → Prop, Iv 0 [] (gup g p (.lst [])) ∧ (∀ i acc g', i ≤ ds.length → Iv i acc g' → keep g') ∧
      (∀ i d acc g', ds[i]? = some d → Iv i acc g' → dYes (e.set j (some d)) g' fun b g3 => if b = true then te (e.set j (some d)) g3 fun y g4 => g4 p = some (.lst acc) ∧ acc.length < sizeLine ∧ Iv (i + 1) (acc ++ [y]) (gup g4 p (.lst (acc ++ [y]))) else Iv (i + 1) acc g3) ∧
      ∀ acc g', Iv ds.length acc g' → R p g' :=
  lc_map xs td f hl (fun g' U => hk g' (F.up U)) hn (fun i a g' Q' hi U kk => step i a g' Q' hi ((F.up U).hereP) kk) fun p g' hp U hg => q p g' (F.ret hp (F.up U) hg)
theorem lcFi (xs : List α) (td f : α → D) (b : α → Bool) (F : Fr k g0 g lo) (hl : ds = xs.map td) (hk : ∀ g', Fr k g0 g' lo → keep g') (hn : xs.length ≤ 16777216)
    (stepB : ∀ (i : Nat) (a : α) g' (Q' : Bool → GS → Prop), xs[i]? = some a → Fr .pu g' g' (unown lo) → (∀ g'', Up [] g' g'' → Q' (b a) g'') → tA (e.set j (some (td a))) g' Q')
    (step : ∀ (i : Nat) (a : α) g' Q', xs[i]? = some a → b a = true → Fr .pu g' g' (unown lo) → (∀ g'', Up [] g' g'' → Q' (f a) g'') → te (e.set j (some (td a))) g' Q')
    (q : ∀ p g', Fr k g0 g' ((p, .lst ((xs.filter b).map f), true) :: lo) → R p g') :
    ∀ p, g p = none → ∃ Iv : Nat → List D → GS → Prop, Iv 0 [] (gup g p (.lst [])) ∧ (∀ i acc g', i ≤ ds.length → Iv i acc g' → keep g') ∧
      (∀ i d acc g', ds[i]? = some d → Iv i acc g' → tA (e.set j (some d)) g' fun b g3 => if b = true then te (e.set j (some d)) g3 fun y g4 => g4 p = some (.lst acc) ∧ acc.length < sizeLine ∧ Iv (i + 1) (acc ++ [y]) (gup g4 p (.lst (acc ++ [y]))) else Iv (i + 1) acc g3) ∧
      ∀ acc g', Iv ds.length acc g' → R p g' :=
  lc_filt xs td f b hl (fun g' U => hk g' (F.up U)) hn (fun i a g' Q' hi U kk => stepB i a g' Q' hi ((F.up U).hereP) kk) (fun i a g' Q' hi hb U kk => step i a g' Q' hi hb ((F.up U).hereP) kk) fun p g' hp U hg => q p g' (F.ret hp (F.up U) hg)
/-- pairs, with a test -/
theorem lc2F (xs : List α) (ta tb f : α → D) (b : α → Bool) (F : Fr k g0 g lo) (hl : ds = xs.map fun x => .tup [ta x, tb x]) (hk : ∀ g', Fr k g0 g' lo → keep g') (hn : xs.length ≤ 16777216)
    (stepB : ∀ (i : Nat) (a : α) g' (Q' : Bool → GS → Prop), xs[i]? = some a → Fr .pu g' g' (unown lo) → (∀ g'', Up [] g' g'' → Q' (b a) g'') → tA ((e.set j0 (some (ta a))).set j1 (some (tb a))) g' Q')
    (step : ∀ (i : Nat) (a : α) g' Q', xs[i]? = some a → b a = true → Fr .pu g' g' (unown lo) → (∀ g'', Up [] g' g'' → Q' (f a) g'') → te ((e.set j0 (some (ta a))).set j1 (some (tb a))) g' Q')
    (q : ∀ p g', Fr k g0 g' ((p, .lst ((xs.filter b).map f), true) :: lo) → R p g') :
    ∀ p, g p = none → ∃ Iv : Nat → List D → GS → Prop, Iv 0 [] (gup g p (.lst [])) ∧ (∀ i acc g', i ≤ ds.length → Iv i acc g' → keep g') ∧
      (∀ i d acc g', ds[i]? = some d → Iv i acc g' → ∃ a b, d = .tup [a, b] ∧ tA ((e.set j0 (some a)).set j1 (some b)) g' fun c g3 => if c = true then te ((e.set j0 (some a)).set j1 (some b)) g3 fun y g4 => g4 p = some (.lst acc) ∧ acc.length < sizeLine ∧ Iv (i + 1) (acc ++ [y]) (gup g4 p (.lst (acc ++ [y]))) else Iv (i + 1) acc g3) ∧
      ∀ acc g', Iv ds.length acc g' → R p g' := by
  intro p hp
  subst hl
  refine ⟨fun i acc g' => acc = ((xs.take i).filter b).map f ∧ Fr k g0 g' ((p, .lst acc, true) :: lo), ⟨rfl, F.new _ hp⟩, fun i acc g' _ h => hk g' (h.2.drop 1), fun i d acc g' hd ⟨ha, G⟩ => ?_, fun acc g' ⟨ha, G⟩ => ?_⟩
  · obtain ⟨a, hi, rfl⟩ := get_map hd
    have hlt := (List.getElem?_eq_some_iff.mp hi).1
    refine ⟨ta a, tb a, rfl, ?_⟩
    refine stepB i a g' _ hi (G.hereP.drop 1) fun g3 U => ?_
    have G3 := G.up U
    cases hb : b a with
    | false =>
      rw [if_neg (by decide)]
      refine ⟨?_, G3⟩
      rw [take_snoc hi, List.filter_append, ha]
      simp [hb]
    | true =>
      rw [if_pos rfl]
      refine step i a g3 _ hi hb (G3.hereP.drop 1) fun g4 U4 => ?_
      have G4 := G3.up U4
      refine ⟨G4.at 0 rfl, ?_, ?_, G4.mut 0 _ rfl⟩
      · rw [szl, ha, List.length_map]
        have := List.length_filter_le b (xs.take i)
        rw [List.length_take] at this
        omega
      · rw [take_snoc hi, List.filter_append, ha]
        simp [hb]
  · rw [List.length_map, List.take_length] at ha
    subst ha
    exact q p g' G
theorem lc2M (xs : List α) (ta tb f : α → D) (F : Fr k g0 g lo) (hl : ds = xs.map fun x => .tup [ta x, tb x]) (hk : ∀ g', Fr k g0 g' lo → keep g') (hn : xs.length ≤ 16777216)
    (step : ∀ (i : Nat) (a : α) g' Q', xs[i]? = some a → Fr .pu g' g' (unown lo) → (∀ g'', Up [] g' g'' → Q' (f a) g'') → te ((e.set j0 (some (ta a))).set j1 (some (tb a))) g' Q')
    (q : ∀ p g', Fr k g0 g' ((p, .lst (xs.map f), true) :: lo) → R p g') :
    ∀ p, g p = none → ∃ Iv : Nat → List D → GS → Prop, Iv 0 [] (gup g p (.lst [])) ∧ (∀ i acc g', i ≤ ds.length → Iv i acc g' → keep g') ∧
      (∀ i d acc g', ds[i]? = some d → Iv i acc g' → ∃ a b, d = .tup [a, b] ∧ dYes ((e.set j0 (some a)).set j1 (some b)) g' fun c g3 => if c = true then te ((e.set j0 (some a)).set j1 (some b)) g3 fun y g4 => g4 p = some (.lst acc) ∧ acc.length < sizeLine ∧ Iv (i + 1) (acc ++ [y]) (gup g4 p (.lst (acc ++ [y]))) else Iv (i + 1) acc g3) ∧
      ∀ acc g', Iv ds.length acc g' → R p g' :=
  lc2F xs ta tb f (fun _ => true) F hl hk hn (fun i a g' Q' _ _ kk => kk g' .refl) (fun i a g' Q' hi _ F' kk => step i a g' Q' hi F' kk) fun p g' F' => q p g' (by
    have : xs.filter (fun _ => true) = xs := List.filter_eq_self.mpr fun _ _ => rfl
    rw [this] at F'
    exact F')
theorem s_lc2 {it : DTI} {Q : DK} (h : it e g fun ds keep g1 => ∀ p, g1 p = none → ∃ Iv : Nat → List D → GS → Prop, Iv 0 [] (gup g1 p (.lst [])) ∧ (∀ i acc g', i ≤ ds.length → Iv i acc g' → keep g') ∧
  (∀ i d acc g', ds[i]? = some d → Iv i acc g' → ∃ a b, d = .tup [a, b] ∧ tA ((e.set j0 (some a)).set j1 (some b)) g' fun c g3 => if c = true then te ((e.set j0 (some a)).set j1 (some b)) g3 fun y g4 => g4 p = some (.lst acc) ∧ acc.length < sizeLine ∧ Iv (i + 1) (acc ++ [y]) (gup g4 p (.lst (acc ++ [y]))) else Iv (i + 1) acc g3) ∧
  ∀ acc g', Iv ds.length acc g' → Q (.ref p) g') : dLc2 it j0 j1 tA te e g Q := h
end
section
variable {α : Type} {k : FK} {g0 g : GS} {lo : FL} {Q : DK} {p : Addr} {b : Bool} {xs : List α}
theorem k_anyM {f : α → Bool} (F : Fr k g0 g lo) (n : Nat) (e : lo[n]? = some (p, .lst (xs.map fun x => .bl (f x)), b)) (h : Q (.bl (xs.any f)) g) : anyD [.ref p] g Q :=
  v_any (bs := xs.map f) (by rw [List.map_map]; exact F.at n e) (by rw [List.any_map]; exact h)
theorem k_allM {f : α → Bool} (F : Fr k g0 g lo) (n : Nat) (e : lo[n]? = some (p, .lst (xs.map fun x => .bl (f x)), b)) (h : Q (.bl (xs.all f)) g) : allD [.ref p] g Q :=
  v_all (bs := xs.map f) (by rw [List.map_map]; exact F.at n e) (by rw [List.all_map]; exact h)
theorem k_sumM {f : α → Int} (F : Fr k g0 g lo) (n : Nat) (e : lo[n]? = some (p, .lst (xs.map fun x => .int (f x)), b)) (h : Q (.int (xs.map f).sum) g) : sumD [.ref p] g Q :=
  v_sumL (ns := xs.map f) (by rw [List.map_map]; exact F.at n e) h
theorem k_joinM {c : List Nat} {f : α → List Nat} (B : Nat) (F : Fr k g0 g lo) (n : Nat) (e : lo[n]? = some (p, .lst (xs.map fun x => .str (mk (f x))), b)) (hB : ∀ x ∈ xs, (f x).length ≤ B) (hz : xs.length * (B + c.length) ≤ 16777216)
    (h : (TL.joinL c (xs.map f)).length ≤ xs.length * (B + c.length) → Q (.str (mk (TL.joinL c (xs.map f)))) g) : joinD (.str (mk c)) [.ref p] g Q := by
  have ej : Txt.join (mk c) (xs.map fun x => mk (f x)) = mk (TL.joinL c (xs.map f)) := TL.ext_tl (by
    rw [TL.join_eq, TL.tl_join, tl_mk, tl_mk, List.map_map]; rfl)
  refine v_joinL (zs := xs.map fun x => mk (f x)) (B := B) (by rw [List.map_map]; exact F.at n e) (fun z hz => ?_) (by rw [List.length_map, tl_mk]; exact hz) fun hl => ?_
  · obtain ⟨x, hx, rfl⟩ := List.mem_map.mp hz
    exact hB x hx
  · rw [ej] at hl ⊢
    rw [List.length_map] at hl
    exact h hl
end
/-! ### items of patterns -/
abbrev ItP := Bool × List Nat
def pI (x : ItP) : D := .tup [.int (if x.1 = true then 1 else 0), .str (mk x.2)]
def rdI (p : List Nat) : ItP := if p.head? = some 33 then (false, p.tail) else (true, p)
def wrI (x : ItP) : List Nat := if x.1 = true then x.2 else 33 :: x.2
theorem itD_pI (p : List Nat) : itD p = pI (rdI p) := by
  unfold itD rdI pI
  split <;> rfl
theorem wr_rd (p : List Nat) : wrI (rdI p) = p := by
  unfold rdI wrI
  cases p with
  | nil => rfl
  | cons c cs =>
    by_cases h : c = 33
    · subst h; rfl
    · have e : (if (c :: cs).head? = some 33 then (false, (c :: cs).tail) else (true, c :: cs)) = (true, c :: cs) := if_neg (by simp; exact h)
      rw [e]; rfl
abbrev rdP (l : List Nat) : List ItP := (cut l).map rdI
theorem items_rd (l : List Nat) : itemsD l = (rdP l).map pI := by
  rw [List.map_map]
  exact List.map_congr_left fun p _ => itD_pI p
theorem wr_rdP (l : List Nat) : TL.joinL [44] ((rdP l).map wrI) = l := by
  rw [List.map_map]
  have : (cut l).map (wrI ∘ rdI) = cut l := (List.map_congr_left (g := id) fun p _ => wr_rd p).trans (List.map_id _)
  rw [this, cut_join]
theorem find_range {p : Nat → Bool} {n i : Nat} (hi : i < n) (h1 : ∀ j, j < i → p j = false) (h2 : p i = true) : (List.range n).find? p = some i := by
  rw [List.find?_range_eq_some]
  exact ⟨h2, List.mem_range.mpr hi, fun j hj => by rw [h1 j hj]; rfl⟩
theorem find_range_none {p : Nat → Bool} {n : Nat} (h1 : ∀ j, j < n → p j = false) : (List.range n).find? p = none := by
  rw [List.find?_eq_none]
  intro j hj
  rw [h1 j (List.mem_range.mp hj)]
  decide
end DL

set_option maxHeartbeats 4000000
namespace DL
open PySem PySem.Spec PyProof.Rows L2
/-! range with a step; wide shifts -/
def ranC (lo c : Int) (n : Nat) : List D := (List.range n).map fun (i : Nat) => .int (lo + (i : Nat) * c)
theorem ranC_len (lo c : Int) (n : Nat) : (ranC lo c n).length = n := by rw [ranC, List.length_map, List.length_range]
theorem ranC_get {lo c : Int} {n i : Nat} {d : D} (h : (ranC lo c n)[i]? = some d) : i < n ∧ d = .int (lo + (i : Nat) * c) := by
  have hi : i < n := by
    have := (List.getElem?_eq_some_iff.mp h).1
    rwa [ranC_len] at this
  rw [ranC, List.getElem?_map, List.getElem?_range hi] at h
  cases h
  exact ⟨hi, rfl⟩
section
variable {K : PySem.W.Frag} {H : Hp}
theorem itok_ranC {lo c : Int} {n : Nat} : ItOk K H (Itc lo c n) (ranC lo c n) fun _ => True := fun i H1 g x rg _ => by
  refine ⟨fun e => ?_, fun d hd => ?_⟩
  · rw [ranC_len] at e
    exact Nat.le_of_eq e.symm
  · obtain ⟨hi, rfl⟩ := ranC_get hd
    refine ⟨hi, fun y H2 ⟨e, f⟩ => ?_⟩
    subst e f
    exact ⟨.refl _, rg, .int _⟩
end
/-- how many -/
def ranN (i j c : Nat) : Nat := (j - i + c - 1) / c
theorem rgc_up {i j c : Nat} (hi : i < 1073741824) (hj : j < 1073741824) (h0 : 0 < c) (hc : c < 1073741824) : RgC (i : Int) (j : Int) (c : Int) (ranN i j c) := by
  have e : Builtin.Range.rangeSize (i : Int) (j : Int) (c : Int) = (ranN i j c : Nat) := by
    unfold Builtin.Range.rangeSize ranN
    rw [if_pos (show (c : Int) > 0 by omega)]
    split
    · rename_i h
      have e1 : j - i + c - 1 = (j - i - 1) + c := by omega
      rw [e1, Nat.add_div_right _ h0]
      have e2 : ((j : Int) - i - 1) = ((j - i - 1 : Nat) : Int) := by omega
      rw [e2]
      simp
    · have e1 : j - i + c - 1 = c - 1 := by omega
      rw [e1, Nat.div_eq_of_lt (by omega)]
      rfl
  refine ⟨by omega, by omega, ?_, e⟩
  have hle : ranN i j c ≤ j + c := Nat.le_trans (Nat.div_le_self _ _) (by omega)
  unfold Builtin.Range.small
  rw [e]
  simp only [Builtin.Range.rangeFitsLong, Bool.and_eq_true, Bool.or_eq_true, decide_eq_true_eq, beq_iff_eq, show ((c : Int) > 0) by omega, if_true]
  omega
def iRa3 (ta tb tc : DTE) : DTI := fun e g R => ta e g fun x g1 => tb e g1 fun y g2 => tc e g2 fun z g3 => ∃ i j c : Nat, x = .int i ∧ y = .int j ∧ z = .int c ∧ (i < 1073741824 ∧ j < 1073741824 ∧ 0 < c ∧ c < 1073741824) ∧ R (ranC i c (ranN i j c)) (fun _ => True) g3
section
variable {X : Cx} {a b c tg : Expr} {ta tb tc : DTE} {pos : Pos}
theorem di_range3 {p : Pos} (hg : Gl X "range") (hm : X.mg "range" = none) (ha : DE X a ta) (hb : DE X b tb) (hc : DE X c tc) (hs : starEach [a, b, c] X.env = (false, eval a X.env) :: starEach [b, c] X.env := by rfl) (hpl : (backTo pos (starEach [b, c] X.env)).any (·.1) = false := by rfl)
    (hs2 : starEach [b, c] X.env = (false, eval b X.env) :: starEach [c] X.env := by rfl) (hs3 : starEach [c] X.env = (false, eval c X.env) :: starEach [] X.env := by rfl) : DI X tg (.Call (.Name "range" p) [a, b, c] [] pos) (iRa3 ta tb tc) :=
  ⟨piW (pi_range3 hg hm (pa_cons ha.pe (pa_cons hb.pe (pa_cons hc.pe pa_nil hs3) hs2) hs) hs hpl) fun σ H R ⟨e, g, Rd, re, rg, q, k⟩ =>
    ⟨e, g, _, re, rg, q, fun v d H1 g1 x1 rg1 r1 q1 => ⟨e, g1, _, re.mono x1, rg1, q1, fun v2 d2 H2 g2 x2 rg2 r2 q2 => ⟨e, g2, _, re.mono (x1.trans x2), rg2, q2, fun v3 d3 H3 g3 x3 rg3 r3 q3 => by
      obtain ⟨i, j, c, rfl, rfl, rfl, ⟨b1, b2, b3, b4⟩, q3⟩ := q3
      cases r1
      cases r2
      cases r3
      exact ⟨i, j, c, ranN i j c, rfl, rgc_up b1 b2 b3 b4, k _ _ _ _ _ ((x1.trans x2).trans x3) rg3 itok_ranC q3⟩⟩⟩⟩⟩
theorem s_ra3 {e : EV} {g : GS} {R : List D → (GS → Prop) → GS → Prop} (h : ta e g fun x g1 => tb e g1 fun y g2 => tc e g2 fun z g3 => ∃ i j c : Nat, x = .int i ∧ y = .int j ∧ z = .int c ∧ (i < 1073741824 ∧ j < 1073741824 ∧ 0 < c ∧ c < 1073741824) ∧ R (ranC i c (ranN i j c)) (fun _ => True) g3) : iRa3 ta tb tc e g R := h
theorem x_ra3 {P : Nat → Nat → Nat → Prop} {i j c : Int} (i' j' c' : Nat) (hi : i = (i' : Int)) (hj : j = (j' : Int)) (hc : c = (c' : Int)) (h : i' < 1073741824 ∧ j' < 1073741824 ∧ 0 < c' ∧ c' < 1073741824) (q : P i' j' c') :
    ∃ i1 j1 c1 : Nat, (D.int i) = .int i1 ∧ (D.int j) = .int j1 ∧ (D.int c) = .int c1 ∧ (i1 < 1073741824 ∧ j1 < 1073741824 ∧ 0 < c1 ∧ c1 < 1073741824) ∧ P i1 j1 c1 := ⟨i', j', c', by rw [hi], by rw [hj], by rw [hc], h, q⟩
abbrev shlWD : DR2 := intD CShl fun i j => .int (i * 2 ^ j.toNat)
theorem op_shlWD : DOpR X (binaryOp .LShift) shlWD := op_intD op_shlW fun _ _ _ => .int _
end
theorem v_shlW {g : GS} {Q : DK} {a k : Nat} (B : Nat) (ha : a < 2 ^ B) (hb : B + k ≤ 134217728) (h : Q (.int ((a * 2 ^ k : Nat) : Int)) g) : shlWD (.int (a : Int)) (.int (k : Int)) g Q := by
  refine ⟨⟨by omega, ?_⟩, ?_⟩
  · have : Builtin.Int.intBits (a : Int) ≤ B := by
      unfold Builtin.Int.intBits
      split
      · omega
      · rename_i h0
        have h1 : a ≠ 0 := fun z => h0 (by rw [z]; rfl)
        rw [Int.natAbs_natCast]
        exact (Nat.log2_lt h1).mpr ha
    omega
  · have : ((a : Int) * 2 ^ ((k : Int)).toNat) = ((a * 2 ^ k : Nat) : Int) := by
      rw [Int.toNat_natCast]; simp
    show Q (.int ((a : Int) * 2 ^ ((k : Int)).toNat)) g
    rw [this]
    exact h
end DL

set_option maxHeartbeats 4000000
namespace DL
open PySem PySem.Spec PyProof.Rows L2
/-! coded parts: the plain law -/
def H16 : List Nat := [48, 49, 50, 51, 52, 53, 54, 55, 56, 57, 65, 66, 67, 68, 69, 70]
def hexL (b : Nat) : List Nat := [H16.getD (b / 16) 0, H16.getD (b % 16) 0]
def bytD (bs : List Nat) : List D := bs.map fun b => .int ((b : Nat) : Int)
/-- units of a quoted row -/
def qU : List Nat → List (List Nat)
  | [] => []
  | c :: r => (if c = 61 then [61, 51, 68] else if c = 32 ∧ r = [] then [61, 50, 48] else [c]) :: qU r
def qU0 (c : Nat) : List Nat := if c = 61 then [61, 51, 68] else [c]
theorem qU_len (l : List Nat) : (qU l).length = l.length := by
  induction l with
  | nil => rfl
  | cons c r ih => unfold qU; rw [List.length_cons, List.length_cons, ih]
theorem qU_le (l : List Nat) : ∀ u ∈ qU l, u.length ≤ 3 ∧ 1 ≤ u.length := by
  induction l with
  | nil => intro u h; cases h
  | cons c r ih =>
    intro u h
    unfold qU at h
    rcases List.mem_cons.mp h with rfl | h
    · split
      · simp
      · split <;> simp
    · exact ih u h
theorem qU_prog (l : List Nat) : qU l = if l.getLast? = some 32 then (l.map qU0).set (l.length - 1) [61, 50, 48] else l.map qU0 := by
  induction l with
  | nil => rfl
  | cons c r ih =>
    unfold qU
    rw [ih]
    cases r with
    | nil =>
      by_cases h1 : c = 61
      · subst h1; rfl
      · by_cases h2 : c = 32
        · subst h2; rfl
        · simp [h1, h2, qU0]
    | cons d s =>
      have e1 : (c :: d :: s).getLast? = (d :: s).getLast? := by simp
      rw [e1]
      by_cases h : (d :: s).getLast? = some 32
      · rw [if_pos h, if_pos h]
        simp [qU0]
      · rw [if_neg h, if_neg h]
        simp [qU0]
/-- as many units as stay below the width -/
def tk (w : Nat) : Nat → List (List Nat) → Nat
  | _, [] => 0
  | a, u :: us => if a + u.length < w then tk w (a + u.length) us + 1 else 0
def qR (w : Nat) : Nat → List (List Nat) → List (List Nat)
  | 0, us => [us.flatten]
  | n + 1, us => if us.flatten.length ≤ w then [us.flatten] else ((us.take (tk w 0 us)).flatten ++ [61]) :: qR w n (us.drop (tk w 0 us))
def qRows (w : Nat) (row : List Nat) : List (List Nat) := qR w row.length (qU row)
theorem tk_le (w : Nat) : ∀ (a : Nat) (us : List (List Nat)), tk w a us ≤ us.length
  | _, [] => Nat.le_refl _
  | a, u :: us => by
    unfold tk
    split
    · rw [List.length_cons]; have := tk_le w (a + u.length) us; omega
    · omega
theorem tk_sum (w : Nat) : ∀ (a : Nat) (us : List (List Nat)), a < w → a + (us.take (tk w a us)).flatten.length < w
  | a, [], h => by simp [tk]; exact h
  | a, u :: us, h => by
    unfold tk
    split
    · rename_i h1
      have := tk_sum w (a + u.length) us h1
      rw [List.take_succ_cons, List.flatten_cons, List.length_append]
      omega
    · simp; exact h
theorem tk_stop (w : Nat) : ∀ (a : Nat) (us : List (List Nat)) (j : Nat), a < w → w < a + us.flatten.length → j ≤ tk w a us → ∃ u, us[j]? = some u ∧ (a + (us.take j).flatten.length + u.length < w ↔ j < tk w a us)
  | a, [], j, h0, h, hj => by simp at h; omega
  | a, u :: us, j, h0, h, hj => by
    rw [List.flatten_cons, List.length_append] at h
    by_cases hc : a + u.length < w
    · have e : tk w a (u :: us) = tk w (a + u.length) us + 1 := by
        show (if a + u.length < w then _ else _) = _
        rw [if_pos hc]
      rw [e] at hj ⊢
      cases j with
      | zero => exact ⟨u, rfl, by simp; omega⟩
      | succ j =>
        obtain ⟨v, h1, h2⟩ := tk_stop w (a + u.length) us j hc (by omega) (by omega)
        refine ⟨v, by simpa using h1, ?_⟩
        rw [List.take_succ_cons, List.flatten_cons, List.length_append]
        constructor
        · intro h3; have := h2.mp (by omega); omega
        · intro h3; have := h2.mpr (by omega); omega
    · have e : tk w a (u :: us) = 0 := by
        show (if a + u.length < w then _ else _) = _
        rw [if_neg hc]
      rw [e] at hj ⊢
      have : j = 0 := by omega
      subst this
      exact ⟨u, rfl, by simp; omega⟩
theorem tk_pos {w : Nat} {us : List (List Nat)} (h : us ≠ []) (hu : ∀ u ∈ us, u.length ≤ 3) (hw : 4 ≤ w) : 1 ≤ tk w 0 us := by
  cases us with
  | nil => exact absurd rfl h
  | cons u us =>
    unfold tk
    have := hu u List.mem_cons_self
    rw [if_pos (by omega)]
    omega
theorem qR_end {w n : Nat} {us : List (List Nat)} (h : us.flatten.length ≤ w) : qR w n us = [us.flatten] := by
  cases n with
  | zero => rfl
  | succ n => unfold qR; rw [if_pos h]
theorem qR_go {w n : Nat} {us : List (List Nat)} (h : ¬ us.flatten.length ≤ w) : qR w (n + 1) us = ((us.take (tk w 0 us)).flatten ++ [61]) :: qR w n (us.drop (tk w 0 us)) := by
  show (if us.flatten.length ≤ w then _ else _) = _
  rw [if_neg h]
theorem qR_le {w : Nat} (hw : 4 ≤ w) : ∀ (n : Nat) (us : List (List Nat)), us.length ≤ n → (∀ u ∈ us, u.length ≤ 3) → ∀ r ∈ qR w n us, r.length ≤ w
  | 0, us, h, hu, r, hr => by
    have : us = [] := List.length_eq_zero_iff.mp (by omega)
    subst this
    unfold qR at hr
    rw [List.mem_singleton.mp hr]; simp
  | n + 1, us, h, hu, r, hr => by
    by_cases hc : us.flatten.length ≤ w
    · rw [qR_end hc] at hr
      rw [List.mem_singleton.mp hr]; exact hc
    · rw [qR_go hc] at hr
      have hne : us ≠ [] := fun z => hc (by rw [z]; simp)
      have h1 := tk_pos hne hu hw
      rcases List.mem_cons.mp hr with rfl | hr
      · have := tk_sum w 0 us (by omega)
        rw [List.length_append, List.length_singleton]; omega
      · exact qR_le hw n _ (by rw [List.length_drop]; omega) (fun u hu' => hu u (List.mem_of_mem_drop hu')) r hr
theorem flat_le {us : List (List Nat)} {B : Nat} (h : ∀ u ∈ us, u.length ≤ B) : us.flatten.length ≤ us.length * B := by
  induction us with
  | nil => simp
  | cons u us ih =>
    rw [List.flatten_cons, List.length_append, List.length_cons, Nat.add_mul, Nat.one_mul]
    have := h u List.mem_cons_self
    have := ih fun v hv => h v (List.mem_cons_of_mem _ hv)
    omega
theorem qR_num {w : Nat} : ∀ (n : Nat) (us : List (List Nat)), (qR w n us).length ≤ n + 1
  | 0, us => by unfold qR; simp
  | n + 1, us => by
    unfold qR
    split
    · simp
    · rw [List.length_cons]; have := qR_num (w := w) n (us.drop (tk w 0 us)); omega
/-! ### pieces of one length -/
def pcs {α : Type} (n : Nat) (l : List α) : List (List α) := (List.range (ranN 0 l.length n)).map fun i => (l.drop (i * n)).take n
theorem ranN_0 (L n : Nat) : ranN 0 L n = (L + n - 1) / n := rfl
theorem pcs_nil {α : Type} {n : Nat} (h : 0 < n) : pcs n ([] : List α) = [] := by
  unfold pcs
  rw [ranN_0, List.length_nil, Nat.div_eq_of_lt (by omega)]; rfl
theorem pcs_go {α : Type} {n : Nat} (h : 0 < n) {l : List α} (hl : l ≠ []) : pcs n l = l.take n :: pcs n (l.drop n) := by
  have hp := List.length_pos_iff.mpr hl
  unfold pcs
  have e : ranN 0 l.length n = ranN 0 (l.drop n).length n + 1 := by
    rw [ranN_0, ranN_0, List.length_drop]
    by_cases hc : n ≤ l.length
    · have : l.length + n - 1 = (l.length - n + n - 1) + n := by omega
      rw [this, Nat.add_div_right _ h]
    · have e1 : l.length - n = 0 := by omega
      rw [e1, Nat.div_eq_of_lt (show 0 + n - 1 < n by omega)]
      have : l.length + n - 1 = (l.length - 1) + n := by omega
      rw [this, Nat.add_div_right _ h, Nat.div_eq_of_lt (by omega)]
  rw [e, List.range_succ_eq_map, List.map_cons, List.map_map]
  refine congr (congrArg List.cons (by simp)) (List.map_congr_left fun i _ => ?_)
  show (l.drop ((i + 1) * n)).take n = ((l.drop n).drop (i * n)).take n
  rw [List.drop_drop]
  congr 2
  rw [Nat.add_mul, Nat.one_mul, Nat.add_comm]
theorem pcs_le {α : Type} {n : Nat} {l : List α} : ∀ p ∈ pcs n l, p.length ≤ n := fun p hp => by
  obtain ⟨i, _, rfl⟩ := List.mem_map.mp hp
  rw [List.length_take]; omega
theorem pcs_num {α : Type} {n : Nat} {l : List α} (h : 0 < n) : (pcs n l).length ≤ l.length := by
  unfold pcs
  rw [List.length_map, List.length_range, ranN_0]
  by_cases hl : l.length = 0
  · rw [hl, Nat.div_eq_of_lt (by omega)]; omega
  · have : (l.length + n - 1) / n ≤ (l.length * n) / n := Nat.div_le_div_right (by
      have : l.length + n - 1 ≤ l.length * n := by
        obtain ⟨a, ha⟩ : ∃ a, l.length = a + 1 := ⟨l.length - 1, by omega⟩
        obtain ⟨b, hb⟩ : ∃ b, n = b + 1 := ⟨n - 1, by omega⟩
        rw [ha, hb, Nat.add_mul, Nat.mul_add]
        omega
      exact this)
    rw [Nat.mul_div_cancel _ h] at this
    exact this
theorem take_flat {β : Type} {f : Nat → List β} {k : Nat} (hf : ∀ b, (f b).length = k) : ∀ (n : Nat) (l : List Nat), ((l.map f).flatten).take (n * k) = ((l.take n).map f).flatten
  | 0, l => by simp
  | n + 1, [] => by simp
  | n + 1, b :: l => by
    rw [List.map_cons, List.flatten_cons, List.take_succ_cons, List.map_cons, List.flatten_cons, ← take_flat hf n l, Nat.add_mul, Nat.one_mul]
    rw [show n * k + k = (f b).length + n * k by rw [hf b, Nat.add_comm], List.take_length_add_append]
theorem drop_flat {β : Type} {f : Nat → List β} {k : Nat} (hf : ∀ b, (f b).length = k) : ∀ (n : Nat) (l : List Nat), ((l.map f).flatten).drop (n * k) = ((l.drop n).map f).flatten
  | 0, l => by simp
  | n + 1, [] => by simp
  | n + 1, b :: l => by
    rw [List.map_cons, List.flatten_cons, List.drop_succ_cons, ← drop_flat hf n l, Nat.add_mul, Nat.one_mul]
    rw [show n * k + k = (f b).length + n * k by rw [hf b, Nat.add_comm], List.drop_length_add_append]
/-- pieces of the words of pieces -/
theorem pcs_flat {f : Nat → List Nat} {k n : Nat} (hf : ∀ b, (f b).length = k) (hk : 0 < k) (hn : 0 < n) : ∀ (m : Nat) (l : List Nat), l.length ≤ m → pcs (n * k) ((l.map f).flatten) = (pcs n l).map fun p => (p.map f).flatten
  | 0, l, h => by
    have : l = [] := List.length_eq_zero_iff.mp (by omega)
    subst this
    rw [pcs_nil hn]
    exact pcs_nil (Nat.mul_pos hn hk)
  | m + 1, l, h => by
    by_cases hl : l = []
    · subst hl
      rw [pcs_nil hn]
      exact pcs_nil (Nat.mul_pos hn hk)
    · have hp := List.length_pos_iff.mpr hl
      have hne : (l.map f).flatten ≠ [] := fun z => by
        cases l with
        | nil => exact hl rfl
        | cons b l =>
          have := congrArg List.length z
          rw [List.map_cons, List.flatten_cons, List.length_append, hf b] at this
          simp at this
          omega
      rw [pcs_go hn hl, pcs_go (Nat.mul_pos hn hk) hne, take_flat hf, drop_flat hf, pcs_flat hf hk hn m _ (by rw [List.length_drop]; omega)]
      rfl
theorem hexL_len (b : Nat) : (hexL b).length = 2 := rfl
def pairR (w : Nat) (bs : List Nat) : List (List Nat) := (pcs (w / 2) bs).map fun p => (p.map hexL).flatten
theorem pairR_law {w : Nat} (hw : 2 ≤ w) (bs : List Nat) : pcs (2 * (w / 2)) ((bs.map hexL).flatten) = pairR w bs := by
  rw [Nat.mul_comm]
  exact pcs_flat hexL_len (by omega) (by omega) _ bs (Nat.le_refl _)
/-! ### quads -/
def Q64 : List Nat := [48, 49, 50, 51, 52, 53, 54, 55, 56, 57, 65, 66, 67, 68, 69, 70, 71, 72, 73, 74, 75, 76, 77, 78, 79, 80, 81, 82, 83, 84, 85, 86, 87, 88, 89, 90, 97, 98, 99, 100, 101, 102, 103, 104, 105, 106, 107, 108, 109, 110, 111, 112, 113, 114, 115, 116, 117, 118, 119, 120, 121, 122, 43, 45]
abbrev q64 (n : Nat) : Nat := Q64.getD n 0
def dg6 : Nat → Nat → List Nat
  | 0, _ => []
  | k + 1, n => dg6 k (n / 64) ++ [q64 (n % 64)]
theorem dg6_len : ∀ k n, (dg6 k n).length = k
  | 0, _ => rfl
  | k + 1, n => by unfold dg6; rw [List.length_append, dg6_len k]; rfl
theorem dg6_add (a : Nat) (x : Nat) : ∀ (b y : Nat), y < 64 ^ b → dg6 (a + b) (x * 64 ^ b + y) = dg6 a x ++ dg6 b y
  | 0, y, h => by
    have : y = 0 := by simpa using h
    subst this
    simp [dg6]
  | b + 1, y, h => by
    have e1 : (x * 64 ^ (b + 1) + y) / 64 = x * 64 ^ b + y / 64 := by
      rw [Nat.pow_succ, ← Nat.mul_assoc, Nat.add_comm, Nat.add_mul_div_right _ _ (by omega), Nat.add_comm]
    have e2 : (x * 64 ^ (b + 1) + y) % 64 = y % 64 := by
      rw [Nat.pow_succ, ← Nat.mul_assoc, Nat.add_comm, Nat.add_mul_mod_self_right]
    show dg6 (a + b + 1) _ = _ ++ (dg6 b (y / 64) ++ [q64 (y % 64)])
    show dg6 (a + b) _ ++ _ = _
    rw [e1, e2, dg6_add a x b (y / 64) (by rw [Nat.pow_succ] at h; omega), List.append_assoc]
def nm8 (l : List Nat) : Nat := l.foldl (fun n b => n * 256 + b) 0
theorem nm8_from (l : List Nat) : ∀ a, l.foldl (fun n b => n * 256 + b) a = a * 256 ^ l.length + nm8 l := by
  induction l with
  | nil => intro a; simp [nm8]
  | cons b l ih =>
    intro a
    unfold nm8
    rw [List.foldl_cons, List.foldl_cons, ih, ih (0 * 256 + b), List.length_cons, Nat.pow_succ]
    rw [Nat.add_mul, Nat.mul_assoc, Nat.mul_comm 256 (256 ^ l.length), Nat.zero_mul, Nat.zero_add]
    omega
theorem nm8_app (a b : List Nat) : nm8 (a ++ b) = nm8 a * 256 ^ b.length + nm8 b := by
  unfold nm8
  rw [List.foldl_append, nm8_from]
  rfl
theorem nm8_lt : ∀ (l : List Nat), (∀ b ∈ l, b < 256) → nm8 l < 256 ^ l.length
  | [], _ => by simp [nm8]
  | b :: l, h => by
    have e : nm8 (b :: l) = b * 256 ^ l.length + nm8 l := by
      have := nm8_app [b] l
      simpa [nm8] using this
    have h1 := nm8_lt l fun x hx => h x (List.mem_cons_of_mem _ hx)
    have h2 : b * 256 ^ l.length ≤ 255 * 256 ^ l.length := Nat.mul_le_mul_right _ (by have := h b List.mem_cons_self; omega)
    rw [e, List.length_cons, Nat.pow_succ]
    omega
def qd (g : List Nat) : List Nat := dg6 (g.length + 1) (nm8 g * 2 ^ (2 * (3 - g.length)))
theorem qd_len (g : List Nat) : (qd g).length = g.length + 1 := dg6_len _ _
def spr (L : Nat) : Nat := 2 * ((3 - L % 3) % 3)
def ndg (L : Nat) : Nat := (8 * L + spr L) / 6
theorem spr_eq (L : Nat) : 8 * L + spr L = 6 * ndg L := by
  unfold ndg spr
  omega
def quadT (bs : List Nat) : List Nat := dg6 (ndg bs.length) (nm8 bs * 2 ^ spr bs.length)
theorem quadT_words : ∀ (m : Nat) (bs : List Nat), bs.length ≤ m → (∀ b ∈ bs, b < 256) → quadT bs = ((pcs 3 bs).map qd).flatten
  | 0, bs, h, _ => by
    have : bs = [] := List.length_eq_zero_iff.mp (by omega)
    subst this
    rw [pcs_nil (by omega)]
    rfl
  | m + 1, bs, h, hb => by
    by_cases hl : bs = []
    · subst hl
      rw [pcs_nil (by omega)]
      rfl
    have hp := List.length_pos_iff.mpr hl
    rw [pcs_go (by omega) hl, List.map_cons, List.flatten_cons]
    by_cases h3 : 3 ≤ bs.length
    · rw [← quadT_words m (bs.drop 3) (by rw [List.length_drop]; omega) fun b hb' => hb b (List.mem_of_mem_drop hb')]
      have eb : bs = bs.take 3 ++ bs.drop 3 := (List.take_append_drop 3 bs).symm
      have hg : (bs.take 3).length = 3 := by rw [List.length_take]; omega
      have hr : (bs.drop 3).length = bs.length - 3 := List.length_drop
      generalize bs.take 3 = g at *
      generalize bs.drop 3 = r at *
      subst eb
      have hgl : (g ++ r).length = 3 + r.length := by rw [List.length_append, hg]
      have e1 : spr (3 + r.length) = spr r.length := by unfold spr; omega
      have e2 : ndg (3 + r.length) = 4 + ndg r.length := by unfold ndg; rw [e1]; omega
      have e64 : (64 : Nat) ^ ndg r.length = 256 ^ r.length * 2 ^ spr r.length := by
        have h1 : (64 : Nat) = 2 ^ 6 := rfl
        have h2 : (256 : Nat) = 2 ^ 8 := rfl
        rw [h1, h2, ← Nat.pow_mul, ← Nat.pow_mul, ← Nat.pow_add, ← spr_eq]
      have hy : nm8 r * 2 ^ spr r.length < 64 ^ ndg r.length := by
        rw [e64]
        exact Nat.mul_lt_mul_of_pos_right (nm8_lt r fun b hb' => hb b (List.mem_append_right _ hb')) (Nat.pow_pos (by omega))
      unfold quadT qd
      rw [hgl, hg, e1, e2, nm8_app]
      have e3 : (nm8 g * 256 ^ r.length + nm8 r) * 2 ^ spr r.length = nm8 g * 64 ^ ndg r.length + nm8 r * 2 ^ spr r.length := by
        rw [e64, Nat.add_mul, Nat.mul_assoc]
      rw [e3, dg6_add 4 _ _ _ hy]
      simp
    · have e1 : bs.take 3 = bs := List.take_of_length_le (by omega)
      have e2 : bs.drop 3 = [] := List.drop_of_length_le (by omega)
      rw [e1, e2, pcs_nil (by omega)]
      unfold quadT qd
      have : bs.length = 1 ∨ bs.length = 2 := by omega
      rcases this with e | e <;> rw [e] <;> simp [ndg, spr]
/-- words of four signs, the last may have less -/
def W4 : List (List Nat) → Prop
  | [] => True
  | [w] => 1 ≤ w.length ∧ w.length ≤ 4
  | w :: v :: ws => w.length = 4 ∧ W4 (v :: ws)
theorem W4.take : ∀ (n : Nat) (ws : List (List Nat)), W4 ws → ws.flatten.take (n * 4) = (ws.take n).flatten
  | 0, ws, _ => by simp
  | n + 1, [], _ => by simp
  | n + 1, [w], h => by
    have : w.length ≤ 4 := h.2
    have e : [w].flatten = w := by simp
    rw [List.take_succ_cons, List.take_nil, e, List.take_of_length_le (by omega)]
  | n + 1, w :: v :: ws, h => by
    have ih := W4.take n (v :: ws) h.2
    show (w ++ (v :: ws).flatten).take ((n + 1) * 4) = w ++ ((v :: ws).take n).flatten
    rw [← ih, Nat.add_mul, Nat.one_mul]
    rw [show n * 4 + 4 = w.length + n * 4 by rw [h.1, Nat.add_comm], List.take_length_add_append]
theorem W4.drop : ∀ (n : Nat) (ws : List (List Nat)), W4 ws → ws.flatten.drop (n * 4) = (ws.drop n).flatten ∧ W4 (ws.drop n)
  | 0, ws, h => by simp; exact h
  | n + 1, [], _ => by simp [W4]
  | n + 1, [w], h => by
    have : w.length ≤ 4 := h.2
    simp [W4]
    omega
  | n + 1, w :: v :: ws, h => by
    obtain ⟨ih, i2⟩ := W4.drop n (v :: ws) h.2
    refine ⟨?_, i2⟩
    show (w ++ (v :: ws).flatten).drop ((n + 1) * 4) = ((v :: ws).drop n).flatten
    rw [← ih, Nat.add_mul, Nat.one_mul]
    rw [show n * 4 + 4 = w.length + n * 4 by rw [h.1, Nat.add_comm], List.drop_length_add_append]
theorem W4.ne {ws : List (List Nat)} (h : W4 ws) (hn : ws ≠ []) : ws.flatten ≠ [] := fun z => by
  match ws, h, hn with
  | [w], h, _ =>
    have h1 : 1 ≤ w.length := h.1
    simp at z
    rw [z] at h1
    simp at h1
  | w :: v :: ws, h, _ =>
    have h1 : w.length = 4 := h.1
    simp at z
    rw [z.1] at h1
    simp at h1
theorem W4.pcs {n : Nat} (hn : 0 < n) : ∀ (m : Nat) (ws : List (List Nat)), ws.length ≤ m → W4 ws → pcs (n * 4) ws.flatten = (pcs n ws).map List.flatten
  | 0, ws, h, _ => by
    have : ws = [] := List.length_eq_zero_iff.mp (by omega)
    subst this
    rw [pcs_nil hn]
    exact pcs_nil (by omega)
  | m + 1, ws, h, h4 => by
    by_cases hl : ws = []
    · subst hl
      rw [pcs_nil hn]
      exact pcs_nil (by omega)
    · have hp := List.length_pos_iff.mpr hl
      obtain ⟨h5, h6⟩ := W4.drop n ws h4
      rw [pcs_go hn hl, pcs_go (by omega) (h4.ne hl), W4.take n ws h4, h5, W4.pcs hn m _ (by rw [List.length_drop]; omega) h6]
      rfl
theorem words_W4 : ∀ (m : Nat) (bs : List Nat), bs.length ≤ m → W4 ((DL.pcs 3 bs).map qd)
  | 0, bs, h => by
    have : bs = [] := List.length_eq_zero_iff.mp (by omega)
    subst this
    rw [pcs_nil (by omega)]
    trivial
  | m + 1, bs, h => by
    by_cases hl : bs = []
    · subst hl
      rw [pcs_nil (by omega)]
      trivial
    have hp := List.length_pos_iff.mpr hl
    have ih := words_W4 m (bs.drop 3) (by rw [List.length_drop]; omega)
    rw [pcs_go (by omega) hl, List.map_cons]
    have hq := qd_len (bs.take 3)
    rw [List.length_take] at hq
    cases e : DL.pcs 3 (bs.drop 3) with
    | nil => exact ⟨by omega, by omega⟩
    | cons p ps =>
      rw [e] at ih
      have : bs.drop 3 ≠ [] := fun z => by rw [z, pcs_nil (by omega)] at e; cases e
      have h3 : 3 < bs.length := by
        have := List.length_pos_iff.mpr this
        rw [List.length_drop] at this
        omega
      exact ⟨by omega, ih⟩
def quadR (w : Nat) (bs : List Nat) : List (List Nat) := (pcs (w / 4) ((pcs 3 bs).map qd)).map List.flatten
theorem quadR_law {w : Nat} (hw : 4 ≤ w) (bs : List Nat) (hb : ∀ b ∈ bs, b < 256) : pcs (4 * (w / 4)) (quadT bs) = quadR w bs := by
  rw [quadT_words _ bs (Nat.le_refl _) hb, Nat.mul_comm]
  exact W4.pcs (by omega) _ _ (Nat.le_refl _) (words_W4 _ bs (Nat.le_refl _))
/-! ### runs -/
def rgo : Nat → Nat → List Nat → List (Nat × Nat)
  | c, b, [] => [(c, b)]
  | c, b, x :: r => if x = b ∧ c < 99 then rgo (c + 1) b r else (c, b) :: rgo 1 x r
def runsB : List Nat → List (Nat × Nat)
  | [] => []
  | b :: r => rgo 1 b r
theorem rgo_stop {c b : Nat} {r : List Nat} (h : ∀ x, r.head? = some x → ¬ (x = b ∧ c < 99)) : rgo c b r = (c, b) :: runsB r := by
  cases r with
  | nil => rfl
  | cons x r =>
    show (if x = b ∧ c < 99 then _ else _) = _
    rw [if_neg (h x rfl)]; rfl
theorem rgo_go {c b x : Nat} {r : List Nat} (h : x = b ∧ c < 99) : rgo c b (x :: r) = rgo (c + 1) b r := by
  show (if x = b ∧ c < 99 then _ else _) = _
  rw [if_pos h]
theorem rgo_num : ∀ (r : List Nat) (c b : Nat), (rgo c b r).length ≤ r.length + 1
  | [], c, b => by simp [rgo]
  | x :: r, c, b => by
    unfold rgo
    split
    · have := rgo_num r (c + 1) b; rw [List.length_cons]; omega
    · have := rgo_num r 1 x; rw [List.length_cons, List.length_cons]; omega
theorem runsB_num (l : List Nat) : (runsB l).length ≤ l.length := by
  cases l with
  | nil => simp [runsB]
  | cons b r => have := rgo_num r 1 b; rw [List.length_cons]; exact this
theorem rgo_mem : ∀ (r : List Nat) (c b : Nat), c ≤ 99 → ∀ q ∈ rgo c b r, q.1 ≤ 99
  | [], c, b, h, q, hq => by
    unfold rgo at hq
    rw [List.mem_singleton.mp hq]; exact h
  | x :: r, c, b, h, q, hq => by
    unfold rgo at hq
    split at hq
    · rename_i hc
      exact rgo_mem r (c + 1) b (by omega) q hq
    · rcases List.mem_cons.mp hq with rfl | hq
      · exact h
      · exact rgo_mem r 1 x (by omega) q hq
theorem runsB_mem (l : List Nat) : ∀ q ∈ runsB l, q.1 ≤ 99 := by
  cases l with
  | nil => intro q h; cases h
  | cons b r => exact rgo_mem r 1 b (by omega)
theorem rgo_byte : ∀ (r : List Nat) (c b : Nat), ∀ q ∈ rgo c b r, q.2 = b ∨ q.2 ∈ r
  | [], c, b, q, hq => by
    unfold rgo at hq
    rw [List.mem_singleton.mp hq]; exact .inl rfl
  | x :: r, c, b, q, hq => by
    unfold rgo at hq
    split at hq
    · exact (rgo_byte r (c + 1) b q hq).imp id (List.mem_cons_of_mem _)
    · rcases List.mem_cons.mp hq with rfl | hq
      · exact .inl rfl
      · rcases rgo_byte r 1 x q hq with h | h
        · exact .inr (by rw [h]; exact List.mem_cons_self)
        · exact .inr (List.mem_cons_of_mem _ h)
theorem runsB_byte (l : List Nat) : ∀ q ∈ runsB l, q.2 ∈ l := by
  cases l with
  | nil => intro q h; cases h
  | cons b r =>
    intro q h
    rcases rgo_byte r 1 b q h with h | h
    · rw [h]; exact List.mem_cons_self
    · exact List.mem_cons_of_mem _ h
def wordR (q : Nat × Nat) : List Nat := TL.numL q.1 ++ [120] ++ hexL q.2
/-- words joined as long as they fit -/
def wst (w : Nat) (acc : List (List Nat)) (x : List Nat) : List (List Nat) := match acc.getLast? with
  | some l => if l.length + 1 + x.length ≤ w then acc.dropLast ++ [l ++ [32] ++ x] else acc ++ [x]
  | none => acc ++ [x]
def runR (w : Nat) (bs : List Nat) : List (List Nat) := ((runsB bs).map wordR).foldl (wst w) []
theorem wst_le {w : Nat} {acc : List (List Nat)} {x : List Nat} (h : ∀ r ∈ acc, r.length ≤ w) (hx : x.length ≤ w) : ∀ r ∈ wst w acc x, r.length ≤ w := by
  intro r hr
  unfold wst at hr
  split at hr
  · split at hr
    · rename_i l _ hc
      rcases List.mem_append.mp hr with hr | hr
      · exact h r (List.dropLast_subset _ hr)
      · rw [List.mem_singleton.mp hr]
        simp only [List.length_append, List.length_singleton]
        exact hc
    · rcases List.mem_append.mp hr with hr | hr
      · exact h r hr
      · rw [List.mem_singleton.mp hr]; exact hx
  · rcases List.mem_append.mp hr with hr | hr
    · exact h r hr
    · rw [List.mem_singleton.mp hr]; exact hx
theorem wst_num {w : Nat} {acc : List (List Nat)} {x : List Nat} : (wst w acc x).length ≤ acc.length + 1 := by
  unfold wst
  split
  · split
    · simp
    · simp
  · simp
theorem fold_wst_le {w : Nat} : ∀ (xs acc : List (List Nat)), (∀ r ∈ acc, r.length ≤ w) → (∀ x ∈ xs, x.length ≤ w) → ∀ r ∈ xs.foldl (wst w) acc, r.length ≤ w
  | [], acc, h, _, r, hr => h r hr
  | x :: xs, acc, h, hx, r, hr => fold_wst_le xs (wst w acc x) (wst_le h (hx x List.mem_cons_self)) (fun y hy => hx y (List.mem_cons_of_mem _ hy)) r hr
theorem fold_wst_num {w : Nat} : ∀ (xs acc : List (List Nat)), (xs.foldl (wst w) acc).length ≤ acc.length + xs.length
  | [], acc => by simp
  | x :: xs, acc => by
    have h1 := fold_wst_num (w := w) xs (wst w acc x)
    have h2 := @wst_num w acc x
    rw [List.foldl_cons, List.length_cons]
    omega
theorem numL_le {n : Nat} (h : n ≤ 99) : (TL.numL n).length ≤ 2 := by
  have : ∀ n, n < 100 → (TL.numL n).length ≤ 2 := by decide +kernel
  exact this n (by omega)
theorem wordR_le {q : Nat × Nat} (h : q.1 ≤ 99) : (wordR q).length ≤ 5 := by
  have := numL_le h
  unfold wordR
  simp only [List.length_append, List.length_singleton, hexL_len]
  omega
/-! ### places told by naturals -/
section
variable {g : GS} {Q : DK} {k : FK} {g0 : GS} {lo : FL} {p : Addr} {b : Bool}
theorem v_ixMN {l : List Nat} {i : Int} (n : Nat) (hi : i = (n : Int)) (hn : n < l.length) (hz : l.length ≤ 16777216) (h : Q (.str (mk [l.getD n 0])) g) : ixD (.str (mk l)) (.int i) g Q := by
  subst hi
  refine v_ixM hz (atI_ofNat (i := (n : Int)) (x := l.getD n 0) ?_ (by omega)) h
  rw [Int.toNat_natCast, List.getD_eq_getElem?_getD, List.getElem?_eq_getElem hn]; rfl
theorem v_ixTN {ds : List DL.D} {d : DL.D} {i : Int} (n : Nat) (hi : i = (n : Int)) (ha : ds[n]? = some d) (h : Q d g) : ixD (.tup ds) (.int i) g Q := by
  subst hi
  exact v_ixT (atI_ofNat (by rw [Int.toNat_natCast]; exact ha) (by omega)) h
theorem k_ixLN {ds : List DL.D} {d : DL.D} {i : Int} (n : Nat) (hi : i = (n : Int)) (F : Fr k g0 g lo) (m : Nat) (e : lo[m]? = some (p, .lst ds, b)) (ha : ds[n]? = some d) (h : Q d g) : ixD (.ref p) (.int i) g Q := by
  subst hi
  exact v_ixL (F.at m e) (atI_ofNat (by rw [Int.toNat_natCast]; exact ha) (by omega)) h
end
theorem ends1 (l : List Nat) (c : Nat) : Txt.endswith (mk l) (mk [c]) = decide (l.getLast? = some c) := by
  unfold Txt.endswith
  have e1 : (mk l : Str).length = l.length := by rw [TL.len_tl, tl_mk]
  have e2 : (mk [c] : Str).length = 1 := rfl
  have e3 : (mk l : Str).cps.toList = l := rfl
  have e4 : (mk [c] : Str).cps.toList = [c] := rfl
  rw [StrLaws.subAt_eq, e1, e2, e3, e4]
  rcases List.eq_nil_or_concat l with rfl | ⟨r, x, rfl⟩
  · rfl
  · rw [List.concat_eq_append, List.getLast?_append]
    have : (r ++ [x]).drop ((r ++ [x]).length - 1) = [x] := by
      rw [List.length_append, List.length_singleton, Nat.add_sub_cancel]
      exact List.drop_left
    rw [this]
    simp
    by_cases h : x = c <;> simp [h]
theorem starts1 (l : List Nat) (c : Nat) : Txt.startswith (mk l) (mk [c]) = decide (l.head? = some c) := by
  unfold Txt.startswith
  have e1 : (mk l : Str).length = l.length := by rw [TL.len_tl, tl_mk]
  have e2 : (mk [c] : Str).length = 1 := rfl
  have e3 : (mk l : Str).cps.toList = l := rfl
  have e4 : (mk [c] : Str).cps.toList = [c] := rfl
  rw [StrLaws.subAt_eq, e1, e2, e3, e4]
  cases l with
  | nil => rfl
  | cons x r =>
    simp
    by_cases h : x = c <;> simp [h]
section
variable {g : GS} {Q : DK} {α : Type} {k : FK} {g0 : GS} {lo : FL} {p : Addr} {b : Bool}
theorem v_ends1 {l : List Nat} {c : Nat} (h : Q (.bl (decide (l.getLast? = some c))) g) : endsD (.str (mk l)) [.str (mk [c])] g Q := by
  show Q (.bl (Txt.endswith (mk l) (mk [c]))) g
  rw [ends1]; exact h
theorem v_starts1 {l : List Nat} {c : Nat} (h : Q (.bl (decide (l.head? = some c))) g) : startsD (.str (mk l)) [.str (mk [c])] g Q := by
  show Q (.bl (Txt.startswith (mk l) (mk [c]))) g
  rw [starts1]; exact h
end
theorem sum_len (us : List (List Nat)) : (us.map fun u => ((u.length : Nat) : Int)).sum = ((us.flatten.length : Nat) : Int) := by
  induction us with
  | nil => rfl
  | cons u us ih => rw [List.map_cons, List.sum_cons, ih, List.flatten_cons, List.length_append]; omega
/-- rows of texts -/
abbrev rwD (us : List (List Nat)) : List D := us.map fun u => .str (mk u)
theorem joinL_flat (us : List (List Nat)) : TL.joinL [] us = us.flatten := joinL_nil us
theorem rwD_app (a b : List (List Nat)) : rwD (a ++ b) = rwD a ++ rwD b := List.map_append
theorem rwD_drop (n : Nat) (a : List (List Nat)) : (rwD a).drop n = rwD (a.drop n) := List.map_drop.symm
theorem rwD_take (n : Nat) (a : List (List Nat)) : (rwD a).take n = rwD (a.take n) := List.map_take.symm
theorem rwD_len (a : List (List Nat)) : (rwD a).length = a.length := List.length_map _
theorem rwD_get {a : List (List Nat)} {n : Nat} {u : List Nat} (h : a[n]? = some u) : (rwD a)[n]? = some (.str (mk u)) := by unfold rwD; rw [List.getElem?_map, h]; rfl
theorem k_joinE {g : GS} {Q : DK} {k : FK} {g0 : GS} {lo : FL} {p : Addr} {b : Bool} {us : List (List Nat)} (B : Nat) (F : Fr k g0 g lo) (n : Nat) (e : lo[n]? = some (p, .lst (rwD us), b)) (hB : ∀ u ∈ us, u.length ≤ B) (hz : us.length * B ≤ 16777216)
    (h : us.flatten.length ≤ us.length * B → Q (.str (mk us.flatten)) g) : joinD (.str (mk [])) [.ref p] g Q :=
  k_joinM (f := id) B F n e hB (by simpa using hz) fun hl => by
    rw [List.map_id, joinL_flat] at hl ⊢
    exact h (by simpa using hl)
theorem bytD_len (bs : List Nat) : (bytD bs).length = bs.length := List.length_map _
theorem bytD_piece (bs : List Nat) (i s : Nat) : ((bytD bs).drop i).take s = bytD ((bs.drop i).take s) := by
  unfold bytD
  rw [List.map_take, List.map_drop]
theorem bytD_get {bs : List Nat} {i b : Nat} (h : bs[i]? = some b) : (bytD bs)[i]? = some (.int (b : Int)) := by unfold bytD; rw [List.getElem?_map, h]; rfl
section
variable {g : GS} {Q : DK} {k : FK} {g0 : GS} {lo : FL} {p : Addr} {b : Bool}
theorem v_slPT {xs : List DL.D} {x y : Int} (i s : Nat) (hx : x = (i : Int)) (hy : y = ((i + s : Nat) : Int)) (h : Q (.tup ((xs.drop i).take s)) g) : slD (.tup xs) (some x) (some y) g Q := by
  subst hx hy
  show Q (.tup (cutD xs _ _)) g
  rw [cutD_mid (by omega) (by omega), Int.toNat_natCast, Int.toNat_natCast, List.drop_take, Nat.add_sub_cancel_left]
  exact h
theorem k_slPL {xs : List DL.D} {x y : Int} (i s : Nat) (hx : x = (i : Int)) (hy : y = ((i + s : Nat) : Int)) (F : Fr k g0 g lo) (n : Nat) (e : lo[n]? = some (p, .lst xs, b)) (h : ∀ r g', Fr k g0 g' ((r, .lst ((xs.drop i).take s), true) :: lo) → Q (.ref r) g') : slD (.ref p) (some x) (some y) g Q := by
  subst hx hy
  refine ⟨xs, .inl (F.at n e), fun r hr => ?_⟩
  rw [cutD_mid (by omega) (by omega), Int.toNat_natCast, Int.toNat_natCast, List.drop_take, Nat.add_sub_cancel_left]
  exact h r _ (F.new _ hr)
theorem v_slPS {xs : List Nat} {x y : Int} (i s : Nat) (hx : x = (i : Int)) (hy : y = ((i + s : Nat) : Int)) (hz : xs.length ≤ 16777216) (h : Q (.str (mk ((xs.drop i).take s))) g) : slD (.str (mk xs)) (some x) (some y) g Q := by
  subst hx hy
  refine v_slMid (by omega) (by omega) hz ?_
  rw [Int.toNat_natCast, Int.toNat_natCast, List.drop_take, Nat.add_sub_cancel_left]
  exact h
end
theorem dg6_front (n : Nat) : ∀ i, dg6 (i + 1) n = q64 ((n / 64 ^ i) % 64) :: dg6 i n
  | 0 => by simp [dg6]
  | i + 1 => by
    show dg6 (i + 1) (n / 64) ++ [q64 (n % 64)] = _
    rw [dg6_front (n / 64) i, Nat.div_div_eq_div_mul, Nat.pow_succ, Nat.mul_comm 64]
    rfl
theorem nm8_take {l : List Nat} {i b : Nat} (h : l[i]? = some b) : nm8 (l.take (i + 1)) = nm8 (l.take i) * 256 + b := by
  rw [take_snoc h, nm8_app]
  simp [nm8]
theorem getLast_drop {α : Type} {l : List α} (h : l ≠ []) : ∃ x, l.getLast? = some x ∧ l[l.length - 1]? = some x ∧ l = l.dropLast ++ [x] :=
  ⟨l.getLast h, List.getLast?_eq_some_getLast h, by rw [← List.getLast?_eq_getElem?]; exact List.getLast?_eq_some_getLast h, (List.dropLast_concat_getLast h).symm⟩
theorem set_last {α : Type} {l : List α} {y : α} (h : l ≠ []) : l.set (l.length - 1) y = l.dropLast ++ [y] := by
  obtain ⟨x, _, _, e⟩ := getLast_drop h
  generalize l.dropLast = r at *
  subst e
  rw [List.length_append, List.length_singleton, Nat.add_sub_cancel]
  simp
/-- a part that is no parts -/
inductive Prt where
  | txt (q : Bool) (rows : List (List Nat))
  | dat (c : Fin 3) (bs : List Nat)
abbrev textS : Str := mk [116, 101, 120, 116]
abbrev dataS : Str := mk [100, 97, 116, 97]
abbrev plainL : List Nat := [112, 108, 97, 105, 110]
abbrev quotedL : List Nat := [113, 117, 111, 116, 101, 100]
abbrev pairsL : List Nat := [112, 97, 105, 114, 115]
abbrev quadsL : List Nat := [113, 117, 97, 100, 115]
abbrev runsL : List Nat := [114, 117, 110, 115]
def datL : Fin 3 → List Nat
  | 0 => pairsL
  | 1 => quadsL
  | 2 => runsL
def Prt.ds : Prt → List D
  | .txt q rows => [.str textS, .str (mk (if q = true then quotedL else plainL)), .tup (rwD rows)]
  | .dat c bs => [.str dataS, .str (mk (datL c)), .tup (bytD bs)]
def Prt.ok : Prt → Prop
  | .txt _ rows => rows.length ≤ 20 ∧ ∀ r ∈ rows, r.length ≤ 200
  | .dat _ bs => bs.length ≤ 120 ∧ ∀ b ∈ bs, b < 256
def codL (w : Nat) : Prt → List (List Nat)
  | .txt false rows => rows
  | .txt true rows => (rows.map (qRows w)).flatten
  | .dat 0 bs => pairR w bs
  | .dat 1 bs => quadR w bs
  | .dat 2 bs => runR w bs
theorem v_strN {g : GS} {Q : DK} {c : Nat} (hc : c < 18446744073709551616) (h : Q (.str (mk (TL.numL c))) g) : strF [.int (c : Int)] g Q :=
  v_str (logOk ⟨by omega, by omega⟩) (by
    have := num_mk (v := (c : Int)) (by omega)
    rw [Int.toNat_natCast] at this
    show Q (.str (Str.ofString (toString (c : Int)))) g
    rw [this]
    exact h)
theorem v_strI {g : GS} {Q : DK} {i : Int} (h0 : 0 ≤ i) (hc : i < 18446744073709551616) (h : Q (.str (mk (TL.numL i.toNat))) g) : strF [.int i] g Q :=
  v_str (logOk ⟨by omega, by omega⟩) (by
    have := num_mk (v := i) h0
    show Q (.str (Str.ofString (toString i))) g
    rw [this]
    exact h)
theorem k_ext {g : GS} {Q : DK} {k : FK} {g0 : GS} {lo : FL} {p q : Addr} {b' : Bool} {xs ys : List DL.D} (F : Fr k g0 g lo) (n n' : Nat) (e : lo[n]? = some (p, .lst xs, true)) (e' : lo[n']? = some (q, .lst ys, b')) (hz : xs.length + ys.length ≤ 16777216)
    (h : ∀ g', Fr k g0 g' (lo.set n (p, .lst (xs ++ ys), true)) → Q .non g') : extD (.ref p) [.ref q] g Q := ⟨xs, ys, F.at n e, F.at n' e', by rw [szl]; exact hz, h _ (F.mut n _ e)⟩
theorem v_strB {g : GS} {Q : DK} {i : Int} (k B : Nat) (hk : 0 < k) (hB : B = 10 ^ k) (hB2 : B ≤ 1000000000000000000) (h0 : 0 ≤ i) (hi : i < B) (h : ∀ r : List Nat, r.length ≤ k → Q (.str (mk r)) g) : strF [.int i] g Q :=
  v_strI h0 (by omega) (h _ (TL.numL_len hk (by rw [← hB]; omega)))
theorem v_inI2 {g : GS} {Q : DK} {t a b : Int} (h : Q (.bl (decide (t = a ∨ t = b))) g) : inD (.int t) (.tup [.int a, .int b]) g Q :=
  v_inTI (us := [a, b]) (by
    have : decide (t ∈ [a, b]) = decide (t = a ∨ t = b) := decide_eq_decide.mpr (by simp)
    rw [this]; exact h)
theorem eqP_bl (a b : Bool) : eqP (.bl a) (.bl b) = decide (a = b) := by cases a <;> cases b <;> decide +kernel
theorem k_notInB {g : GS} {Q : DK} {α : Type} {k : FK} {g0 : GS} {lo : FL} {p : Addr} {b : Bool} {xs : List α} {f : α → Bool} (F : Fr k g0 g lo) (n : Nat) (e : lo[n]? = some (p, .lst (xs.map fun x => .bl (f x)), b)) (h : Q (.bl (xs.all f)) g) : notInD (.bl false) (.ref p) g Q := by
  refine ⟨_, .inl (F.at n e), .inl ⟨rfl, by simp [scalD]⟩, ?_⟩
  show Q (.bl (!((xs.map fun x => D.bl (f x)).any fun z => eqP z (.bl false)))) g
  have : (!((xs.map fun x => D.bl (f x)).any fun z => eqP z (.bl false))) = xs.all f := by
    clear e h
    induction xs with
    | nil => rfl
    | cons x xs ih =>
      rw [List.map_cons, List.any_cons, eqP_bl, Bool.not_or, ih, List.all_cons]
      cases f x <;> rfl
  rw [this]; exact h
/-- a call that may change one own object -/
theorem Fr.call2 {s : SI} {m m' : Nat} {g0 g g' : GS} {l : FL} {R : Addr} {o o' : MO} (F : Fr (.go s m) g0 g l) (i : Nat) (e : l[i]? = some (R, o, true)) (u : Up [s.L, R] g g') (S' : Src s g' m') (h : g' R = some o') : Fr (.go s m') g0 g' (l.set i (R, o', true)) := by
  have f0 := F.fresh i e
  have F2 := F.mut i o' e
  have nL := F.neL i e
  have keep : ∀ a o, a ≠ s.L → a ≠ R → g a = some o → g' a = some o := fun a o h1 h2 h3 => u.1 a o (by simp [h1, h2]) h3
  have G : Go s (gup g R o') g' m' := by
    refine ⟨⟨fun a o ha hg => ?_, fun a ha => ?_⟩, S'⟩
    · by_cases hR : a = R
      · subst hR
        rw [gup_same] at hg
        cases hg
        exact h
      · rw [gup_ne hR] at hg
        exact keep a o (fun z => ha (by rw [z]; exact List.mem_singleton.mpr rfl)) hR hg
    · by_cases hR : a = R
      · subst hR
        rw [h]; exact fun z => by cases z
      · rw [gup_ne hR] at ha
        exact u.2 a ha
  exact F2.call G
end DL

set_option maxHeartbeats 4000000
namespace DL
open PySem PySem.Spec PyProof.Rows L2
/-! dictionaries whose keys are texts, as rows of pairs -/
abbrev AL (α : Type) := List (Str × α)
section
variable {α : Type} {td : α → D} {l : AL α} {k : Str} {v : α}
def encS (td : α → D) (l : AL α) : List (L2.Key × D) := l.map fun p => (.inr p.1, td p.2)
def lkS (l : AL α) (k : Str) : Option α := (l.find? fun p => decide (p.1 = k)).map (·.2)
def ptS (l : AL α) (k : Str) (v : α) : AL α := if (l.any fun p => decide (p.1 = k)) = true then l.map (fun p => if p.1 = k then (p.1, v) else p) else l ++ [(k, v)]
theorem inr_dec (a b : Str) : decide ((Sum.inr a : L2.Key) = Sum.inr b) = decide (a = b) := decide_eq_decide.mpr ⟨fun h => Sum.inr.inj h, fun h => by rw [h]⟩
theorem getD_encO : getD (encS td l) (.inr k) = (lkS l k).map td := by
  unfold getD encS lkS
  induction l with
  | nil => rfl
  | cons p r ih =>
    rw [List.map_cons, List.find?_cons, List.find?_cons]
    show Option.map _ (match decide ((Sum.inr p.1 : L2.Key) = Sum.inr k) with | true => _ | false => _) = _
    rw [inr_dec]
    cases decide (p.1 = k) with
    | true => rfl
    | false => exact ih
theorem enc_any : ((encS td l).any fun kv => decide (kv.1 = (Sum.inr k : L2.Key))) = l.any fun p => decide (p.1 = k) := by
  unfold encS
  rw [List.any_map]
  exact congrArg (fun f => List.any l f) (funext fun p => inr_dec p.1 k)
theorem putD_encO : putD (encS td l) (.inr k) (td v) = encS td (ptS l k v) := by
  unfold putD ptS
  rw [enc_any]
  split
  · unfold encS
    rw [List.map_map, List.map_map]
    refine List.map_congr_left fun p _ => ?_
    show (if (Sum.inr p.1 : L2.Key) = Sum.inr k then (Sum.inr p.1, td v) else (Sum.inr p.1, td p.2)) = _
    by_cases h : p.1 = k
    · rw [if_pos (by rw [h])]
      show _ = (Sum.inr (if p.1 = k then (p.1, v) else p).1, td (if p.1 = k then (p.1, v) else p).2)
      rw [if_pos h]
    · rw [if_neg fun e => h (Sum.inr.inj e)]
      show _ = (Sum.inr (if p.1 = k then (p.1, v) else p).1, td (if p.1 = k then (p.1, v) else p).2)
      rw [if_neg h]
  · unfold encS
    rw [List.map_append]; rfl
theorem encS_len : (encS td l).length = l.length := List.length_map ..
theorem encS_keys : (encS td l).map (·.1) = (l.map (·.1)).map Sum.inr := by unfold encS; rw [List.map_map, List.map_map]; rfl
theorem lkS_nil : lkS ([] : AL α) k = none := rfl
theorem lk_any : (l.any fun p => decide (p.1 = k)) = (lkS l k).isSome := by
  unfold lkS
  rw [Option.isSome_map]
  induction l with
  | nil => rfl
  | cons p r ih =>
    rw [List.any_cons, List.find?_cons]
    cases decide (p.1 = k) with
    | true => rfl
    | false => rw [Bool.false_or]; exact ih
theorem lk_mem : (lkS l k).isSome = true ↔ k ∈ l.map (·.1) := by
  rw [← lk_any, List.any_eq_true, List.mem_map]
  exact ⟨fun ⟨p, hp, h⟩ => ⟨p, hp, of_decide_eq_true h⟩, fun ⟨p, hp, h⟩ => ⟨p, hp, decide_eq_true h⟩⟩
theorem lk_none : lkS l k = none ↔ k ∉ l.map (·.1) := by
  rw [← lk_mem]
  cases lkS l k <;> simp
theorem lkS_append (l m : AL α) (k : Str) : lkS (l ++ m) k = (lkS l k).or (lkS m k) := by
  unfold lkS
  rw [List.find?_append]
  cases List.find? (fun p => decide (p.1 = k)) l <;> rfl
theorem lkS_one (k' : Str) : lkS [(k', v)] k = if k' = k then some v else none := by
  unfold lkS
  rw [List.find?_cons]
  by_cases h : k' = k
  · rw [if_pos h, decide_eq_true h]; rfl
  · rw [if_neg h, decide_eq_false h]; rfl
theorem pt_new (h : lkS l k = none) : ptS l k v = l ++ [(k, v)] := by
  unfold ptS
  rw [lk_any, h, if_neg (by simp)]
theorem pt_lk (k' : Str) : lkS (ptS l k v) k' = if k' = k then some v else lkS l k' := by
  unfold ptS
  by_cases h : (l.any fun p => decide (p.1 = k)) = true
  · rw [if_pos h]
    induction l with
    | nil => cases h
    | cons p r ih =>
      rw [List.map_cons]
      unfold lkS
      rw [List.find?_cons, List.find?_cons]
      by_cases hp : p.1 = k
      · rw [if_pos hp]
        by_cases hk : k' = k
        · rw [if_pos hk, decide_eq_true (show p.1 = k' by rw [hp, hk])]; rfl
        · rw [if_neg hk, decide_eq_false (show ¬ p.1 = k' by rw [hp]; exact fun e => hk e.symm)]
          by_cases h2 : (r.any fun p => decide (p.1 = k)) = true
          · have := ih h2
            rw [if_neg hk] at this
            exact this
          · have : (r.map fun p => if p.1 = k then (p.1, v) else p) = r := by
              refine (List.map_congr_left (g := id) fun q hq => ?_).trans (List.map_id _)
              rw [if_neg fun e => h2 (List.any_eq_true.mpr ⟨q, hq, decide_eq_true e⟩)]
              rfl
            rw [this]
      · rw [if_neg hp]
        have h2 : (r.any fun p => decide (p.1 = k)) = true := by
          rw [List.any_cons, decide_eq_false hp, Bool.false_or] at h; exact h
        have := ih h2
        by_cases hk : p.1 = k'
        · rw [decide_eq_true hk]
          have : k' ≠ k := fun e => hp (hk.trans e)
          rw [if_neg this]
        · rw [decide_eq_false hk]
          exact this
  · rw [if_neg h, lkS_append, lkS_one]
    have hn : lkS l k = none := by rw [lk_any] at h; cases e : lkS l k with
      | none => rfl
      | some a => rw [e] at h; exact absurd rfl h
    by_cases hk : k' = k
    · rw [if_pos hk, hk, hn, if_pos rfl]; rfl
    · rw [if_neg hk, if_neg fun e => hk e.symm]
      cases lkS l k' <;> rfl
theorem pt_len : (ptS l k v).length ≤ l.length + 1 := by
  unfold ptS
  split
  · rw [List.length_map]; omega
  · rw [List.length_append]; exact Nat.le_refl _
theorem pt_keys : (ptS l k v).map (·.1) = if k ∈ l.map (·.1) then l.map (·.1) else l.map (·.1) ++ [k] := by
  unfold ptS
  by_cases h : k ∈ l.map (·.1)
  · rw [if_pos (by rw [lk_any]; exact lk_mem.mpr h), if_pos h, List.map_map]
    refine List.map_congr_left fun p _ => ?_
    show (if p.1 = k then (p.1, v) else p).1 = p.1
    split <;> rfl
  · rw [if_neg (by rw [lk_any]; exact fun z => h (lk_mem.mp z)), if_neg h, List.map_append]; rfl
end
/-! ### steps with frames -/
def getK (x y : D) (g : GS) (Q : DK) : Prop := ∃ p kvs k v, x = .ref p ∧ g p = some (.dct kvs) ∧ y = kD k ∧ getD kvs k = some v ∧ Q v g
def inK (y x : D) (g : GS) (Q : DK) : Prop := ∃ p kvs k, x = .ref p ∧ g p = some (.dct kvs) ∧ y = kD k ∧ Q (.bl (getD kvs k).isSome) g
def notInK (y x : D) (g : GS) (Q : DK) : Prop := ∃ p kvs k, x = .ref p ∧ g p = some (.dct kvs) ∧ y = kD k ∧ Q (.bl (!(getD kvs k).isSome)) g
def rcK (x : D) (g : GS) (R : Addr → Prop) : Prop := ∃ p, x = .ref p ∧ (∃ kvs, g p = some (.dct kvs)) ∧ R p
def g1K (p : Addr) (y : D) (g : GS) (Q : DK) : Prop := ∃ kvs k, g p = some (.dct kvs) ∧ y = kD k ∧ Q ((getD kvs k).getD .non) g
def g2K (p : Addr) (y z : D) (g : GS) (Q : DK) : Prop := ∃ kvs k, g p = some (.dct kvs) ∧ y = kD k ∧ Q ((getD kvs k).getD z) g
def putK (x y v : D) (g : GS) (R : GS → Prop) : Prop := ∃ p kvs k, x = .ref p ∧ g p = some (.dct kvs) ∧ y = kD k ∧ kvs.length < sizeLine ∧ R (gup g p (.dct (putD kvs k v)))
def delK (x y : D) (g : GS) (R : GS → Prop) : Prop := ∃ p kvs k, x = .ref p ∧ g p = some (.dct kvs) ∧ y = kD k ∧ (getD kvs k).isSome = true ∧ R (gup g p (.dct (delD kvs k)))
section
variable {e : EV} {g : GS} {Q : DK} {td ty tv tx : DTE} {D : DEnds}
theorem f_dget (h : td e g fun x g1 => ty e g1 fun y g2 => getK x y g2 Q) : dDGet td ty e g Q := h
theorem f_din (h : ty e g fun y g1 => td e g1 fun x g2 => inK y x g2 Q) : dDIn ty td e g Q := h
theorem f_dnotin (h : ty e g fun y g1 => td e g1 fun x g2 => notInK y x g2 Q) : dDNotIn ty td e g Q := h
theorem f_dget1 (h : td e g fun x g1 => rcK x g1 fun p => ty e g1 fun y g2 => g1K p y g2 Q) : dDGet1 td ty e g Q := h
theorem f_dget2 (h : td e g fun x g1 => rcK x g1 fun p => ty e g1 fun y g2 => tx e g2 fun z g3 => g2K p y z g3 Q) : dDGet2 td ty tx e g Q := h
theorem f_dput (h : tv e g fun v g1 => td e g1 fun x g2 => ty e g2 fun y g3 => putK x y v g3 (D.nx e)) : dDPut td ty tv D e g := h
theorem f_ddel (h : td e g fun x g2 => ty e g2 fun y g3 => delK x y g3 (D.nx e)) : dDDel td ty D e g := h
end
section
variable {α : Type} {td : α → D} {x : Str} {v : α} {kvs : List (L2.Key × DL.D)} {k : FK} {g0 g : GS} {l : FL} {p : Addr} {b : Bool} {Q : DK} {R : GS → Prop} {d z : DL.D} {al : AL α}
theorem k_rcK {R : Addr → Prop} (F : Fr k g0 g l) (n : Nat) (e : l[n]? = some (p, .dct kvs, b)) (h : R p) : rcK (.ref p) g R := ⟨p, rfl, ⟨_, F.at n e⟩, h⟩
theorem k_g1S (F : Fr k g0 g l) (n : Nat) (e : l[n]? = some (p, .dct (encS td al), b)) (h : Q (((lkS al x).map td).getD .non) g) : g1K p (.str x) g Q := ⟨_, .inr x, F.at n e, rfl, by rw [getD_encO]; exact h⟩
theorem k_g2S (F : Fr k g0 g l) (n : Nat) (e : l[n]? = some (p, .dct (encS td al), b)) (h : Q (((lkS al x).map td).getD z) g) : g2K p (.str x) z g Q := ⟨_, .inr x, F.at n e, rfl, by rw [getD_encO]; exact h⟩
theorem k_getS (F : Fr k g0 g l) (n : Nat) (e : l[n]? = some (p, .dct (encS td al), b)) (h : lkS al x = some v) (q : Q (td v) g) : getK (.ref p) (.str x) g Q :=
  ⟨p, _, .inr x, _, rfl, F.at n e, rfl, by rw [getD_encO, h]; rfl, q⟩
theorem k_inS (F : Fr k g0 g l) (n : Nat) (e : l[n]? = some (p, .dct (encS td al), b)) (q : Q (.bl (lkS al x).isSome) g) : inK (.str x) (.ref p) g Q :=
  ⟨p, _, .inr x, rfl, F.at n e, rfl, by rw [getD_encO, Option.isSome_map]; exact q⟩
theorem k_notInS (F : Fr k g0 g l) (n : Nat) (e : l[n]? = some (p, .dct (encS td al), b)) (q : Q (.bl (!(lkS al x).isSome)) g) : notInK (.str x) (.ref p) g Q :=
  ⟨p, _, .inr x, rfl, F.at n e, rfl, by rw [getD_encO, Option.isSome_map]; exact q⟩
theorem k_put (F : Fr k g0 g l) (n : Nat) (e : l[n]? = some (p, .dct kvs, true)) (kk : L2.Key) (hl : kvs.length < 16777216) (h : ∀ g', Fr k g0 g' (l.set n (p, .dct (putD kvs kk d), true)) → R g') : putK (.ref p) (kD kk) d g R :=
  ⟨p, kvs, kk, rfl, F.at n e, rfl, by rw [szl]; exact hl, h _ (F.mut n _ e)⟩
/-- d[x] = v, rows of pairs -/
theorem k_putS (v : α) (F : Fr k g0 g l) (n : Nat) (e : l[n]? = some (p, .dct (encS td al), true)) (hd : d = td v) (hl : al.length < 16777216) (h : ∀ g', Fr k g0 g' (l.set n (p, .dct (encS td (ptS al x v)), true)) → R g') : putK (.ref p) (.str x) d g R := by
  refine k_put (kk := .inr x) F n e (by rw [encS_len]; exact hl) ?_
  rw [hd, putD_encO]
  exact h
/-- sorted(dict) of texts -/
theorem k_sortedK (F : Fr k g0 g l) (n : Nat) (e : l[n]? = some (p, .dct (encS td al), b)) (hl : al.length < 64) (q : ∀ r g', Fr k g0 g' ((r, .lst (sortS (al.map (·.1))), true) :: l) → Q (.ref r) g') : sortedKD [.ref p] g Q :=
  ⟨_, F.at n e, .inl ⟨al.map (·.1), encS_keys, by rw [List.length_map]; exact hl, fun r hr => q r _ (F.new _ hr)⟩⟩
end
/-! comparing what a dictionary gave -/
section
variable {g : GS} {Q : DK}
theorem v_eqNI {j : Int} (h : Q (.bl false) g) : eqD .non (.int j) g Q := ⟨⟨rfl, by decide⟩, ⟨rfl, by unfold dep; decide⟩, by
  have : eqP .non (.int j) = false := rfl
  rw [this]; exact h⟩
theorem v_eqON {o : Option Nat} {i : Nat} {j : Int} (hj : j = (i : Int)) (h : Q (.bl (decide (o = some i))) g) : eqD ((o.map fun k : Nat => D.int (k : Int)).getD .non) (.int j) g Q := by
  subst hj
  cases o with
  | none => exact v_eqNI h
  | some k => exact v_eqI (by
      have : decide (((k : Nat) : Int) = ((i : Nat) : Int)) = decide (some k = some i) := decide_eq_decide.mpr ⟨fun h => by rw [Int.ofNat.inj h], fun h => by rw [Option.some.inj h]⟩
      rw [this]; exact h)
theorem v_ltSS {i j : Str} (h : Q (.bl (decide (i.cps.toList < j.cps.toList))) g) : ltD (.str i) (.str j) g Q := h
theorem v_leSS {i j : Str} (h : Q (.bl (!decide (j.cps.toList < i.cps.toList))) g) : leD (.str i) (.str j) g Q := h
end
end DL

set_option maxHeartbeats 4000000
namespace DL
open PySem PySem.Spec PyProof.Rows L2
/-! is True, list.index of texts, rows of whole numbers or None -/
def isBD : DR2 := fun x y g Q => ∃ a b, x = .bl a ∧ y = .bl b ∧ Q (.bl (decide (a = b))) g
def notBD : DR2 := fun x y g Q => ∃ a b, x = .bl a ∧ y = .bl b ∧ Q (.bl (!decide (a = b))) g
section
variable {X : Cx}
theorem op_isBD : DOpR X (compareOp .Is) isBD := fun pins s σ H x y v u Q I rx ry ⟨dx, dy, g, Qd, r1, r2, rg, q, k⟩ => by
  obtain ⟨a, b, rfl, rfl, q⟩ := q
  cases r1
  cases r2
  cases rx
  cases ry
  refine wpAny_is_plain rfl ⟨.bl (decide (a = b)), H, I, ?_, rg.fin k (.bl _) q⟩
  show Value.bool (Value.bool a == Value.bool b) = Value.bool (decide (a = b))
  cases a <;> cases b <;> rfl
theorem op_notBD : DOpR X (compareOp .IsNot) notBD := fun pins s σ H x y v u Q I rx ry ⟨dx, dy, g, Qd, r1, r2, rg, q, k⟩ => by
  obtain ⟨a, b, rfl, rfl, q⟩ := q
  cases r1
  cases r2
  cases rx
  cases ry
  refine wpAny_isNot_plain rfl ⟨.bl (!decide (a = b)), H, I, ?_, rg.fin k (.bl _) q⟩
  show Value.bool (!(Value.bool a == Value.bool b)) = Value.bool (!decide (a = b))
  cases a <;> cases b <;> rfl
theorem v_isB {a b : Bool} {g : GS} {Q : DK} (h : Q (.bl (decide (a = b))) g) : isBD (.bl a) (.bl b) g Q := ⟨a, b, rfl, rfl, h⟩
theorem v_notB {a b : Bool} {g : GS} {Q : DK} (h : Q (.bl (!decide (a = b))) g) : notBD (.bl a) (.bl b) g Q := ⟨a, b, rfl, rfl, h⟩
/-- row.index(text), where it is found -/
def lindexD : DRM := fun x ys g Q => match x, ys with
  | .ref p, [.str y] => ∃ (us : List Str) (j : Nat), rdL g p (us.map D.str) ∧ us[j]? = some y ∧ (∀ m, m < j → us[m]? ≠ some y) ∧ Q (.int (j : Int)) g
  | _, _ => False
theorem mt_lindexD : MtR X "list.index" (lRM X.K lindexD) := fun pins s σ H x xs v us Q I rx rs ⟨d, ds, g, Qd, r, l, rg, q, k⟩ => by
  cases r with
  | ref p =>
    rcases l with _ | ⟨r1, _ | ⟨r2, l⟩⟩
    · exact q.elim
    · cases r1 with
      | str y =>
        obtain ⟨ws, j, hp, hj, hno, q⟩ := q
        obtain ⟨vs, hs, hl⟩ := rg.sq hp
        have e := RepL.strs ws hl
        subst e
        refine mt_index pins s σ H _ _ v us Q I rx rs ⟨p, ws.map V.str, .str y, j, .str y, rfl, rfl, hs, rfl, List.all_eq_true.mpr fun z hz => ?_, by rw [List.getElem?_map, hj]; rfl, beq_self_eq_true _, fun m z' hm hz => ?_, rg.fin k (.int _) q⟩
        · obtain ⟨w, _, rfl⟩ := List.mem_map.mp hz
          rfl
        · rw [List.getElem?_map] at hz
          cases hw : ws[m]? with
          | none => rw [hw] at hz; cases hz
          | some w =>
            rw [hw] at hz
            cases hz
            exact beq_eq_false_iff_ne.mpr fun e => hno m hm (by rw [hw, e])
      | _ => exact q.elim
    · cases r1 <;> exact q.elim
  | _ => exact q.elim
end
theorem k_lindex {g : GS} {Q : DK} {k : FK} {g0 : GS} {lo : FL} {p : Addr} {b : Bool} {us : List Str} {y : Str} (F : Fr k g0 g lo) (n : Nat) (e : lo[n]? = some (p, .lst (us.map D.str), b)) (j : Nat) (hj : us[j]? = some y) (hn : us.Nodup) (h : Q (.int (j : Int)) g) : lindexD (.ref p) [.str y] g Q :=
  ⟨us, j, .inl (F.at n e), hj, fun m hm hz => by
    have h1 := List.getElem?_eq_some_iff.mp hj
    have h2 := List.getElem?_eq_some_iff.mp hz
    have := (List.getElem_inj (h₀ := h2.1) (h₁ := h1.1) hn).mp (h2.2.trans h1.2.symm)
    omega, h⟩
abbrev oI : Option Int → D
  | none => .non
  | some i => .int i
theorem v_neOI {g : GS} {Q : DK} {o : Option Int} {j : Int} (h : Q (.bl (!decide (o = some j))) g) : neD (oI o) (.int j) g Q := by
  cases o with
  | none => exact v_eqNI (Q := notV Q) h
  | some i => exact v_eqI (Q := notV Q) (by
      have : decide (i = j) = decide (some i = some j) := decide_eq_decide.mpr ⟨fun h => by rw [h], fun h => Option.some.inj h⟩
      rw [this]; exact h)
theorem oI_nat (o : Option Nat) : ((o.map fun k : Nat => DL.D.int (k : Int)).getD .non) = oI (o.map fun k : Nat => (k : Int)) := by cases o <;> rfl
end DL

set_option maxHeartbeats 4000000
namespace DL
open PySem PySem.Spec PyProof.Rows L2
/-! str.replace: one token is out -/
structure DSsT (X : Cx) (ss : List Stmt) (T : DTS) : Prop where
  run : PSsT X ss (lS X.K T)
structure DST (X : Cx) (st : Stmt) (T : DTS) : Prop where
  run : PST X st (lS X.K T)
structure DET (X : Cx) (e : Expr) (T : DTE) : Prop where
  run : PET X e (lE X.K T)
section
variable {X : Cx} {st : Stmt} {sts : List Stmt} {T U : DTS} {e : Expr} {te : DTE}
theorem dsst_of (h : DSs X sts T) : DSsT X sts T := ⟨PSsT.of h.pss⟩
theorem dst_of (h : DS X st T) : DST X st T := ⟨PST.of h.ps⟩
theorem det_of (h : DE X e te) : DET X e te := ⟨fun pins s σ H Q _ I q => h.pe.run pins s σ H Q I q⟩
/-- behind a text that is stored -/
theorem dss_str {i j : Nat} {x c : Str} {cpos pos' pos : Pos} (hN : X.N.Nodup) (hi : X.N[i]? = some x) (hx : Loc X.env.scope x) (h2 : DSsT X sts U)
    (hs : swapsWith (.Constant (.str c) j cpos) (some (.Name x pos')) pos.line X.env = pure false := by rfl) (hf : X.fn x = true ∨ X.env.scope.names.lookup x = some .local := by first | exact .inl rfl | exact .inr rfl | assumption) :
    DSs X (.Assign [.Name x pos'] (.Constant (.str c) j cpos) pos :: sts) (dSeq (dAsg (dC (.str c)) (gNm i)) U) :=
  ⟨pssW (pss_str hN hi hx h2.run hs hf) fun D σ H ⟨e, g, Dd, re, rg, ⟨M, q, qm⟩, k1, k2, k3, k4⟩ =>
    ⟨e.set i (some (.str c)), g, Dd, re.set (.str c) i, rg, qm _ _ q, k1, k2, k3, k4⟩⟩
theorem dsst_cons (h1 : DST X st T) (h2 : DSsT X sts U) : DSsT X (st :: sts) (dSeq T U) :=
  ⟨fun pins s σ H D h0 I ⟨e, g, Dd, re, rg, ⟨M, q, qm⟩, k1, k2, k3, k4⟩ => psst_cons h1.run h2.run pins s σ H D h0 I
    ⟨e, g, _, re, rg, q, fun σ' H' e' g' x1 re1 rg1 q1 => ⟨e', g', Dd, re1, rg1, qm e' g' q1, k1.mono x1, k2.mono x1, k3.mono x1, k4.mono x1⟩, k2, k3, k4⟩⟩
/-- a local name is stored: all else is as it was, and what it holds is known -/
theorem loc_kept {pins : List (Addr × Obj)} {σ : L2.St} {H : Hp} {s : Shared} {i : Nat} {x : Str} {v : V} {u : Value} {m : Str → Option Value} {h' : Heap} {t' : Nat} (J : Inv X pins σ H s) (nd : X.N.Nodup) (at' : X.N[i]? = some x)
    (rv : RelV v u) (lo : X.env.scope.names.lookup x = some .local) (old : ∀ (k : Nat) (y : Str) (w : V), X.N[k]? = some y → σ[k]? = some (some w) → Vis X.env.scope y → ∃ z, RelV w z ∧ Look X.env s.heap m y z)
    (new : h'.Ns X.env.locals (fun y => if y = x then some u else m y)) (but : Heap.SameBut X.env.locals s.heap h') : Inv X pins (σ.set i (some v)) H { s with heap := h', toks := t' } := by
  have far : ∀ {b : Addr} {ob : Obj}, X.s_0.heap.get? b = some ob → b ≠ X.env.locals := fun w => Nat.ne_of_lt (Nat.lt_of_lt_of_le (Heap.lt_size w) J.ok.above)
  have off : ∀ {b : Addr} {o : HO}, H b = some o → b ≠ X.env.locals := fun w z => by rw [z, J.free] at w; cases w
  refine ⟨J.ok, J.os, J.bare, ⟨?_, ?_, J.base.free, ?_, J.base.tups, J.base.frzs, J.base.tbls⟩, ⟨_, new, ?_⟩, ?_, J.free, J.freeC, ?_, ?_, ?_⟩
  · intro b ob w1 w2 w3 w4
    rw [but.2 b (far w1)]
    exact J.base.keep b ob w1 w2 w3 w4
  · intro b ob w1 w2 w3 w4
    obtain ⟨sl, w5⟩ := J.base.slot b ob w1 w2 w3 w4
    exact ⟨sl, by rw [but.2 b (far w1)]; exact w5⟩
  · intro b ob w1 w2
    obtain ⟨o2, w3⟩ := J.base.there b ob w1 w2
    exact ⟨o2, by rw [but.2 b (far w1)]; exact w3⟩
  · intro k y w a1 a2 a3
    by_cases hk : k = i
    · have : y = x := by rw [hk, at'] at a1; exact (Option.some.inj a1).symm
      subst this
      have hl : i < σ.length := by rw [J.len]; exact (List.getElem?_eq_some_iff.mp at').1
      rw [hk, List.getElem?_set_self hl] at a2
      have : v = w := Option.some.inj (Option.some.inj a2)
      subst this
      exact ⟨u, rv, .inl ⟨lo, if_pos rfl⟩⟩
    · rw [List.getElem?_set_ne (fun z => hk z.symm)] at a2
      obtain ⟨z, r1, r2⟩ := old k y w a1 a2 a3
      refine ⟨z, r1, ?_⟩
      rcases r2 with ⟨b1, b2⟩ | ⟨b1, c, b2, b3⟩
      · have ne : ¬ y = x := fun e => by
          subst e
          have h1 := List.getElem?_eq_some_iff.mp a1
          have h2 := List.getElem?_eq_some_iff.mp at'
          exact hk ((List.getElem_inj (h₀ := h1.1) (h₁ := h2.1) nd).mp (h1.2.trans h2.2.symm))
        exact .inl ⟨b1, by show (if y = x then some u else m y) = some z; rw [if_neg ne]; exact b2⟩
      · exact .inr ⟨b1, c, b2, b3.sameBut but (J.cne y c b2)⟩
  · intro y c w
    obtain ⟨v2, z⟩ := J.cell y c w
    exact ⟨v2, z.sameBut but (J.cne y c w)⟩
  · intro p hp
    obtain ⟨b1, b2, b3, b4, b5⟩ := J.pin p hp
    exact ⟨by rw [but.2 p.1 b3]; exact b1, b2, b3, b4, b5⟩
  · intro b ob w
    refine (J.hok b ob w).stay (fun c u2 hc w2 => ?_) (fun _ z => z) fun _ _ z => z
    have : c ≠ X.env.locals := by
      rcases hc with rfl | hc
      · exact off w
      · exact off hc
    rw [but.2 c this]
    exact w2
  · rw [List.length_set]; exact J.len
/-- one = row[..]; row = row.replace(one, "") -/
def dPair (io jl : Nat) (te : DTE) : DTS := fun D e g => ∃ x, look e jl = some (.str x) ∧ x.length ≤ 1000 ∧ te e g fun d g1 => ∃ (i : Int) (c : Nat), d = .int i ∧ atI x.cps.toList i = some c ∧ 0 ≤ i ∧ i < x.length ∧
  D.nx ((e.set io (some (.str ⟨#[c]⟩))).set jl (some (.str (Txt.replace x ⟨#[c]⟩ Str.empty)))) g1
theorem dsst_pair {io jl j : Nat} {one lt z : Str} {e1 : Expr} {p1 p2 p3 p4 p5 p6 ap cp cpos pos1 pos2 : Pos} (hz : z = Str.empty) (he : DE X e1 te) (hix : PlainIxT e1) (nd : X.N.Nodup) (hio : X.N[io]? = some one) (hjl : X.N[jl]? = some lt)
    (lo : X.env.scope.names.lookup one = some .local) (ll : X.env.scope.names.lookup lt = some .local) (hne : io ≠ jl) (h2 : DSsT X sts U)
    (d1 : (lt == ("__debug__" : Str)) = false := by decide) (d2 : (lt == ("__classdict__" : Str)) = false := by decide) (d3 : (one == ("__debug__" : Str)) = false := by decide)
    (hs1 : swapsWith (.Subscript (.Name lt p1) e1 p2) (some (.Name one p3)) pos1.line X.env = pure false := by rfl)
    (hs2 : swapsWith (.Call (.Attribute (.Name lt p4) "replace" ap) [.Name one p5, .Constant (.str z) j cp] [] cpos) (some (.Name lt p6)) pos2.line X.env = pure false := by rfl)
    (hb : attributeBase (.Name lt p4) "replace" X.env (eval (.Name lt p4) X.env) = eval (.Name lt p4) X.env := by rfl)
    (hst : starEach [.Name one p5, .Constant (.str z) j cp] X.env = [(false, eval (.Name one p5) X.env), (false, eval (.Constant (.str z) j cp) X.env)] := by rfl) (hl : (ap.endLine == cpos.line) = true := by rfl) :
    DSsT X (.Assign [.Name one p3] (.Subscript (.Name lt p1) e1 p2) pos1 :: .Assign [.Name lt p6] (.Call (.Attribute (.Name lt p4) "replace" ap) [.Name one p5, .Constant (.str z) j cp] [] cpos) pos2 :: sts) (dSeq (dPair io jl te) U) := by
  refine ⟨fun pins s σ H D h0 I ⟨e, g, Dd, re, rg, ⟨M, ⟨x, hx, hx2, q⟩, qm⟩, k1, k2, k3, k4⟩ => ?_⟩
  obtain ⟨vx, hσ, rx⟩ := re.2 jl _ (look_get e jl _ hx)
  cases rx
  refine wpAny_execs_cons (wpAny_Assign_Name (Subscript_ (raw_name hjl (.inl ll) I hσ (fun v r => ?_) d1 d2)) hs1)
  obtain ⟨t, rfl⟩ := r
  refine wpAny_mono (PySem.wpAny_toks (he.pe.run pins s σ H (fun y H1 => ∃ (i : Int) (c : Nat) (g1 : GS), y = .int i ∧ atI x.cps.toList i = some c ∧ 0 ≤ i ∧ i < x.length ∧ Ext H H1 ∧ RepG X.K H1 g1 ∧ M ((e.set io (some (.str ⟨#[c]⟩))).set jl (some (.str (Txt.replace x ⟨#[c]⟩ Str.empty)))) g1) I
    ⟨e, g, _, re, rg, q, fun y d H1 g1 x1 rg1 r1 ⟨i, c, hd, ha, hi0, hi1, hm⟩ => ?_⟩)) (fun iv s1 q1 => ?_) fun _ _ w => w.2
  · subst hd
    cases r1
    exact ⟨i, c, g1, rfl, ha, hi0, hi1, x1, rg1, hm⟩
  obtain ⟨hk, y, H1, I1, ry, i, c, g1, rfl, ha, hi0, hi1, x1, rg1, hm⟩ := q1
  obtain ⟨t', rfl⟩ := ry
  have e0 : seqIndex? i x.length = some i.toNat := PySem.StrLaws.seqIndex_nonneg hi0 hi1
  have hc : x.cps[i.toNat]? = some c := by
    have e2 : atI x.cps.toList i = x.cps.toList[i.toNat]? := by
      unfold atI
      have : x.cps.toList.length = x.length := Array.length_toList
      rw [this, ixN_at (k := i.toNat) (by omega) (by omega)]; rfl
    rw [e2] at ha
    rw [← Array.getElem?_toList]; exact ha
  refine tail_any (typeIs_str s1 x t) slot_str_getitem.lookup (getItem_str (c := c) (by
    have a1 : decide (i < -(2 ^ 63 : Int)) = false := decide_eq_false (by omega)
    have a2 : decide (i ≥ 2 ^ 63) = false := decide_eq_false (by omega)
    rw [a1, a2] <;> rfl) (by rw [e0]; exact hc) ?_) (hix _ _)
  have I2 : Inv X pins σ H1 { s1 with toks := s1.toks + 1 } := I1.tok _
  obtain ⟨m, hn, old⟩ := id I2.loc
  have hcls : (X.env.scope.kind == .class || (X.env.scope.kind == .module && X.env.locals != X.env.globals)) = false := by rw [I2.ok.kind]; rfl
  refine wpAny_storeName_local lo hn (fun h' hn' but => ?_) hcls
  have I3 : Inv X pins (σ.set io (some (.str ⟨#[c]⟩))) H1 { s1 with heap := h', toks := s1.toks + 1 + 1 } := loc_kept (s := { s1 with toks := s1.toks + 1 }) (t' := s1.toks + 1 + 1) I2 nd hio (v := .str ⟨#[c]⟩) ⟨s1.toks, rfl⟩ lo old hn' but
  have hσ3 : (σ.set io (some (V.str ⟨#[c]⟩)))[jl]? = some (some (.str x)) := by rw [List.getElem?_set_ne hne]; exact hσ
  refine wpAny_execs_cons (wpAny_Assign_Name (PySem.Call_method2 hb hst hl (raw_name hjl (.inl ll) I3 hσ3 (fun v r => ?_) d1 d2)) hs2)
  obtain ⟨t3, rfl⟩ := r
  refine ⟨"str", _, F.plainAttrs_str, F.slot_str_replace, F.type_str_replace, typeIs_str _ _ _, (fun _ w => nomatch w), Calls.callWith_builtin rfl (Calls.evalArgs_plain (Calls.spliced_cons ?_))⟩
  refine wpAny_Name (wpAny_loadName_local I3.ok.kind lo hn' (if_pos rfl) ?_) d3
  refine Calls.spliced_cons (Calls.Constant_str (Calls.spliced_nil ?_))
  subst hz
  have hyz : ((⟨#[c]⟩ : Str) == Str.empty) = false := rfl
  have hlen : x.length + (x.length + 1) * (Str.empty : Str).length ≤ 16777216 := by
    have : (Str.empty : Str).length = 0 := rfl
    rw [this]; omega
  have ha1 : s1.toks ≠ 0 := by omega
  have ha2 : s1.toks + 1 + 1 ≠ 0 := by omega
  have ha3 : s1.toks ≠ s1.toks + 1 + 1 := by omega
  refine PySem.wpAny_with_toks (n := 1) (show 1 ≤ s1.toks + 1 + 1 + 1 by omega) (PySem.SC.replace ha1 ha2 ha3 hyz hlen fun t4 k hk1 => ?_)
  have I4 := I3.tok k
  refine wpAny_mono (PySem.wpAny_toks (store_ok (v := V.str (Txt.replace x ⟨#[c]⟩ Str.empty)) (u := Value.str (Txt.replace x ⟨#[c]⟩ Str.empty) t4) (Q := fun _ s2 => Inv X pins ((σ.set io (some (V.str ⟨#[c]⟩))).set jl (some (V.str (Txt.replace x ⟨#[c]⟩ Str.empty)))) H1 s2) I4 nd hjl (.inl ll) ⟨t4, rfl⟩ (fun _ I5 => I5) (.inr ll))) (fun _ s2 q5 => ?_) fun _ _ w => w.2
  have h5 : 1 ≤ s2.toks := Nat.le_trans hk1 q5.1
  refine h2.run pins s2 _ H1 D h5 q5.2 ⟨_, g1, Dd, ((re.mono x1).set (.str _) io).set (.str _) jl, rg1, qm _ _ hm, k1.mono x1, k2.mono x1, k3.mono x1, k4.mono x1⟩
end
section
variable {io jl : Nat} {te : DTE} {D : DEnds} {e : EV} {g : GS}
theorem s_pair (h : ∃ x, look e jl = some (.str x) ∧ x.length ≤ 1000 ∧ te e g fun d g1 => ∃ (i : Int) (c : Nat), d = .int i ∧ atI x.cps.toList i = some c ∧ 0 ≤ i ∧ i < x.length ∧ D.nx ((e.set io (some (.str ⟨#[c]⟩))).set jl (some (.str (Txt.replace x ⟨#[c]⟩ Str.empty)))) g1) : dPair io jl te D e g := h
theorem rep_mk (l : List Nat) (c : Nat) : Txt.replace (mk l) ⟨#[c]⟩ Str.empty = mk (l.filter (· != c)) := TL.ext_tl (by
  have := PyProof.Rows.replace_strikes (mk l) c
  rw [tl_mk]
  exact this)
theorem filter_ne_len {l : List Nat} {c : Nat} (h : l.Nodup) (hc : c ∈ l) : (l.filter (· != c)).length = l.length - 1 := by
  rw [← h.erase_eq_filter, List.length_erase_of_mem hc]
end
end DL

set_option maxHeartbeats 4000000
namespace DL
open PySem PySem.Spec PyProof.Rows L2
/-! str.replace of written texts: where one token is out -/
def dRep (y z : Str) (ta : DTE) : DTE := fun e g Q => ta e g fun d g1 => ∃ x, d = .str x ∧ x.length + (x.length + 1) * z.length ≤ 16777216 ∧ Q (.str (Txt.replace x y z)) g1
section
variable {X : Cx} {a b : Expr} {ta tb : DTE} {pos : Pos}
theorem det_repl {y z : Str} {j0 j1 : Nat} {c0 c1 ap : Pos} (ho : DET X a ta) (hyz : (y == z) = false)
    (hb : attributeBase a "replace" X.env (eval a X.env) = eval a X.env := by rfl)
    (hst : starEach [.Constant (.str y) j0 c0, .Constant (.str z) j1 c1] X.env = [(false, eval (.Constant (.str y) j0 c0) X.env), (false, eval (.Constant (.str z) j1 c1) X.env)] := by rfl) (hl : (ap.endLine == pos.line) = true := by rfl) :
    DET X (.Call (.Attribute a "replace" ap) [.Constant (.str y) j0 c0, .Constant (.str z) j1 c1] [] pos) (dRep y z ta) := by
  refine ⟨fun pins s σ H Q h0 I ⟨e, g, Qd, re, rg, q, k⟩ => ?_⟩
  refine PySem.Call_method2 hb hst hl (wpAny_mono (PySem.wpAny_toks (ho.run pins s σ H (fun w H1 => ∃ x, w = .str x ∧ x.length + (x.length + 1) * z.length ≤ 16777216 ∧ Q (.str (Txt.replace x y z)) H1) h0 I ⟨e, g, _, re, rg, q, fun w d H1 g1 x1 rg1 r1 ⟨x, hx, hn, hq⟩ => ?_⟩)) (fun ov s1 q1 => ?_) fun _ _ w => w.2)
  · subst hx
    cases r1
    exact ⟨x, rfl, hn, k _ _ _ _ x1 rg1 (.str _) hq⟩
  obtain ⟨hk, w, H1, I1, rw1, x, rfl, hn, hq⟩ := q1
  obtain ⟨t, rfl⟩ := rw1
  refine ⟨"str", _, F.plainAttrs_str, F.slot_str_replace, F.type_str_replace, typeIs_str _ _ _, (fun _ w => nomatch w), Calls.callWith_builtin rfl (Calls.evalArgs_plain (Calls.spliced_cons (Calls.Constant_str (Calls.spliced_cons (Calls.Constant_str (Calls.spliced_nil ?_))))))⟩
  refine PySem.SC.replace (show s1.toks ≠ 0 by omega) (show s1.toks + 1 ≠ 0 by omega) (show s1.toks ≠ s1.toks + 1 by omega) hyz hn fun t4 k4 => ?_
  exact ⟨.str (Txt.replace x y z), H1, I1.tok k4, ⟨t4, rfl⟩, hq⟩
/-- a written text first, then the rest of the sum -/
theorem de_opC {op : Operator} {r : DR2} {c : Str} {j : Nat} {cp : Pos} (ho : DOpR X (binaryOp op) r) (hb : DET X b tb) : DE X (.BinOp (.Constant (.str c) j cp) op b pos) (dOp r (dC (.str c)) tb) := by
  refine ⟨⟨fun pins s σ H Q I h => ?_⟩⟩
  obtain ⟨ee, g, Qd, re, rg, q, k⟩ := h
  refine wpAny_BinOp (Calls.Constant_str ?_)
  refine thn (hb.run pins { s with toks := s.toks + 1 } σ H (fun y H1 => lR2 X.K r (.str c) y H1 Q) (show 1 ≤ s.toks + 1 by omega) (I.tok _) ⟨ee, g, _, re, rg, q, fun y d H1 g1 x1 rg1 r1 q1 => ?_⟩) fun u s2 ⟨y, H2, I2, ry, q2⟩ => ?_
  · exact ⟨.str c, d, g1, Qd, .str c, r1, rg1, q1, k.mono x1⟩
  · exact ho pins s2 σ H2 (.str c) y (.str c s.toks) u Q I2 ⟨s.toks, rfl⟩ ry q2
theorem det_op {op : Operator} {r : DR2} (ho : DOpR X (binaryOp op) r) (ha : DET X a ta) (hb : DET X b tb) : DET X (.BinOp a op b pos) (dOp r ta tb) := by
  refine ⟨fun pins s σ H Q h0 I h => ?_⟩
  obtain ⟨ee, g, Qd, re, rg, q, k⟩ := h
  refine wpAny_BinOp (wpAny_mono (PySem.wpAny_toks (ha.run pins s σ H (fun x H1 => lE X.K tb σ H1 fun y H2 => lR2 X.K r x y H2 Q) h0 I ⟨ee, g, _, re, rg, q, fun x d H1 g1 x1 rg1 r1 q1 => ?_⟩)) (fun v s1 q1 => ?_) fun _ _ w => w.2)
  · exact ⟨ee, g1, _, re.mono x1, rg1, q1, fun y d2 H2 g2 x2 rg2 r2 q2 => ⟨d, d2, g2, Qd, r1.mono x2, r2, rg2, q2, (k.mono x1).mono x2⟩⟩
  obtain ⟨hk, x, H1, I1, rx, q1⟩ := q1
  refine thn (hb.run pins s1 σ H1 _ (Nat.le_trans h0 hk) I1 q1) fun u s2 ⟨y, H2, I2, ry, q2⟩ => ?_
  exact ho pins s2 σ H2 x y v u Q I2 rx ry q2
/-- statements -/
theorem dst_set {i : Nat} {x : Str} {pos' : Pos} (hN : X.N.Nodup) (hi : X.N[i]? = some x) (hx : Loc X.env.scope x) (he : DET X a ta)
    (hs : swapsWith a (some (.Name x pos')) pos.line X.env = pure false := by rfl) (hf : X.fn x = true ∨ X.env.scope.names.lookup x = some .local := by first | exact .inl rfl | exact .inr rfl | assumption) : DST X (.Assign [.Name x pos'] a pos) (dAsg ta (gNm i)) := by
  refine ⟨fun pins s σ H D h0 I h => ?_⟩
  obtain ⟨e, g, Dd, re, rg, q, k1, _⟩ := h
  refine wpAny_Assign_Name (thn (he.run pins s σ H (fun v H1 => D.nx (σ.set i (some v)) H1) h0 I ⟨e, g, _, re, rg, q, fun v d H1 g1 x1 rg1 r1 q1 => (k1.mono x1).fin ((re.mono x1).set r1 i) rg1 q1⟩) fun v s1 ⟨y, H1, I1, ry, q1⟩ => ?_) hs
  exact store_ok (Q := fun _ s2 => SP X pins D .next s2) I1 hN hi hx ry (fun s2 I2 => ⟨_, H1, I2, q1⟩) hf
theorem dit_str {tg : Expr} (he : DET X a ta) : PIT X tg a (lI X.K (iSt ta)) := by
  intro pins s σ H R h0 I ⟨e, g, Rd, re, rg, q, k⟩
  refine thn (he.run pins s σ H (fun v H1 => ∃ z, v = .str z ∧ R (Its z) H1) h0 I ⟨e, g, _, re, rg, q, fun v d H1 g1 x1 rg1 r1 ⟨z, hz, q1⟩ => ?_⟩) fun v s1 ⟨y, H1, I1, ry, z, hz, q1⟩ => ?_
  · subst hz
    cases r1
    exact ⟨z, rfl, k _ _ _ _ _ x1 rg1 itok_str q1⟩
  · subst hz
    obtain ⟨t, rfl⟩ := ry
    cases hw : z.cps.all (· < 128)
    · refine wpAny_pyIter_wide hw ?_
      exact pi_one (tk := s1.toks) I1 _ (turn_str _ z t "str_iterator" (Or.inr rfl)) ⟨_, Heap.get?_push_size _ rfl, rfl, rfl⟩ q1
    · refine wpAny_pyIter_ascii hw ?_
      exact pi_one (tk := s1.toks) I1 _ (turn_str _ z t "str_ascii_iterator" (Or.inl rfl)) ⟨_, Heap.get?_push_size _ rfl, rfl, rfl⟩ q1
/-- for sign in text.replace(..) -/
theorem dst_forS {tg : Expr} {T : DTS} {G : DTG} {body : List Stmt} (hp : PassesOwn (model X.prog X.w) X.A X.env X.xe) (hc : X.calm = true) (he : DET X a ta) (hg : DG X tg G) (hb : DSs X body T)
    (hs : ∀ x, foldedSetIterable a X.env x = pure x := by intro _; rfl) : DST X (.For tg a body [] pos) (dFor (iSt ta) G T) := ⟨fun pins s σ H D h0 I ⟨e, g, Dd, re, rg, q, k1, k2, k3, k4⟩ => pst_for hp hc (dit_str he) hg.pg hb.pss hs pins s σ H D h0 I (by
  refine ⟨e, g, _, re, rg, q, fun ds keep J H1 g1 x1 rg1 ok ⟨Iv, i0, hk, step, done⟩ => ?_⟩
  refine ⟨fun i m σ' H' => m = ds.length - i ∧ i ≤ ds.length ∧ ∃ e' g', Ext H1 H' ∧ RepE X.K H' σ' e' ∧ RepG X.K H' g' ∧ Iv i e' g', ⟨ds.length, by omega, Nat.zero_le _, e, g1, .refl _, re.mono x1, rg1, i0⟩, ?_⟩
  rintro i m σ' H' ⟨rfl, hi, e', g', x2, re2, rg2, iv⟩
  have o := ok i H' g' x2 rg2 (hk i e' g' hi iv)
  by_cases hlt : i < ds.length
  · refine .inr ?_
    have hd : ds[i]? = some ds[i] := List.getElem?_eq_getElem hlt
    obtain ⟨go, yl⟩ := o.2 _ hd
    refine ⟨go, fun σ' H' => ∃ e' g', Ext H1 H' ∧ RepE X.K H' σ' e' ∧ RepG X.K H' g' ∧ Iv (i + 1) e' g', fun σ3 H3 ⟨e3, g3, a1, a2, a3, a4⟩ => ⟨ds.length - (i + 1), by omega, rfl, hlt, e3, g3, a1, a2, a3, a4⟩, fun x H2 y => ?_⟩
    obtain ⟨x3, rg3, r3⟩ := yl x H2 y
    refine ⟨ds[i], e', g', _, r3, re2.mono x3, rg3, step i ds[i] e' g' hd iv, fun σ4 H4 e4 g4 x4 re4 rg4 q4 => ?_⟩
    have xx : Ext H H4 := ((x1.trans x2).trans x3).trans x4
    have kn : KS X.K H4 (Iv (i + 1)) (fun σ' H' => ∃ e' g', Ext H1 H' ∧ RepE X.K H' σ' e' ∧ RepG X.K H' g' ∧ Iv (i + 1) e' g') := fun σ5 H5 e5 g5 x5 re5 rg5 q5 => ⟨e5, g5, ((x2.trans x3).trans x4).trans x5, re5, rg5, q5⟩
    exact ⟨e4, g4, _, re4, rg4, q4, kn, k2.mono xx, k1.mono xx, kn⟩
  · have e0 : i = ds.length := by omega
    subst e0
    exact .inl ⟨o.1 rfl, (k1.mono (x1.trans x2)).fin re2 rg2 (done e' g' iv)⟩)⟩
end
section
variable {y z : Str} {ta : DTE} {e : EV} {g : GS} {Q : DK} {R : List D → (GS → Prop) → GS → Prop}
theorem s_rep (h : ta e g fun d g1 => ∃ x, d = .str x ∧ x.length + (x.length + 1) * z.length ≤ 16777216 ∧ Q (.str (Txt.replace x y z)) g1) : dRep y z ta e g Q := h
theorem s_iSt (h : ta e g fun x g1 => ∃ z, x = .str z ∧ R (z.cps.toList.map fun c => .str ⟨#[c]⟩) (fun _ => True) g1) : iSt ta e g R := h
theorem x_rep {l : List Nat} {P : Str → Prop} (hz : l.length + (l.length + 1) * z.length ≤ 16777216) (h : P (mk l)) : ∃ x, (D.str (mk l)) = .str x ∧ x.length + (x.length + 1) * z.length ≤ 16777216 ∧ P x :=
  ⟨mk l, rfl, by rw [TL.len_tl (mk l), tl_mk]; exact hz, h⟩
end
end DL

set_option maxHeartbeats 4000000
namespace DL
open PySem PySem.Spec PyProof.Rows L2
/-! rstrip of signs; patterns turned -/
def rstripD : DRM := fun x ys g Q => match x, ys with
  | .str a, [.str b] => a.length ≤ sizeLine ∧ Q (.str (Txt.rstripChars a b)) g
  | _, _ => False
theorem mt_rstripD {X : Cx} : MtR X "str.rstrip" (lRM X.K rstripD) := fun pins s σ H x xs v us Q I rx rs ⟨d, ds, g, Qd, r1, l, rg, q, k⟩ => by
  cases r1 with
  | str a =>
    rcases l with _ | ⟨r2, _ | ⟨r3, l⟩⟩
    · exact q.elim
    · cases r2 with
      | str b => exact mt_rstripChars pins s σ H _ _ v us Q I rx rs ⟨a, b, rfl, rfl, q.1, rg.fin k (.str _) q.2⟩
      | _ => exact q.elim
    · cases r2 <;> exact q.elim
  | _ => exact q.elim
theorem v_rstrip {l : List Nat} {b : Str} {g : GS} {Q : DK} (hz : l.length ≤ 16777216) (h : ∀ r : List Nat, r.length ≤ l.length → (∀ c ∈ r, c ∈ l) → Q (.str (mk r)) g) : rstripD (.str (mk l)) [.str b] g Q := by
  have hl : (mk l).length = l.length := by rw [TL.len_tl, tl_mk]
  refine ⟨by rw [szl, hl]; exact hz, ?_⟩
  show Q (.str (if stripSame b.cps.contains false true (mk l) = true then mk l else stripped b.cps.contains false true (mk l))) g
  split
  · exact h l (Nat.le_refl _) fun c hc => hc
  · obtain ⟨lo, hi, e⟩ : ∃ lo hi, stripped b.cps.contains false true (mk l) = mk ((l.take hi).drop lo) := by
      refine ⟨stripLo b.cps.contains false (mk l), stripHi b.cps.contains true (mk l) (stripLo b.cps.contains false (mk l)), ?_⟩
      unfold stripped
      generalize stripHi b.cps.contains true (mk l) (stripLo b.cps.contains false (mk l)) = hi
      generalize stripLo b.cps.contains false (mk l) = lo
      refine TL.ext_tl ?_
      rw [tl_mk]
      show (Array.extract (mk l).cps lo hi).toList = _
      rw [Array.toList_extract, List.extract_eq_drop_take']
      rfl
    rw [e]
    exact h _ (by rw [List.length_drop, List.length_take]; omega) fun c hc => List.mem_of_mem_take (List.mem_of_mem_drop hc)
/-- items joined are cut as they were -/
theorem cut_app (p : List Nat) (r : List Nat) (h : 44 ∉ p) : cut (p ++ 44 :: r) = p :: cut r := by
  induction p with
  | nil => simp [cut]
  | cons c p ih =>
    have hc : c ≠ 44 := fun e => h (by rw [e]; exact List.mem_cons_self)
    have := ih fun z => h (List.mem_cons_of_mem _ z)
    have e : cut (c :: (p ++ 44 :: r)) = if c = 44 then [] :: cut (p ++ 44 :: r) else match cut (p ++ 44 :: r) with | q :: qs => (c :: q) :: qs | [] => [[c]] := rfl
    rw [List.cons_append, e, this, if_neg hc]
theorem cut_one (p : List Nat) (h : 44 ∉ p) : cut p = [p] := by
  induction p with
  | nil => rfl
  | cons c p ih =>
    have hc : c ≠ 44 := fun e => h (by rw [e]; exact List.mem_cons_self)
    have := ih fun z => h (List.mem_cons_of_mem _ z)
    have e : cut (c :: p) = if c = 44 then [] :: cut p else match cut p with | q :: qs => (c :: q) :: qs | [] => [[c]] := rfl
    rw [e, this, if_neg hc]
theorem cut_joinL : ∀ {ps : List (List Nat)}, ps ≠ [] → (∀ p ∈ ps, 44 ∉ p) → cut (TL.joinL [44] ps) = ps
  | [], h, _ => absurd rfl h
  | [p], _, h => by
    have e : TL.joinL [44] [p] = p := by simp [TL.joinL]
    rw [e]
    exact cut_one p (h p List.mem_cons_self)
  | p :: q :: r, _, h => by
    have e : TL.joinL [44] (p :: q :: r) = p ++ 44 :: TL.joinL [44] (q :: r) := by simp [TL.joinL]
    rw [e, cut_app _ _ (h p List.mem_cons_self), cut_joinL (by simp) fun x hx => h x (List.mem_cons_of_mem _ hx)]
theorem okI_44 {p : List Nat} (h : okI p = true) : 44 ∉ p := by
  unfold okI at h
  rw [Bool.and_eq_true] at h
  intro hm
  have ha := List.all_eq_true.mp h.2
  cases p with
  | nil => cases hm
  | cons c r =>
    by_cases hc : c = 33
    · subst hc
      have e : glb (33 :: r) = r := rfl
      rw [e] at ha
      rcases List.mem_cons.mp hm with z | z
      · cases z
      · exact gl_44 (of_decide_eq_true (ha _ z))
    · have e : glb (c :: r) = c :: r := by unfold glb; simp [hc]
      rw [e] at ha
      exact gl_44 (of_decide_eq_true (ha _ hm))
theorem isP_of {ps : List (List Nat)} (h0 : ps ≠ []) (h1 : ∀ p ∈ ps, okI p = true) (h2 : ps.length ≤ 8) (h3 : (TL.joinL [44] ps).length ≤ 60) : isP (TL.joinL [44] ps) = true := by
  unfold isP
  rw [cut_joinL h0 fun p hp => okI_44 (h1 p hp), decide_eq_true h3, decide_eq_true h2, List.all_eq_true.mpr h1]; rfl
/-- turned -/
def flipI (p : List Nat) : List Nat := if p.head? = some 33 then p.tail else 33 :: p
def turnP (l : List Nat) : List (List Nat) := [42] :: (cut l).map flipI
theorem okI_flip {p : List Nat} (h : okI p = true) : okI (flipI p) = true := by
  cases p with
  | nil => cases h
  | cons c r =>
    unfold flipI
    by_cases hc : c = 33
    · subst hc
      rw [if_pos (show (33 :: r).head? = some 33 from rfl)]
      show okI r = true
      unfold okI at h ⊢
      have e : glb (33 :: r) = r := rfl
      rw [e] at h
      have e2 : glb r = r := by
        cases r with
        | nil => rfl
        | cons d r =>
          rw [Bool.and_eq_true] at h
          have := of_decide_eq_true (List.all_eq_true.mp h.2 d List.mem_cons_self)
          have hd : d ≠ 33 := fun e => gl_33 (e ▸ this)
          unfold glb; simp [hd]
      rw [e2]
      exact h
    · rw [if_neg (by simp; exact hc)]
      unfold okI at h ⊢
      have e : glb (c :: r) = c :: r := by unfold glb; simp [hc]
      rw [e] at h
      exact h
theorem flip_fold {b : List Nat} : ∀ {is : List (List Nat)} {acc : Bool}, (∀ p ∈ is, okI p = true) → (is.map flipI).foldl (lstep b) (!acc) = !(is.foldl (lstep b) acc)
  | [], acc, _ => rfl
  | p :: is, acc, h => by
    rw [List.map_cons, List.foldl_cons, List.foldl_cons]
    have hp := h p List.mem_cons_self
    have e : lstep b (!acc) (flipI p) = !(lstep b acc p) := by
      cases p with
      | nil => cases hp
      | cons c r =>
        by_cases hc : c = 33
        · subst hc
          have hr := okI_flip hp
          have ef : flipI (33 :: r) = r := rfl
          rw [ef] at hr ⊢
          cases r with
          | nil => cases hr
          | cons d r =>
            have hd : d ≠ 33 := by
              intro z
              subst z
              have := hp
              unfold okI at this
              rw [Bool.and_eq_true] at this
              exact gl_33 (of_decide_eq_true (List.all_eq_true.mp this.2 33 List.mem_cons_self))
            rw [lstep_cons, lstep_cons, if_neg hd, if_pos rfl]
            cases fitsB (d :: r) b <;> cases acc <;> rfl
        · have ef : flipI (c :: r) = 33 :: c :: r := by unfold flipI; rw [if_neg (by simp; exact hc)]
          rw [ef, lstep_cons, lstep_cons, if_neg hc, if_pos rfl]
          cases fitsB (c :: r) b <;> cases acc <;> rfl
    rw [e]
    exact flip_fold fun x hx => h x (List.mem_cons_of_mem _ hx)
theorem letsB_cut (l : List Nat) (b : Str) : letsB (mk l) b = (cut l).foldl (lstep (TL.tl b)) false := by
  unfold letsB
  rw [cut_split, List.map_map]
  congr 1
  exact (List.map_congr_left (g := id) fun p _ => tl_mk p).trans (List.map_id _)
theorem lets_turn {l : List Nat} (h : isP l = true) (b : Str) : letsB (mk (TL.joinL [44] (turnP l))) b = !letsB (mk l) b := by
  have ok := isP_items h
  rw [letsB_cut, letsB_cut, cut_joinL (by unfold turnP; simp) fun p hp => by
    unfold turnP at hp
    rcases List.mem_cons.mp hp with rfl | hp
    · decide
    · obtain ⟨x, hx, rfl⟩ := List.mem_map.mp hp
      exact okI_44 (okI_flip (ok x hx))]
  unfold turnP
  rw [List.foldl_cons]
  have e : lstep (TL.tl b) false [42] = !false := by
    rw [lstep_cons, if_neg (by decide), fits_star, if_pos rfl]; rfl
  rw [e]
  exact flip_fold ok
/-- beginnings of patterns -/
def WP (l : List Nat) : Prop := ∃ is q, cut l = is ++ [q] ∧ is.all okI = true ∧ pk q = true ∧ is.length ≤ 7
theorem WP.back {l : List Nat} {c : Nat} (h : WP (l ++ [c])) : WP l := by
  obtain ⟨is, q, e, h1, h2, h3⟩ := h
  obtain ⟨is', q', e1, e2⟩ := cut_snoc c l
  rw [e] at e2
  refine ⟨is', q', e1, ?_⟩
  by_cases hc : c = 44
  · rw [if_pos hc] at e2
    obtain ⟨rfl, _⟩ := List.append_inj' e2 rfl
    rw [List.all_append, Bool.and_eq_true] at h1
    rw [List.length_append, List.length_singleton] at h3
    refine ⟨h1.1, ok_pk ?_, by omega⟩
    have := h1.2
    simp only [List.all_cons, List.all_nil, Bool.and_true] at this
    exact this
  · rw [if_neg hc] at e2
    obtain ⟨rfl, e3⟩ := List.append_inj' e2 rfl
    have e3 : q = q' ++ [c] := by injection e3
    subst e3
    refine ⟨h1, ?_, h3⟩
    by_cases h33 : c = 33
    · subst h33
      rw [pk_snoc33] at h2
      rw [of_decide_eq_true h2]; rfl
    · rw [pk_snoc _ _ h33, Bool.and_eq_true] at h2
      exact h2.1
theorem isP_WP {l : List Nat} (h : isP l = true) : WP l := by
  have h1 := isP_items h
  have h2 := (isP_len h).2
  obtain ⟨is, q, e⟩ : ∃ is q, cut l = is ++ [q] := by
    rcases List.eq_nil_or_concat (cut l) with e | ⟨is, q, e⟩
    · exact absurd e (cut_ne l)
    · exact ⟨is, q, by simpa using e⟩
  rw [e] at h1 h2
  rw [List.length_append, List.length_singleton] at h2
  exact ⟨is, q, e, List.all_eq_true.mpr fun p hp => h1 p (List.mem_append_left _ hp), ok_pk (h1 q (List.mem_append_right _ (List.mem_singleton.mpr rfl))), by omega⟩
theorem WP.pref {l : List Nat} (h : WP l) : ∀ n, n ≤ l.length → WP (l.take (l.length - n))
  | 0, _ => by rw [Nat.sub_zero, List.take_length]; exact h
  | n + 1, hn => by
    have ih := h.pref n (by omega)
    have e : l.length - n = (l.length - (n + 1)) + 1 := by omega
    obtain ⟨c, hc⟩ : ∃ c, l[l.length - (n + 1)]? = some c := ⟨_, List.getElem?_eq_getElem (by omega)⟩
    rw [e, take_snoc hc] at ih
    exact ih.back
theorem fw_isP {l : List Nat} (h : isP l = true) : fw l 0 44 0 = none := by
  rw [fw_due]
  unfold due
  rw [find_range_none fun j hj => ?_, h]
  · rfl
  · have hw := (isP_WP h).pref (l.length - (j + 1)) (by omega)
    have e : l.length - (l.length - (j + 1)) = j + 1 := by omega
    rw [e] at hw
    obtain ⟨is, q, e1, h1, h2, h3⟩ := hw
    have hl := (isP_len h).1
    rw [pre_is is q _ e1, h1, h2, decide_eq_true h3, Bool.and_true]
    by_cases hj2 : j + 1 = l.length
    · rw [hj2, List.take_length] at e1 ⊢
      have hq := isP_items h q (by rw [e1]; exact List.mem_append_right _ (List.mem_singleton.mpr rfl))
      rw [hq, decide_eq_true hl]; rfl
    · rw [decide_eq_true (show (l.take (j + 1)).length ≤ 59 by rw [List.length_take]; omega)]
      simp
theorem fw_iff (l : List Nat) : (fw l 0 44 0).isNone = isP l := by
  cases h : fw l 0 44 0 with
  | none => exact (fw_none h).symm
  | some i =>
    cases hp : isP l with
    | false => rfl
    | true => rw [fw_isP hp] at h; cases h
abbrev sIt (p : List Nat) : D := .str (mk p)
theorem lists_of {P : Nat → List Nat → Prop} : ∀ {n : Nat} {acc : List D}, acc.length = n → (∀ (i : Nat) (a : Nat) (d : D), (List.range n)[i]? = some a → acc[i]? = some d → ∃ p, d = .str (mk p) ∧ P a p) → ∃ ps : List (List Nat), acc = ps.map sIt ∧ ps.length = n ∧ ∀ i p, ps[i]? = some p → P i p := fun {n acc} hl h => by
  induction n generalizing acc with
  | zero =>
    have : acc = [] := List.eq_nil_of_length_eq_zero hl
    subst this
    exact ⟨[], rfl, rfl, fun i p h => by simp at h⟩
  | succ n ih =>
    obtain ⟨a0, d0, rfl⟩ : ∃ a0 d0, acc = a0 ++ [d0] := by
      rcases List.eq_nil_or_concat acc with e | ⟨x, y, e⟩
      · rw [e] at hl; cases hl
      · exact ⟨x, y, by simpa using e⟩
    rw [List.length_append, List.length_singleton] at hl
    have hl : a0.length = n := by omega
    obtain ⟨ps, e, hpl, hp⟩ := ih hl fun i a d h1 h2 => by
      have hi : i < n := by have := (List.getElem?_eq_some_iff.mp h1).1; rw [List.length_range] at this; exact this
      refine h i a d ?_ (by rw [List.getElem?_append_left (by omega)]; exact h2)
      rw [List.getElem?_range hi] at h1
      rw [List.getElem?_range (by omega)]; exact h1
    obtain ⟨p, hp0, hpn⟩ := h n n d0 (by rw [List.getElem?_range (by omega)]) (by rw [← hl, List.getElem?_append_right (by omega), Nat.sub_self]; rfl)
    refine ⟨ps ++ [p], by rw [e, hp0, List.map_append]; rfl, by rw [List.length_append, hpl]; rfl, fun i q hq => ?_⟩
    by_cases hi : i < n
    · rw [List.getElem?_append_left (by omega)] at hq
      exact hp i q hq
    · have hlen := (List.getElem?_eq_some_iff.mp hq).1
      rw [List.length_append, List.length_singleton] at hlen
      have e3 : i = n := by omega
      subst e3
      rw [← hpl, List.getElem?_append_right (Nat.le_refl _), Nat.sub_self] at hq
      have : q = p := by cases hq; rfl
      rw [this]; exact hpn
theorem accs {R : List Nat → Prop} : ∀ {acc : List D}, (∀ d ∈ acc, ∃ p, d = .str (mk p) ∧ R p) → ∃ ps : List (List Nat), acc = ps.map sIt ∧ ∀ p ∈ ps, R p
  | [], _ => ⟨[], rfl, fun _ h => nomatch h⟩
  | d :: acc, h => by
    obtain ⟨ps, rfl, hp⟩ := accs fun x hx => h x (List.mem_cons_of_mem _ hx)
    obtain ⟨p, rfl, hr⟩ := h d List.mem_cons_self
    exact ⟨p :: ps, rfl, fun y hy => (List.mem_cons.mp hy).elim (fun e => by rw [e]; exact hr) (hp y)⟩
theorem joinC_le {B : Nat} : ∀ {ps : List (List Nat)}, (∀ p ∈ ps, p.length ≤ B) → (TL.joinL [44] ps).length + 1 ≤ (B + 1) * ps.length + 1
  | [], _ => by simp [TL.joinL]
  | [p], h => by have := h p List.mem_cons_self; simp [TL.joinL]; omega
  | p :: q :: r, h => by
    have h1 := h p List.mem_cons_self
    have ih := joinC_le (B := B) (ps := q :: r) fun x hx => h x (List.mem_cons_of_mem _ hx)
    have e : TL.joinL [44] (p :: q :: r) = p ++ 44 :: TL.joinL [44] (q :: r) := by simp [TL.joinL]
    rw [e, List.length_append, List.length_cons]
    rw [List.length_cons (as := q :: r), Nat.mul_succ]
    omega
theorem joinC_lt {B : Nat} {ps : List (List Nat)} (h0 : ps ≠ []) (h : ∀ p ∈ ps, p.length ≤ B) : (TL.joinL [44] ps).length + 1 ≤ (B + 1) * ps.length := by
  induction ps with
  | nil => exact absurd rfl h0
  | cons p r ih =>
    have h1 := h p List.mem_cons_self
    cases r with
    | nil => simp [TL.joinL]; omega
    | cons q r =>
      have ih := ih (by simp) fun x hx => h x (List.mem_cons_of_mem _ hx)
      have e : TL.joinL [44] (p :: q :: r) = p ++ 44 :: TL.joinL [44] (q :: r) := by simp [TL.joinL]
      rw [e, List.length_append, List.length_cons]
      rw [List.length_cons (as := q :: r), Nat.mul_succ]
      omega
end DL

namespace DL
open PySem PySem.Spec PyProof.Rows L2
section
variable {X : Cx}
/-- a written tuple of texts at the top of a module -/
def GlT (K : PySem.W.Frag) (p : Addr) (us : List Str) : Prop := ∃ (o : Obj) (its : Array Value) (n : Nat), K.lookup p = some o ∧ o.cls = .type "tuple" ∧ o.data = .seq its n ∧ its.size ≤ sizeLine ∧ Vals (us.map V.str) its.toList
theorem inV_strs (z : Str) : ∀ us : List Str, inV (.str z) (us.map V.str) = decide (z ∈ us)
  | [] => rfl
  | u :: us => by
    have ih := inV_strs z us
    unfold inV at *
    rw [List.map_cons, List.any_cons, ih]
    have e : eqV (V.str u) (V.str z) = decide (z = u) := by
      by_cases h : z = u
      · subst h; rw [decide_eq_true rfl]; simp [eqV]
      · rw [decide_eq_false h]; simp [eqV]; exact fun e => h e.symm
    rw [e]
    by_cases h : z = u <;> simp [h]
theorem flat_strs : ∀ us : List Str, (us.map V.str).all flatV = true
  | [] => rfl
  | u :: us => by rw [List.map_cons, List.all_cons, flat_strs us]; rfl
/-- x in NAMES -/
def dInG (us : List Str) (ta : DTE) : DTE := fun e g Q => ta e g fun x g1 => ∃ z, x = .str z ∧ Q (.bl (decide (z ∈ us))) g1
variable {a : Expr} {ta : DTE} {pos pos2 : Pos}
theorem de_inG {us : List Str} {x : Str} {p : Addr} (ha : DE X a ta) (hg : Gl X x) (hm : X.mg x = some (.ref p)) (hp : GlT X.K p us) (hd : (x == ("__debug__" : Str)) = false := by decide) : DE X (.Compare a [.In] [.Name x pos2] pos) (dInG us ta) :=
  ⟨peW (pe_cmpR op_in_seq ha.pe (pe_glob (v := .ref p) hg hm rfl hd) rfl) fun σ H Q h => by
    obtain ⟨e, g, Qd, re, rg, q, k⟩ := h
    refine ⟨e, g, _, re, rg, q, fun x dx H1 g1 x1 rg1 rx q1 => ?_⟩
    obtain ⟨z, rfl, q1⟩ := q1
    cases rx
    refine ⟨p, us.map V.str, rfl, .inr (.inr hp), rfl, flat_strs us, ?_⟩
    rw [inV_strs]
    exact rg1.fin (k.mono x1) (.bl _) q1⟩
/-- x not in NAMES -/
def dNotInG (us : List Str) (ta : DTE) : DTE := fun e g Q => ta e g fun x g1 => ∃ z, x = .str z ∧ Q (.bl (!decide (z ∈ us))) g1
theorem de_notInG {us : List Str} {x : Str} {p : Addr} (ha : DE X a ta) (hg : Gl X x) (hm : X.mg x = some (.ref p)) (hp : GlT X.K p us) (hd : (x == ("__debug__" : Str)) = false := by decide) : DE X (.Compare a [.NotIn] [.Name x pos2] pos) (dNotInG us ta) :=
  ⟨peW (pe_cmpR op_notIn_seq ha.pe (pe_glob (v := .ref p) hg hm rfl hd) rfl) fun σ H Q h => by
    obtain ⟨e, g, Qd, re, rg, q, k⟩ := h
    refine ⟨e, g, _, re, rg, q, fun x dx H1 g1 x1 rg1 rx q1 => ?_⟩
    obtain ⟨z, rfl, q1⟩ := q1
    cases rx
    refine ⟨p, us.map V.str, rfl, .inr (.inr hp), rfl, flat_strs us, ?_⟩
    rw [inV_strs]
    exact rg1.fin (k.mono x1) (.bl _) q1⟩
theorem dt_inG {us : List Str} {x : Str} {p : Addr} (ha : DE X a ta) (hg : Gl X x) (hm : X.mg x = some (.ref p)) (hp : GlT X.K p us) (hd : (x == ("__debug__" : Str)) = false := by decide) : DT X (.Compare a [.In] [.Name x pos2] pos) (dTest (dInG us ta)) :=
  ⟨ptW (pt_cmpR op_in_seq ha.pe (pe_glob (v := .ref p) hg hm rfl hd) rfl) fun σ H Q h => by
    obtain ⟨e, g, Qd, re, rg, q, k⟩ := h
    refine ⟨e, g, _, re, rg, q, fun x dx H1 g1 x1 rg1 rx q1 => ?_⟩
    obtain ⟨z, rfl, b, eb, q1⟩ := q1
    cases rx
    cases eb
    refine ⟨p, us.map V.str, rfl, .inr (.inr hp), rfl, flat_strs us, ?_⟩
    rw [inV_strs]
    exact ⟨_, rfl, k _ _ _ x1 rg1 q1⟩⟩
theorem dt_notInG {us : List Str} {x : Str} {p : Addr} (ha : DE X a ta) (hg : Gl X x) (hm : X.mg x = some (.ref p)) (hp : GlT X.K p us) (hd : (x == ("__debug__" : Str)) = false := by decide) : DT X (.Compare a [.NotIn] [.Name x pos2] pos) (dTest (dNotInG us ta)) :=
  ⟨ptW (pt_cmpR op_notIn_seq ha.pe (pe_glob (v := .ref p) hg hm rfl hd) rfl) fun σ H Q h => by
    obtain ⟨e, g, Qd, re, rg, q, k⟩ := h
    refine ⟨e, g, _, re, rg, q, fun x dx H1 g1 x1 rg1 rx q1 => ?_⟩
    obtain ⟨z, rfl, b, eb, q1⟩ := q1
    cases rx
    cases eb
    refine ⟨p, us.map V.str, rfl, .inr (.inr hp), rfl, flat_strs us, ?_⟩
    rw [inV_strs]
    exact ⟨_, rfl, k _ _ _ x1 rg1 q1⟩⟩
theorem s_inG {us : List Str} {e : EV} {g : GS} {Q : DK} (h : ta e g fun x g1 => ∃ z, x = .str z ∧ Q (.bl (decide (z ∈ us))) g1) : dInG us ta e g Q := h
theorem s_notInG {us : List Str} {e : EV} {g : GS} {Q : DK} (h : ta e g fun x g1 => ∃ z, x = .str z ∧ Q (.bl (!decide (z ∈ us))) g1) : dNotInG us ta e g Q := h
theorem glT_mk {K : PySem.W.Frag} {p : Addr} {us : List Str} {d : Option Addr} {its : Array Value} {n : Nat} {sl : Array (Option Value)} (h : K.lookup p = some ⟨.type "tuple", d, .seq its n, sl⟩) (hz : its.size ≤ sizeLine) (hv : Vals (us.map V.str) its.toList) : GlT K p us := ⟨_, its, n, h, rfl, rfl, hz, hv⟩
end
end DL

namespace DL
open PySem PySem.Spec PyProof.Rows L2
section
variable {X : Cx} {a : Expr} {ta : DTE} {ss ss2 : List Stmt} {T U : DTS} {pos p1 cp : Pos}
/-- a test against a written number gives a token out: both branches may replace -/
theorem ds_ifK {op : CmpOp} {r : DR2} {i : Int} {j : Nat} (ho : DOpR X (compareOp op) r) (ha : DE X a ta) (h1 : DSsT X ss T) (h2 : DSsT X ss2 U) (hm : behindInMarks op (.Constant (.int i) j cp) = false) :
    DS X (.If (.Compare a [op] [.Constant (.int i) j cp] p1) ss ss2 pos) (dIf (dTest (dOp r ta (dC (.int i)))) T U) := by
  refine ⟨⟨fun pins s σ H D I h => ?_⟩⟩
  obtain ⟨e, g, Dd, re, rg, q, k1, k2, k3, k4⟩ := h
  refine wpAny_If (thn (Q := fun d s1 => 1 ≤ s1.toks ∧ ∃ H1 g1, Inv X pins σ H1 s1 ∧ Ext H H1 ∧ RepG X.K H1 g1 ∧ (if d = true then T Dd e g1 else U Dd e g1)) ?_ fun d s1 ⟨ht, H1, g1, I1, x1, rg1, q1⟩ => ?_)
  · refine wpAny_isTrue_Compare1 (thn (ha.pe.run pins s σ H (fun x H1 => ∃ dx g1, RepD X.K H1 x dx ∧ RepG X.K H1 g1 ∧ Ext H H1 ∧ r dx (.int i) g1 fun d g' => ∃ k, d = .bl k ∧ (if k = true then T Dd e g' else U Dd e g')) I ⟨e, g, _, re, rg, q, fun x dx H1 g1 x1 rg1 rx q1 => ⟨dx, g1, rx, rg1, x1, q1⟩⟩)
      fun v s1 ⟨x, H1, I1, r1, dx, g1, rx, rg1, x1, q1⟩ => ?_) hm
    refine wpAny_Constant_int ?_
    refine wpAny_mono (PySem.wpAny_toks_of (n := 1) (show 1 ≤ s1.toks + 1 by omega) (ho pins { s1 with toks := s1.toks + 1 } σ H1 x (.int i) v _ (fun z H3 => ∃ k g3, z = .bl k ∧ Ext H H3 ∧ RepG X.K H3 g3 ∧ (if k = true then T Dd e g3 else U Dd e g3)) (I1.tok _) r1 ⟨_, rfl⟩
      ⟨dx, .int i, g1, _, rx, .int i, rg1, q1, fun z dz H3 g3 x3 rg3 rz ⟨k, hk, q3⟩ => ?_⟩)) (fun c s3 q3 => ?_) fun _ _ w => w.2
    · subst hk
      cases rz
      exact ⟨k, g3, rfl, x1.trans x3, rg3, q3⟩
    · obtain ⟨ht, z, H3, I3, r3, k, g3, rfl, x3, rg3, q3⟩ := q3
      cases r3
      exact wpAny_truthy_bool ⟨ht, H3, g3, I3, x3, rg3, q3⟩
  · cases d with
    | true => exact h1.run pins s1 σ H1 D ht I1 ⟨e, g1, Dd, re.mono x1, rg1, q1, k1.mono x1, k2.mono x1, k3.mono x1, k4.mono x1⟩
    | false => exact h2.run pins s1 σ H1 D ht I1 ⟨e, g1, Dd, re.mono x1, rg1, q1, k1.mono x1, k2.mono x1, k3.mono x1, k4.mono x1⟩
theorem dst_ret (he : DET X a ta) : DST X (.Return (some a) pos) (dRet ta) := by
  refine ⟨fun pins s σ H D h0 I h => ?_⟩
  obtain ⟨e, g, Dd, re, rg, q, _, k2, _⟩ := h
  exact wpAny_Return_some (thn (he.run pins s σ H D.rt h0 I ⟨e, g, _, re, rg, q, k2⟩) fun v s1 ⟨x, H1, I1, r1, q1⟩ => ⟨x, σ, H1, I1, r1, q1⟩)
end
end DL

namespace DL
open PySem PyProof.Rows
/-! texts cut at blanks -/
def cutW : List Nat → List (List Nat)
  | [] => [[]]
  | c :: cs => if c = 32 then [] :: cutW cs else match cutW cs with
    | p :: ps => (c :: p) :: ps
    | [] => [[c]]
theorem cutW_ne : ∀ l, cutW l ≠ []
  | [] => by simp [cutW]
  | c :: cs => by
    unfold cutW
    split
    · simp
    · split <;> simp
theorem cutW_free : ∀ l, ∀ p ∈ cutW l, 32 ∉ p
  | [], p, h => by simp [cutW] at h; subst h; simp
  | c :: cs, p, h => by
    unfold cutW at h
    split at h
    · rcases List.mem_cons.mp h with rfl | h
      · simp
      · exact cutW_free cs p h
    · rename_i hc
      cases e : cutW cs with
      | nil => exact absurd e (cutW_ne cs)
      | cons q qs =>
        rw [e] at h
        have ih := cutW_free cs
        rw [e] at ih
        rcases List.mem_cons.mp h with rfl | h
        · have := ih q List.mem_cons_self
          simp [this]
          omega
        · exact ih p (List.mem_cons_of_mem _ h)
theorem cutW_join : ∀ l, TL.joinL [32] (cutW l) = l
  | [] => rfl
  | c :: cs => by
    have ih := cutW_join cs
    unfold cutW
    cases e : cutW cs with
    | nil => exact absurd e (cutW_ne cs)
    | cons q qs =>
      rw [e] at ih
      split
      · rename_i hc
        show [] ++ ([32] ++ TL.joinL [32] (q :: qs)) = _
        rw [ih, hc]; rfl
      · cases qs with
        | nil =>
          have : q = cs := ih
          rw [← this]; rfl
        | cons r rs =>
          show (c :: q) ++ ([32] ++ TL.joinL [32] (r :: rs)) = _
          have : q ++ ([32] ++ TL.joinL [32] (r :: rs)) = cs := ih
          rw [← this]; rfl
theorem cutW_split (l : List Nat) : Txt.split (mk l) " " = (cutW l).map mk := by
  have e : (mk l : Str) = Txt.join " " ((cutW l).map mk) := TL.ext_tl (by
    have c1 : TL.tl (" " : Str) = [32] := by decide +kernel
    rw [TL.join_eq, tl_mk, TL.tl_join, List.map_map, c1]
    have : (cutW l).map (TL.tl ∘ mk) = cutW l := by
      exact (List.map_congr_left (g := id) (fun x _ => tl_mk x)).trans (List.map_id _)
    rw [this]
    exact (cutW_join l).symm)
  rw [e]
  exact TL.split_join (s := 32) (S := []) (by decide +kernel) (by decide +kernel) (fun z => cutW_ne l (List.map_eq_nil_iff.mp z)) fun p hp => by
    obtain ⟨x, hx, rfl⟩ := List.mem_map.mp hp
    rw [tl_mk]
    exact cutW_free l x hx
theorem cutW_le (l p : List Nat) (h : p ∈ cutW l) : p.length ≤ l.length := by
  have := joinL_le [32] (cutW l) p h
  rw [cutW_join] at this
  exact this
theorem cutW_len (l : List Nat) : (cutW l).length ≤ l.length + 1 := by
  induction l with
  | nil => simp [cutW]
  | cons c cs ih =>
    unfold cutW
    split
    · simp; exact ih
    · cases e : cutW cs with
      | nil => simp
      | cons p ps => rw [e] at ih; simp at ih ⊢; omega
theorem cutW_app (p : List Nat) (r : List Nat) (h : 32 ∉ p) : cutW (p ++ 32 :: r) = p :: cutW r := by
  induction p with
  | nil => simp [cutW]
  | cons c p ih =>
    have hc : c ≠ 32 := fun e => h (by rw [e]; exact List.mem_cons_self)
    have := ih fun z => h (List.mem_cons_of_mem _ z)
    have e : cutW (c :: (p ++ 32 :: r)) = if c = 32 then [] :: cutW (p ++ 32 :: r) else match cutW (p ++ 32 :: r) with | q :: qs => (c :: q) :: qs | [] => [[c]] := rfl
    rw [List.cons_append, e, this, if_neg hc]
theorem cutW_one (p : List Nat) (h : 32 ∉ p) : cutW p = [p] := by
  induction p with
  | nil => rfl
  | cons c p ih =>
    have hc : c ≠ 32 := fun e => h (by rw [e]; exact List.mem_cons_self)
    have := ih fun z => h (List.mem_cons_of_mem _ z)
    have e : cutW (c :: p) = if c = 32 then [] :: cutW p else match cutW p with | q :: qs => (c :: q) :: qs | [] => [[c]] := rfl
    rw [e, this, if_neg hc]
theorem cutW_joinL : ∀ {ps : List (List Nat)}, ps ≠ [] → (∀ p ∈ ps, 32 ∉ p) → cutW (TL.joinL [32] ps) = ps
  | [], h, _ => absurd rfl h
  | [p], _, h => by
    have e : TL.joinL [32] [p] = p := by simp [TL.joinL]
    rw [e]
    exact cutW_one p (h p List.mem_cons_self)
  | p :: q :: r, _, h => by
    have e : TL.joinL [32] (p :: q :: r) = p ++ 32 :: TL.joinL [32] (q :: r) := by simp [TL.joinL]
    rw [e, cutW_app _ _ (h p List.mem_cons_self), cutW_joinL (by simp) fun x hx => h x (List.mem_cons_of_mem _ hx)]
theorem cutW_mem {l p : List Nat} {c : Nat} (h : p ∈ cutW l) (hc : c ∈ p) : c ∈ l := by
  have key : ∀ ps : List (List Nat), ∀ p ∈ ps, ∀ c ∈ p, c ∈ TL.joinL [32] ps := fun ps => by
    induction ps with
    | nil => intro p h; cases h
    | cons q r ih =>
      intro p h c hc
      cases r with
      | nil =>
        rw [List.mem_singleton.mp h] at hc
        simpa [TL.joinL] using hc
      | cons q2 r2 =>
        have e : TL.joinL [32] (q :: q2 :: r2) = q ++ 32 :: TL.joinL [32] (q2 :: r2) := by simp [TL.joinL]
        rw [e]
        rcases List.mem_cons.mp h with rfl | h
        · exact List.mem_append_left _ hc
        · exact List.mem_append_right _ (List.mem_cons_of_mem _ (ih p h c hc))
  have := key (cutW l) p h c hc
  rwa [cutW_join] at this
theorem rep_W (l z : List Nat) : Txt.replace (mk l) " " (mk z) = mk (TL.joinL z (cutW l)) := TL.ext_tl (by
  have c1 : (" " : Str) = ⟨#[32]⟩ := by decide +kernel
  have e : Txt.replace (mk l) " " (mk z) = Txt.join (mk z) ((cutW l).map mk) := by
    rw [← cutW_split l, c1, TL.join_eq]
    exact StrLaws.replace_one (mk l) (mk z) 32
  rw [e, TL.join_eq, TL.tl_join, tl_mk, tl_mk, List.map_map]
  have : (cutW l).map (TL.tl ∘ mk) = cutW l := (List.map_congr_left (g := id) (fun x _ => tl_mk x)).trans (List.map_id _)
  rw [this])
theorem rep_W' (l z : List Nat) : Txt.replace (mk l) (mk [32]) (mk z) = mk (TL.joinL z (cutW l)) := by
  have c1 : (mk [32] : Str) = " " := by decide +kernel
  rw [c1]
  exact rep_W l z
theorem joinW2_len : ∀ ps : List (List Nat), (TL.joinL [32, 32] ps).length ≤ 2 * (TL.joinL [32] ps).length
  | [] => by simp [TL.joinL]
  | [p] => by simp [TL.joinL]; omega
  | p :: q :: r => by
    have e : TL.joinL [32, 32] (p :: q :: r) = p ++ ([32, 32] ++ TL.joinL [32, 32] (q :: r)) := rfl
    have e2 : TL.joinL [32] (p :: q :: r) = p ++ ([32] ++ TL.joinL [32] (q :: r)) := rfl
    have := joinW2_len (q :: r)
    rw [e, e2]
    simp only [List.length_append, List.length_cons, List.length_nil]
    omega
theorem join1_len (c : Nat) : ∀ ps : List (List Nat), (TL.joinL [c] ps).length = (TL.joinL [32] ps).length
  | [] => rfl
  | [p] => rfl
  | p :: q :: r => by
    have e : TL.joinL [c] (p :: q :: r) = p ++ ([c] ++ TL.joinL [c] (q :: r)) := rfl
    have e2 : TL.joinL [32] (p :: q :: r) = p ++ ([32] ++ TL.joinL [32] (q :: r)) := rfl
    have := join1_len c (q :: r)
    rw [e, e2]
    simp only [List.length_append, List.length_cons, List.length_nil]
    omega
theorem rep1_len {c : Nat} (l : List Nat) : (TL.joinL [c] (cutW l)).length = l.length := by rw [join1_len, cutW_join]
theorem joinW_drop : ∀ ps : List (List Nat), (TL.joinL [32] ps.dropLast).length ≤ (TL.joinL [32] ps).length
  | [] => Nat.le_refl _
  | [p] => by simp [TL.joinL]
  | p :: q :: r => by
    have ih := joinW_drop (q :: r)
    have e2 : TL.joinL [32] (p :: q :: r) = p ++ ([32] ++ TL.joinL [32] (q :: r)) := rfl
    cases r with
    | nil => rw [e2]; simp [TL.joinL]
    | cons s t =>
      have e : TL.joinL [32] (p :: q :: s :: t).dropLast = p ++ ([32] ++ TL.joinL [32] (q :: s :: t).dropLast) := rfl
      rw [e, e2]
      simp only [List.length_append]
      omega
section
variable {k : FK} {g0 g : GS} {lo : FL} {l : List Nat} {Q : DK}
theorem k_cutW (F : Fr k g0 g lo) (ha : l.length ≤ 16777214) (h : ∀ r g', Fr k g0 g' ((r, .lst ((cutW l).map fun p => .str (mk p)), true) :: lo) → Q (.ref r) g') : splitD (.str (mk l)) [.str (mk [32])] g Q :=
  k_split F (by decide +kernel) (by rw [TL.len_tl, tl_mk]; exact ha) fun r g' F' => h r g' (by
    have e : ((Txt.split (mk l) (mk [32])).map DL.D.str) = (cutW l).map fun p => .str (mk p) := by
      have c1 : (mk [32] : Str) = " " := by decide +kernel
      rw [c1, cutW_split, List.map_map]; rfl
    rw [e] at F'
    exact F')
end
/-! signs of a row -/
def RowL (l : List Nat) : Prop := ∀ c ∈ l, 32 ≤ c ∧ c ≤ 126 ∧ c ≠ 37
theorem RowL.app {a b : List Nat} (h1 : RowL a) (h2 : RowL b) : RowL (a ++ b) := fun c hc => (List.mem_append.mp hc).elim (h1 c) (h2 c)
theorem RowL.take {a : List Nat} (h : RowL a) (n : Nat) : RowL (a.take n) := fun c hc => h c (List.mem_of_mem_take hc)
theorem RowL.drop {a : List Nat} (h : RowL a) (n : Nat) : RowL (a.drop n) := fun c hc => h c (List.mem_of_mem_drop hc)
theorem RowL.cut {a p : List Nat} (h : RowL a) (hp : p ∈ cutW a) : RowL p := fun c hc => h c (cutW_mem hp hc)
theorem RowL.join {z : List Nat} {ps : List (List Nat)} (hz : RowL z) (hp : ∀ p ∈ ps, RowL p) : RowL (TL.joinL z ps) := fun c hc => (joinL_mem _ _ _ hc).elim (hz c) fun ⟨p, h, k⟩ => hp p h c k
theorem RowL.rep {a : List Nat} (h : RowL a) {z : List Nat} (hz : RowL z) : RowL (TL.joinL z (cutW a)) := .join hz fun p hp => h.cut hp
theorem RowL.up {a : List Nat} (h : RowL a) : RowL (a.map up1) := fun c hc => by
  obtain ⟨d, hd, rfl⟩ := List.mem_map.mp hc
  have := h d hd
  unfold up1
  split <;> omega
theorem RowL.num (n : Nat) : RowL (TL.numL n) := fun c hc => by
  have := TL.numL_digits n c hc
  unfold dig at this
  omega
theorem RowL.rep' {n c : Nat} (h : 32 ≤ c ∧ c ≤ 126 ∧ c ≠ 37) : RowL (List.replicate n c) := fun d hd => by rw [List.eq_of_mem_replicate hd]; exact h
theorem RowL.name {l : List Nat} {n : Nat} (h : NameL n l) : RowL l := fun c hc => by
  obtain ⟨a, r, rfl, h1, h2, _⟩ := h
  have : low c ∨ dig c := by
    rcases List.mem_cons.mp hc with rfl | hc
    · exact .inl h1
    · exact h2 c hc
  unfold low dig at this
  omega
end DL

namespace DL
open PySem PySem.Spec PyProof.Rows L2
/-! numbers of a word -/
abbrev dval (l : List Nat) : Nat := PySem.NumText.digitsVal l
theorem val_ge : ∀ (r : List Nat) (a : Nat), a ≤ r.foldl (fun acc c => acc * 10 + (c - 48)) a
  | [], _ => Nat.le_refl _
  | c :: r, a => by
    have := val_ge r (a * 10 + (c - 48))
    rw [List.foldl_cons]
    omega
theorem val_snoc (l : List Nat) (c : Nat) : dval (l ++ [c]) = dval l * 10 + (c - 48) := by
  unfold dval PySem.NumText.digitsVal
  rw [List.foldl_append]
  rfl
theorem numL_val : ∀ (n : Nat) (l : List Nat), l.length = n → digsB l = true → l ≠ [] → (l = [48] ∨ l.head? ≠ some 48) → TL.numL (dval l) = l := fun n => by
  induction n with
  | zero => intro l hl _ h0; exact absurd (List.length_eq_zero_iff.mp hl) h0
  | succ n ih =>
    intro l hl hd h0 hh
    rcases List.eq_nil_or_concat l with rfl | ⟨p, c, e⟩
    · exact absurd rfl h0
    rw [List.concat_eq_append] at e
    subst e
    have hc : 48 ≤ c ∧ c ≤ 57 := of_decide_eq_true (List.all_eq_true.mp hd c (by simp))
    rw [val_snoc]
    cases p with
    | nil =>
      show TL.numL (0 * 10 + (c - 48)) = [c]
      rw [TL.numL_lt (by omega)]
      congr 1
      omega
    | cons d r =>
      have hne : (d :: r).head? ≠ some 48 := by
        rcases hh with h | h
        · have := congrArg List.length h
          simp at this
        · exact h
      have hd2 : digsB (d :: r) = true := List.all_eq_true.mpr fun x hx => List.all_eq_true.mp hd x (List.mem_append_left _ hx)
      have hd0 : 48 ≤ d ∧ d ≤ 57 := of_decide_eq_true (List.all_eq_true.mp hd2 d List.mem_cons_self)
      have hd1 : d ≠ 48 := fun e => hne (by rw [e]; rfl)
      have hv : 1 ≤ dval (d :: r) := by
        have := val_ge r (0 * 10 + (d - 48))
        show 1 ≤ r.foldl (fun acc c => acc * 10 + (c - 48)) (0 * 10 + (d - 48))
        omega
      have := ih (d :: r) (by simp at hl ⊢; omega) hd2 (by simp) (.inr hne)
      rw [TL.numL_step (by omega)]
      have e1 : (dval (d :: r) * 10 + (c - 48)) / 10 = dval (d :: r) := by omega
      have e2 : (dval (d :: r) * 10 + (c - 48)) % 10 = c - 48 := by omega
      rw [e1, e2, this]
      congr 2
      omega
theorem numL_numB {l : List Nat} (h : numB l = true) : TL.numL (dval l) = l := by
  unfold numB at h
  rw [Bool.and_eq_true, Bool.and_eq_true, Bool.or_eq_true] at h
  refine numL_val _ l rfl h.1.2 (fun z => by rw [z] at h; exact absurd h.1.1 (by decide)) ?_
  rcases h.2 with h | h
  · exact .inl (eq_of_beq h)
  · exact .inr (bne_iff_ne.mp h)
theorem int_numB {l : List Nat} (h : numB l = true) (hl : l.length ≤ 600) : intText? (mk l) = some ((dval l : Nat) : Int) := by
  unfold numB at h
  rw [Bool.and_eq_true, Bool.and_eq_true] at h
  exact PySem.intText_digits (x := mk l) (fun c hc => of_decide_eq_true (List.all_eq_true.mp h.1.2 c hc)) (fun z => by
    have z : l = [] := z
    rw [z] at h; exact absurd h.1.1 (by decide)) (by rw [TL.len_tl, tl_mk]; omega)
/-! what a word says -/
abbrev WD := List Nat ⊕ Nat
def wD : WD → DL.D
  | .inl l => .str (mk l)
  | .inr n => .int (n : Int)
def wT : WD → List Nat
  | .inl l => l
  | .inr n => TL.numL n
def bareS : List Str := [".", "close", "ready", "closed"]
def keyedS : List Str := ["bring", "body", "clear", "want", "have", "old", "took", "spoilt", "cleared"]
def lnB (t : List Nat) (n : Nat) : Bool := decide ((t.length : Int) ≤ n) && numB t
def lkB (k : List Nat) : Bool := decide (1 ≤ k.length) && decide (k.length ≤ 60)
def prsL : List (List Nat) → Option (List WD)
  | [f] => if mk f ∈ bareS then some [.inl f] else none
  | [f, k] => if mk f ∈ keyedS ∧ lkB k = true then some [.inl f, .inl k] else none
  | [f, a, b] => if mk f = "open" ∧ nameB a = true ∧ nameB b = true then some [.inl f, .inl a, .inl b] else none
  | [f, k, h, d] => if mk f = "offer" ∧ lkB k = true ∧ lnB h 3 = true ∧ lnB d 7 = true then some [.inl f, .inl k, .inr (dval h), .inr (dval d)] else none
  | _ => none
def prs (l : List Nat) : Option (List WD) := prsL (cutW l)
def prsD (l : List Nat) : DL.D := match prs l with
  | some ws => .tup (ws.map wD)
  | none => .non
theorem prs_some {l : List Nat} {ws : List WD} (h : prs l = some ws) : TL.joinL [32] (ws.map wT) = l ∧ ws.length ≤ 4 := by
  have hj := cutW_join l
  unfold prs at h
  generalize cutW l = S at h hj
  match S, h with
  | [f], h =>
    rw [prsL] at h
    split at h
    · cases h; exact ⟨hj, by simp⟩
    · cases h
  | [f, k], h =>
    rw [prsL] at h
    split at h
    · cases h; exact ⟨hj, by simp⟩
    · cases h
  | [f, a, b], h =>
    rw [prsL] at h
    split at h
    · cases h; exact ⟨hj, by simp⟩
    · cases h
  | [f, k, n, d], h =>
    rw [prsL] at h
    split at h
    · rename_i h1
      cases h
      have e1 := numL_numB (Bool.and_eq_true_iff.mp h1.2.2.1).2
      have e2 := numL_numB (Bool.and_eq_true_iff.mp h1.2.2.2).2
      refine ⟨?_, by simp⟩
      show TL.joinL [32] [f, k, TL.numL (dval n), TL.numL (dval d)] = l
      rw [e1, e2]
      exact hj
    · cases h
  | [], h => cases h
  | _ :: _ :: _ :: _ :: _ :: _, h => cases h
/-! False in [..] -/
section
variable {α : Type} {k : FK} {g0 g : GS} {lo : FL} {Q : DK} {p : Addr} {b : Bool} {xs : List α} {f : α → Bool}
theorem any_false : ∀ xs : List α, ((xs.map fun x => DL.D.bl (f x)).any fun z => eqP z (.bl false)) = !xs.all f
  | [] => rfl
  | x :: xs => by
    rw [List.map_cons, List.any_cons, any_false xs, eqP_bl, List.all_cons]
    cases f x <;> rfl
theorem scal_bls (xs : List α) : (xs.map fun x => DL.D.bl (f x)).all scalD = true := by simp [scalD]
theorem k_inF (F : Fr k g0 g lo) (n : Nat) (e : lo[n]? = some (p, .lst (xs.map fun x => .bl (f x)), b)) (h : Q (.bl (!xs.all f)) g) : inD (.bl false) (.ref p) g Q :=
  ⟨_, .inl (F.at n e), .inl ⟨rfl, scal_bls xs⟩, by rw [any_false]; exact h⟩
theorem k_notInF (F : Fr k g0 g lo) (n : Nat) (e : lo[n]? = some (p, .lst (xs.map fun x => .bl (f x)), b)) (h : Q (.bl (xs.all f)) g) : notInD (.bl false) (.ref p) g Q :=
  k_inF (Q := notV Q) F n e (by show Q (.bl (!!xs.all f)) g; rw [Bool.not_not]; exact h)
end
/-- str of a number or a text -/
def strAF : DRC := fun xs g Q => match xs with
  | [.int i] => i.natAbs.log2 < 1920 ∧ Q (.str (toString i)) g
  | [.str z] => Q (.str z) g
  | _ => False
section
variable {X : Cx}
theorem call_strAF : CallR X (.type "str") (lRC X.K strAF) := fun pins s σ H xs us Q I rs ⟨ds, g, Qd, l, rg, q, k⟩ => by
  rcases l with _ | ⟨r1, _ | ⟨r2, l⟩⟩
  · exact q.elim
  · cases r1 with
    | int i => exact call_str_int pins s σ H _ us Q I rs ⟨i, rfl, q.1, rg.fin k (.str _) q.2⟩
    | str z => exact SkE.call_str_str pins s σ H _ us Q I rs ⟨z, rfl, rg.fin k (.str _) q⟩
    | _ => exact q.elim
  · cases r1 <;> exact q.elim
end
/-- a step that waits -/
def Held (P : Prop) : Prop := P
theorem held {P : Prop} (h : Held P) : P := h
theorem rowL_lit {l : List Nat} (h : (l.all fun c => decide (32 ≤ c ∧ c ≤ 126 ∧ c ≠ 37)) = true) : RowL l := fun c hc => of_decide_eq_true (List.all_eq_true.mp h c hc)
/-- texts of rows, each of at most B signs -/
def RowD (B : Nat) (d : DL.D) : Prop := ∃ l, d = .str (mk l) ∧ RowL l ∧ l.length ≤ B
theorem rowD_lit {l : List Nat} {B : Nat} (h : (l.all fun c => decide (32 ≤ c ∧ c ≤ 126 ∧ c ≠ 37)) = true) (hl : l.length ≤ B) : RowD B (.str (mk l)) := ⟨l, rfl, rowL_lit h, hl⟩
theorem rowD_nil {B : Nat} : ∀ d ∈ ([] : List DL.D), RowD B d := fun d h => by cases h
theorem rowD_cons {B : Nat} {d : DL.D} {ds : List DL.D} (h1 : RowD B d) (h2 : ∀ d ∈ ds, RowD B d) : ∀ x ∈ d :: ds, RowD B x := fun x hx => by
  rcases List.mem_cons.mp hx with rfl | hx
  · exact h1
  · exact h2 x hx
theorem RowL.nameOk {z : Str} (h : NameOk z) : ∃ l, z = mk l ∧ RowL l ∧ l.length ≤ 7 := ⟨TL.tl z, (mk_tl z).symm, .name h, by
  obtain ⟨c, r, e, _, _, hl⟩ := h
  rw [e, List.length_cons]; omega⟩
theorem RowL.sub {r l : List Nat} (h : ∀ c ∈ r, c ∈ l) (hl : RowL l) : RowL r := fun c hc => hl c (h c hc)
theorem prs1 {f : List Nat} (h : mk f ∈ bareS) : prsL [f] = some [.inl f] := if_pos h
theorem prs1n {f : List Nat} (h : ¬ mk f ∈ bareS) : prsL [f] = none := if_neg h
theorem prs2 {f k : List Nat} (h : mk f ∈ keyedS) (h2 : lkB k = true) : prsL [f, k] = some [.inl f, .inl k] := if_pos ⟨h, h2⟩
theorem prs2n {f k : List Nat} (h : ¬ (mk f ∈ keyedS ∧ lkB k = true)) : prsL [f, k] = none := if_neg h
theorem prs3 {f a b : List Nat} (h : mk f = "open") (h2 : nameB a = true) (h3 : nameB b = true) : prsL [f, a, b] = some [.inl f, .inl a, .inl b] := if_pos ⟨h, h2, h3⟩
theorem prs3n {f a b : List Nat} (h : ¬ (mk f = "open" ∧ nameB a = true ∧ nameB b = true)) : prsL [f, a, b] = none := if_neg h
theorem prs4 {f k h d : List Nat} (h1 : mk f = "offer") (h2 : lkB k = true) (h3 : lnB h 3 = true) (h4 : lnB d 7 = true) : prsL [f, k, h, d] = some [.inl f, .inl k, .inr (dval h), .inr (dval d)] := if_pos ⟨h1, h2, h3, h4⟩
theorem prs4n {f k h d : List Nat} (h1 : ¬ (mk f = "offer" ∧ lkB k = true ∧ lnB h 3 = true ∧ lnB d 7 = true)) : prsL [f, k, h, d] = none := if_neg h1
theorem prs5n {a b c d e : List Nat} {S : List (List Nat)} : prsL (a :: b :: c :: d :: e :: S) = none := rfl
theorem lkB_of {k : List Nat} (h1 : ¬ ((k.length : Nat) : Int) < 1) (h2 : ¬ (60 : Int) < (k.length : Nat)) : lkB k = true := by
  unfold lkB
  rw [decide_eq_true (by omega), decide_eq_true (by omega)]; rfl
theorem lkB_lo {k : List Nat} (h1 : ((k.length : Nat) : Int) < 1) : lkB k = false := by
  unfold lkB
  rw [decide_eq_false (by omega)]; rfl
theorem lkB_hi {k : List Nat} (h1 : (60 : Int) < (k.length : Nat)) : lkB k = false := by
  unfold lkB
  rw [decide_eq_false (show ¬ k.length ≤ 60 by omega), Bool.and_false]
theorem val_lt : ∀ (r : List Nat) (a b : Nat), (∀ c ∈ r, c ≤ 57) → a < b → r.foldl (fun acc c => acc * 10 + (c - 48)) a < b * 10 ^ r.length
  | [], a, b, _, h => by simpa using h
  | c :: r, a, b, h, hb => by
    have hc := h c List.mem_cons_self
    have := val_lt r (a * 10 + (c - 48)) (b * 10) (fun x hx => h x (List.mem_cons_of_mem _ hx)) (by omega)
    rw [List.foldl_cons, List.length_cons, Nat.pow_succ]
    have e : b * (10 ^ r.length * 10) = b * 10 * 10 ^ r.length := by rw [Nat.mul_comm (10 ^ r.length) 10, Nat.mul_assoc]
    rw [e]
    exact this
theorem dval_lt {l : List Nat} {n : Nat} (h : lnB l n = true) (hn : n ≤ 7) : dval l < 18446744073709551616 := by
  unfold lnB at h
  rw [Bool.and_eq_true] at h
  have hl := of_decide_eq_true h.1
  have hb := h.2
  unfold numB at hb
  rw [Bool.and_eq_true, Bool.and_eq_true] at hb
  have := val_lt l 0 1 (fun c hc => (of_decide_eq_true (List.all_eq_true.mp hb.1.2 c hc) : dig c).2) (by decide)
  have h2 : 10 ^ l.length ≤ 10 ^ 7 := Nat.pow_le_pow_right (by decide) (by omega)
  show l.foldl (fun acc c => acc * 10 + (c - 48)) 0 < _
  omega
theorem prs_num {l : List Nat} {ws : List WD} (h : prs l = some ws) : ∀ n, (.inr n : WD) ∈ ws → n < 18446744073709551616 := by
  unfold prs at h
  generalize cutW l = S at h
  match S, h with
  | [f], h =>
    rw [prsL] at h
    split at h
    · cases h; intro n hn; simp at hn
    · cases h
  | [f, k], h =>
    rw [prsL] at h
    split at h
    · cases h; intro n hn; simp at hn
    · cases h
  | [f, a, b], h =>
    rw [prsL] at h
    split at h
    · cases h; intro n hn; simp at hn
    · cases h
  | [f, k, m, d], h =>
    rw [prsL] at h
    split at h
    · rename_i h1
      cases h
      intro n hn
      simp at hn
      rcases hn with rfl | rfl
      · exact dval_lt h1.2.2.1 (by decide)
      · exact dval_lt h1.2.2.2 (by decide)
    · cases h
  | [], h => cases h
  | _ :: _ :: _ :: _ :: _ :: _, h => cases h
end DL

set_option maxHeartbeats 4000000
namespace DL
open PySem PySem.Spec PyProof.Rows L2
/-! own exceptions whose __init__ says super().__init__(text) and sets one field -/
/-- what the text and the written part say of such a __init__ -/
structure XI (P : Program) (K : PySem.W.Frag) (mg : Str → Option Value) (C fI cc cda : Addr) (qual f : Str) (st : Stmt) (fd : FuncData) : Prop where
  ex : ∃ (oc : Value) (od : Option Addr) (kV doc pm : Value) (an : Option Addr) (ct : Value) (osl : Array (Option Value)), fd = PySem.W.fnX "__init__" qual (defArgs st) (defBody st) (defScope st) [("__class__", cc)] .none kV doc pm an (.ref cda) ct ∧ K.lookup fI = some ⟨oc, od, .func fd, osl⟩
  code : PySem.W.codeIn K (.ref cda) qual = true
  file : ∃ (ccl : Value) (cdd : Option Addr) (vs : Array Value) (ccs : Array (Option Value)) (fl : Str) (tf : Tok), K.lookup cda = some ⟨ccl, cdd, .fields vs, ccs⟩ ∧ vs[2]? = some (.str fl tf) ∧ ((P.main.file : Str) == fl) = true
  cell : ∃ (cl : Value) (cld : Option Addr) (csl : Array (Option Value)), K.lookup cc = some ⟨cl, cld, .cell (some (.ref C)), csl⟩
  top : (P.main.scope.names.lookup ("super" : Str)).isSome = false
  sup : mg "super" = none
  bd : ∃ (m : Str) (j1 : Nat) (p0 p1 p2 p3 p4 p5 p6 p7 p8 p9 : Pos), defBody st = [.Expr (.Call (.Attribute (.Call (.Name "super" p0) [] [] p1) "__init__" p2) [.Constant (.str m) j1 p3] [] p4) p5, .Assign [.Attribute (.Name "self" p6) f p7] (.Name f p8) p9] ∧ (p2.endLine == p4.line) = true
  ar : ∃ ar : Arg, ((defArgs st).posonlyargs ++ (defArgs st).args).head? = some ar ∧ ar.arg = "self"
  ks : (defScope st).names.lookup ("super" : Str) = some .globalImplicit
  kc : (defScope st).names.lookup ("__class__" : Str) = some .free
  ka : (defScope st).names.lookup ("self" : Str) = some .local
  kf : (defScope st).names.lookup f = some .local
  knd : (defScope st).kind = .function
  co : (defScope st).isCoroutine = false
  gn : (defScope st).isGenerator = false
  nc : ∀ x ∈ (defScope st).names, x.2 ≠ .cell
  fn : (f == ("__debug__" : Str)) = false
  fs : (("self" : Str) == f) = false
  al : PySem.W.ks_superIn K C C "__init__" = some (some (.builtin "ValueError.__init__"))
  sb : PySem.W.subIn K (.ref C) (.type "ValueError") = some true
  sC : PySem.W.mroIn K C (.ref C) = some true
  op : PySem.W.nsIn K cStatics "thirdparty.any" = some none
  no : PySem.W.findIn K (.ref C) f = some none
  ox : OexC K C

section
variable {P : Program} {w : World} {A : Around} {K : PySem.W.Frag} {mg : Str → Option Value} {s : Shared} {C fI cc cda a t0 : Addr} {qual f : Str} {st : Stmt} {fd : FuncData} {args : Args} {u : Value} {R : Result → Shared → Prop}
open PySem.W in
theorem ini_raw (I : XI P K mg C fI cc cda qual f st fd) (hroom : A.depth < recursionLimit) (X : K.In s.heap) (lim : s.heap.NoLimit) (G : s.heap.Ns mainGlobals mg) (hb : ∃ mb, s.heap.Ns builtinsNs mb ∧ ∀ x : Str, x ≠ "__name__" → mb x = bootBuiltins x)
    (hbind : BindsTo s fd args [("self", .ref a), (f, u)]) (he : s.heap.get? a = some (HandSPX.excO C t0)) (hK : ∀ b o, K.lookup b = some o → b ≠ a)
    (hq : ∀ h' (d' t' : Addr) tk, (∀ b o, b ≠ a → s.heap.get? b = some o → h'.get? b = some o) → s.heap.objs.size ≤ d' → d' ≠ a →
      h'.get? a = some ({ cls := .ref C, dict := some d', data := .fields #[.ref t', .none, .none, .none, .bool false, .none] } : Obj) → h'.Ns1 d' (fun y => if y = f then some u else none) → R (.ok (.ret .none)) ⟨h', s.gens, s.drawn, tk, s.os⟩) :
    codeAny (model P w) A (.call (.ref fI) args) R s := by
  obtain ⟨oc, od, kV, doc, pm, an, ct, osl, efd, lk⟩ := I.ex
  obtain ⟨m, j1, p0, p1, p2, p3, p4, p5, p6, p7, p8, p9, hbd, hpos⟩ := I.bd
  obtain ⟨ar, har, ear⟩ := I.ar
  obtain ⟨ccl, cdd, vs, ccs, fl, tf, lcd, hvs, hfl⟩ := I.file
  obtain ⟨cl, cld, csl, lcell⟩ := I.cell
  obtain ⟨nm, qn, N, bs, bm, sn, sub, ab, col, dd, k0, k1, k2, k3, k5, hC, hbm⟩ := I.ox.cls
  have hcl : clsIn K C = some { name := nm, bases := bs, mro := .ref C :: bm, ns := N, qualname := qn, hasDict := true, slotNames := sn, subclasses := sub, abstract := ab, collection := col, hasDel := false } := by unfold clsIn; rw [hC] <;> rfl
  subst efd
  rw [hbd] at hbind lk
  obtain ⟨hh, g, dr, tk, os⟩ := s
  have La : ∀ {h : Heap}, a < hh.objs.size := fun {h} => Heap.lt_size he
  refine ks_codeAny_call_defAt hroom (X _ _ lk) rfl lim (codeRec_of X I.code) rfl hbind I.nc (fun x hx => ?_) (fun h₁ hns hk₁ => ?_) I.co I.gn I.knd
  · rcases List.mem_cons.mp hx with rfl | hx
    · exact I.ka
    · rcases List.mem_cons.mp hx with rfl | hx
      · exact I.kf
      · cases hx
  · have X1 : K.In h₁ := X.keeps hk₁
    have he1 := hk₁ _ _ he
    obtain ⟨mb, hb1, hb2⟩ := hb
    obtain ⟨oC, hD1, hD2⟩ : ∃ oC, h₁.get? C = some oC ∧ oC.data = .cls { name := nm, bases := bs, mro := .ref C :: bm, ns := N, qualname := qn, hasDict := true, slotNames := sn, subclasses := sub, abstract := ab, collection := col, hasDel := false } := ⟨_, X1 _ _ hC, rfl⟩
    have In1 : InstAt h₁ a (HandSPX.excO C t0) C none := ⟨he1, rfl, rfl, trivial⟩
    have hi0 : interactive (callEnv (fnX "__init__" qual (defArgs st) (defBody st) (defScope st) [("__class__", cc)] .none kV doc pm an (.ref cda) ct) hh.objs.size fI) = false := by
      unfold interactive
      show ((defScope st).kind == .module && _) = false
      rw [I.knd]; rfl
    rw [hbd] at hi0
    refine ks_wpAt_execs_cons (ks_wpAt_Expr_any (ks_wpAt_MethodCall (pl := ?pl) ?main ?eq) hi0)
    case pl => exact (do return (← importBound (.Call (.Name "super" p0) [] [] p1) (callEnv (fnX "__init__" qual (defArgs st) (defBody st) (defScope st) [("__class__", cc)] .none kV doc pm an (.ref cda) ct) hh.objs.size fI)).getD true)
    case eq =>
      have few : ∀ env : Env, methodCallForm 1 (backTo p4 (starEach [.Constant (.str m) j1 p3] env)) [] = true := fun _ => rfl
      rw [hbd]
      show (attributeBase _ _ _ _ >>= fun ov => standAt p2.atName >>= fun _ => methodCall _ _ p2 p4 _ ov 1 (backTo p4 (starEach [.Constant (.str m) j1 p3] _)) []) = _
      simp only [methodCall, calleeOf, methodCallPos, few, hpos, Bool.not_true, Bool.false_or, if_true, pure_bind]
    refine ks_wpAt_super_base (env := callEnv _ _ _) (show (defScope st).names.lookup ("super" : Str) = _ from I.ks) I.kc (by decide) rfl (X1 _ _ lk) rfl har rfl (X1 _ _ lcd) rfl hvs hfl I.top ?_
    refine ks_loadName_global I.knd I.ks (Calls.loadGlobal_builtin (mg := mg) (mb := mb) (G.keeps hk₁) I.sup (hb1.keeps hk₁) ((hb2 _ (by decide)).trans (by first | rfl | kernel_rfl)) ⟨rfl, ?_⟩)
    refine wpAny_loadName_free I.knd I.kc rfl ⟨_, X1 _ _ lcell, rfl⟩ ?_
    rw [ear]
    refine wpAny_loadName_local I.knd I.ka hns (v := .ref a) ?l1 ?_
    case l1 => simp [List.lookup, I.fs]
    refine ks_wpAny_isType_cls hD1 hD2 ⟨rfl, ?_⟩
    refine ks_wpAny_call_super hD1 hD2 In1.at_ In1.cls (fun c e => ?_) (looks_mroIn X1 I.sC) (fun h2 e2 k2 => ?_)
    · cases e
    have X2 : K.In h2 := X1.keeps k2
    have In2 : InstAt h2 a (HandSPX.excO C t0) C none := ⟨k2 _ _ he1, rfl, rfl, trivial⟩
    have hI : Looks (model P w) h2 (isInstance (.ref a) (.type "ValueError")) true := In2.type.andThen (looks_subIn X2 I.sb)
    have hal : alongIn K "__init__" (((.ref C :: bm : List Value).dropWhile (· != .ref C)).drop 1) = some (some (.builtin "ValueError.__init__")) := by
      have z := I.al
      unfold ks_superIn at z
      rw [hcl] at z
      exact z
    refine kxs_getMethod kxs_ValueError e2 (looks_opaque X2 I.op) (l₀ := .ref C :: bm) (fun A Q E s k q => wpAny_bind ((looks_clsIn X2 hcl) A _ E s k (wpAny_pure q))) rfl X2 hal hI (ks_ne X2 In2 hcl) (by decide) ?_
    refine kxs_callWith (i := "ValueError.__init__") (x := a) rfl (Calls.evalArgs_plain (spliced_more (Calls.Constant_str (spliced_none ?_)) rfl))
    have hu : (h2.push (kxs_mw "ValueError.__init__" a)).get? h2.objs.size = some (kxs_mw "ValueError.__init__" a) := Heap.get?_push_size _ rfl
    refine ⟨hu, ?_⟩
    have k3 : ∀ b o, hh.get? b = some o → (h2.push (kxs_mw "ValueError.__init__" a)).get? b = some o := fun b o e => Heap.get?_push_of_some _ (k2 _ _ (hk₁ _ _ e))
    have X3 : K.In (h2.push (kxs_mw "ValueError.__init__" a)) := X.keeps k3
    have e3 := k3 _ _ he
    have hns3 := (hns.keeps k2).keeps (h' := h2.push (kxs_mw "ValueError.__init__" a)) fun b o e => Heap.get?_push_of_some _ e
    generalize h2.push (kxs_mw "ValueError.__init__" a) = h3 at *
    refine wpAny_call (codeAny_of_tree ?_)
    show wpAny _ _ (callAny (.ref h2.objs.size) ⟨[.str m _], []⟩) _ _ _
    simp only [callAny]
    refine wpAny_bind (wpAny_load hu ?_)
    simp only [kxs_mw, show (Value.type "method-wrapper" == Value.type "method" || Value.type "method-wrapper" == Value.type "builtin_function_or_method" || Value.type "method-wrapper" == Value.type "method-wrapper") = true by decide, if_true]
    refine KFB.if_so (by decide) ?_
    refine wpAny_bind (check_bound_init PySem.F.excBase_ValueError.toExcCallFacts (X3 _ _ hC) e3 rfl ?_)
    refine wpAny_bind (wpAny_pure (wpAny_pure ?_))
    refine ⟨plainId_quiet PySem.F.excBase_ValueError.init.plain _, codeAny_builtin PySem.F.excBase_ValueError.initEntry ?_⟩
    refine exc_init_tree (cls := .ref C) (t0 := t0) (dv := none) (c2 := .none) (c3 := .none) (b4 := .bool false) e3 (by show 1 ≤ sizeLine; rw [sizeLine_eq]; omega) fun h4 k4 e4 _ => ?_
    have X4 : K.In h4 := fun b o e => k4 b o (hK b o e) (X3 b o e)
    have hLa : hh.objs.size ≠ a := fun z => by
      have := Heap.lt_size he
      rw [z] at this
      exact absurd this (Nat.lt_irrefl _)
    have hns4 : h4.Ns hh.objs.size fun x => List.lookup x [(("self" : Str), Value.ref a), (f, u)].reverse := by
      obtain ⟨oL, es, ep, hL, r⟩ := hns3
      exact ⟨oL, es, ep, k4 _ _ hLa hL, r⟩
    refine wpAt_of_wpAny (wpAny_execs_cons (plainObj_wpAny_Assign_Attribute ?_ ?hs))
    case hs => rfl
    refine wpAny_Name (wpAny_loadName_local I.knd I.kf hns4 (v := u) ?l2 ?_) I.fn
    case l2 => simp [List.lookup]
    refine wpAny_Name (wpAny_loadName_local I.knd I.ka hns4 (v := .ref a) ?l3 ?_)
    case l3 => simp [List.lookup, I.fs]
    refine set_plain X4 (ox := HandSPX.excO C h3.objs.size) (od := none) ⟨e4, rfl, rfl, trivial⟩ I.ox.sa ?_
    refine HandSPX.exc_osa X4 e4 hcl (show HandSPX.refsVE (.ref C :: bm) = true from hbm) rfl I.no fun h5 tk5 dx k5 dn dne hx hn => ?_
    refine wpAny_execs_nil ?_
    refine hq h5 dx h3.objs.size tk5 (fun b o hb e => k5 b o hb (k4 b o hb (k3 b o e))) ?_ dne hx hn
    obtain ⟨oL, es, ep, hL, r⟩ := hns4
    exact Nat.le_trans (Nat.le_of_lt (Heap.lt_size hL)) dn
/-- what such a __init__ promises -/
def spI (C : Addr) (f : Str) : Sp := fun vs H Q _ => ∃ (a : Addr) (x : V), vs = [.ref a, x] ∧ H a = some (exo a C none) ∧ ∀ d, H d = none → d ≠ a → Q .non (upd (upd H d (exd d [(f, x)])) a (exo a C (some d)))
theorem ini_ok {base : Heap} {CX : CXT} {k : Nat} (I : XI P K mg C fI cc cda qual f st fd) : FnOk P w K mg base CX k fI fd ["self", f] (spI C f) := by
  refine ⟨fun vs H Q E ⟨a, x, e, _⟩ => by rw [e]; rfl, fun A outer s H args us vs Q E hr e0 hb r h => ?_⟩
  obtain ⟨a, x, rfl, ha, q⟩ := h
  cases r with
  | @cons _ u0 _ ur ra rw' =>
  cases rw' with
  | @cons _ u _ ur' rx rr =>
  cases rr
  obtain rfl : u0 = Value.ref a := ra
  obtain ⟨t1, he⟩ := exo_at e0.hok ha
  have X : K.In s.heap := e0.mod.kin.keeps fun b o e => (e0.bs b o e).1
  obtain ⟨mb, hb1, hb2⟩ := e0.mod.blt
  refine ini_raw I (by have := hr.dp; omega) X (e0.mod.nolimit.keeps fun b o e => (e0.bs b o e).1) (e0.mod.glob.keeps fun b o e => (e0.bs b o e).1) ⟨mb, hb1.keeps fun b o e => (e0.bs b o e).1, hb2⟩ hb he (fun b o e z => ?_) fun h' dx t' tk kk dn dne hx hn => ?_
  · have n := (e0.bs b o (e0.mod.kin b o e)).2
    rw [z, ha] at n
    cases n
  have hnd : H dx = none := e0.hok.fresh dn
  have nd : ∀ {b : Addr} {o : Obj}, s.heap.get? b = some o → b ≠ dx := fun {b o} q => Nat.ne_of_lt (Nat.lt_of_lt_of_le (Heap.lt_size q) dn)
  have na : ∀ {b : Addr}, H b = none → b ≠ a := fun {b} n z => by
    rw [z, ha] at n
    cases n
  refine ⟨.non, _, rfl, e0.bare, ?_, ?_, rfl, q dx hnd dne⟩
  · exact {
    keep := fun b o q n _ _ => kk b o (na n) q
    slot := fun b o q n _ _ => ⟨o.slots, kk b o (na n) q⟩
    free := fun b o q n _ => by rw [upd_ne (na n), upd_ne (nd q)]; exact n
    there := fun b o q _ => by
      by_cases hb : b = a
      · exact ⟨_, by rw [hb]; exact hx⟩
      · exact ⟨o, kk b o hb q⟩
    tups := fun b xs q => by rw [upd_ne (at_ne ha q exo_tup), upd_ne (ne_of_none q hnd)]; exact q
    frzs := fun b o v q => by rw [upd_ne (at_ne ha q exo_frz), upd_ne (ne_of_none q hnd)]; exact q
    tbls := fun b ps q => ⟨#[], by rw [upd_ne (at_ne ha q exo_tbl), upd_ne (ne_of_none q hnd), q]; simp⟩ }
  · intro b o q
    by_cases hb : b = a
    · subst hb
      rw [upd_same] at q
      cases q
      exact exo_ok hx
    · rw [upd_ne hb] at q
      by_cases hd : b = dx
      · subst hd
        rw [upd_same] at q
        cases q
        refine exd_ok hn fun g => ?_
        rw [lookup_put]
        by_cases h : g = f
        · rw [if_pos h, if_pos h]
          exact rx
        · rw [if_neg h, if_neg h]
          trivial
      · rw [upd_ne hd] at q
        exact (e0.hok b o q).stay (fun c v hc y => kk c v (by
            rcases hc with hc | hc
            · rw [hc]
              exact hb
            · exact at_ne ha hc exo_own) y)
          (fun c hc => by rw [upd_ne (at_ne ha hc exo_own), upd_ne (ne_of_none hc hnd)]; exact hc) (fun c xs hc => by rw [upd_ne (at_ne ha hc exo_tup), upd_ne (ne_of_none hc hnd)]; exact hc)
end
end DL

set_option maxHeartbeats 4000000
namespace DL
open PySem PySem.Spec PyProof.Rows L2
/-! exceptions at this layer -/
/-- what is wanted of an exception: its class's name, its dict -/
abbrev DXK := Str → Option Addr → GS → Prop
abbrev DXSp := List D → GS → DK → DXK → Prop
abbrev DWX := Str → Option Addr → EV → GS → Prop
def KX (K : PySem.W.Frag) (H : Hp) (Ed : DXK) (E : XK) : Prop := ∀ n d H' g', Ext H H' → RepG K H' g' → Ed n d g' → E (.ref (clsA K n)) d H'
def KW (K : PySem.W.Frag) (H : Hp) (Wd : DWX) (W : WX) : Prop := ∀ n d σ' H' e' g', Ext H H' → RepE K H' σ' e' → RepG K H' g' → Wd n d e' g' → W (.ref (clsA K n)) d σ' H'
theorem KX.mono {K : PySem.W.Frag} {H H' : Hp} {Ed : DXK} {E : XK} (k : KX K H Ed E) (x : Ext H H') : KX K H' Ed E := fun n d H2 g2 y => k n d H2 g2 (x.trans y)
theorem KW.mono {K : PySem.W.Frag} {H H' : Hp} {Ed : DWX} {E : WX} (k : KW K H Ed E) (x : Ext H H') : KW K H' Ed E := fun n d σ2 H2 e2 g2 y => k n d σ2 H2 e2 g2 (x.trans y)
def lSpX (K : PySem.W.Frag) (sp : DXSp) : Sp := fun vs H Q E => ∃ ds g Qd Ed, RepL K H vs ds ∧ RepG K H g ∧ sp ds g Qd Ed ∧ KD K H Qd Q ∧ KX K H Ed E
/-- a def that may raise, asked where it does not -/
theorem FnOk.calm {P : Program} {w : World} {K : PySem.W.Frag} {mg : Str → Option Value} {base : Heap} {k : Nat} {f : Addr} {fd : FuncData} {ps : List Str} {sp : DXSp} (F : FnOk P w K mg base (L2.CX P w) k f fd ps (lSpX K sp)) :
    FnOk P w K mg base CX0 k f fd ps (lSp K fun ds g Q => sp ds g Q fun _ _ _ => False) := by
  refine ⟨fun vs H Q E ⟨ds, g, Qd, l, rg, q, k⟩ => F.len vs H Q (fun _ _ _ => False) ⟨ds, g, Qd, _, l, rg, q, k, fun _ _ _ _ _ _ z => z⟩, fun A outer s H args us vs Q E hr e0 hb r ⟨ds, g, Qd, l, rg, q, k⟩ => ?_⟩
  refine codeAny_mono (F.run A outer s H args us vs Q (fun _ _ _ => False) hr e0 hb r ⟨ds, g, Qd, _, l, rg, q, k, fun _ _ _ _ _ _ z => z⟩) fun r s' hq => ?_
  cases r with
  | error e =>
    obtain ⟨_, _, _, _, _, _, _, _, _, _, _, _, z⟩ := hq
    exact z.elim
  | ok fl => cases fl <;> exact hq
section
variable {X : Cx}
theorem peI {e : Expr} {t t' : TE} (h : PE X e t) (w : ∀ σ H Q, Ext X.H_0 H → t' σ H Q → t σ H Q) : PE X e t' := ⟨fun pins s σ H Q I q => h.run pins s σ H Q I (w σ H Q ⟨fun a xs => I.base.tups a xs, fun a o u => I.base.frzs a o u⟩ q)⟩
theorem psI {e : Stmt} {t t' : TS} (h : PS X e t) (w : ∀ D σ H, Ext X.H_0 H → t' D σ H → t D σ H) : PS X e t' := ⟨fun pins s σ H Q I q => h.run pins s σ H Q I (w Q σ H ⟨fun a xs => I.base.tups a xs, fun a o u => I.base.frzs a o u⟩ q)⟩
theorem DE.nox {e : Expr} {T : DTE} (h : DE X.nox e T) : DE X e T := ⟨h.pe.nox⟩
theorem DT.nox {e : Expr} {T : DTT} (h : DT X.nox e T) : DT X e T := ⟨h.pt.nox⟩
theorem DSs.nox {s : List Stmt} {T : DTS} (h : DSs X.nox s T) : DSs X s T := ⟨h.pss.nox⟩
theorem DS.nox {s : Stmt} {T : DTS} (h : DS X.nox s T) : DS X s T := ⟨⟨fun pins s' σ H D I hw =>
  wpAny_mono (h.ps.run pins s' σ H D (I.wish _) hw) (fun _ _ q => q.unwish) fun _ _ z => False.elim z⟩⟩
/-- raise C(x), C's __init__ as ini_ok tells -/
def dRaise (Ed : DXK) (n f : Str) (ta : DTA) : DTS := fun _ e g => ta e g fun ds g1 => ∃ x, ds = [x] ∧ ∀ dd, g1 dd = none → Ed n (some dd) (gup g1 dd (.xd [(f, x)]))
theorem lraise {K : PySem.W.Frag} {n f : Str} {Ed : DXK} {E : XK} {H0 : Hp} {D : Ends} {ta : DTA} {σ : L2.St} {H : Hp} (kx : KX K H0 Ed E) (x0 : Ext H0 H) (h : lS K (dRaise Ed n f ta) D σ H) :
    tMkO (clsA K n) (spI (clsA K n) f) [] (lA K ta) σ H (fun cls d H' => E cls d H') := by
  obtain ⟨e, g, Dd, re, rg, q, _⟩ := h
  refine ⟨e, g, _, re, rg, q, fun vs ds H1 g1 x1 rg1 l1 q1 => ?_⟩
  obtain ⟨x, rfl, q1⟩ := q1
  cases l1 with
  | @cons v _ _ _ rv rn =>
  cases rn
  refine ⟨by simp, fun a ha => ⟨a, v, rfl, upd_same, fun d hd hne => ⟨rfl, d, [(f, v)], upd_same, ?_, ?_, ?_⟩⟩⟩
  · rw [upd_ne hne, upd_same]
  · rw [upd_ne hne] at hd
    exact hd
  · rw [upd_ne hne] at hd
    have eH : L2.upd (del (L2.upd (L2.upd (L2.upd H1 a (exo a (clsA K n) none)) d (exd d [(f, v)])) a (exo a (clsA K n) (some d))) a) d (.xd [(f, v)]) = L2.upd H1 d (.xd [(f, v)]) := by
      funext b
      by_cases hb : b = d
      · rw [hb, upd_same, upd_same]
      · rw [upd_ne hb, upd_ne hb]
        by_cases hb2 : b = a
        · rw [hb2, del_same, ha]
        · rw [del_ne hb2, upd_ne hb2, upd_ne hb, upd_ne hb2]
    rw [eH]
    exact kx n (some d) _ _ ((x0.trans x1).trans (.new hd)) (rg1.upd (m := .xd [(f, x)]) (.new hd) ⟨_, upd_same, .cons ⟨rfl, rv.mono (.new hd)⟩ .nil⟩) (q1 d (rg1.free hd))
theorem ds_raise {n f : Str} {fI cc cda : Addr} {qual : Str} {st : Stmt} {fd : FuncData} {p pos pos' : Pos} {a : Expr} {es : List Expr} {ta : DTA} {Ed : DXK} {E : XK} {k : Nat} (I : XI X.prog X.K X.mg (clsA X.K n) fI cc cda qual f st fd)
    (iC : PySem.W.findIn X.K (.ref (clsA X.K n)) "__init__" = some (some (.ref fI))) (tI : PySem.W.typeIn X.K (.ref fI) = some (.type "function")) (hb : Binds X.K fd ["self", f] []) (hr : Room (k + 1) X.A) (hc : X.calm = true) (tk : Takes X fun cls d _ H => E cls d H) (kx : KX X.K X.H_0 Ed E)
    (hg : Gl X n) (hm : X.mg n = some (.ref (clsA X.K n))) (ha : DA X (a :: es) ta) (hdb : (n == ("__debug__" : Str)) = false := by decide) (he : starEach (a :: es) X.env = (false, eval a X.env) :: starEach es X.env := by rfl) (hpl : (backTo pos (starEach es X.env)).any (·.1) = false := by rfl) :
    DS X (.Raise (some (.Call (.Name n p) (a :: es) [] pos)) none pos') (dRaise Ed n f ta) :=
  ⟨psI (ps_raise hc tk (pmk_oex I.ox iC tI (ini_ok (base := X.base) (w := X.w) (CX := L2.CX X.prog X.w) (k := k) I) hr hb .nil passL hg hm ha.pa hdb he hpl)) fun D σ H x0 h => lraise kx x0 h⟩
/-! ### defs that raise -/
variable {P : Program} {w : World} {K : PySem.W.Frag} {mg : Str → Option Value} {base : Heap}
theorem okX {x qual : Str} {st : Stmt} {f : Addr} {fd : FuncData} {N ps : List Str} {k : Nat} {sp : DXSp} (F : Fun K x qual st f fd) (S : FnScope N ps (defScope st)) (hl : ∀ ds g Q E, sp ds g Q E → ds.length = ps.length)
    {T : DXK → DTS} (hrd : ∀ ds g Q E, sp ds g Q E → T E { nx := fun _ g => Q .non g, rt := Q } (dstart N ds) g)
    (hbody : ∀ (cdv : Value) (A : Around) (outer : List Env) (s : Shared) (H : Hp) (E : XK), Room k (A.deeper (envOfC qual (defScope st) s.heap.objs.size f cdv)) → ∀ Ed : DXK, KX K H Ed E →
      DSs (cxOf (L2.CX P w) P w K mg base N qual (defScope st) f cdv A outer s H E) (defBody st) (T Ed)) : FnOk P w K mg base (L2.CX P w) (k + 1) f fd ps (lSpX K sp) := by
  refine F.okX S (fun vs H Q E h => ?_) (fun cdv A outer s H vs Q E hr h => ?_)
  · obtain ⟨ds, g, Qd, Ed, l, _, q, _⟩ := h
    rw [l.length]
    exact hl ds g Qd Ed q
  · obtain ⟨ds, g, Qd, Ed, l, rg, q, kk, kx⟩ := h
    refine ⟨_, (hbody cdv A outer s H E hr Ed kx).pss, dstart N ds, g, _, rep_start l, rg, hrd ds g Qd Ed q, fun σ' H' e' g' x1 _ rg1 q1 => kk _ _ H' g' x1 rg1 .non q1, kk, fun _ _ _ _ _ _ _ z => z.elim, fun _ _ _ _ _ _ _ z => z.elim⟩
/-- a call whose exception passes on -/
def dCallX (sp : DXSp) (Ed : DXK) (t : DTA) : DTE := fun e g Q => t e g fun ds g1 => sp ds g1 Q Ed
theorem de_callX {x : Str} {p pos : Pos} {k : Nat} {f : Addr} {fd : FuncData} {ps : List Str} {sp : DXSp} {a : Expr} {es : List Expr} {t : DTA} {Ed : DXK} {E : XK} (F : FnOk X.prog X.w X.K X.mg X.base (L2.CX X.prog X.w) k f fd ps (lSpX X.K sp)) (hr : Room k X.A) (hg : Gl X x) (hm : X.mg x = some (.ref f)) (hk : PySem.W.keepIn X.K (.ref f) = true)
    (hb : Binds X.K fd ps []) (tk : Takes X fun cls d _ H => E cls d H) (kx : KX X.K X.H_0 Ed E)
    (ha : DA X (a :: es) t) (hdb : (x == ("__debug__" : Str)) = false := by decide) (he : starEach (a :: es) X.env = (false, eval a X.env) :: starEach es X.env := by rfl) (hpl : (backTo pos (starEach es X.env)).any (·.1) = false := by rfl) :
    DE X (.Call (.Name x p) (a :: es) [] pos) (dCallX sp Ed t) := ⟨peI (pe_call F hr hg hm hk hb .nil (passes_call tk fun _ _ _ _ h => h) ha.pa hdb he hpl) fun σ H Q x0 ⟨e, g, Qd, re, rg, q, k⟩ =>
  ⟨e, g, _, re, rg, q, fun vs ds H1 g1 x1 rg1 l1 q1 => ⟨_, g1, Qd, Ed, by rw [List.append_nil]; exact l1, rg1, q1, k.mono x1, kx.mono (x0.trans x1)⟩⟩⟩
/-! ### within a try's body: what an exception meets is told at the state -/
def lEW (K : PySem.W.Frag) (W : WX) (T : DWX → DTE) : TE := fun σ H Q => ∃ e g Qd Wd, RepE K H σ e ∧ RepG K H g ∧ T Wd e g Qd ∧ KD K H Qd Q ∧ KW K H Wd W
def lSW (K : PySem.W.Frag) (W : WX) (T : DWX → DTS) : TS := fun D σ H => ∃ e g Dd Wd, RepE K H σ e ∧ RepG K H g ∧ T Wd Dd e g ∧ KS K H Dd.nx D.nx ∧ KD K H Dd.rt D.rt ∧ KS K H Dd.bk D.bk ∧ KS K H Dd.ct D.ct ∧ KW K H Wd W
structure DEW (X : Cx) (W : WX) (e : Expr) (T : DWX → DTE) : Prop where
  pe : PE X e (lEW X.K W T)
structure DSW (X : Cx) (W : WX) (s : List Stmt) (T : DWX → DTS) : Prop where
  ps : PSs X s (lSW X.K W T)
variable {W : WX}
def dCallW (sp : DXSp) (t : DTA) : DWX → DTE := fun Wd e g Q => t e g fun ds g1 => sp ds g1 Q fun n d g2 => Wd n d e g2
theorem de_callW {x : Str} {p pos : Pos} {k : Nat} {f : Addr} {fd : FuncData} {ps : List Str} {sp : DXSp} {a : Expr} {es : List Expr} {t : DTA} (F : FnOk X.prog X.w X.K X.mg X.base (L2.CX X.prog X.w) k f fd ps (lSpX X.K sp)) (hr : Room k X.A) (hg : Gl X x) (hm : X.mg x = some (.ref f)) (hk : PySem.W.keepIn X.K (.ref f) = true)
    (hb : Binds X.K fd ps []) (tk : Takes X W)
    (ha : DA X (a :: es) t) (hdb : (x == ("__debug__" : Str)) = false := by decide) (he : starEach (a :: es) X.env = (false, eval a X.env) :: starEach es X.env := by rfl) (hpl : (backTo pos (starEach es X.env)).any (·.1) = false := by rfl) :
    DEW X W (.Call (.Name x p) (a :: es) [] pos) (dCallW sp t) := ⟨peW (pe_callS F hr hg hm hk hb (fun σ => passAt tk σ) ha.pa hdb he hpl) fun σ H Q ⟨e, g, Qd, Wd, re, rg, q, k, kw⟩ =>
  ⟨e, g, _, re, rg, q, fun vs ds H1 g1 x1 rg1 l1 q1 => ⟨ds, g1, Qd, _, l1, rg1, q1, k.mono x1, fun n d H' g' x2 rg2 hw => kw n d σ H' e g' (x1.trans x2) (re.mono (x1.trans x2)) rg2 hw⟩⟩⟩
/-- ('tag', e) -/
def dTagW (s : Str) (T : DWX → DTE) : DWX → DTE := fun Wd e g Q => T Wd e g fun x g1 => Q (.tup [.str s, x]) g1
theorem de_tagW {s : Str} {a : Expr} {j x1 p pos} {T : DWX → DTE} (h : DEW X W a T) (hs1 : starEach [.Constant (.str s) j p, a] X.env = (false, eval (.Constant (.str s) j p) X.env) :: starEach [a] X.env := by rfl) (hs2 : starEach [a] X.env = (false, eval a X.env) :: starEach [] X.env := by rfl) :
    DEW X W (.Tuple [.Constant (.str s) j p, a] x1 pos) (dTagW s T) := ⟨peW (pe_tup (pa_cons pe_str (pa_cons h.pe pa_nil hs2) hs1)) fun σ H Q ⟨e, g, Qd, Wd, re, rg, q, k, kw⟩ =>
  ⟨e, g, _, Wd, re, rg, q, fun v d H1 g1 x1 rg1 r1 q1 => ⟨by show 2 ≤ sizeLine; rw [sizeLine_eq]; omega, fun p hp => rg1.finU (k.mono x1) hp (.cons (.str s) (.cons r1 .nil)) q1⟩, kw⟩⟩
def dSetW (i : Nat) (T : DWX → DTE) : DWX → DTS := fun Wd D e g => T Wd e g fun v g1 => D.nx (e.set i (some v)) g1
theorem ds_setW {i : Nat} {x : Str} {a : Expr} {T : DWX → DTE} {pos pos' : Pos} (h : ∀ t : TE, PE X a t → PS X (.Assign [.Name x pos'] a pos) (tAsg t (gName i))) (he : DEW X W a T) : DSW X W [.Assign [.Name x pos'] a pos] (dSetW i T) := ⟨pssW (pss_one (h _ he.pe)) fun D σ H ⟨e, g, Dd, Wd, re, rg, q, k1, _, _, _, kw⟩ =>
  ⟨e, g, _, Wd, re, rg, q, fun v d H1 g1 x1 rg1 r1 q1 => (k1.mono x1).fin ((re.mono x1).set r1 i) rg1 q1, kw⟩⟩
def dRetW (T : DWX → DTE) : DWX → DTS := fun Wd D e g => T Wd e g D.rt
theorem ds_retW {a : Expr} {T : DWX → DTE} {pos : Pos} (he : DEW X W a T) : DSW X W [.Return (some a) pos] (dRetW T) := ⟨pssW (pss_one (ps_ret he.pe)) fun D σ H ⟨e, g, Dd, Wd, re, rg, q, _, k2, _, _, kw⟩ => ⟨e, g, _, Wd, re, rg, q, k2, kw⟩⟩
/-! ### try -/
theorem RepE.unset {H : Hp} {σ : L2.St} {e : EV} (r : RepE K H σ e) (i : Nat) : RepE K H (σ.set i none) (e.set i none) := by
  refine ⟨by rw [List.length_set, List.length_set]; exact r.1, fun j c hj => ?_⟩
  by_cases hij : i = j
  · subst hij
    by_cases hl : i < e.length
    · rw [List.getElem?_set_self hl] at hj
      cases hj
    · rw [List.getElem?_eq_none (by rw [List.length_set]; omega)] at hj
      cases hj
  · rw [List.getElem?_set_ne hij] at hj
    obtain ⟨w, a, b⟩ := r.2 j c hj
    exact ⟨w, by rw [List.getElem?_set_ne hij]; exact a, b⟩
/-- try: body / except .. as e (slot i): the suite meets one class of exceptions only -/
def dTry (nm : Str) (i : Nat) (TB : DWX → DTS) (TS : Addr → Option Addr → DTS) : DTS := fun D e g => TB (fun n d e' g' => n = nm ∧ ∀ a, TS a d { nx := fun e2 g2 => D.nx (e2.set i none) g2, rt := D.rt, bk := fun e2 g2 => D.bk (e2.set i none) g2, ct := fun e2 g2 => D.ct (e2.set i none) g2 } (e'.set i (some (.ref a))) g') D e g
theorem ds_try {nm x n : Str} {c : Addr} {i : Nat} {body suite : List Stmt} {b₀ : Stmt} {np pos pos' : Pos} {TB : DWX → DTS} {TSu : Addr → Option Addr → DTS} (hs : X.stack = X.env :: X.outer) (hf : X.env.frame = some X.env.locals) (hN : X.N.Nodup) (hi : X.N[i]? = some n) (hln : X.env.kindOf n = some .local)
    (hc : Names X x (.ref c)) (hex : PySem.W.exmOne X.K (.ref (clsA X.K nm)) (.ref c) = some true)
    (hb : ∀ (W : WX) (pn : List (Addr × Obj)) (xe : Value → Shared → Prop), Takes (X.tr pn xe) W → DSW (X.tr pn xe) W body TB)
    (hsu : ∀ (a : Addr) (oe : Obj) (d : Option Addr) (pn : List (Addr × Obj)), Zc (.ref (clsA X.K nm)) d oe → (∃ vs, oe.data = .fields vs) → DSs (X.suite a ((a, oe) :: pn)) (b₀ :: suite) (TSu a d)) :
    DS X (.Try body [.ExceptHandler (some (.Name x np)) (some n) (b₀ :: suite) pos'] [] [] pos) (dTry nm i TB TSu) :=
  ⟨psW (ps_try_as (tb := fun W => lSW X.K W TB) (ts := fun a cls d D σ H => cls = .ref (clsA X.K nm) ∧ lS X.K (TSu a d) D σ H) (Wout := fun _ _ _ _ => False) hs hf hN hi hln hc takes0 (fun W pn xe tk _ => (hb W pn xe tk).ps)
    (fun a oe cls d pn hz hd => ⟨fun pins s σ H D I h => by
      obtain ⟨rfl, h⟩ := h
      exact (hsu a oe d pn hz hd).pss.run pins s σ H D I h⟩)) fun D σ H ⟨e, g, Dd, re, rg, q, k1, k2, k3, k4⟩ =>
    ⟨e, g, Dd, _, re, rg, q, k1, k2, k3, k4, fun n d σ' H' e' g' x1 re' rg' ⟨en, hq⟩ => by
      subst en
      exact ⟨true, hex, fun _ a _ => ⟨rfl, _, g', _, re'.set (.ref a) i, rg', hq a, fun σ2 H2 e2 g2 x2 re2 rg2 q2 => k1 _ _ _ _ (x1.trans x2) (re2.unset i) rg2 q2, k2.mono x1, fun σ2 H2 e2 g2 x2 re2 rg2 q2 => k3 _ _ _ _ (x1.trans x2) (re2.unset i) rg2 q2, fun σ2 H2 e2 g2 x2 re2 rg2 q2 => k4 _ _ _ _ (x1.trans x2) (re2.unset i) rg2 q2⟩, fun z => by cases z⟩⟩⟩
/-! ### in the suite -/
/-- e.f -/
def dXf (a : Addr) (d : Option Addr) (f : Str) (te : DTE) : DTE := fun e g Q => te e g fun x g1 => x = .ref a ∧ ∃ dd fs v, d = some dd ∧ g1 dd = some (.xd fs) ∧ fs.lookup f = some v ∧ Q v g1
theorem de_xf {n nm : Str} {a : Addr} {oe : Obj} {d : Option Addr} {pn : List (Addr × Obj)} {e : Expr} {te : DTE} {pos : Pos} (T : XfC X.K (clsA X.K nm)) (hno : PySem.W.findIn X.K (.ref (clsA X.K nm)) n = some none) (hz : Zc (.ref (clsA X.K nm)) d oe) (hf : ∃ vs, oe.data = .fields vs)
    (he : DE (X.suite a ((a, oe) :: pn)) e te) (hb : attributeBase e n X.env (eval e X.env) = eval e X.env := by rfl) : DE (X.suite a ((a, oe) :: pn)) (.Attribute e n pos) (dXf a d n te) :=
  ⟨peW (pe_xf T hno hz hf he.pe hb) fun σ H Q ⟨e, g, Qd, re, rg, q, k⟩ => ⟨e, g, _, re, rg, q, fun x dx H1 g1 x1 rg1 r1 q1 => by
    obtain ⟨rfl, dd, fs, v, rfl, hd, l, q1⟩ := q1
    cases r1
    obtain ⟨vs, hv, rf⟩ := rg1 _ _ hd
    obtain ⟨u, hu, ru⟩ := RepF.look rf l
    exact ⟨rfl, rfl, dd, vs, u, rfl, hv, hu, rg1.fin (k.mono x1) ru q1⟩⟩⟩
end
end DL

set_option maxHeartbeats 4000000
namespace DL
section
open PySem PySem.Spec PyProof.Rows PySem.Calls PySem.W
variable {prog : Program} {w : World} {A : Around} {E : Value → Shared → Prop} {s : Shared} {K : Frag} {x D : Addr} {ox : Obj} {odx : Option Obj}
theorem findObj_dataO {C : Addr} {name : Str} {a g : Value} (hc : (clsIn K C).isSome = true) (ha : findIn K (.ref C) name = some (some a)) (hg : specialIn K a "__get__" = some (some g)) (ht : takesIn K a = some true) : findObj K C odx name = some (.bind g a) := by
  obtain ⟨cd, hc⟩ := Option.isSome_iff_exists.mp hc
  unfold findObj
  rw [hc, Option.bind_some, ha, Option.bind_some]
  simp [hg, ht]
theorem kin_classO {Q : Option Value → Shared → Prop} (C : L2.ExcC K D) (X : K.In s.heap) (I : InstAt s.heap x ox D odx) (h : Q (some (.ref D)) { s with toks := s.toks + 1 }) : wpAny (model prog w) A (getAttr? (.ref x) "__class__") Q E s := by
  have hf : findObj K D odx "__class__" = some (.bind (.builtin "getset_descriptor.__get__") (.builtin "object.__class__")) := findObj_dataO (by obtain ⟨cd, hc, _⟩ := any_some C.hd; rw [hc]; rfl) C.ha C.hn C.ht
  obtain ⟨hp, g, d, t, os⟩ := s
  have L0 := I.type (M := model prog w)
  have L1 := looks_findIn (M := model prog w) X C.hg
  have L2 := looks_findIn (M := model prog w) X C.hk
  have L3 := looks_find (M := model prog w) X I hf
  have sub : Looks (model prog w) hp (isInstance (.ref x) (.type "BaseException")) true := L0.andThen (looks_subIn X C.hs)
  have hx0 : (false && onTheHeap (Value.builtin "BaseException.__getattribute__")) = false := rfl
  have hx2 : (Value.builtin "BaseException.__getattribute__" == Value.builtin "object.__getattribute__") = false := by decide +kernel
  have hx1 : (onTheHeap (Value.ref D) && Value.builtin "BaseException.__getattribute__" == Value.builtin "object.__getattribute__") = false := by rw [hx2]; rfl
  unfold getAttr? getAttrBy? getAttrBy
  refine wpAny_bind (wpAny_mkText (wpAny_bind (wpAny_attempt (wpAny_holding (wpAny_bind (L0.at (wpAny_bind (L1.at ?_))))))))
  show wpAny _ _ (if (onTheHeap (Value.ref D) && Value.builtin "BaseException.__getattribute__" == Value.builtin "object.__getattribute__") = true then _ else _) _ _ _
  rw [hx1, if_neg Bool.false_ne_true]
  unfold getAttrByItsOwn hookBefore
  refine wpAny_bind ?_
  rw [if_pos (show onTheHeap (Value.ref D) = true from rfl)]
  refine L2.at ?_
  refine wpAny_bind (wpAny_attempt (wpAny_holding ?_))
  unfold callGetattribute
  rw [hx0, if_neg Bool.false_ne_true]
  unfold boundAndCalled
  rw [PySem.F.excAttr_ValueError.ga.bind (.ref x)]
  refine wpAny_bind (wpAny_pure ?_)
  show wpAny _ _ (call (.builtin "BaseException.__getattribute__") [.ref x, .str "__class__" t]) _ _ _
  refine wpAny_call (codeAny_call_builtin PySem.F.excAttr_ValueError.ga.plain PySem.F.entry_bexc_ga ?_)
  refine @check_slot (model prog w) _ _ ⟨hp, g, d, t + 1, os⟩ "BaseException.__getattribute__" "BaseException" "__getattribute__" (.ref x) [.str "__class__" t] [] _ (by decide +kernel) (by decide +kernel) sub (PySem.F.args_bexc_ga (.ref x) (.str "__class__" t)) ?_
  unfold Builtin.«object.__getattribute__»
  refine wpAny_bind (wpAny_of_eq (a := ((Value.ref x : Value), [Value.str "__class__" t])) (by first | rfl | (simp only [slotArgs]; rfl)) ?_)
  refine wpAny_bind (wpAny_pure (wpAny_bind (L0.at (wpAny_bind (L3.at ?_)))))
  show wpAny _ _ (holding [Value.builtin "object.__class__"] (call (.builtin "getset_descriptor.__get__") [.builtin "object.__class__", .ref x, .ref D]) >>= ret) _ _ _
  refine wpAny_bind (wpAny_holding (wpAny_call (class_get (s := ⟨hp, g, d, t + 1, os⟩) (ox := ox) (od := odx) X I C.hm ?_)))
  refine wpAny_pure ?_
  show wpAny _ _ (handedOut (.ref D)) _ _ _
  rw [handedOut_of (v := .ref D) rfl]
  first
    | exact wpAny_pure (wpAny_pure h)
    | exact wpAny_pure h
    | exact wpAny_pure (wpAny_bind (wpAny_pure (wpAny_pure h)))
theorem kitx_excO (C : L2.ExcC K D) : KitX K (.ref x) (.ref D) (fun h => ∃ odx, InstAt h x ox D odx) where
  ty := fun _ _ _ ⟨_, I⟩ => I.type
  it := fun _ _ X _ => by
    obtain ⟨cdD, hcD, _⟩ := any_some C.hd
    unfold clsIn at hcD
    split at hcD
    · rename_i c' d' cd' sl' ho
      intro A' Q' E' s' k q
      unfold isType loadHead
      exact wpAny_bind (wpAny_loadPart (k _ _ (X _ _ ho)) (wpAny_pure q))
    · cases hcD
  ne := fun h tp dd its n sl X htp => by
    obtain ⟨cdD, hcD, _⟩ := any_some C.hd
    refine Bool.eq_false_iff.mpr fun q => ?_
    have e : D = tp := Value.ref.inj (beq_iff_eq.mp q)
    subst e
    unfold clsIn at hcD
    split at hcD
    · rename_i c' d' cd' sl' ho
      have z := (X _ _ ho).symm.trans htp
      cases z
    · cases hcD
  ca := fun X ⟨_, I⟩ k => kin_classO C X I k
end
open PySem PySem.Spec PyProof.Rows L2
def rIsX (K : PySem.W.Frag) (D a dd : Addr) : List V → Hp → VK → Prop := fun xs H Q => ∃ (c : V) (cv : Value) (b : Bool) (fs : List (Str × V)), xs = [.ref a, c] ∧ ClsV c cv ∧ H dd = some (.xd fs) ∧ PySem.W.kitOne K (.ref D) cv = some b ∧ Q (.bl b) H
def rIsXT (K : PySem.W.Frag) (D a dd : Addr) : List V → Hp → VK → Prop := fun xs H Q => ∃ (tp : Addr) (cs : List V) (us : List Value) (b : Bool) (fs : List (Str × V)), xs = [.ref a, .ref tp] ∧ H tp = some (.tup cs) ∧ Paired ClsV cs us ∧ H dd = some (.xd fs) ∧ PySem.W.kitAny K (.ref D) us = some b ∧ Q (.bl b) H
section
variable {X : Cx} {a D dd : Addr} {oe : Obj} {pn : List (Addr × Obj)}
theorem inst_x {pins : List (Addr × Obj)} {s : Shared} {σ : L2.St} {H : Hp} (I : Inv (X.suite a ((a, oe) :: pn)) pins σ H s) (hz : Zc (.ref D) (some dd) oe) (hf : ∃ vs, oe.data = .fields vs) {fs : List (Str × V)} (hd : H dd = some (.xd fs)) : ∃ odx, PySem.W.InstAt s.heap a oe D odx := by
  obtain ⟨hget, _⟩ := I.pin (a, oe) (List.mem_append.mpr (.inl List.mem_cons_self))
  obtain ⟨vs, hv⟩ := hf
  have hx : ObjOk X.prog X.w H s.heap dd (.xd fs) := I.hok dd _ hd
  obtain ⟨mA, ⟨od, _, _, ho, _⟩, _⟩ := hx
  exact ⟨some od, hget, hz.1, by unfold PySem.W.notCls; rw [hv] <;> rfl, by rw [hz.2]; exact ho⟩
theorem call_isX (C : ExcC X.K D) (hz : Zc (.ref D) (some dd) oe) (hf : ∃ vs, oe.data = .fields vs) : CallR (X.suite a ((a, oe) :: pn)) (.builtin "isinstance") (rIsX X.K D a dd) := by
  intro pins s σ H xs us Q I r h
  obtain ⟨c, cv, b, fs, rfl, hcv, hd, e, q⟩ := h
  obtain ⟨u1, u2, rfl, r1, r2⟩ := vals2 r
  cases (show u1 = Value.ref a from r1)
  have e2 := hcv.eq r2
  subst e2
  exact PySem.W.kia_one (kitx_excO C) I.kIn (inst_x I hz hf hd) e (fun z => nomatch z) fun tk => ⟨.bl b, H, I.kept (t' := tk) fun _ _ z => z, rfl, q⟩
theorem call_isXT (C : ExcC X.K D) (hz : Zc (.ref D) (some dd) oe) (hf : ∃ vs, oe.data = .fields vs) : CallR (X.suite a ((a, oe) :: pn)) (.builtin "isinstance") (rIsXT X.K D a dd) := by
  intro pins s σ H xs us Q I r h
  obtain ⟨tp, cs, ws, b, fs, rfl, hT, k, hd, e, q⟩ := h
  obtain ⟨u1, u2, rfl, r1, r2⟩ := vals2 r
  cases (show u1 = Value.ref a from r1)
  cases (show u2 = Value.ref tp from r2)
  obtain ⟨_, its, rv, o, h1, h2, n, h3⟩ := (show ObjOk X.prog X.w H s.heap tp (.tup cs) from I.hok tp _ hT)
  have e3 := ClsV.all k rv
  subst e3
  obtain ⟨oc, od, dt, sl⟩ := o
  simp only at h2 h3
  subst h2 h3
  exact PySem.W.kia_tup (kitx_excO C) I.kIn (inst_x I hz hf hd) h1 e (fun z => nomatch z) fun tk => ⟨.bl b, H, I.kept (t' := tk) fun _ _ z => z, rfl, q⟩
/-- isinstance(e, C), e in slot i the exception that is held -/
def dIsX (i : Nat) (a : Addr) (d : Option Addr) (b : Bool) : DTE := fun e g Q => look e i = some (.ref a) ∧ ∃ dd fs, d = some dd ∧ g dd = some (.xd fs) ∧ Q (.bl b) g
theorem de_isX {nm n y : Str} {i : Nat} {d : Option Addr} {c : Addr} {b : Bool} {p p1 p2 pos : Pos} (C : ExcC X.K (clsA X.K nm)) (hz : Zc (.ref (clsA X.K nm)) d oe) (hf : ∃ vs, oe.data = .fields vs) (hg : Gl X "isinstance") (hm : X.mg "isinstance" = none)
    (ha : PE (X.suite a ((a, oe) :: pn)) (.Name n p1) (tVar i)) (hg2 : Gl X y) (hm2 : X.mg y = some (.ref c)) (hk : PySem.W.kitOne X.K (.ref (clsA X.K nm)) (.ref c) = some b) (hd2 : (y == ("__debug__" : Str)) = false := by decide)
    (hs1 : starEach [.Name n p1, .Name y p2] X.env = (false, eval (.Name n p1) X.env) :: starEach [.Name y p2] X.env := by rfl) (hs2 : starEach [.Name y p2] X.env = (false, eval (.Name y p2) X.env) :: starEach [] X.env := by rfl)
    (hpl : (backTo pos (starEach [.Name y p2] X.env)).any (·.1) = false := by rfl) : DE (X.suite a ((a, oe) :: pn)) (.Call (.Name "isinstance" p) [.Name n p1, .Name y p2] [] pos) (dIsX i a d b) := by
  cases d with
  | none => exact ⟨⟨fun pins s σ H Q I ⟨e, g, Qd, re, rg, q, k⟩ => by
      obtain ⟨_, dd, fs, z, _⟩ := q
      cases z⟩⟩
  | some dd =>
    exact ⟨peW (pe_callB (X := X.suite a ((a, oe) :: pn)) (call_isX C hz hf) hg hm (by decide +kernel) (pa_cons ha (pa_cons (pe_glob (v := .ref c) (X := X.suite a ((a, oe) :: pn)) hg2 hm2 rfl hd2) pa_nil hs2) hs1) (by decide) (by decide) hs1 hpl) fun σ H Q ⟨e, g, Qd, re, rg, q, k⟩ => by
      obtain ⟨l, dd', fs, ed, hd, q⟩ := q
      cases ed
      obtain ⟨v, hv, r⟩ := re.2 i _ (look_get e i _ l)
      cases r
      obtain ⟨vs, hx, _⟩ := rg _ _ hd
      exact ⟨.ref a, hv, .ref c, .ref c, b, vs, rfl, .own c, hx, hk, rg.fin k (.bl b) q⟩⟩
/-- .. a built-in class -/
theorem de_isXB {nm n y : Str} {T : String} {i : Nat} {d : Option Addr} {b : Bool} {p p1 p2 pos : Pos} (C : ExcC X.K (clsA X.K nm)) (hz : Zc (.ref (clsA X.K nm)) d oe) (hf : ∃ vs, oe.data = .fields vs) (hg : Gl X "isinstance") (hm : X.mg "isinstance" = none)
    (ha : PE (X.suite a ((a, oe) :: pn)) (.Name n p1) (tVar i)) (hg2 : Gl X y) (hm2 : X.mg y = none) (hv2 : bootBuiltins y = some (.type T)) (hk : PySem.W.kitOne X.K (.ref (clsA X.K nm)) (.type T) = some b) (hn2 : y ≠ "__name__" := by decide) (hd2 : (y == ("__debug__" : Str)) = false := by decide)
    (hs1 : starEach [.Name n p1, .Name y p2] X.env = (false, eval (.Name n p1) X.env) :: starEach [.Name y p2] X.env := by rfl) (hs2 : starEach [.Name y p2] X.env = (false, eval (.Name y p2) X.env) :: starEach [] X.env := by rfl)
    (hpl : (backTo pos (starEach [.Name y p2] X.env)).any (·.1) = false := by rfl) : DE (X.suite a ((a, oe) :: pn)) (.Call (.Name "isinstance" p) [.Name n p1, .Name y p2] [] pos) (dIsX i a d b) := by
  cases d with
  | none => exact ⟨⟨fun pins s σ H Q I ⟨e, g, Qd, re, rg, q, k⟩ => by
      obtain ⟨_, dd, fs, z, _⟩ := q
      cases z⟩⟩
  | some dd =>
    exact ⟨peW (pe_callB (X := X.suite a ((a, oe) :: pn)) (call_isX C hz hf) hg hm (by decide +kernel) (pa_cons ha (pa_cons (pe_bltn (v := .ty T) (X := X.suite a ((a, oe) :: pn)) hg2 hm2 hv2 rfl hn2 hd2) pa_nil hs2) hs1) (by decide) (by decide) hs1 hpl) fun σ H Q ⟨e, g, Qd, re, rg, q, k⟩ => by
      obtain ⟨l, dd', fs, ed, hd, q⟩ := q
      cases ed
      obtain ⟨v, hv, r⟩ := re.2 i _ (look_get e i _ l)
      cases r
      obtain ⟨vs, hx, _⟩ := rg _ _ hd
      exact ⟨.ref a, hv, .ty T, .type T, b, vs, rfl, .ty T, hx, hk, rg.fin k (.bl b) q⟩⟩
/-- names of own classes, one after the other -/
structure Clss (X : Cx) (es : List Expr) (cs : List Addr) : Prop where
  pa : PA X es fun σ H Q => Q (cs.map V.ref) H
theorem cls_nil {X : Cx} : Clss X [] [] := ⟨pa_nil⟩
theorem cls_cons {X : Cx} {y : Str} {c : Addr} {p : Pos} {es : List Expr} {cs : List Addr} (hg : Gl X y) (hm : X.mg y = some (.ref c)) (h : Clss X es cs) (hd : (y == ("__debug__" : Str)) = false := by decide) (hs : starEach (.Name y p :: es) X.env = (false, eval (.Name y p) X.env) :: starEach es X.env := by rfl) :
    Clss X (.Name y p :: es) (c :: cs) := ⟨pa_cons (pe_glob (v := .ref c) hg hm rfl hd) h.pa hs⟩
theorem clsVs : ∀ cs : List Addr, Paired ClsV (cs.map V.ref) (cs.map Value.ref)
  | [] => .nil
  | c :: cs => .cons (.own c) (clsVs cs)
/-- isinstance(e, (C1, C2, ..)) -/
theorem de_isXT {nm n : Str} {i : Nat} {d : Option Addr} {cs : List Addr} {es : List Expr} {b : Bool} {x1} {p p1 p2 pos : Pos} (C : ExcC X.K (clsA X.K nm)) (hz : Zc (.ref (clsA X.K nm)) d oe) (hf : ∃ vs, oe.data = .fields vs) (hg : Gl X "isinstance") (hm : X.mg "isinstance" = none)
    (ha : PE (X.suite a ((a, oe) :: pn)) (.Name n p1) (tVar i)) (hcs : Clss (X.suite a ((a, oe) :: pn)) es cs) (hl : cs.length ≤ 1000) (hk : PySem.W.kitAny X.K (.ref (clsA X.K nm)) (cs.map Value.ref) = some b)
    (hs1 : starEach [.Name n p1, .Tuple es x1 p2] X.env = (false, eval (.Name n p1) X.env) :: starEach [.Tuple es x1 p2] X.env := by rfl) (hs2 : starEach [.Tuple es x1 p2] X.env = (false, eval (.Tuple es x1 p2) X.env) :: starEach [] X.env := by rfl)
    (hpl : (backTo pos (starEach [.Tuple es x1 p2] X.env)).any (·.1) = false := by rfl) : DE (X.suite a ((a, oe) :: pn)) (.Call (.Name "isinstance" p) [.Name n p1, .Tuple es x1 p2] [] pos) (dIsX i a d b) := by
  cases d with
  | none => exact ⟨⟨fun pins s σ H Q I ⟨e, g, Qd, re, rg, q, k⟩ => by
      obtain ⟨_, dd, fs, z, _⟩ := q
      cases z⟩⟩
  | some dd =>
    exact ⟨peW (pe_callB (X := X.suite a ((a, oe) :: pn)) (call_isXT C hz hf) hg hm (by decide +kernel) (pa_cons ha (pa_cons (pe_tup hcs.pa) pa_nil hs2) hs1) (by decide) (by decide) hs1 hpl) fun σ H Q ⟨e, g, Qd, re, rg, q, k⟩ => by
      obtain ⟨l, dd', fs, ed, hd, q⟩ := q
      cases ed
      obtain ⟨v, hv, r⟩ := re.2 i _ (look_get e i _ l)
      cases r
      obtain ⟨vs, hx, _⟩ := rg _ _ hd
      refine ⟨.ref a, hv, by rw [List.length_map, sizeLine_eq]; omega, fun p hp => ⟨p, cs.map V.ref, cs.map Value.ref, b, vs, rfl, upd_same, clsVs cs, ?_, hk, (rg.hid hp).fin (k.mono (.new hp)) (.bl b) q⟩⟩
      rw [upd_ne (ne_of_none hx hp)]
      exact hx⟩
end
/-! ### words for gen.py -/
abbrev calmSp (sp : DXSp) : DSp := fun ds g Q => sp ds g Q fun _ _ _ => False
theorem kany_f {K : PySem.W.Frag} {t c : Value} {r : List Value} (h : PySem.W.kitOne K t c = some false) (h2 : PySem.W.kitAny K t r = some false) : PySem.W.kitAny K t (c :: r) = some false := by
  unfold PySem.W.kitAny
  rw [h]
  exact h2
theorem kit_own {K : PySem.W.Frag} {t C : Addr} {b : Bool} (h2 : PySem.W.isClsIn K C = true) (h3 : PySem.W.typeIn K (.ref C) = some (.type "type")) (h4 : PySem.W.subIn K (.ref t) (.ref C) = some b) (h5 : t = C → b = true) : PySem.W.kitOne K (.ref t) (.ref C) = some b := by
  have h2' : (PySem.W.clsIn K C).isSome = true := h2
  have e2 : ((PySem.W.clsIn K C).isSome && PySem.W.typeIn K (.ref C) == some (.type "type")) = true := by
    rw [h2', h3] <;> rfl
  unfold PySem.W.kitOne
  by_cases h : t = C
  · rw [if_pos (by rw [h]; exact beq_self_eq_true _), h5 h]
  · rw [if_neg (by intro z; exact h (Value.ref.inj (beq_iff_eq.mp z)))]
    unfold PySem.W.kitCls
    show (if ((PySem.W.clsIn K C).isSome && PySem.W.typeIn K (.ref C) == some (.type "type")) = true then PySem.W.subIn K (.ref t) (.ref C) else none) = some b
    rw [if_pos e2, h4]
theorem kit_blt {K : PySem.W.Frag} {t : Addr} {T : String} {b : Bool} (h1 : PySem.W.kitMeta T = true) (h4 : PySem.W.subIn K (.ref t) (.type T) = some b) : PySem.W.kitOne K (.ref t) (.type T) = some b := by
  unfold PySem.W.kitOne
  rw [if_neg (by intro z; exact absurd (beq_iff_eq.mp z) (by intro y; cases y))]
  unfold PySem.W.kitCls
  show (if PySem.W.kitMeta T = true then PySem.W.subIn K (.ref t) (.type T) else none) = some b
  rw [if_pos h1, h4]
theorem exm_own {K : PySem.W.Frag} {t C : Addr} (h1 : PySem.W.subIn K (.ref C) (.type "BaseException") = some true) (h2 : PySem.W.isClsIn K C = true) (h3 : PySem.W.typeIn K (.ref C) = some (.type "type")) (h4 : PySem.W.subIn K (.ref t) (.ref C) = some true) : PySem.W.exmOne K (.ref t) (.ref C) = some true := by
  have h2' : (PySem.W.clsIn K C).isSome = true := h2
  have e1 : (PySem.W.subIn K (.ref C) (.type "BaseException") == some true) = true := by rw [h1] <;> rfl
  have e2 : ((PySem.W.clsIn K C).isSome && PySem.W.typeIn K (.ref C) == some (.type "type")) = true := by
    rw [h2', h3] <;> rfl
  unfold PySem.W.exmOne
  rw [if_pos e1]
  unfold PySem.W.kitCls
  show (if ((PySem.W.clsIn K C).isSome && PySem.W.typeIn K (.ref C) == some (.type "type")) = true then PySem.W.subIn K (.ref t) (.ref C) else none) = some true
  rw [if_pos e2, h4]
end DL

set_option maxHeartbeats 4000000
namespace DL
open PySem PySem.Spec PyProof.Rows L2
/-! steps of what raises -/
theorem s_raise {Ed : DXK} {n f : Str} {ta : DTA} {D : DEnds} {e : EV} {g : GS} (h : ta e g fun ds g1 => ∃ x, ds = [x] ∧ ∀ dd, g1 dd = none → Ed n (some dd) (gup g1 dd (.xd [(f, x)]))) : dRaise Ed n f ta D e g := h
theorem s_callX {sp : DXSp} {Ed : DXK} {t : DTA} {e : EV} {g : GS} {Q : DK} (h : t e g fun ds g1 => sp ds g1 Q Ed) : dCallX sp Ed t e g Q := h
theorem s_callW {sp : DXSp} {t : DTA} {Wd : DWX} {e : EV} {g : GS} {Q : DK} (h : t e g fun ds g1 => sp ds g1 Q fun n d g2 => Wd n d e g2) : dCallW sp t Wd e g Q := h
theorem s_setW {i : Nat} {T : DWX → DTE} {Wd : DWX} {D : DEnds} {e : EV} {g : GS} (h : T Wd e g fun v g1 => D.nx (e.set i (some v)) g1) : dSetW i T Wd D e g := h
theorem s_retW {T : DWX → DTE} {Wd : DWX} {D : DEnds} {e : EV} {g : GS} (h : T Wd e g D.rt) : dRetW T Wd D e g := h
theorem s_tagW {s : Str} {T : DWX → DTE} {Wd : DWX} {e : EV} {g : GS} {Q : DK} (h : T Wd e g fun x g1 => Q (.tup [.str s, x]) g1) : dTagW s T Wd e g Q := h
theorem s_xf {a : Addr} {d : Option Addr} {f : Str} {te : DTE} {e : EV} {g : GS} {Q : DK} (h : te e g fun x g1 => x = .ref a ∧ ∃ dd fs v, d = some dd ∧ g1 dd = some (.xd fs) ∧ fs.lookup f = some v ∧ Q v g1) : dXf a d f te e g Q := h
theorem s_isx {i : Nat} {a : Addr} {d : Option Addr} {b : Bool} {e : EV} {g : GS} {Q : DK} (h : look e i = some (.ref a) ∧ ∃ dd fs, d = some dd ∧ g dd = some (.xd fs) ∧ Q (.bl b) g) : dIsX i a d b e g Q := h
theorem s_try {nm : Str} {i : Nat} {TB : DWX → DTS} {TS : Addr → Option Addr → DTS} {D : DEnds} {e : EV} {g : GS} (h : TB (fun n d e' g' => n = nm ∧ ∀ a, TS a d { nx := fun e2 g2 => D.nx (e2.set i none) g2, rt := D.rt, bk := fun e2 g2 => D.bk (e2.set i none) g2, ct := fun e2 g2 => D.ct (e2.set i none) g2 } (e'.set i (some (.ref a))) g') D e g) : dTry nm i TB TS D e g := h
end DL

set_option maxHeartbeats 4000000
namespace DL
open PySem PySem.Spec PyProof.Rows L2
/-! calls within an except suite, of defs that raise nothing -/
structure RoomC (k : Nat) (A : Around) : Prop where
  dp : A.depth + 3 * k + 5 < recursionLimit
  un : A.units + 16 * k + 200 < cLine
theorem roomC_of {k : Nat} {A : Around} (r : Room k A) : RoomC k A := ⟨r.dp, r.un⟩
theorem RoomC.mono {j k : Nat} {A : Around} (r : RoomC k A) (h : j ≤ k) : RoomC j A := ⟨by have := r.dp; omega, by have := r.un; omega⟩
theorem RoomC.units {k : Nat} {A : Around} (r : RoomC k A) : A.units + 64 < cLine := by have := r.un; omega
theorem RoomC.mark {k : Nat} {A : Around} (r : RoomC k A) (h : Option Value) : RoomC k (A.mark h) := ⟨r.dp, r.un⟩
structure FnC (P : Program) (w : World) (K : PySem.W.Frag) (mg : Str → Option Value) (base : Heap) (k : Nat) (f : Addr) (fd : FuncData) (ps : List Str) (sp : Sp) : Prop where
  len : ∀ vs H Q E, sp vs H Q E → vs.length = ps.length
  run : ∀ (A : Around) (outer : List Env) (s : Shared) (H : Hp) (args : Args) (us : List Value) (vs : List V) (Q : VK) (E : XK), RoomC k A → Env0 P w K mg base A outer s H → BindsTo s fd args (ps.zip us) → Vals vs us → sp vs H Q E →
    codeAny (model P w) A (.call (.ref f) args) (CR CX0 outer P w H s Q E) s
/-- a context in which an exception may be handled -/
abbrev hotX (X : Cx) : Cx := { X with calm := false }
section
variable {P : Program} {w : World} {K : PySem.W.Frag} {mg : Str → Option Value} {base : Heap}
theorem Inv.hot {X : Cx} {A0 : Around} {xe0 : Value → Shared → Prop} {pins : List (Addr × Obj)} {σ : L2.St} {H : Hp} {s : Shared} (I : Inv { X with A := A0, xe := xe0 } pins σ H s) (h : X.A.frames = A0.frames) : Inv (hotX X) pins σ H s :=
  ⟨⟨I.ok.mod, I.ok.kind, I.ok.glob, I.ok.blt, I.ok.above, I.ok.inj, I.ok.has, I.ok.cab, (fun z => absurd (show false = true from z) Bool.false_ne_true), h.trans I.ok.frames, I.ok.stk, I.ok.exf, I.ok.bs, I.ok.bsz, I.ok.noex, I.ok.exfs, I.ok.funs, I.ok.frf⟩,
    I.os, I.bare, I.base, I.loc, I.cell, I.free, I.freeC, I.pin, I.hok, I.len⟩
theorem fnC_of {x qual : Str} {st : Stmt} {f : Addr} {fd : FuncData} {N ps : List Str} {k : Nat} {sp : Sp} (F : Fun K x qual st f fd) (S : FnScope N ps (defScope st)) (len : ∀ vs H Q E, sp vs H Q E → vs.length = ps.length)
    (hbody : ∀ (cdv : Value) (A : Around) (outer : List Env) (s : Shared) (H : Hp) (vs : List V) (Q : VK) (E : XK), RoomC k (A.deeper (envOfC qual (defScope st) s.heap.objs.size f cdv)) → sp vs H Q E →
      ∃ t, PSs (hotX (cxOf CX0 P w K mg base N qual (defScope st) f cdv A outer s H E)).nox (defBody st) t ∧ t { nx := fun _ H' => Q .non H', rt := Q } (start N vs) H) :
    FnC P w K mg base (k + 1) f fd ps sp := by
  obtain ⟨oc, od, kV, doc, pm, an, cdv, ct, osl, rfl, lk, hcd⟩ := F.ex
  refine ⟨len, fun A outer s H args us vs Q E hr e0 hb r hsp => ?_⟩
  have hl := len _ _ _ _ hsp
  have KX : K.In s.heap := e0.mod.kin.keeps fun b o e => (e0.bs b o e).1
  have lim : s.heap.NoLimit := e0.mod.nolimit.keeps fun b o e => (e0.bs b o e).1
  have hkind : ∀ y ∈ ps.zip us, (defScope st).names.lookup y.1 = some .local ∨ ((defScope st).names.lookup y.1 = some .cell ∧ ((cellsFrom (s.heap.objs.size + 1) (defScope st).names []).lookup y.1).isSome = true) := fun ⟨n, v⟩ hy => by
    rcases S.par n (List.of_mem_zip hy).1 with q | q
    · exact .inl q
    · exact .inr ⟨q, PySem.W.cellsFrom_some _ _ _ (.inl q)⟩
  have hd : RoomC k (A.deeper (envOfC qual (defScope st) s.heap.objs.size f cdv)) :=
    ⟨by have := hr.dp; show A.depth + 1 + 3 * k + 5 < _; omega, by have := hr.un; show A.units + 3 + 16 * k + 200 < _; omega⟩
  refine codeAny_call_function (by have := hr.dp; omega) (KX _ _ lk) rfl S.co S.gen rfl (PySem.W.codeRec_of KX hcd) (hb _ _ _ _ ?_)
  refine wpAny_newFunctionEnv_cells S.kind hkind fun env he s1 x => ?_
  subst he
  refine ⟨lim.keeps x.toInCall.keep, codeAny_func ?_⟩
  obtain ⟨t, ht, hq⟩ := hbody cdv A outer s H vs Q E hd hsp
  have e1 : Env0 P w K mg base { A with handled := none } outer s H := ⟨e0.frames, e0.mod, e0.bs, e0.bsz, e0.funs, e0.frf, e0.hok, e0.bare⟩
  have I := Inv.hot (X := cxOf CX0 P w K mg base N qual (defScope st) f cdv A outer s H E) (A0 := ({ A with handled := none } : Around).deeper (envOfC qual (defScope st) s.heap.objs.size f cdv)) (inv_start (CX := CX0) (E := E) (f := f) (cd := cdv) (qual := qual) S rfl e1 hl r x) rfl
  refine wpAny_mono (ht.nox.run [] s1 (start N vs) H _ I hq) (fun fl s' hs => ?_) fun e s' hs => hs
  have fin : ∀ {σ' : L2.St} {H' : Hp} {v : V} {u : Value}, Inv (hotX (cxOf CX0 P w K mg base N qual (defScope st) f cdv A outer s H E)) [] σ' H' s' → RelV v u → Q v H' → CE outer P w H s Q u s' :=
    fun {σ' H' v u} J rv q => ⟨v, H', J.os, J.bare, J.base, J.hok, rv, q⟩
  cases fl with
  | ret u =>
    obtain ⟨v, σ', H', J, rv, q⟩ := hs
    exact fin J rv q
  | next =>
    obtain ⟨σ', H', J, q⟩ := hs
    exact fin (v := V.non) (u := Value.none) J rfl q
  | brk =>
    obtain ⟨_, _, _, q⟩ := hs
    exact False.elim q
  | cont =>
    obtain ⟨_, _, _, q⟩ := hs
    exact False.elim q
theorem okC {x qual : Str} {st : Stmt} {f : Addr} {fd : FuncData} {N ps : List Str} {k : Nat} {sp : DSp} (F : Fun K x qual st f fd) (S : FnScope N ps (defScope st)) (hl : ∀ ds g Q, sp ds g Q → ds.length = ps.length)
    {T : DTS} (hrd : ∀ ds g Q, sp ds g Q → T { nx := fun _ g => Q .non g, rt := Q } (dstart N ds) g)
    (hbody : ∀ (cdv : Value) (A : Around) (outer : List Env) (s : Shared) (H : Hp) (E : XK), RoomC k (A.deeper (envOfC qual (defScope st) s.heap.objs.size f cdv)) →
      DSs (hotX (cxOf CX0 P w K mg base N qual (defScope st) f cdv A outer s H E)).nox (defBody st) T) : FnC P w K mg base (k + 1) f fd ps (lSp K sp) := by
  refine fnC_of F S (fun vs H Q E h => ?_) (fun cdv A outer s H vs Q E hr h => ?_)
  · obtain ⟨ds, g, Qd, l, _, q, _⟩ := h
    rw [l.length]
    exact hl ds g Qd q
  · obtain ⟨ds, g, Qd, l, rg, q, kk⟩ := h
    refine ⟨_, (hbody cdv A outer s H E hr).pss, dstart N ds, g, _, rep_start l, rg, hrd ds g Qd q, fun σ' H' e' g' x1 _ rg1 q1 => kk _ _ H' g' x1 rg1 .non q1, kk, fun _ _ _ _ _ _ _ z => z.elim, fun _ _ _ _ _ _ _ z => z.elim⟩
end
section
variable {X : Cx} {k : Nat} {f : Addr} {fd : FuncData} {ps : List Str} {x : Str} {p pos : Pos} {e : Expr} {es : List Expr}
theorem run_fnC {sp : Sp} {pins : List (Addr × Obj)} {σ : L2.St} {H : Hp} {s : Shared} {Q : VK} {us : List Value} {vs : List V} (F : FnC X.prog X.w X.K X.mg X.base k f fd ps sp) (hr : RoomC k X.A) (hb : Binds X.K fd ps [])
    (I : Inv X pins σ H s) (r : Vals vs us) (h : sp vs H Q E0) : wpAny (model X.prog X.w) X.A (call (.ref f) us) (EP X pins σ Q) X.xe s := by
  have hl : us.length = ps.length := by rw [← r.length]; exact F.len _ _ _ _ h
  have b := hb s us I.kIn (by rw [List.append_nil]; exact hl)
  rw [List.append_nil] at b
  refine wpAny_call (codeAny_mono (F.run X.A X.stack s H ⟨us, []⟩ us vs Q E0 hr I.env0 b r h) fun r s' hq => ?_)
  cases r with
  | error e => exact False.elim hq
  | ok fl =>
    cases fl with
    | ret u => exact I.after hq
    | next => exact False.elim hq
    | brk => exact False.elim hq
    | cont => exact False.elim hq
/-- f(e, ..) within a suite -/
theorem de_callC {sp : DSp} {t : DTA} (F : FnC X.prog X.w X.K X.mg X.base k f fd ps (lSp X.K sp)) (hr : RoomC k X.A) (hg : Gl X x) (hm : X.mg x = some (.ref f)) (hk : PySem.W.keepIn X.K (.ref f) = true) (hb : Binds X.K fd ps [])
    (ha : DA X (e :: es) t) (hdb : (x == ("__debug__" : Str)) = false := by decide) (he : starEach (e :: es) X.env = (false, eval e X.env) :: starEach es X.env := by rfl) (hpl : (backTo pos (starEach es X.env)).any (·.1) = false := by rfl) :
    DE X (.Call (.Name x p) (e :: es) [] pos) (dCall sp [] t) := by
  refine ⟨⟨fun pins s σ H Q I h => ?_⟩⟩
  obtain ⟨ev, g, Qd, re, rg, q, kk⟩ := h
  refine wpAny_Call_Name_kw (ld_glob I hg hm ?_ hdb)
  refine PySem.W.callWith_K (h₀ := X.base) I.ok.mod.kin hk (thn (ha.pa.run pos pins s σ H _ I ⟨ev, g, _, re, rg, q, fun vs ds H1 g1 x1 rg1 l1 q1 => (⟨ds ++ [], g1, Qd, by rw [List.append_nil]; exact l1, rg1, q1, kk.mono x1⟩ : lSp X.K sp vs H1 Q E0)⟩) fun us s1 ⟨vs, H1, I1, r, q⟩ => ⟨I1.kIn, ?_⟩) he hpl
  exact run_fnC F hr hb I1 r q
/-- what is never reached -/
def dDead : DTS := fun _ _ _ => False
theorem dss_dead {l : List Stmt} : DSs X l dDead := ⟨⟨fun _ _ _ _ _ _ ⟨_, _, _, _, _, q, _⟩ => q.elim⟩⟩
end
/-- _law_same at two texts -/
def sp_sameC : DSp := fun ds g Q => ∃ a b : Str, ds = [.str a, .str b] ∧ Q (.bl (decide (a = b))) g
def w_sameC : DTS := (dSeq (dIf (dTru (dIsi "tuple" (dVar 1))) dDead dNext) (dSeq (dIf (dTest (dOp isND (dVar 1) (dC .non))) dDead dNext) (dSeq (dIf (dTru (dIsi "bool" (dVar 1))) dDead dNext)
  (dSeq (dIf (dTru (dIsi "int" (dVar 1))) dDead dNext) (dRet (dAndV (dIsi "str" (dVar 0)) (dOp eqD (dVar 0) (dVar 1))))))))
theorem len_sameC : ∀ ds g Q, sp_sameC ds g Q → ds.length = 2 := fun ds g Q ⟨a, b, e, _⟩ => by rw [e]; rfl
end DL

/-- the automatic steps -/
local macro_rules | `(tactic| walk_at "go1") => `(tactic| with_reducible first
  | refine DL.s_seq ?_ | refine DL.s_asg ?_ | refine DL.s_nm ?_ | refine DL.s_c ?_ | refine DL.s_op ?_ | refine DL.s_cb ?_ | refine DL.s_cons ?_ | refine DL.s_nil ?_ | refine DL.s_call ?_ | refine DL.s_tup ?_ | refine DL.s_lst ?_
  | refine DL.s_bm ?_ | refine DL.s_bm0 ?_ | refine DL.s_drop ?_ | refine DL.s_ret ?_ | refine DL.s_retN ?_ | refine DL.s_next ?_ | refine DL.s_brk ?_ | refine DL.s_ct ?_ | refine DL.s_if ?_ | refine DL.s_test ?_ | refine DL.s_and ?_ | refine DL.s_or ?_ | refine DL.s_not ?_
  | refine DL.s_tru ?_ | refine DL.s_yes ?_ | refine DL.s_andV ?_ | refine DL.s_orV ?_ | refine DL.s_notV ?_ | refine DL.s_ifE ?_ | refine DL.s_isi ?_ | refine DL.s_sl ?_ | refine DL.s_no ?_ | refine DL.s_part ?_ | refine DL.s_sb ?_ | refine DL.s_chain ?_ | refine DL.s_un ?_
  | refine DL.s_dnew ?_ | refine DL.s_dget ?_ | refine DL.s_din ?_ | refine DL.s_dnotin ?_ | refine DL.s_dput ?_ | refine DL.s_ddel ?_ | refine DL.s_dget1 ?_ | refine DL.s_dget2 ?_ | refine DL.s_dpop1 ?_ | refine DL.s_disp ?_ | refine DL.s_for ?_ | refine DL.s_lc ?_ | refine DL.s_ra1 ?_ | refine DL.s_ra2 ?_ | refine DL.s_rev ?_ | refine DL.x_tp ?_ | refine DL.x_st ?_ | refine DL.x_bl ?_ | refine DL.x_tru ?_
  | refine DL.v_addI ?_ | refine DL.v_sub ?_ | refine DL.v_and ?_ | refine DL.v_neg ?_ | refine DL.v_ltI ?_ | refine DL.v_leI ?_ | refine DL.v_gtI ?_ | refine DL.v_geI ?_ | refine DL.v_eqI ?_ | refine DL.v_eqS ?_ | refine DL.v_eqB ?_ | refine DL.v_neI ?_ | refine DL.v_neS ?_ | refine DL.v_in1 ?_
  | refine DL.v_int ?_ | refine DL.v_intB ?_ | refine DL.v_abs ?_ | refine DL.v_lenT ?_ | refine DL.v_tupT ?_ | refine DL.v_rcvS ?_ | refine DL.v_lstT ?_ | refine DL.s_gcons ?_ | refine DL.s_gnil ?_ | refine DL.v_isN ?_)
local macro_rules | `(tactic| walk_at "step1") => `(tactic| first
  | walk_at "go1"
  | ((with_reducible refine DL.s_var ?_); refine ⟨_, rfl, ?_⟩)
  | ((with_reducible refine DL.x_ra1 ?_ ?_ ?_); omega; omega)
  | ((with_reducible refine DL.x_ra2 ?_ ?_ ?_ ?_ ?_); omega; omega; omega; omega)
  | ((with_reducible refine DL.x_lst' ?_); refine ⟨_, by assumption, ?_⟩)
  | ((with_reducible refine DL.v_mod ?_ ?_); omega)
  | ((with_reducible refine DL.v_div ?_ ?_ ?_); omega; omega)
  | ((with_reducible refine DL.v_mulR ?_ ?_ ?_); omega; omega)
  | ((with_reducible refine DL.v_mulL ?_ ?_ ?_); omega; omega)
  | ((with_reducible refine DL.v_ixL' ?_); refine ⟨_, by assumption, _, rfl, ?_⟩)
  | ((with_reducible refine DL.v_ixT' ?_); refine ⟨_, rfl, ?_⟩)
  | ((with_reducible refine DL.s_gtp ?_ ?_); rfl)
  | ((with_reducible refine DL.v_lenL' ?_); refine ⟨_, by assumption, ?_⟩)
  | ((with_reducible refine DL.v_tupL' ?_); refine ⟨_, by assumption, ?_⟩)
  | (with_reducible refine DL.x_int ?_))
local macro_rules | `(tactic| walk_at "go") => `(tactic| repeat walk_at "step1")
local macro_rules | `(tactic| walk_at "gs") => `(tactic| repeat ((fail_if_success (with_reducible refine (?_ : DL.dSeq (DL.dIf _ _ _) _ _ _ _))); walk_at "step1"))
local macro_rules | `(tactic| walk_at "wk1") => `(tactic| first
  | walk_at "step1"
  | (with_reducible refine DL.v_ixT0 ?_)
  | (with_reducible refine DL.s_fld ?_)
  | (with_reducible refine DL.s_sfld ?_)
  | (with_reducible refine DL.s_meth ?_)
  | (with_reducible refine DL.s_make ?_)
  | (with_reducible refine DL.s_prop ?_)
  | (with_reducible refine DL.s_lrg2 ?_)
  | (with_reducible refine DL.s_tnew ?_)
  | (with_reducible refine DL.s_tget ?_)
  | (with_reducible refine DL.s_tin ?_)
  | (with_reducible refine DL.s_tnotin ?_)
  | (with_reducible refine DL.s_tput ?_)
  | (with_reducible refine DL.s_tget1 ?_)
  | (with_reducible refine DL.s_tget2 ?_)
  | (with_reducible refine DL.s_iDk ?_)
  | (with_reducible refine DL.v_notN ?_)
  | (with_reducible refine DL.x_sz (by simp) ?_)
  | (with_reducible refine DL.v_rcvL (by first | assumption | exact DL.gup_same) ?_))
local macro_rules | `(tactic| walk_at "wk") => `(tactic| repeat walk_at "wk1")
local macro_rules | `(tactic| walk_at "ws") => `(tactic| repeat ((fail_if_success (with_reducible refine (?_ : DL.dSeq (DL.dIf _ _ _) _ _ _ _))); walk_at "wk1"))
local macro_rules | `(tactic| walk_at "w0") => `(tactic| repeat ((fail_if_success (with_reducible refine (?_ : DL.dSeq _ _ _ _ _))); walk_at "wk1"))
/-- closing goals: the source stands, a look-up, two places, what was changed -/
local macro_rules | `(tactic| walk_at "N") => `(tactic| first
  | assumption
  | exact Ne.symm (by assumption)
  | exact DL.Src.neL (by walk_at "S") (by assumption)
  | exact DL.Src.neL0 (by walk_at "S") (by assumption)
  | exact DL.Src.neStr (by walk_at "S") (by assumption)
  | exact DL.ne_fresh (by assumption) (by walk_at "L")
  | exact Ne.symm (DL.ne_fresh (by assumption) (by walk_at "L")))
local macro_rules | `(tactic| walk_at "L") => `(tactic| first
  | assumption
  | exact DL.gup_same
  | (refine DL.Up.get0 (by assumption) ?_; walk_at "L")
  | (refine DL.Go.get (by assumption) ?_ ?_ <;> first | walk_at "L" | walk_at "N")
  | (refine (DL.gup_ne ?_).trans ?_ <;> first | walk_at "L" | walk_at "N"))
local macro_rules | `(tactic| walk_at "S") => `(tactic| first
  | assumption
  | exact (And.right (by assumption : DL.Go _ _ _ _))
  | (refine DL.Src.up ?_ (by assumption); walk_at "S")
  | (refine DL.Src.up ?_ (DL.Up.new (by assumption)); walk_at "S")
  | (refine DL.Src.mut ?_ ?_ ?_ <;> first | walk_at "S" | walk_at "N"))
local macro_rules | `(tactic| walk_at "G") => `(tactic| first
  | assumption
  | (refine DL.Go.trans ?_ (by assumption); walk_at "G")
  | (refine DL.Go.up ?_ (by assumption); walk_at "G")
  | (refine DL.Go.new ?_ (by assumption); walk_at "G")
  | (refine DL.Go.mut ?_ (by assumption) (by walk_at "S"); walk_at "G")
  | exact DL.Go.up (DL.Go.start (by walk_at "S")) (by assumption)
  | exact DL.Go.new (DL.Go.start (by walk_at "S")) (by assumption)
  | exact DL.Go.start (by walk_at "S"))
/-- frames (DL43): lengths, look-ups, side goals, one step -/
local macro_rules | `(tactic| walk_at "len") => `(tactic| first | omega | (simp only [List.length_append, List.length_cons, List.length_nil, List.length_take, List.length_drop, List.length_singleton, List.length_map, List.length_reverse, List.length_replicate, List.length_set, List.length_range, DL.mxl_mk, DL.mxl_nil, DL.tl_mk, DL.ran_len, Nat.zero_add, Nat.add_zero]; omega) | (simp only [List.length_append, List.length_cons, List.length_nil, List.length_take, List.length_drop, List.length_singleton, List.length_map, List.length_reverse, List.length_replicate, List.length_set, List.length_range, DL.mxl_mk, DL.mxl_nil, DL.tl_mk, DL.ran_len, Nat.zero_add, Nat.add_zero] at *; omega) | (simp <;> omega))
local macro_rules | `(tactic| walk_at "at") => `(tactic| first
  | assumption
  | exact DL.Fr.at (by assumption) 0 rfl
  | exact DL.Fr.at (by assumption) 1 rfl
  | exact DL.Fr.at (by assumption) 2 rfl
  | exact DL.Fr.at (by assumption) 3 rfl
  | exact DL.Fr.at (by assumption) 4 rfl
  | exact DL.Fr.at (by assumption) 5 rfl
  | exact DL.Fr.at (by assumption) 6 rfl
  | walk_at "L")
local macro_rules | `(tactic| walk_at "sd") => `(tactic| first | assumption | rfl | omega | walk_at "at" | exact DL.Fr.src (by assumption) | walk_at "len" | (intro _ hz; simp only [List.mem_cons, List.mem_nil_iff, or_false] at hz; simp_all) | decide)
local macro_rules | `(tactic| walk_at "call") => `(tactic| fail)
local macro_rules | `(tactic| walk_at "exc") => `(tactic| fail)
local macro_rules | `(tactic| walk_at "au1") => `(tactic| first
  | (with_reducible refine DL.f_lst ?_)
  | (with_reducible refine DL.s_ra3 ?_)
  | (with_reducible refine DL.s_lc2 ?_)
  | (with_reducible refine DL.f_dnew ?_)
  | (with_reducible refine DL.f_tnew ?_)
  | ((with_reducible refine DL.k_FA (by assumption) ?_); intro _ _ _)
  | walk_at "call"
  | (with_reducible first | refine DL.f_dget ?_ | refine DL.f_din ?_ | refine DL.f_dnotin ?_ | refine DL.f_dget1 ?_ | refine DL.f_dget2 ?_ | refine DL.f_dput ?_ | refine DL.f_ddel ?_)
  | ((with_reducible refine (?_ : DL.rcK (DL.D.ref _) _ _)); first
    | (refine DL.k_rcK (by assumption) 0 rfl ?_)
    | (refine DL.k_rcK (by assumption) 1 rfl ?_)
    | (refine DL.k_rcK (by assumption) 2 rfl ?_)
    | (refine DL.k_rcK (by assumption) 3 rfl ?_)
    | (refine DL.k_rcK (by assumption) 4 rfl ?_))
  | ((with_reducible refine (?_ : DL.g1K _ (DL.D.str _) _ _)); first
    | (refine DL.k_g1S (by assumption) 0 rfl ?_)
    | (refine DL.k_g1S (by assumption) 1 rfl ?_)
    | (refine DL.k_g1S (by assumption) 2 rfl ?_)
    | (refine DL.k_g1S (by assumption) 3 rfl ?_)
    | (refine DL.k_g1S (by assumption) 4 rfl ?_))
  | ((with_reducible refine (?_ : DL.g2K _ (DL.D.str _) _ _ _)); first
    | (refine DL.k_g2S (by assumption) 0 rfl ?_)
    | (refine DL.k_g2S (by assumption) 1 rfl ?_)
    | (refine DL.k_g2S (by assumption) 2 rfl ?_)
    | (refine DL.k_g2S (by assumption) 3 rfl ?_)
    | (refine DL.k_g2S (by assumption) 4 rfl ?_))
  | ((with_reducible refine (?_ : DL.inK (DL.D.str _) (DL.D.ref _) _ _)); first
    | (refine DL.k_inS (by assumption) 0 rfl ?_)
    | (refine DL.k_inS (by assumption) 1 rfl ?_)
    | (refine DL.k_inS (by assumption) 2 rfl ?_)
    | (refine DL.k_inS (by assumption) 3 rfl ?_)
    | (refine DL.k_inS (by assumption) 4 rfl ?_))
  | ((with_reducible refine (?_ : DL.notInK (DL.D.str _) (DL.D.ref _) _ _)); first
    | (refine DL.k_notInS (by assumption) 0 rfl ?_)
    | (refine DL.k_notInS (by assumption) 1 rfl ?_)
    | (refine DL.k_notInS (by assumption) 2 rfl ?_)
    | (refine DL.k_notInS (by assumption) 3 rfl ?_)
    | (refine DL.k_notInS (by assumption) 4 rfl ?_))
  | ((with_reducible refine DL.x_lst' ?_); refine ⟨_, by walk_at "at", ?_⟩)
  | ((with_reducible refine DL.v_ixL' ?_); refine ⟨_, by walk_at "at", _, rfl, ?_⟩)
  | ((with_reducible refine DL.v_lenL' ?_); refine ⟨_, by walk_at "at", ?_⟩)
  | ((with_reducible refine DL.v_tupL' ?_); refine ⟨_, by walk_at "at", ?_⟩)
  | ((with_reducible refine (?_ : DL.rcv "list" (DL.D.ref _) _ ∧ _)); refine DL.v_rcvL (by walk_at "at") ?_)
  | ((with_reducible refine DL.v_addM ?_ ?_); walk_at "len")
  | ((with_reducible refine DL.k_cut (by assumption) ?_ ?_); walk_at "len"; intro _ _ _)
  | ((with_reducible refine DL.v_lenM ?_ ?_); walk_at "len")
  | ((with_reducible refine DL.v_slTo ?_ ?_ ?_); walk_at "len"; walk_at "len")
  | ((with_reducible refine DL.v_slFrom ?_ ?_ ?_); walk_at "len"; walk_at "len")
  | ((with_reducible refine DL.v_slMid ?_ ?_ ?_ ?_); walk_at "len"; walk_at "len"; walk_at "len")
  | (with_reducible first | refine DL.k_isI ?_ | refine DL.k_isS ?_ | refine DL.k_isT ?_ | refine DL.k_isR ?_ | refine DL.k_isB ?_ | refine DL.k_notI ?_ | refine DL.k_notS ?_ | refine DL.k_notT ?_ | refine DL.k_notR ?_ | refine DL.k_notB ?_)
  | ((with_reducible refine (?_ : DL.inD (DL.D.str _) (DL.D.ref _) _ _)); refine DL.v_inLS (by walk_at "at") ?_)
  | ((with_reducible refine (?_ : DL.notInD (DL.D.str _) (DL.D.ref _) _ _)); refine DL.v_notInLS (by walk_at "at") ?_)
  | (with_reducible refine DL.v_inTS ?_)
  | ((with_reducible refine DL.v_addT ?_ ?_); rw [DL.szl]; walk_at "len")
  | (with_reducible refine DL.v_ltSS ?_)
  | (with_reducible refine DL.v_isB ?_)
  | ((with_reducible refine DL.v_rstrip ?_ ?_); walk_at "len"; intro _ _ _)
  | (with_reducible refine DL.s_rep ?_)
  | (with_reducible refine DL.s_iSt ?_)
  | (with_reducible refine DL.s_inG ?_)
  | (with_reducible refine DL.s_notInG ?_)
  | ((with_reducible refine DL.x_rep ?_ ?_); walk_at "len")
  | ((with_reducible refine DL.s_pair ?_); refine ⟨_, rfl, by first | decide | (rw [TL.len_tl, DL.tl_mk]; walk_at "len"), ?_⟩)
  | (with_reducible refine DL.v_notB ?_)
  | (with_reducible refine DL.v_notInTS ?_)
  | (with_reducible refine DL.v_inI2 ?_)
  | (with_reducible refine DL.v_eq1 ?_)
  | (with_reducible refine DL.v_ne1 ?_)
  | (with_reducible refine DL.v_in1M ?_)
  | (with_reducible refine DL.v_notIn1M ?_)
  | (with_reducible refine DL.v_eqM ?_)
  | (with_reducible refine DL.v_neM ?_)
  | (with_reducible refine DL.k_min2 ?_)
  | (with_reducible refine DL.k_max2 ?_)
  | ((with_reducible refine (?_ : DL.appD _ [_] _ _)); first
    | (refine DL.k_app (by assumption) 0 rfl (by walk_at "len") ?_; intro _ _)
    | (refine DL.k_app (by assumption) 1 rfl (by walk_at "len") ?_; intro _ _)
    | (refine DL.k_app (by assumption) 2 rfl (by walk_at "len") ?_; intro _ _)
    | (refine DL.k_app (by assumption) 3 rfl (by walk_at "len") ?_; intro _ _)
    | (refine DL.k_app (by assumption) 4 rfl (by walk_at "len") ?_; intro _ _)
    | (refine DL.k_app (by assumption) 5 rfl (by walk_at "len") ?_; intro _ _))
  | ((with_reducible refine DL.k_lstT (by assumption) ?_); intro _ _ _)
  | ((with_reducible refine (?_ : DL.slD (DL.D.ref _) none (some _) _ _)); first
    | (refine DL.k_slToL (by assumption) 0 rfl (by walk_at "len") ?_; intro _ _ _)
    | (refine DL.k_slToL (by assumption) 1 rfl (by walk_at "len") ?_; intro _ _ _)
    | (refine DL.k_slToL (by assumption) 2 rfl (by walk_at "len") ?_; intro _ _ _)
    | (refine DL.k_slToL (by assumption) 3 rfl (by walk_at "len") ?_; intro _ _ _))
  | ((with_reducible refine (?_ : DL.mulD (DL.D.ref _) (DL.D.int _) _ _)); first
    | (refine DL.k_rep (by assumption) 0 rfl (by walk_at "len") (by walk_at "len") (by walk_at "len") ?_; intro _ _ _)
    | (refine DL.k_rep (by assumption) 1 rfl (by walk_at "len") (by walk_at "len") (by walk_at "len") ?_; intro _ _ _)
    | (refine DL.k_rep (by assumption) 2 rfl (by walk_at "len") (by walk_at "len") (by walk_at "len") ?_; intro _ _ _)
    | (refine DL.k_rep (by assumption) 3 rfl (by walk_at "len") (by walk_at "len") (by walk_at "len") ?_; intro _ _ _))
  | ((with_reducible refine (?_ : DL.addD (DL.D.ref _) (DL.D.ref _) _ _)); first
    | (refine DL.k_addL (by assumption) 1 0 rfl rfl (by walk_at "len") ?_; intro _ _ _)
    | (refine DL.k_addL (by assumption) 0 1 rfl rfl (by walk_at "len") ?_; intro _ _ _)
    | (refine DL.k_addL (by assumption) 2 0 rfl rfl (by walk_at "len") ?_; intro _ _ _)
    | (refine DL.k_addL (by assumption) 2 1 rfl rfl (by walk_at "len") ?_; intro _ _ _)
    | (refine DL.k_addL (by assumption) 3 0 rfl rfl (by walk_at "len") ?_; intro _ _ _)
    | (refine DL.k_addL (by assumption) 1 1 rfl rfl (by walk_at "len") ?_; intro _ _ _)
    | (refine DL.k_addL (by assumption) 0 0 rfl rfl (by walk_at "len") ?_; intro _ _ _))
  | ((with_reducible refine (?_ : DL.anyD [DL.D.ref _] _ _)); first
    | refine DL.k_anyM (by assumption) 0 rfl ?_
    | refine DL.k_anyM (by assumption) 1 rfl ?_
    | refine DL.k_anyM (by assumption) 2 rfl ?_
    | refine DL.k_anyM (by assumption) 3 rfl ?_
    | refine DL.k_anyM (by assumption) 4 rfl ?_)
  | (with_reducible refine DL.v_ends1 ?_)
  | ((with_reducible refine DL.v_strN ?_ ?_); omega)
  | (with_reducible refine DL.v_starts1 ?_)
  | ((with_reducible refine (?_ : DL.sumD [DL.D.ref _] _ _)); first
    | refine DL.k_sumM (by assumption) 0 rfl ?_
    | refine DL.k_sumM (by assumption) 1 rfl ?_
    | refine DL.k_sumM (by assumption) 2 rfl ?_
    | refine DL.k_sumM (by assumption) 3 rfl ?_
    | refine DL.k_sumM (by assumption) 4 rfl ?_)
  | ((with_reducible refine (?_ : DL.allD [DL.D.ref _] _ _)); first
    | refine DL.k_allM (by assumption) 0 rfl ?_
    | refine DL.k_allM (by assumption) 1 rfl ?_
    | refine DL.k_allM (by assumption) 2 rfl ?_
    | refine DL.k_allM (by assumption) 3 rfl ?_
    | refine DL.k_allM (by assumption) 4 rfl ?_)
  | ((with_reducible refine (?_ : DL.joinD (DL.D.str (DL.mk _)) [DL.D.ref _] _ _)); first
    | (refine DL.k_joinS (by assumption) 0 rfl (by assumption) (by walk_at "len") ?_; intro _ _)
    | (refine DL.k_joinS (by assumption) 1 rfl (by assumption) (by walk_at "len") ?_; intro _ _)
    | (refine DL.k_joinS (by assumption) 2 rfl (by assumption) (by walk_at "len") ?_; intro _ _)
    | (refine DL.k_joinS (by assumption) 3 rfl (by assumption) (by walk_at "len") ?_; intro _ _)
    | (refine DL.k_joinS (by assumption) 4 rfl (by assumption) (by walk_at "len") ?_; intro _ _))
  | (with_reducible refine DL.ite_tt ?_)
  | (with_reducible refine DL.ite_ff ?_)
  | (with_reducible refine DL.ite_ntt ?_)
  | (with_reducible refine DL.ite_nff ?_)
  | walk_at "wk1"
  | walk_at "exc")
local macro_rules | `(tactic| walk_at "br") => `(tactic| first
  | ((with_reducible refine DL.iteD ?_ ?_) <;> intro _)
  | ((with_reducible refine DL.iteN ?_ ?_) <;> intro _)
  | ((with_reducible refine DL.iteB ?_ ?_) <;> intro _)
  | ((with_reducible refine DL.iteNB ?_ ?_) <;> intro _))
local macro_rules | `(tactic| walk_at "any1") => `(tactic| first
  | walk_at "au1"
  | ((with_reducible refine DL.k_ixM ?_ ?_ ?_ ?_); walk_at "len"; walk_at "len"; walk_at "len"; intro _ _)
  | ((with_reducible refine (?_ : DL.strF [DL.D.int _] _ _)); first
    | (refine DL.v_strB 1 10 (by decide) (by decide) (by decide) (by walk_at "len") (by walk_at "len") ?_; intro _ _)
    | (refine DL.v_strB 2 100 (by decide) (by decide) (by decide) (by walk_at "len") (by walk_at "len") ?_; intro _ _)
    | (refine DL.v_strB 3 1000 (by decide) (by decide) (by decide) (by walk_at "len") (by walk_at "len") ?_; intro _ _)
    | (refine DL.v_strB 4 10000 (by decide) (by decide) (by decide) (by walk_at "len") (by walk_at "len") ?_; intro _ _)
    | (refine DL.v_strB 5 100000 (by decide) (by decide) (by decide) (by walk_at "len") (by walk_at "len") ?_; intro _ _)
    | (refine DL.v_strB 6 1000000 (by decide) (by decide) (by decide) (by walk_at "len") (by walk_at "len") ?_; intro _ _)
    | (refine DL.v_strB 7 10000000 (by decide) (by decide) (by decide) (by walk_at "len") (by walk_at "len") ?_; intro _ _)
    | (refine DL.v_strB 10 10000000000 (by decide) (by decide) (by decide) (by walk_at "len") (by walk_at "len") ?_; intro _ _))
  | ((with_reducible refine DL.k_mul1 ?_ ?_ ?_); walk_at "len"; walk_at "len")
  | ((with_reducible refine (?_ : DL.mulD (DL.D.str (DL.mk _)) (DL.D.int _) _ _)); first
    | (refine DL.k_mulS (by walk_at "len") (by walk_at "len") 1 (by walk_at "len") (by walk_at "len") ?_; intro _ _ _)
    | (refine DL.k_mulS (by walk_at "len") (by walk_at "len") 2 (by walk_at "len") (by walk_at "len") ?_; intro _ _ _)
    | (refine DL.k_mulS (by walk_at "len") (by walk_at "len") 3 (by walk_at "len") (by walk_at "len") ?_; intro _ _ _)
    | (refine DL.k_mulS (by walk_at "len") (by walk_at "len") 6 (by walk_at "len") (by walk_at "len") ?_; intro _ _ _)
    | (refine DL.k_mulS (by walk_at "len") (by walk_at "len") 10 (by walk_at "len") (by walk_at "len") ?_; intro _ _ _))
  | ((with_reducible refine (?_ : DL.ixD (DL.D.ref _) (DL.D.int _) _ _)); first
    | ((refine DL.k_ixASL (by assumption) 0 rfl rfl (by walk_at "len") (by walk_at "len") ?_); intro _ hl; simp only [List.cons_append, List.nil_append, DL.mxl_mk, DL.mxl_nil, DL.tl_mk, List.length_append, List.length_cons, List.length_nil] at hl)
    | ((refine DL.k_ixAIL (by assumption) 0 rfl rfl (by walk_at "len") (by walk_at "len") ?_); intro _ hl hl2; simp only [DL.mxi, DL.mni] at hl hl2)
    | ((refine DL.k_ixASL (by assumption) 1 rfl rfl (by walk_at "len") (by walk_at "len") ?_); intro _ hl; simp only [List.cons_append, List.nil_append, DL.mxl_mk, DL.mxl_nil, DL.tl_mk, List.length_append, List.length_cons, List.length_nil] at hl)
    | ((refine DL.k_ixAIL (by assumption) 1 rfl rfl (by walk_at "len") (by walk_at "len") ?_); intro _ hl hl2; simp only [DL.mxi, DL.mni] at hl hl2)
    | ((refine DL.k_ixASL (by assumption) 2 rfl rfl (by walk_at "len") (by walk_at "len") ?_); intro _ hl; simp only [List.cons_append, List.nil_append, DL.mxl_mk, DL.mxl_nil, DL.tl_mk, List.length_append, List.length_cons, List.length_nil] at hl)
    | ((refine DL.k_ixAIL (by assumption) 2 rfl rfl (by walk_at "len") (by walk_at "len") ?_); intro _ hl hl2; simp only [DL.mxi, DL.mni] at hl hl2)
    | ((refine DL.k_ixASL (by assumption) 3 rfl rfl (by walk_at "len") (by walk_at "len") ?_); intro _ hl; simp only [List.cons_append, List.nil_append, DL.mxl_mk, DL.mxl_nil, DL.tl_mk, List.length_append, List.length_cons, List.length_nil] at hl)
    | ((refine DL.k_ixAIL (by assumption) 3 rfl rfl (by walk_at "len") (by walk_at "len") ?_); intro _ hl hl2; simp only [DL.mxi, DL.mni] at hl hl2)))
local macro_rules | `(tactic| walk_at "au") => `(tactic| repeat walk_at "au1")
local macro_rules | `(tactic| walk_at "all") => `(tactic| repeat' first | walk_at "any1" | walk_at "br")
local macro_rules | `(tactic| walk_at "ac") => `(tactic| repeat ((fail_if_success (with_reducible first | refine (?_ : DL.dSeq (DL.dIf _ _ _) _ _ _ _) | refine (?_ : DL.dSeq (DL.dWhile _ _) _ _ _ _))); walk_at "au1"))
local macro_rules | `(tactic| walk_at "a0") => `(tactic| repeat ((fail_if_success (with_reducible refine (?_ : DL.dSeq _ _ _ _ _))); walk_at "au1"))

local macro_rules | `(tactic| walk_at "sb") => `(tactic| repeat' first | exact List.Sublist.slnil | exact List.nil_sublist _ | (refine List.Sublist.cons₂ _ ?_) | (refine List.Sublist.cons _ ?_))
local macro_rules | `(tactic| walk_at "exc") => `(tactic| first
  | (with_reducible first | refine DL.s_raise ?_ | refine DL.s_callX ?_ | refine DL.s_callW ?_ | refine DL.s_setW ?_ | refine DL.s_retW ?_ | refine DL.s_tagW ?_ | refine DL.s_xf ?_ | refine DL.s_try ?_)
  | ((with_reducible refine DL.s_isx ?_); refine ⟨rfl, _, _, rfl, by assumption, ?_⟩)
  | ((with_reducible refine (?_ : DL.D.ref _ = DL.D.ref _ ∧ _)); refine ⟨rfl, _, _, _, rfl, by assumption, rfl, ?_⟩))
local macro_rules | `(tactic| walk_at "rows") => `(tactic| repeat' (first
  | with_reducible assumption
  | (with_reducible refine DL.RowL.app ?_ ?_)
  | (with_reducible refine DL.RowL.take ?_ _)
  | (with_reducible refine DL.RowL.drop ?_ _)
  | (with_reducible refine DL.RowL.rep ?_ ?_)
  | (with_reducible refine DL.RowL.up ?_)
  | (with_reducible refine DL.RowL.num _)
  | (with_reducible refine DL.RowL.rep' ?_; decide)
  | exact DL.rowL_lit (by decide)
  | exact DL.RowL.sub (by assumption) (DL.rowL_lit (by decide))))
local macro_rules | `(tactic| walk_at "sd") => `(tactic| ((with_reducible refine (?_ : DL.RowL _)); walk_at "rows"))
local macro_rules | `(tactic| walk_at "rowd") => `(tactic| repeat' (first
  | exact DL.rowD_nil
  | refine DL.rowD_cons ?_ ?_
  | exact DL.rowD_lit (by decide) (by decide)
  | exact ⟨_, rfl, (by walk_at "rows"), (by first | omega | (simp only [List.length_replicate]; decide))⟩))
local macro_rules | `(tactic| walk_at "call") => `(tactic| ((with_reducible refine DL.k_cutW (by assumption) ?_ ?_); walk_at "len"; intro _ _ _))


namespace CK39
open PySem DL
open L2 (atI atI_nat)
/-- is.row(text): 0 text, 1 sign -/
abbrev N_is_row : List Str := ["text", "sign"]
theorem st0_is_row (a0 : D) : dstart N_is_row [a0] = [some a0, none] := rfl
def w_is_row : DTS := (dRet (dCB allD (dCons (dLc (iAny (dVar 0)) 1 dYes (dAndV (dChain leD leD (dC (.str " ")) (dVar 1) (dC (.str "~"))) (dOp neD (dCB ordD (dCons (dVar 1) dNil)) (dC (.int 37))))) dNil)))
def rowB (l : List Nat) : Bool := l.all fun c => decide (32 ≤ c) && (decide (c ≤ 126) && decide (c ≠ 37))
theorem v_le1 {a c : Nat} {g : GS} {Q : DK} (h : Q (.bl (decide (a ≤ c))) g) : leD (.str (mk [a])) (.str (mk [c])) g Q := v_leSS (by
  have e : (!decide (([c] : List Nat) < [a])) = decide (a ≤ c) := by
    have key : (([c] : List Nat) < [a]) ↔ c < a := by simp [List.cons_lt_cons_iff]
    by_cases hc : c < a
    · rw [decide_eq_true (key.mpr hc), decide_eq_false (show ¬ a ≤ c by omega)]; rfl
    · rw [decide_eq_false (fun z => hc (key.mp z)), decide_eq_true (show a ≤ c by omega)]; rfl
  show Q (.bl (!decide (([c] : List Nat) < [a]))) g
  rw [e]
  exact h)
def sp_is_row : DSp := fun ds g Q => match ds with
  | [.str z] => ∃ l : List Nat, z = mk l ∧ (l.length ≤ 16777216) ∧ ∀ g', Up [] g g' → Q (.bl (rowB l)) g'
  | _ => False
theorem len_is_row : ∀ ds g Q, sp_is_row ds g Q → ds.length = 1 := fun ds g Q h => by
  unfold sp_is_row at h; split at h <;> first | rfl | exact h.elim
theorem t_is_row {k : FK} {g0 g : GS} {lo : FL} {Q : DK} {l : List Nat} (F : Fr k g0 g lo) (p0 : (l.length ≤ 16777216)) (h : ∀ g', Fr k g0 g' lo → Q (.bl (rowB l)) g') : sp_is_row ([.str (mk l)] ++ []) g Q := ⟨l, rfl, p0, fun g' u => h g' (F.up u)⟩
local macro_rules | `(tactic| walk_at "call") => `(tactic| ((with_reducible refine t_is_row (by assumption) ?_ ?_); walk_at "sd"; intro _ _))
theorem rd_is_row : ∀ ds g Q, sp_is_row ds g Q → w_is_row { nx := fun _ g => Q .non g, rt := Q } (dstart N_is_row ds) g := fun ds g Q h => by
  unfold sp_is_row at h; split at h
  case h_2 => exact h.elim
  obtain ⟨l, rfl, p0, q⟩ := h
  have F : Fr .pu g g [] := Fr.startP
  rw [st0_is_row]
  unfold w_is_row
  have lit0 : (" " : Str) = mk [32] := by decide +kernel
  have lit1 : ("~" : Str) = mk [126] := by decide +kernel
  simp only [lit0, lit1]
  walk_at "au"
  refine s_anyS ?_
  walk_at "au"
  refine lcM l (fun c => .str (mk [c])) (fun c => .bl (decide (32 ≤ c) && (decide (c ≤ 126) && decide (c ≠ 37)))) F rfl (fun _ _ => trivial) p0 (fun i c g1 Q1 hi F1 k1 => ?_) (fun R g1 F1 => ?_)
  · have k1 := k1 g1 .refl
    walk_at "au"
    refine v_le1 ?_
    refine ⟨_, rfl, ?_⟩
    refine iteD (fun h1 => ?_) (fun h1 => ?_)
    · rw [decide_eq_true h1, Bool.true_and] at k1
      walk_at "au"
      refine v_le1 ?_
      refine ⟨_, rfl, ?_⟩
      refine iteD (fun h2 => ?_) (fun h2 => ?_)
      · rw [decide_eq_true h2, Bool.true_and] at k1
        walk_at "au"
        refine v_ord ?_
        walk_at "au"
        have e : (!decide ((c : Int) = 37)) = decide (c ≠ 37) := by
          by_cases h : c = 37
          · subst h; rfl
          · rw [decide_eq_false (by omega), decide_eq_true h]; rfl
        rw [← e] at k1
        exact k1
      · rw [decide_eq_false h2, Bool.false_and] at k1
        walk_at "au"
        exact k1
    · rw [decide_eq_false h1, Bool.false_and] at k1
      walk_at "au"
      exact k1
  walk_at "au"
  exact q _ F1.upv

/-- is.plain.word(text): 0 text, 1 sign -/
abbrev N_is_plain_word : List Str := ["text", "sign"]
theorem st0_is_plain_word (a0 : D) : dstart N_is_plain_word [a0] = [some a0, none] := rfl
def w_is_plain_word : DTS := (dSeq (dIf (dOr (dTest (dOp eqD (dVar 0) (dC (.str "")))) (dTest (dOp notInD (dOp ixD (dVar 0) (dC (.int 0))) (dC (.str "abcdefghijklmnopqrstuvwxyz"))))) (dRet (dC (.bl false))) dNext)
  (dRet (dCB allD (dCons (dLc (iAny (dVar 0)) 1 dYes (dOrV (dOp inD (dVar 1) (dC (.str "abcdefghijklmnopqrstuvwxyz"))) (dOp inD (dVar 1) (dC (.str "0123456789"))))) dNil))))
def sp_is_plain_word : DSp := fun ds g Q => match ds with
  | [.str z] => (TL.tl z).length ≤ 16777216 ∧ ∀ g', Up [] g g' → Q (.bl (plainB (TL.tl z))) g'
  | _ => False
theorem len_is_plain_word : ∀ ds g Q, sp_is_plain_word ds g Q → ds.length = 1 := fun ds g Q h => by
  unfold sp_is_plain_word at h; split at h <;> first | rfl | exact h.elim
theorem rd_is_plain_word : ∀ ds g Q, sp_is_plain_word ds g Q → w_is_plain_word { nx := fun _ g => Q .non g, rt := Q } (dstart N_is_plain_word ds) g := fun ds g Q h => by
  unfold sp_is_plain_word at h; split at h
  case h_2 => exact h.elim
  obtain ⟨hl, q⟩ := h
  rename_i z
  obtain ⟨l, rfl⟩ : ∃ l, z = mk l := ⟨_, (mk_tl z).symm⟩
  rw [tl_mk] at hl q
  rw [st0_is_plain_word]
  unfold w_is_plain_word
  walk_at "go"
  refine iteD (fun h0 => ?_) (fun h0 => ?_)
  · refine iteB (fun _ => ?_) (fun z => by cases z)
    walk_at "go"
    have := q g .refl
    rw [empty_iff.mp h0] at this
    exact this
  walk_at "go"
  cases l with
  | nil => exact absurd (empty_iff.mpr rfl) h0
  | cons c r =>
    refine v_ixM hl (atI_ofNat (show (c :: r)[Int.toNat 0]? = some c from rfl) (by omega)) ?_
    refine v_nin1 ?_
    walk_at "go"
    refine iteN (fun h1 => ?_) (fun h1 => ?_)
    · walk_at "go"
      have := q g .refl
      rw [plainB_cons, decide_eq_false (fun z => h1 (in_letters.mpr z))] at this
      exact this
    walk_at "go"
    refine s_anyS ?_
    walk_at "go"
    refine lc_map (c :: r) (fun c => .str (mk [c])) (fun c => .bl (decide (low c) || decide (dig c))) rfl (fun _ _ => trivial) hl ?_ ?_
    · intro i a g' Q' hi U k
      walk_at "go"
      refine v_in1' ?_
      walk_at "go"
      refine iteD (fun h2 => ?_) (fun h2 => ?_)
      · have := k g' .refl
        rw [decide_eq_true (in_letters.mp h2)] at this
        exact this
      · walk_at "go"
        refine v_in1' ?_
        have := k g' .refl
        rw [decide_eq_false (fun z => h2 (in_letters.mpr z)), Bool.false_or] at this
        rw [decide_eq_decide.mpr in_digits]
        exact this
    intro p g' hp U hg
    walk_at "go"
    refine v_all (bs := (c :: r).map fun c => decide (low c) || decide (dig c)) (by rw [hg, List.map_map]; rfl) ?_
    have := q g' U
    rw [plainB_cons, decide_eq_true (in_letters.mp h1), Bool.true_and] at this
    rw [List.all_map]
    exact this
theorem use_plain {g : GS} {Q : DK} {z : Str} (hl : (TL.tl z).length ≤ 16777216) (h : ∀ g', Up [] g g' → Q (.bl (plainB (TL.tl z))) g') : sp_is_plain_word [.str z] g Q := ⟨hl, h⟩

/-- is.name(text): 0 text -/
abbrev N_is_name : List Str := ["text"]
theorem st0_is_name (a0 : D) : dstart N_is_name [a0] = [some a0] := rfl
def w_is_name : DTS := (dRet (dAndV (dOp leD (dCB lenD (dCons (dVar 0) dNil)) (dC (.int 8))) (dCall sp_is_plain_word [] (dCons (dVar 0) dNil))))
def sp_is_name : DSp := fun ds g Q => match ds with
  | [.str z] => (TL.tl z).length ≤ 16777216 ∧ ∀ g', Up [] g g' → Q (.bl (nameB (TL.tl z))) g'
  | _ => False
theorem len_is_name : ∀ ds g Q, sp_is_name ds g Q → ds.length = 1 := fun ds g Q h => by
  unfold sp_is_name at h; split at h <;> first | rfl | exact h.elim
theorem rd_is_name : ∀ ds g Q, sp_is_name ds g Q → w_is_name { nx := fun _ g => Q .non g, rt := Q } (dstart N_is_name ds) g := fun ds g Q h => by
  unfold sp_is_name at h; split at h
  case h_2 => exact h.elim
  obtain ⟨hl, q⟩ := h
  rename_i z
  obtain ⟨l, rfl⟩ : ∃ l, z = mk l := ⟨_, (mk_tl z).symm⟩
  rw [tl_mk] at hl q
  rw [st0_is_name]
  unfold w_is_name
  walk_at "go"
  refine v_lenM hl ?_
  walk_at "go"
  unfold nameB at q
  refine iteD (fun h0 => ?_) (fun h0 => ?_)
  · walk_at "go"
    refine ⟨by rw [tl_mk]; exact hl, fun g' U => ?_⟩
    have := q g' U
    rw [decide_eq_true (by omega), Bool.true_and] at this
    rw [tl_mk]
    exact this
  · have := q g .refl
    rw [decide_eq_false (by omega), Bool.false_and] at this
    exact this

/-- is.number(text): 0 text, 1 sign -/
abbrev N_is_number : List Str := ["text", "sign"]
theorem st0_is_number (a0 : D) : dstart N_is_number [a0] = [some a0, none] := rfl
def w_is_number : DTS := (dSeq (dIf (dOr (dTest (dOp eqD (dVar 0) (dC (.str "")))) (dNot (dTru (dCB allD (dCons (dLc (iAny (dVar 0)) 1 dYes (dOp inD (dVar 1) (dC (.str "0123456789")))) dNil))))) (dRet (dC (.bl false))) dNext)
  (dRet (dOrV (dOp eqD (dVar 0) (dC (.str "0"))) (dOp neD (dOp ixD (dVar 0) (dC (.int 0))) (dC (.str "0"))))))
def sp_is_number : DSp := fun ds g Q => match ds with
  | [.str z] => (TL.tl z).length ≤ 16777216 ∧ ∀ g', Up [] g g' → Q (.bl (numB (TL.tl z))) g'
  | _ => False
theorem len_is_number : ∀ ds g Q, sp_is_number ds g Q → ds.length = 1 := fun ds g Q h => by
  unfold sp_is_number at h; split at h <;> first | rfl | exact h.elim
theorem rd_is_number : ∀ ds g Q, sp_is_number ds g Q → w_is_number { nx := fun _ g => Q .non g, rt := Q } (dstart N_is_number ds) g := fun ds g Q h => by
  unfold sp_is_number at h; split at h
  case h_2 => exact h.elim
  obtain ⟨hl, q⟩ := h
  rename_i z
  obtain ⟨l, rfl⟩ : ∃ l, z = mk l := ⟨_, (mk_tl z).symm⟩
  rw [tl_mk] at hl q
  rw [st0_is_number]
  unfold w_is_number
  have z48 : ("0" : Str) = mk [48] := by decide +kernel
  walk_at "go"
  refine iteD (fun h0 => ?_) (fun h0 => ?_)
  · refine iteB (fun _ => ?_) (fun z => by cases z)
    walk_at "go"
    have := q g .refl
    rw [empty_iff.mp h0] at this
    exact this
  walk_at "go"
  cases l with
  | nil => exact absurd (empty_iff.mpr rfl) h0
  | cons c r =>
    refine s_anyS ?_
    walk_at "go"
    refine lc_map (c :: r) (fun c => .str (mk [c])) (fun c => .bl (decide (dig c))) rfl (fun _ _ => trivial) hl ?_ ?_
    · intro i a g' Q' hi U k
      walk_at "go"
      refine v_in1' ?_
      rw [decide_eq_decide.mpr in_digits]
      exact k g' .refl
    intro p g' hp U hg
    walk_at "go"
    refine v_all (bs := (c :: r).map fun c => decide (dig c)) (by rw [hg, List.map_map]; rfl) ?_
    walk_at "go"
    rw [List.all_map]
    have e1 : (c :: r).all (id ∘ fun c => decide (dig c)) = digsB (c :: r) := rfl
    rw [e1]
    have e2 : numB (c :: r) = (digsB (c :: r) && ((c :: r) == [48] || (c :: r).head? != some 48)) := by unfold numB; rfl
    rw [e2] at q
    refine iteNB (fun h1 => ?_) (fun h1 => ?_)
    · walk_at "go"
      have := q g' U
      rw [h1] at this
      exact this
    walk_at "go"
    rw [h1] at q
    rw [z48]
    refine iteD (fun h2 => ?_) (fun h2 => ?_)
    · have := q g' U
      rw [mk_inj h2] at this
      exact this
    · walk_at "go"
      refine v_ixM hl (atI_ofNat (show (c :: r)[Int.toNat 0]? = some c from rfl) (by omega)) ?_
      refine v_neM ?_
      have := q g' U
      have h3 : ((c :: r) == [48]) = false := beq_eq_false_iff_ne.mpr fun z => h2 (by rw [z])
      rw [h3] at this
      have e4 : (!decide ([c] = [48])) = ((c :: r).head? != some 48) := by
        by_cases hc : c = 48
        · subst hc; rfl
        · have : ([c] : List Nat) ≠ [48] := fun z => hc (by injection z)
          rw [decide_eq_false this]
          exact (bne_iff_ne.mpr fun z => hc (Option.some.inj z)).symm
      rw [e4]
      exact this

/-- is.key(text): 0 text -/
abbrev N_is_key : List Str := ["text"]
theorem st0_is_key (a0 : D) : dstart N_is_key [a0] = [some a0] := rfl
def w_is_key : DTS := (dRet (dAndV (dChain leD leD (dC (.int 1)) (dCB lenD (dCons (dVar 0) dNil)) (dC (.int 60))) (dAndV (dOp notInD (dC (.str " ")) (dVar 0)) (dCall sp_is_row [] (dCons (dVar 0) dNil)))))
def keyB (l : List Nat) : Bool := decide (1 ≤ l.length) && (decide (l.length ≤ 60) && (!decide (32 ∈ l) && rowB l))
def sp_is_key : DSp := fun ds g Q => match ds with
  | [.str z] => ∃ l : List Nat, z = mk l ∧ (l.length ≤ 16777216) ∧ ∀ g', Up [] g g' → Q (.bl (keyB l)) g'
  | _ => False
theorem len_is_key : ∀ ds g Q, sp_is_key ds g Q → ds.length = 1 := fun ds g Q h => by
  unfold sp_is_key at h; split at h <;> first | rfl | exact h.elim
theorem t_is_key {k : FK} {g0 g : GS} {lo : FL} {Q : DK} {l : List Nat} (F : Fr k g0 g lo) (p0 : (l.length ≤ 16777216)) (h : ∀ g', Fr k g0 g' lo → Q (.bl (keyB l)) g') : sp_is_key ([.str (mk l)] ++ []) g Q := ⟨l, rfl, p0, fun g' u => h g' (F.up u)⟩
local macro_rules | `(tactic| walk_at "call") => `(tactic| ((with_reducible refine t_is_key (by assumption) ?_ ?_); walk_at "sd"; intro _ _))
theorem rd_is_key : ∀ ds g Q, sp_is_key ds g Q → w_is_key { nx := fun _ g => Q .non g, rt := Q } (dstart N_is_key ds) g := fun ds g Q h => by
  unfold sp_is_key at h; split at h
  case h_2 => exact h.elim
  obtain ⟨l, rfl, p0, q⟩ := h
  have F : Fr .pu g g [] := Fr.startP
  rw [st0_is_key]
  unfold w_is_key
  have lit0 : (" " : Str) = mk [32] := by decide +kernel
  simp only [lit0]
  unfold keyB at q
  walk_at "au"
  refine iteD (fun h1 => ?_) (fun h1 => ?_)
  · rw [decide_eq_true (show 1 ≤ l.length by omega), Bool.true_and] at q
    walk_at "au"
    refine iteD (fun h2 => ?_) (fun h2 => ?_)
    · rw [decide_eq_true (show l.length ≤ 60 by omega), Bool.true_and] at q
      walk_at "au"
      refine iteN (fun h3 => ?_) (fun h3 => ?_)
      · rw [decide_eq_false h3, Bool.not_false, Bool.true_and] at q
        walk_at "au"
        exact q _ (Fr.upv (by assumption))
      · rw [decide_eq_true h3, Bool.not_true, Bool.false_and] at q
        walk_at "au"
        exact q _ (Fr.upv (by assumption))
    · rw [decide_eq_false (show ¬ l.length ≤ 60 by omega), Bool.false_and] at q
      walk_at "au"
      exact q _ (Fr.upv (by assumption))
  · rw [decide_eq_false (show ¬ 1 ≤ l.length by omega), Bool.false_and] at q
    walk_at "au"
    exact q _ (Fr.upv (by assumption))

/-- is.number.of(text, digits): 0 text, 1 digits -/
abbrev N_is_number_of : List Str := ["text", "digits"]
theorem st0_is_number_of (a0 a1 : D) : dstart N_is_number_of [a0, a1] = [some a0, some a1] := rfl
def w_is_number_of : DTS := (dRet (dAndV (dOp leD (dCB lenD (dCons (dVar 0) dNil)) (dVar 1)) (dCall sp_is_number [] (dCons (dVar 0) dNil))))
def sp_is_number_of : DSp := fun ds g Q => match ds with
  | [.str z, .int k] => ∃ l : List Nat, ∃ n : Int, z = mk l ∧ k = n ∧ (l.length ≤ 16777216) ∧ ∀ g', Up [] g g' → Q (.bl (decide ((l.length : Int) ≤ n) && numB l)) g'
  | _ => False
theorem len_is_number_of : ∀ ds g Q, sp_is_number_of ds g Q → ds.length = 2 := fun ds g Q h => by
  unfold sp_is_number_of at h; split at h <;> first | rfl | exact h.elim
theorem t_is_number_of {k : FK} {g0 g : GS} {lo : FL} {Q : DK} {l : List Nat} {n : Int} (F : Fr k g0 g lo) (p0 : (l.length ≤ 16777216)) (h : ∀ g', Fr k g0 g' lo → Q (.bl (decide ((l.length : Int) ≤ n) && numB l)) g') : sp_is_number_of ([.str (mk l), .int (n)] ++ []) g Q := ⟨l, n, rfl, rfl, p0, fun g' u => h g' (F.up u)⟩
local macro_rules | `(tactic| walk_at "call") => `(tactic| ((with_reducible refine t_is_number_of (by assumption) ?_ ?_); walk_at "sd"; intro _ _))
theorem rd_is_number_of : ∀ ds g Q, sp_is_number_of ds g Q → w_is_number_of { nx := fun _ g => Q .non g, rt := Q } (dstart N_is_number_of ds) g := fun ds g Q h => by
  unfold sp_is_number_of at h; split at h
  case h_2 => exact h.elim
  obtain ⟨l, n, rfl, rfl, p0, q⟩ := h
  have F : Fr .pu g g [] := Fr.startP
  rw [st0_is_number_of]
  unfold w_is_number_of
  walk_at "au"
  refine iteD (fun h1 => ?_) (fun h1 => ?_)
  · rw [decide_eq_true h1, Bool.true_and] at q
    walk_at "au"
    refine ⟨by rw [tl_mk]; exact p0, fun g1 U1 => ?_⟩
    rw [tl_mk]
    exact q _ U1
  · rw [decide_eq_false h1, Bool.false_and] at q
    walk_at "au"
    exact q _ (Fr.upv (by assumption))

/-- stuffed(row): 0 row -/
abbrev N_stuffed : List Str := ["row"]
theorem st0_stuffed (a0 : D) : dstart N_stuffed [a0] = [some a0] := rfl
def w_stuffed : DTS := (dSeq (dIf (dTru (dBM "str" startsD (dVar 0) (dCons (dC (.str ".")) dNil))) (dRet (dOp addD (dC (.str ".")) (dVar 0))) dNext)
  (dRet (dVar 0)))
def stuffL (l : List Nat) : List Nat := if l.head? = some 46 then 46 :: l else l
def sp_stuffed : DSp := fun ds g Q => match ds with
  | [.str z] => ∃ l : List Nat, z = mk l ∧ (l.length ≤ 1000000) ∧ ∀ g', Up [] g g' → Q (.str (mk (stuffL l))) g'
  | _ => False
theorem len_stuffed : ∀ ds g Q, sp_stuffed ds g Q → ds.length = 1 := fun ds g Q h => by
  unfold sp_stuffed at h; split at h <;> first | rfl | exact h.elim
theorem t_stuffed {k : FK} {g0 g : GS} {lo : FL} {Q : DK} {l : List Nat} (F : Fr k g0 g lo) (p0 : (l.length ≤ 1000000)) (h : ∀ g', Fr k g0 g' lo → Q (.str (mk (stuffL l))) g') : sp_stuffed ([.str (mk l)] ++ []) g Q := ⟨l, rfl, p0, fun g' u => h g' (F.up u)⟩
local macro_rules | `(tactic| walk_at "call") => `(tactic| ((with_reducible refine t_stuffed (by assumption) ?_ ?_); walk_at "sd"; intro _ _))
theorem rd_stuffed : ∀ ds g Q, sp_stuffed ds g Q → w_stuffed { nx := fun _ g => Q .non g, rt := Q } (dstart N_stuffed ds) g := fun ds g Q h => by
  unfold sp_stuffed at h; split at h
  case h_2 => exact h.elim
  obtain ⟨l, rfl, p0, q⟩ := h
  have F : Fr .pu g g [] := Fr.startP
  rw [st0_stuffed]
  unfold w_stuffed
  have lit0 : ("." : Str) = mk [46] := by decide +kernel
  simp only [lit0]
  unfold stuffL at q
  walk_at "au"
  refine iteD (fun h1 => ?_) (fun h1 => ?_)
  · rw [if_pos h1] at q
    walk_at "au"
    exact q _ (Fr.upv (by assumption))
  · rw [if_neg h1] at q
    walk_at "au"
    exact q _ (Fr.upv (by assumption))

/-- unstuffed(word): 0 word -/
abbrev N_unstuffed : List Str := ["word"]
theorem st0_unstuffed (a0 : D) : dstart N_unstuffed [a0] = [some a0] := rfl
def w_unstuffed : DTS := (dSeq (dIf (dTru (dBM "str" startsD (dVar 0) (dCons (dC (.str ".")) dNil))) (dRet (dSl (dVar 0) (dPart (dC (.int 1))) dNo)) dNext)
  (dRet (dVar 0)))
def unstuffL (l : List Nat) : List Nat := if l.head? = some 46 then l.drop 1 else l
def sp_unstuffed : DSp := fun ds g Q => match ds with
  | [.str z] => ∃ l : List Nat, z = mk l ∧ (l.length ≤ 1000000) ∧ ∀ g', Up [] g g' → Q (.str (mk (unstuffL l))) g'
  | _ => False
theorem len_unstuffed : ∀ ds g Q, sp_unstuffed ds g Q → ds.length = 1 := fun ds g Q h => by
  unfold sp_unstuffed at h; split at h <;> first | rfl | exact h.elim
theorem t_unstuffed {k : FK} {g0 g : GS} {lo : FL} {Q : DK} {l : List Nat} (F : Fr k g0 g lo) (p0 : (l.length ≤ 1000000)) (h : ∀ g', Fr k g0 g' lo → Q (.str (mk (unstuffL l))) g') : sp_unstuffed ([.str (mk l)] ++ []) g Q := ⟨l, rfl, p0, fun g' u => h g' (F.up u)⟩
local macro_rules | `(tactic| walk_at "call") => `(tactic| ((with_reducible refine t_unstuffed (by assumption) ?_ ?_); walk_at "sd"; intro _ _))
theorem rd_unstuffed : ∀ ds g Q, sp_unstuffed ds g Q → w_unstuffed { nx := fun _ g => Q .non g, rt := Q } (dstart N_unstuffed ds) g := fun ds g Q h => by
  unfold sp_unstuffed at h; split at h
  case h_2 => exact h.elim
  obtain ⟨l, rfl, p0, q⟩ := h
  have F : Fr .pu g g [] := Fr.startP
  rw [st0_unstuffed]
  unfold w_unstuffed
  have lit0 : ("." : Str) = mk [46] := by decide +kernel
  simp only [lit0]
  unfold unstuffL at q
  walk_at "au"
  refine iteD (fun h1 => ?_) (fun h1 => ?_)
  · rw [if_pos h1] at q
    walk_at "au"
    have e1 : (1 : Int).toNat = 1 := rfl
    rw [e1]
    exact q _ (Fr.upv (by assumption))
  · rw [if_neg h1] at q
    walk_at "au"
    exact q _ (Fr.upv (by assumption))

/-- .law.mix(seed, turn): 0 seed, 1 turn, 2 number -/
abbrev N_Lmix : List Str := ["seed", "turn", "number"]
theorem st0_Lmix (a0 a1 : D) : dstart N_Lmix [a0, a1] = [some a0, some a1, none] := rfl
def w_Lmix : DTS := (dSeq (dAsg (dOp modD (dCB intF (dCons (dOp addD (dOp addD (dOp mulD (dVar 0) (dC (.int 48271))) (dOp mulD (dVar 1) (dC (.int 69621)))) (dC (.int 11))) dNil)) (dC (.int 2147483647))) (gNm 2))
  (dSeq (dAsg (dOp modD (dCB intF (dCons (dOp addD (dOp addD (dOp mulD (dVar 2) (dVar 2)) (dOp mulD (dVar 1) (dC (.int 16807)))) (dC (.int 7))) dNil)) (dC (.int 2147483629))) (gNm 2))
  (dSeq (dAsg (dOp modD (dCB intF (dCons (dOp addD (dOp addD (dOp mulD (dVar 2) (dC (.int 40692))) (dOp mulD (dOp mulD (dVar 1) (dVar 1)) (dC (.int 30269)))) (dC (.int 5))) dNil)) (dC (.int 2147483399))) (gNm 2))
  (dRet (dVar 2)))))
def sp_Lmix : DSp := fun ds g Q => match ds with
  | [.int seed, .int turn] => 0 ≤ seed ∧ seed < 8589934592 ∧ 0 ≤ turn ∧ turn < 2199023255552 ∧ ∀ v : Int, 0 ≤ v → v < 2147483399 → Q (.int v) g
  | _ => False
theorem len_Lmix : ∀ ds g Q, sp_Lmix ds g Q → ds.length = 2 := fun ds g Q h => by
  unfold sp_Lmix at h; split at h <;> first | rfl | exact h.elim
theorem rd_Lmix : ∀ ds g Q, sp_Lmix ds g Q → w_Lmix { nx := fun _ g => Q .non g, rt := Q } (dstart N_Lmix ds) g := fun ds g Q h => by
  unfold sp_Lmix at h; split at h
  case h_2 => exact h.elim
  obtain ⟨h1, h2, h3, h4, q⟩ := h
  rename_i seed turn
  rw [st0_Lmix]
  unfold w_Lmix
  walk_at "go"
  refine q _ ?_ ?_
  · omega
  · omega

/-- .law.source(script): 0 script, 1 seed, 2 k -/
abbrev N_Lsource : List Str := ["script", "seed", "k"]
theorem st0_Lsource (a0 : D) : dstart N_Lsource [a0] = [some a0, none, none] := rfl
def w_Lsource : DTS := (dSeq (dAsg (dC (.int 17)) (gNm 1))
  (dSeq (dFor (iRa1 (dCB lenD (dCons (dVar 0) dNil))) (gNm 2) (dAsg (dCall sp_Lmix [] (dCons (dOp addD (dVar 1) (dOp modD (dCB intF (dCons (dOp ixD (dVar 0) (dVar 2)) dNil)) (dC (.int 2147483647)))) (dCons (dVar 2) dNil))) (gNm 1)))
  (dRet (dLst (dCons (dCB lstF (dCons (dVar 0) dNil)) (dCons (dC (.int 0)) (dCons (dC (.int 0)) (dCons (dVar 1) (dCons (dC (.int 0)) dNil)))))))))
def sp_Lsource : DSp := fun ds g Q => match ds with
  | [.klst xs] => ∃ ns : List Int, xs = ns.map D.int ∧ ns.length ≤ 63 ∧ ∀ s g', s.ns = ns → Up [] g g' → Src s g' 0 → g s.L = none → g s.L0 = none → Q (.ref s.L) g'
  | _ => False
theorem len_Lsource : ∀ ds g Q, sp_Lsource ds g Q → ds.length = 1 := fun ds g Q h => by
  unfold sp_Lsource at h; split at h <;> first | rfl | exact h.elim
theorem rd_Lsource : ∀ ds g Q, sp_Lsource ds g Q → w_Lsource { nx := fun _ g => Q .non g, rt := Q } (dstart N_Lsource ds) g := fun ds g Q h => by
  unfold sp_Lsource at h; split at h
  case h_2 => exact h.elim
  obtain ⟨ns, rfl, hn, q⟩ := h
  rw [st0_Lsource]
  unfold w_Lsource
  walk_at "go"
  refine v_lenK ?_
  refine ⟨_, rfl, by omega, by rw [List.length_map]; omega, ?_⟩
  refine ⟨fun i e g' => g' = g ∧ ∃ sd x, e = [some (.klst (ns.map D.int)), some (.int sd), x] ∧ 0 ≤ sd ∧ sd < 2147483647, ⟨rfl, 17, none, rfl, by omega, by omega⟩, fun _ _ _ _ _ => trivial, ?_, ?_⟩
  · rintro i d e g' hd ⟨rfl, sd, x, rfl, b1, b2⟩
    obtain ⟨hi, rfl⟩ := ran_get hd
    have hi2 : i < ns.length := by rw [List.length_map] at hi; omega
    walk_at "go"
    refine v_ixK (atI_map (atI_at (List.getElem?_eq_getElem hi2))) ?_
    · walk_at "go"
      refine ⟨by omega, by omega, by omega, by omega, fun v v1 v2 => ?_⟩
      walk_at "go"
      exact ⟨rfl, v, _, rfl, v1, by omega⟩
  · rintro e g' ⟨rfl, sd, x, rfl, b1, b2⟩
    walk_at "go"
    refine v_lstK fun p hp => ?_
    walk_at "go"
    refine ⟨by rw [szl]; simp, fun p2 hp2 => ?_⟩
    have n12 : p ≠ p2 := fun z => by rw [← z, gup_same] at hp2; cases hp2
    have f2 : g' p2 = none := (Up.new (S := []) (o := .lst (ns.map D.int)) hp).fresh hp2
    exact q ⟨p2, p, ns⟩ _ rfl ((Up.new hp).trans (.new hp2)) ⟨by rw [gup_ne n12, gup_same], ⟨n12, hn⟩, 0, 0, sd, 0, by rw [gup_same], by omega, by omega, b1, b2, by omega, by omega⟩ f2 hp

/-- .law.draw(source, many): 0 source, 1 many, 2 cell, 3 value -/
abbrev N_Ldraw : List Str := ["source", "many", "cell", "value"]
theorem st0_Ldraw (a0 a1 : D) : dstart N_Ldraw [a0, a1] = [some a0, some a1, none, none] := rfl
def w_Ldraw : DTS := (dSeq (dIf (dAnd (dTest (dOp eqD (dOp ixD (dVar 0) (dC (.int 2))) (dC (.int 0)))) (dAnd (dTest (dOp ltD (dOp ixD (dVar 0) (dC (.int 1))) (dCB lenD (dCons (dOp ixD (dVar 0) (dC (.int 0))) dNil)))) (dTest (dOp eqD (dOp modD (dCB intF (dCons (dOp ixD (dVar 0) (dC (.int 4))) dNil)) (dC (.int 6))) (dC (.int 0)))))) (dSeq (dAsg (dOp ixD (dOp ixD (dVar 0) (dC (.int 0))) (dOp ixD (dVar 0) (dC (.int 1)))) (gNm 2))
  (dSeq (dAsg (dOp addD (dOp ixD (dVar 0) (dC (.int 1))) (dC (.int 1))) (gSb (dVar 0) (dC (.int 1))))
  (dIf (dTest (dOp geD (dCB absD (dCons (dVar 2) dNil)) (dOp powD (dC (.int 10)) (dC (.int 18))))) (dAsg (dOp andD (dCB absD (dCons (dVar 2) dNil)) (dOp subD (dOp shlD (dC (.int 1)) (dC (.int 12800))) (dC (.int 1)))) (gSb (dVar 0) (dC (.int 2)))) (dAsg (dCall sp_Lmix [] (dCons (dOp addD (dOp ixD (dVar 0) (dC (.int 3))) (dOp modD (dCB intF (dCons (dVar 2) dNil)) (dC (.int 2147483647)))) (dCons (dOp ixD (dVar 0) (dC (.int 1))) dNil))) (gSb (dVar 0) (dC (.int 3))))))) dNext)
  (dSeq (dIf (dTest (dOp gtD (dOp ixD (dVar 0) (dC (.int 2))) (dC (.int 0)))) (dSeq (dAsg (dOp modD (dCB intF (dCons (dOp ixD (dVar 0) (dC (.int 2))) dNil)) (dVar 1)) (gNm 3))
  (dSeq (dAsg (dOp fdivD (dCB intF (dCons (dOp ixD (dVar 0) (dC (.int 2))) dNil)) (dVar 1)) (gSb (dVar 0) (dC (.int 2))))
  (dRet (dVar 3)))) dNext)
  (dSeq (dAsg (dOp addD (dOp ixD (dVar 0) (dC (.int 4))) (dC (.int 1))) (gSb (dVar 0) (dC (.int 4))))
  (dRet (dOp modD (dCB intF (dCons (dOp fdivD (dCall sp_Lmix [] (dCons (dOp ixD (dVar 0) (dC (.int 3))) (dCons (dOp ixD (dVar 0) (dC (.int 4))) dNil))) (dC (.int 5))) dNil)) (dVar 1))))))
def sp_Ldraw : DSp := fun ds g Q => match ds with
  | [.ref L, .int k] => ∃ s m, s.L = L ∧ Src s g m ∧ m < 1099511627776 ∧ 0 < k ∧ k < 1073741824 ∧ ∀ (v : Int) g', 0 ≤ v → v < k → Go s g g' (m + 1) → Q (.int v) g'
  | _ => False
theorem len_Ldraw : ∀ ds g Q, sp_Ldraw ds g Q → ds.length = 2 := fun ds g Q h => by
  unfold sp_Ldraw at h; split at h <;> first | rfl | exact h.elim
theorem Ldraw_end {L : Addr} {k : Int} {s : SI} {g g' : GS} {Q : DK} {m : Nat} {c : Int} {cl : Option D} (L0 : Addr) (big seed n : Int) (hL0 : s.L0 = L0) (hL : s.L = L) (hu : Up [L] g g') (n0 : L0 ≠ L) (n63 : s.ns.length ≤ 63) (h0 : g' L0 = some (.lst (s.ns.map D.int)))
    (h : g' L = some (.lst [.ref L0, .int c, .int big, .int seed, .int n])) (b1 : 0 ≤ c) (b2 : 0 ≤ big) (b3 : 0 ≤ seed) (b4 : seed < 2147483647) (b5 : 0 ≤ n) (b6 : n ≤ m) (hm : m < 1099511627776) (hk : 0 < k) (hk2 : k < 1073741824)
    (q : ∀ (v : Int) g', 0 ≤ v → v < k → Go s g g' (m + 1) → Q (.int v) g') :
    dSeq (dIf (dTest (dOp gtD (dOp ixD (dVar 0) (dC (.int 2))) (dC (.int 0)))) (dSeq (dAsg (dOp modD (dCB intF (dCons (dOp ixD (dVar 0) (dC (.int 2))) dNil)) (dVar 1)) (gNm 3))
      (dSeq (dAsg (dOp fdivD (dCB intF (dCons (dOp ixD (dVar 0) (dC (.int 2))) dNil)) (dVar 1)) (gSb (dVar 0) (dC (.int 2)))) (dRet (dVar 3)))) dNext)
      (dSeq (dAsg (dOp addD (dOp ixD (dVar 0) (dC (.int 4))) (dC (.int 1))) (gSb (dVar 0) (dC (.int 4))))
        (dRet (dOp modD (dCB intF (dCons (dOp fdivD (dCall sp_Lmix [] (dCons (dOp ixD (dVar 0) (dC (.int 3))) (dCons (dOp ixD (dVar 0) (dC (.int 4))) dNil))) (dC (.int 5))) dNil)) (dVar 1)))) { nx := fun _ g => Q .non g, rt := Q } [some (.ref L), some (.int k), cl, none] g' := by
  subst hL0 hL
  walk_at "go"
  refine iteD (fun hb => ?_) (fun hb => ?_)
  · walk_at "go"
    refine v_set h rfl ?_
    walk_at "go"
    refine q _ _ (Int.emod_nonneg _ (by omega)) (Int.emod_lt_of_pos _ hk) ⟨hu.ins (List.mem_singleton.mpr rfl), by rw [gup_ne n0]; exact h0, ⟨n0, n63⟩, c, big / k, seed, n, by rw [gup_same]; rfl, b1, Int.ediv_nonneg b2 (by omega), b3, b4, b5, by omega⟩
  · walk_at "go"
    refine v_set h rfl ?_
    walk_at "go"
    have h2 : gup g' s.L (.lst ([.ref s.L0, .int c, .int big, .int seed, .int n].set 4 (.int (n + 1)))) s.L = some (.lst [.ref s.L0, .int c, .int big, .int seed, .int (n + 1)]) := by rw [gup_same]; rfl
    walk_at "go"
    refine ⟨b3, by omega, by omega, by omega, fun v v1 v2 => ?_⟩
    walk_at "go"
    refine q _ _ (Int.emod_nonneg _ (by omega)) (Int.emod_lt_of_pos _ hk) ⟨hu.ins (List.mem_singleton.mpr rfl), by rw [gup_ne n0]; exact h0, ⟨n0, n63⟩, c, big, seed, n + 1, h2, b1, b2, b3, b4, by omega, by omega⟩
theorem rd_Ldraw : ∀ ds g Q, sp_Ldraw ds g Q → w_Ldraw { nx := fun _ g => Q .non g, rt := Q } (dstart N_Ldraw ds) g := fun ds g Q h => by
  unfold sp_Ldraw at h; split at h
  case h_2 => exact h.elim
  obtain ⟨s, m, hL, hS, hm, hk, hk2, q⟩ := h
  rename_i L k
  subst hL
  obtain ⟨h0, ⟨n0, n63⟩, c, big, seed, n, h, b1, b2, b3, b4, b5, b6⟩ := hS
  rw [st0_Ldraw]
  unfold w_Ldraw
  have fin : ∀ g' c big seed cl, Up [s.L] g g' → g' s.L0 = some (.lst (s.ns.map D.int)) → g' s.L = some (.lst [.ref s.L0, .int c, .int big, .int seed, .int n]) → 0 ≤ c → 0 ≤ big → 0 ≤ seed → seed < 2147483647 → _ :=
    fun g' c big seed cl hu h0 h b1 b2 b3 b4 => Ldraw_end (cl := cl) (k := k) s.L0 big seed n rfl rfl hu n0 n63 h0 h b1 b2 b3 b4 b5 b6 hm hk hk2 q
  walk_at "go"
  refine iteD (fun e1 => ?_) (fun _ => ?_)
  · walk_at "go"
    refine iteD (fun e2 => ?_) (fun _ => ?_)
    · walk_at "go"
      refine iteD (fun e3 => ?_) (fun _ => ?_)
      · walk_at "go"
        rw [List.length_map] at e2
        obtain ⟨cell, _, hcell⟩ := atI_ex (xs := s.ns) b1 e2
        refine v_ixL h0 (atI_map hcell) ?_
        walk_at "go"
        refine v_set h rfl ?_
        walk_at "go"
        have h1 : gup g s.L (.lst ([.ref s.L0, .int c, .int big, .int seed, .int n].set 1 (.int (c + 1)))) s.L = some (.lst [.ref s.L0, .int (c + 1), .int big, .int seed, .int n]) := by rw [gup_same]; rfl
        have h10 : gup g s.L (.lst ([.ref s.L0, .int c, .int big, .int seed, .int n].set 1 (.int (c + 1)))) s.L0 = some (.lst (s.ns.map D.int)) := by rw [gup_ne n0]; exact h0
        refine v_pow ⟨by omega, by omega, by decide⟩ ?_
        walk_at "go"
        refine iteD (fun e4 => ?_) (fun _ => ?_)
        · walk_at "go"
          refine v_shl ⟨by omega, by omega, by decide⟩ ?_
          walk_at "go"
          refine v_set h1 rfl ?_
          refine fin _ (c + 1) (Builtin.bitAnd (if cell < 0 then -cell else cell) (1 * 2 ^ (12800 : Int).toNat - 1)) seed _ ((Up.refl.ins (List.mem_singleton.mpr rfl)).ins (List.mem_singleton.mpr rfl)) ?_ (by rw [gup_same]; rfl) (by omega) ?_ b3 b4
          · rw [gup_ne n0]; exact h10
          · exact bAnd_nn (by split <;> omega) (mask_nn _)
        · walk_at "go"
          refine ⟨by omega, by omega, by omega, by omega, fun v v1 v2 => ?_⟩
          walk_at "go"
          refine v_set h1 rfl ?_
          refine fin _ (c + 1) big v _ ((Up.refl.ins (List.mem_singleton.mpr rfl)).ins (List.mem_singleton.mpr rfl)) ?_ (by rw [gup_same]; rfl) (by omega) b2 v1 (by omega)
          rw [gup_ne n0]; exact h10
      · refine DL.s_next ?_
        exact fin g c big seed none .refl h0 h b1 b2 b3 b4
    · refine iteB (fun z => by cases z) (fun _ => ?_)
      refine DL.s_next ?_
      exact fin g c big seed none .refl h0 h b1 b2 b3 b4
  · refine iteB (fun z => by cases z) (fun _ => ?_)
    refine DL.s_next ?_
    exact fin g c big seed none .refl h0 h b1 b2 b3 b4
theorem t_Ldraw {s : SI} {m : Nat} {g0 g : GS} {lo : FL} {Q : DK} {k : Int} (F : Fr (.go s m) g0 g lo) (hm : m < 1099511627776) (h1 : 0 < k) (h2 : k < 1073741824) (h : ∀ (v : Int) g', 0 ≤ v → v < k → Fr (.go s (m + 1)) g0 g' lo → Q (.int v) g') : sp_Ldraw ([.ref s.L, .int k] ++ []) g Q := ⟨s, m, rfl, F.src, hm, h1, h2, fun v g' a b G => h v g' a b (F.call G)⟩
local macro_rules | `(tactic| walk_at "call") => `(tactic| ((with_reducible refine t_Ldraw (by assumption) ?_ ?_ ?_ ?_); omega; walk_at "len"; walk_at "len"; intro _ _ _ _ _))

/-- .law.pick(source, row): 0 source, 1 row -/
abbrev N_Lpick : List Str := ["source", "row"]
theorem st0_Lpick (a0 a1 : D) : dstart N_Lpick [a0, a1] = [some a0, some a1] := rfl
def w_Lpick : DTS := (dRet (dOp ixD (dVar 1) (dCall sp_Ldraw [] (dCons (dVar 0) (dCons (dCB lenD (dCons (dVar 1) dNil)) dNil)))))
def sp_Lpick : DSp := fun ds g Q => match ds with
  | [.ref L, .ref p] => ∃ s m, ∃ xs : List D, s.L = L ∧ Src s g m ∧ m < 1000000000000 ∧ g p = some (.lst xs) ∧ p ≠ s.L ∧ xs ≠ [] ∧ xs.length < 1073741824 ∧ ∀ d g', d ∈ xs → Go s g g' (m + 1) → Q d g'
  | [.ref L, .tup xs] => ∃ s m, s.L = L ∧ Src s g m ∧ m < 1000000000000 ∧ xs ≠ [] ∧ xs.length < 1073741824 ∧ ∀ d g', d ∈ xs → Go s g g' (m + 1) → Q d g'
  | [.ref L, .str z] => ∃ s m, s.L = L ∧ Src s g m ∧ m < 1000000000000 ∧ TL.tl z ≠ [] ∧ (TL.tl z).length < 10000000 ∧ ∀ (c : Nat) g', c ∈ TL.tl z → Go s g g' (m + 1) → Q (.str (mk [c])) g'
  | _ => False
theorem len_Lpick : ∀ ds g Q, sp_Lpick ds g Q → ds.length = 2 := fun ds g Q h => by
  unfold sp_Lpick at h; split at h <;> first | rfl | exact h.elim
theorem rd_Lpick : ∀ ds g Q, sp_Lpick ds g Q → w_Lpick { nx := fun _ g => Q .non g, rt := Q } (dstart N_Lpick ds) g := fun ds g Q h => by
  unfold sp_Lpick at h; split at h
  · obtain ⟨s, m, xs, rfl, hS, hm, hp, np, hx, hl, q⟩ := h
    rename_i p
    have hpos := List.length_pos_iff.mpr hx
    rw [st0_Lpick]
    unfold w_Lpick
    walk_at "go"
    refine ⟨s, m, rfl, hS, by omega, by omega, by omega, fun v g1 a1 a2 G1 => ?_⟩
    obtain ⟨d, hd, hat⟩ := atI_ex a1 a2
    exact v_ixL (G1.get np hp) hat (q d g1 hd G1)
  · obtain ⟨s, m, rfl, hS, hm, hx, hl, q⟩ := h
    rename_i xs
    have hpos := List.length_pos_iff.mpr hx
    rw [st0_Lpick]
    unfold w_Lpick
    walk_at "go"
    refine ⟨s, m, rfl, hS, by omega, by omega, by omega, fun v g1 a1 a2 G1 => ?_⟩
    obtain ⟨d, hd, hat⟩ := atI_ex a1 a2
    exact v_ixT hat (q d g1 hd G1)
  · obtain ⟨s, m, rfl, hS, hm, hx, hl, q⟩ := h
    rename_i z
    have hpos := List.length_pos_iff.mpr hx
    rw [st0_Lpick]
    unfold w_Lpick
    walk_at "go"
    have e0 : z.length = (TL.tl z).length := TL.len_tl z
    refine v_lenS (by rw [szl]; omega) ?_
    walk_at "go"
    refine ⟨s, m, rfl, hS, by omega, by omega, by omega, fun v g1 a1 a2 G1 => ?_⟩
    obtain ⟨c, hc, hat⟩ := atI_ex (xs := z.cps.toList) a1 (by rw [e0] at a2; exact a2)
    exact v_ixS (by rw [szl]; omega) hat (q c g1 hc G1)
  · exact h.elim
theorem t_LpickD {s : SI} {m : Nat} {g0 g : GS} {lo : FL} {Q : DK} {p : Addr} {xs : List D} (F : Fr (.go s m) g0 g lo) (hm : m < 1000000000000) (n : Nat) (b : Bool) (e : lo[n]? = some (p, .lst xs, b)) (h1 : xs ≠ []) (h2 : xs.length < 1073741824) (h : ∀ d g', d ∈ xs → Fr (.go s (m + 1)) g0 g' lo → Q d g') : sp_Lpick ([.ref s.L, .ref p] ++ []) g Q := ⟨s, m, xs, rfl, F.src, hm, F.at n e, F.neL n e, h1, h2, fun d g' a G => h d g' a (F.call G)⟩
theorem t_LpickS {s : SI} {m : Nat} {g0 g : GS} {lo : FL} {Q : DK} {p : Addr} {xs : List D} (F : Fr (.go s m) g0 g lo) (hm : m < 1000000000000) (n : Nat) (b : Bool) (e : lo[n]? = some (p, .lst xs, b)) (h0 : sOnly xs = true) (h1 : xs ≠ []) (h2 : xs.length < 1073741824) (h : ∀ (l : List Nat) g', l.length ≤ mxl xs → Fr (.go s (m + 1)) g0 g' lo → Q (.str (mk l)) g') : sp_Lpick ([.ref s.L, .ref p] ++ []) g Q := t_LpickD F hm n b e h1 h2 fun d g' hd F' => by
  obtain ⟨l, rfl, hl⟩ := mxl_mem h0 hd
  exact h l g' hl F'
theorem t_LpickI {s : SI} {m : Nat} {g0 g : GS} {lo : FL} {Q : DK} {p : Addr} {xs : List D} (F : Fr (.go s m) g0 g lo) (hm : m < 1000000000000) (n : Nat) (b : Bool) (e : lo[n]? = some (p, .lst xs, b)) (h0 : iOnly xs = true) (h1 : xs ≠ []) (h2 : xs.length < 1073741824) (h : ∀ (v : Int) g', v ≤ mxi xs → mni xs ≤ v → Fr (.go s (m + 1)) g0 g' lo → Q (.int v) g') : sp_Lpick ([.ref s.L, .ref p] ++ []) g Q := t_LpickD F hm n b e h1 h2 fun d g' hd F' => by
  obtain ⟨l, rfl, hl, hl2⟩ := mxi_mem h0 hd
  exact h l g' hl hl2 F'
theorem t_LpickT {s : SI} {m : Nat} {g0 g : GS} {lo : FL} {Q : DK} {xs : List D} (F : Fr (.go s m) g0 g lo) (hm : m < 1000000000000) (h1 : xs ≠ []) (h2 : xs.length < 1073741824) (h : ∀ d g', d ∈ xs → Fr (.go s (m + 1)) g0 g' lo → Q d g') : sp_Lpick ([.ref s.L, .tup xs] ++ []) g Q := ⟨s, m, rfl, F.src, hm, h1, h2, fun d g' a G => h d g' a (F.call G)⟩
theorem t_LpickZ {s : SI} {m : Nat} {g0 g : GS} {lo : FL} {Q : DK} {z : Str} (F : Fr (.go s m) g0 g lo) (hm : m < 1000000000000) (h1 : TL.tl z ≠ []) (h2 : (TL.tl z).length < 10000000) (h : ∀ (c : Nat) g', c ∈ TL.tl z → Fr (.go s (m + 1)) g0 g' lo → Q (.str (mk [c])) g') : sp_Lpick ([.ref s.L, .str z] ++ []) g Q := ⟨s, m, rfl, F.src, hm, h1, h2, fun d g' a G => h d g' a (F.call G)⟩
local macro_rules | `(tactic| walk_at "call") => `(tactic| ((with_reducible refine (?_ : sp_Lpick ([_, DL.D.ref _] ++ []) _ _)); first
    | ((refine t_LpickS (by assumption) ?_ 0 _ rfl rfl ?_ ?_ ?_); omega; simp; simp; intro _ _ hl _; simp only [List.cons_append, List.nil_append, DL.mxl_mk, DL.mxl_nil, DL.tl_mk, List.length_append, List.length_cons, List.length_nil] at hl)
    | ((refine t_LpickI (by assumption) ?_ 0 _ rfl rfl ?_ ?_ ?_); omega; simp; simp; intro _ _ hl hl2 _; simp only [DL.mxi, DL.mni] at hl hl2)
    | ((refine t_LpickS (by assumption) ?_ 1 _ rfl rfl ?_ ?_ ?_); omega; simp; simp; intro _ _ hl _; simp only [List.cons_append, List.nil_append, DL.mxl_mk, DL.mxl_nil, DL.tl_mk, List.length_append, List.length_cons, List.length_nil] at hl)
    | ((refine t_LpickI (by assumption) ?_ 1 _ rfl rfl ?_ ?_ ?_); omega; simp; simp; intro _ _ hl hl2 _; simp only [DL.mxi, DL.mni] at hl hl2)
    | ((refine t_LpickS (by assumption) ?_ 2 _ rfl rfl ?_ ?_ ?_); omega; simp; simp; intro _ _ hl _; simp only [List.cons_append, List.nil_append, DL.mxl_mk, DL.mxl_nil, DL.tl_mk, List.length_append, List.length_cons, List.length_nil] at hl)
    | ((refine t_LpickI (by assumption) ?_ 2 _ rfl rfl ?_ ?_ ?_); omega; simp; simp; intro _ _ hl hl2 _; simp only [DL.mxi, DL.mni] at hl hl2)
    | ((refine t_LpickS (by assumption) ?_ 3 _ rfl rfl ?_ ?_ ?_); omega; simp; simp; intro _ _ hl _; simp only [List.cons_append, List.nil_append, DL.mxl_mk, DL.mxl_nil, DL.tl_mk, List.length_append, List.length_cons, List.length_nil] at hl)
    | ((refine t_LpickI (by assumption) ?_ 3 _ rfl rfl ?_ ?_ ?_); omega; simp; simp; intro _ _ hl hl2 _; simp only [DL.mxi, DL.mni] at hl hl2)))
theorem t_LpickM {s : SI} {m : Nat} {g0 g : GS} {lo : FL} {Q : DK} {l : List Nat} (F : Fr (.go s m) g0 g lo) (hm : m < 1000000000000) (h1 : l ≠ []) (h2 : l.length < 10000000) (h : ∀ (c : Nat) g', c ∈ l → Fr (.go s (m + 1)) g0 g' lo → Q (.str (mk [c])) g') : sp_Lpick ([.ref s.L, .str (mk l)] ++ []) g Q := t_LpickZ F hm h1 h2 h
local macro_rules | `(tactic| walk_at "call") => `(tactic| ((with_reducible refine t_LpickM (by assumption) ?_ ?_ ?_ ?_); omega; simp; walk_at "len"; intro _ _ _ _))

/-- .law.new.name(source, used): 0 source, 1 used, 2 letters, 3 size, 4 name, 5 k, 6 tried -/
abbrev N_Lnew_name : List Str := ["source", "used", "letters", "size", "name", "k", "tried"]
theorem st0_Lnew_name (a0 a1 : D) : dstart N_Lnew_name [a0, a1] = [some a0, some a1, none, none, none, none, none] := rfl
def w_Lnew_name : DTS := (dSeq (dAsg (dC (.str "abcdefghijklmnopqrstuvwxyz")) (gNm 2))
  (dSeq (dAsg (dOp addD (dC (.int 1)) (dCall sp_Ldraw [] (dCons (dVar 0) (dCons (dC (.int 5)) dNil)))) (gNm 3))
  (dSeq (dAsg (dOp ixD (dVar 2) (dCall sp_Ldraw [] (dCons (dVar 0) (dCons (dC (.int 26)) dNil)))) (gNm 4))
  (dSeq (dFor (iRa1 (dOp subD (dVar 3) (dC (.int 1)))) (gNm 5) (dAsg (dOp addD (dVar 4) (dOp ixD (dOp addD (dVar 2) (dC (.str "0123456789"))) (dCall sp_Ldraw [] (dCons (dVar 0) (dCons (dC (.int 36)) dNil))))) (gNm 4)))
  (dSeq (dFor (iRa1 (dOp addD (dCB lenD (dCons (dVar 1) dNil)) (dC (.int 1)))) (gNm 5) (dSeq (dAsg (dOp addD (dVar 4) (dOp ixD (dLst (dCons (dC (.str "")) (dCons (dCB strF (dCons (dVar 5) dNil)) dNil))) (dCB intF (dCons (dOp gtD (dVar 5) (dC (.int 0))) dNil)))) (gNm 6))
  (dIf (dTest (dOp notInD (dVar 6) (dVar 1))) (dRet (dVar 6)) dNext)))
  (dRet (dVar 4)))))))
def sp_Lnew_name : DSp := fun ds g Q => match ds with
  | [.ref L, .ref U] => ∃ s m, ∃ us : List Str, s.L = L ∧ Src s g m ∧ m < 1000000000000 ∧ g U = some (.lst (us.map D.str)) ∧ us.length < 100 ∧ ∀ (nm : Str) g', NameOk nm → nm ∉ us → Go s g g' (m + 10) → Q (.str nm) g'
  | _ => False
theorem len_Lnew_name : ∀ ds g Q, sp_Lnew_name ds g Q → ds.length = 2 := fun ds g Q h => by
  unfold sp_Lnew_name at h; split at h <;> first | rfl | exact h.elim
def suf (k : Nat) : Str := if k = 0 then "" else Str.ofString (toString (k : Int))
theorem suf_inj {j k : Nat} {a : Str} (h : a ++ suf j = a ++ suf k) : j = k := by
  have h' := congrArg TL.tl h
  rw [TL.tl_append, TL.tl_append] at h'
  have h2 := List.append_cancel_left h'
  unfold suf at h2
  by_cases hj : j = 0
  · by_cases hk : k = 0
    · rw [hj, hk]
    · rw [if_pos hj, if_neg hk, TL.tl_num] at h2
      exact absurd h2.symm (TL.numL_ne k)
  · by_cases hk : k = 0
    · rw [if_neg hj, if_pos hk, TL.tl_num] at h2
      exact absurd h2 (TL.numL_ne j)
    · rw [if_neg hj, if_neg hk, TL.tl_num, TL.tl_num] at h2
      exact TL.numL_inj h2
theorem suf_some {nm : Str} {us : List Str} (h : ∀ j, j < us.length + 1 → nm ++ suf j ∈ us) : False := by
  have h1 : ((List.range (us.length + 1)).map fun j => nm ++ suf j).Nodup := nodup_map_on _ _ List.nodup_range fun x _ y _ e => suf_inj e
  have h2 := nodup_len _ us h1 fun x hx => by
    obtain ⟨j, hj, rfl⟩ := List.mem_map.mp hx
    exact h j (List.mem_range.mp hj)
  rw [List.length_map, List.length_range] at h2
  omega
theorem suf_name {nm : Str} {k : Nat} (h : NameL 4 (TL.tl nm)) (hk : k < 100) : NameOk (nm ++ suf k) := by
  unfold NameOk
  rw [TL.tl_append]
  refine h.app (m := 2) (fun x hx => ?_) ?_
  · unfold suf at hx
    split at hx
    · cases hx
    · rw [TL.tl_num] at hx; exact numL_dig x hx
  · unfold suf
    split
    · exact Nat.zero_le _
    · rw [TL.tl_num]; exact TL.numL_len (by decide) (by omega)
theorem letters_low : ∀ c ∈ (("abcdefghijklmnopqrstuvwxyz" : Str)).cps.toList, low c := by decide +kernel
theorem letters_len : (("abcdefghijklmnopqrstuvwxyz" : Str)).cps.toList.length = 26 := by decide +kernel
theorem alnum_ok : ∀ c ∈ (("abcdefghijklmnopqrstuvwxyz" : Str) ++ ("0123456789" : Str)).cps.toList, low c ∨ dig c := by decide +kernel
theorem alnum_len : (("abcdefghijklmnopqrstuvwxyz" : Str) ++ ("0123456789" : Str)).cps.toList.length = 36 := by decide +kernel
theorem rd_Lnew_name : ∀ ds g Q, sp_Lnew_name ds g Q → w_Lnew_name { nx := fun _ g => Q .non g, rt := Q } (dstart N_Lnew_name ds) g := fun ds g Q h => by
  unfold sp_Lnew_name at h; split at h
  case h_2 => exact h.elim
  obtain ⟨s, m, us, rfl, hS, hm, hU, hus, q⟩ := h
  rename_i U
  have nU : U ≠ s.L := hS.neStr hU
  rw [st0_Lnew_name]
  unfold w_Lnew_name
  walk_at "go"
  refine ⟨s, m, rfl, hS, by omega, by omega, by omega, fun v g1 a1 a2 G1 => ?_⟩
  walk_at "go"
  refine ⟨s, _, rfl, G1.2, by omega, by omega, by omega, fun v2 g2 b1 b2 G2 => ?_⟩
  have G2' := G1.trans G2
  walk_at "go"
  obtain ⟨c, hc, hat⟩ := atI_ex (xs := (("abcdefghijklmnopqrstuvwxyz" : Str)).cps.toList) b1 (by rw [letters_len]; omega)
  refine v_ixS (by rw [szl]; decide +kernel) hat ?_
  walk_at "go"
  refine ⟨fun i e g' => ∃ nm x, e = [some (.ref s.L), some (.ref U), some (.str "abcdefghijklmnopqrstuvwxyz"), some (.int (1 + v)), some (.str nm), x, none] ∧ NameL i (TL.tl nm) ∧ Go s g g' (m + 2 + i),
    ⟨_, _, rfl, ⟨c, [], rfl, letters_low c hc, (fun x hx => nomatch hx), Nat.zero_le _⟩, G2'⟩, fun _ _ _ _ _ => trivial, ?_, ?_⟩
  · rintro i d e g' hd ⟨nm, x, rfl, hn, G⟩
    obtain ⟨hi, rfl⟩ := ran_get hd
    walk_at "go"
    refine v_addS (by rw [szl]; decide +kernel) ?_
    walk_at "go"
    refine ⟨s, _, rfl, G.2, by omega, by omega, by omega, fun v3 g3 c1 c2 G3 => ?_⟩
    walk_at "go"
    obtain ⟨c3, hc3, hat3⟩ := atI_ex (xs := (("abcdefghijklmnopqrstuvwxyz" : Str) ++ ("0123456789" : Str)).cps.toList) c1 (by rw [alnum_len]; omega)
    refine v_ixS (by rw [szl]; decide +kernel) hat3 ?_
    refine v_addS (len2_le (n := 100) (by have := hn.len; rw [tl_one, List.length_singleton]; omega) (by omega)) ?_
    walk_at "go"
    refine ⟨_, _, rfl, ?_, (G.trans G3).le (by omega)⟩
    rw [TL.tl_append]
    exact hn.app (m := 1) (fun x hx => by rw [List.mem_singleton.mp hx]; exact alnum_ok c3 hc3) (Nat.le_refl _)
  · rintro e g3 ⟨nm, x, rfl, hn, G3⟩
    rw [ran_len] at hn G3
    have hn4 : NameL 4 (TL.tl nm) := hn.mono (by omega)
    walk_at "go"
    refine v_lenL (G3.get nU hU) ?_
    walk_at "go"
    rw [List.length_map]
    refine ⟨by omega, by omega, ?_⟩
    refine ⟨fun i e g' => ∃ x y, e = [some (.ref s.L), some (.ref U), some (.str "abcdefghijklmnopqrstuvwxyz"), some (.int (1 + v)), some (.str nm), x, y] ∧ (∀ j, j < i → nm ++ suf j ∈ us) ∧ Go s g g' (m + 8),
      ⟨_, _, rfl, fun j hj => absurd hj (Nat.not_lt_zero j), G3.le (by omega)⟩, fun _ _ _ _ _ => trivial, ?_, ?_⟩
    · rintro i d e g' hd ⟨x, y, rfl, hin, G⟩
      obtain ⟨hi, rfl⟩ := ran_get hd
      walk_at "go"
      refine v_str (logOk (by omega)) ?_
      walk_at "go"
      refine ⟨by rw [szl]; simp, fun p hp => ?_⟩
      walk_at "go"
      have e0 : (0 : Int) + (i : Int) = (i : Int) := Int.zero_add _
      rw [e0]
      refine v_ixL gup_same (d := .str (suf i)) ?_ ?_
      · by_cases h0 : i = 0
        · subst h0; rfl
        · have hp : (0 : Int) < (i : Int) := by omega
          rw [decide_eq_true hp]
          unfold suf
          rw [if_neg h0]
          rfl
      have hok := suf_name (nm := nm) (k := i) hn4 (by omega)
      have hz := hok.len
      rw [TL.tl_append, List.length_append] at hz
      refine v_addS (len2_le (n := 100) (by omega) (by omega)) ?_
      walk_at "go"
      have G' : Go s g (gup g' p _) (m + 8) := G.new (o := .lst [.str "", .str (Str.ofString (toString (i : Int)))]) hp
      refine v_notInLS (G'.get nU hU) ?_
      walk_at "go"
      refine iteN (fun hni => ?_) (fun hni => ?_)
      · walk_at "go"
        exact q _ _ hok hni (G'.le (by omega))
      · walk_at "go"
        refine ⟨_, _, rfl, fun j hj => ?_, G'⟩
        by_cases hji : j = i
        · subst hji; exact hni
        · exact hin j (by omega)
    · rintro e g' ⟨x, y, rfl, hin, G⟩
      rw [ran_len] at hin
      exact (suf_some (nm := nm) (us := us) fun j hj => hin j (by omega)).elim

/-- .law.row(source, size): 0 source, 1 size, 2 signs, 3 k -/
abbrev N_Lrow : List Str := ["source", "size", "signs", "k"]
theorem st0_Lrow (a0 a1 : D) : dstart N_Lrow [a0, a1] = [some a0, some a1, none, none] := rfl
def w_Lrow : DTS := (dSeq (dAsg (dC (.str "abcdefghijklmnopqrstuvwxyzABCDEFGHIJKLMNOPQRSTUVWXYZ0123456789 .,-=:;!?()'+*/")) (gNm 2))
  (dRet (dBM "str" joinD (dC (.str "")) (dCons (dLc (iRa1 (dVar 1)) 3 dYes (dOp ixD (dVar 2) (dCall sp_Ldraw [] (dCons (dVar 0) (dCons (dCB lenD (dCons (dVar 2) dNil)) dNil))))) dNil))))
def rowSigns : Str := "abcdefghijklmnopqrstuvwxyzABCDEFGHIJKLMNOPQRSTUVWXYZ0123456789 .,-=:;!?()'+*/"
theorem rowSigns_len : rowSigns.cps.toList.length = 77 := by decide +kernel
theorem rowSigns_asc : ∀ c ∈ rowSigns.cps.toList, 32 ≤ c ∧ c < 127 ∧ c ≠ 37 := by decide +kernel
def sp_Lrow : DSp := fun ds g Q => match ds with
  | [.ref L, .int k] => ∃ s m, s.L = L ∧ Src s g m ∧ m < 900000000000 ∧ 0 ≤ k ∧ k < 10000 ∧ ∀ (cs : List Nat) g', (cs.length : Int) = k → (∀ c ∈ cs, c ∈ rowSigns.cps.toList) → Go s g g' (m + 10000) → Q (.str (mk cs)) g'
  | _ => False
theorem len_Lrow : ∀ ds g Q, sp_Lrow ds g Q → ds.length = 2 := fun ds g Q h => by
  unfold sp_Lrow at h; split at h <;> first | rfl | exact h.elim
theorem rd_Lrow : ∀ ds g Q, sp_Lrow ds g Q → w_Lrow { nx := fun _ g => Q .non g, rt := Q } (dstart N_Lrow ds) g := fun ds g Q h => by
  unfold sp_Lrow at h; split at h
  case h_2 => exact h.elim
  obtain ⟨s, m, rfl, hS, hm, hk, hk2, q⟩ := h
  rename_i k
  rw [st0_Lrow]
  unfold w_Lrow
  walk_at "go"
  intro p hp
  refine ⟨fun i acc g' => ∃ cs : List Nat, acc = (ones cs).map D.str ∧ cs.length = i ∧ (∀ c ∈ cs, c ∈ rowSigns.cps.toList) ∧ Go s g g' (m + i) ∧ g' p = some (.lst acc),
    ⟨[], rfl, rfl, (fun c hc => nomatch hc), (Go.start hS).new hp, gup_same⟩, fun _ _ _ _ _ => trivial, ?_, ?_⟩
  · rintro i d acc g' hd ⟨cs, rfl, hl, hc, G, hg⟩
    obtain ⟨hi, rfl⟩ := ran_get hd
    walk_at "go"
    refine iteB (fun _ => ?_) (fun z => by cases z)
    walk_at "go"
    refine v_lenS (by rw [szl]; decide +kernel) ?_
    walk_at "go"
    refine ⟨s, _, rfl, G.2, by omega, by decide +kernel, by decide +kernel, fun v g2 a1 a2 G2 => ?_⟩
    obtain ⟨c, hcm, hat⟩ := atI_ex (xs := rowSigns.cps.toList) a1 (by rw [rowSigns_len]; exact a2)
    refine v_ixS (by rw [szl]; decide +kernel) hat ?_
    refine ⟨G2.get (hS.neL hp) hg, by rw [szl, List.length_map]; simp only [ones, List.length_map]; omega, cs ++ [c], ?_, by rw [List.length_append, hl]; rfl, fun x hx => ?_, ((G.trans G2).mut hp hS).le (by omega), gup_same⟩
    · simp [ones, mk_one]
    · rcases List.mem_append.mp hx with hx | hx
      · exact hc x hx
      · rw [List.mem_singleton.mp hx]; exact hcm
  · rintro acc g' ⟨cs, rfl, hl, hc, G, hg⟩
    rw [ran_len] at hl G
    walk_at "go"
    refine v_joinOnes hg (by omega) ?_
    exact q cs g' (by omega) hc (G.le (by omega))

/-- .law.is.int(value): 0 value -/
abbrev N_Lis_int : List Str := ["value"]
theorem st0_Lis_int (a0 : D) : dstart N_Lis_int [a0] = [some a0] := rfl
def w_Lis_int : DTS := (dRet (dAndV (dIsi "int" (dVar 0)) (dNotV (dIsi "bool" (dVar 0)))))
def isIntD : D → Bool
  | .int _ => true
  | _ => false
def norf : D → Prop
  | .ref _ => False
  | .klst _ => False
  | _ => True
def sp_Lis_int : DSp := fun ds g Q => match ds with
  | [a] => norf a ∧ Q (.bl (isIntD a)) g
  | _ => False
theorem len_Lis_int : ∀ ds g Q, sp_Lis_int ds g Q → ds.length = 1 := fun ds g Q h => by
  unfold sp_Lis_int at h; split at h <;> first | rfl | exact h.elim
theorem rd_Lis_int : ∀ ds g Q, sp_Lis_int ds g Q → w_Lis_int { nx := fun _ g => Q .non g, rt := Q } (dstart N_Lis_int ds) g := fun ds g Q h => by
  unfold sp_Lis_int at h; split at h
  case h_2 => exact h.elim
  obtain ⟨hn, q⟩ := h
  rename_i a
  rw [st0_Lis_int]
  unfold w_Lis_int
  walk_at "go"
  cases a with
  | ref _ => exact hn.elim
  | klst _ => exact hn.elim
  | int i =>
    refine ⟨_, true, rfl, by decide +kernel, ?_⟩
    walk_at "go"
    refine iteB (fun _ => ?_) (fun z => by cases z)
    walk_at "go"
    refine ⟨_, false, rfl, by decide +kernel, ?_⟩
    walk_at "go"
    exact q
  | bl b =>
    refine ⟨_, true, rfl, by decide +kernel, ?_⟩
    walk_at "go"
    refine iteB (fun _ => ?_) (fun z => by cases z)
    walk_at "go"
    refine ⟨_, true, rfl, by decide +kernel, ?_⟩
    walk_at "go"
    exact q
  | _ =>
    refine ⟨_, false, rfl, by decide +kernel, ?_⟩
    walk_at "go"
    refine iteB (fun z => by cases z) (fun _ => ?_)
    exact q

/-- .law.same(actual, due): 0 actual, 1 due, 2 k -/
abbrev N_Lsame : List Str := ["actual", "due", "k"]
theorem st0_Lsame (a0 a1 : D) : dstart N_Lsame [a0, a1] = [some a0, some a1, none] := rfl
def w_Lsame (sp : DSp) : DTS := (dSeq (dIf (dTru (dIsi "tuple" (dVar 1))) (dSeq (dIf (dOr (dNot (dTru (dIsi "tuple" (dVar 0)))) (dTest (dOp neD (dCB lenD (dCons (dVar 0) dNil)) (dCB lenD (dCons (dVar 1) dNil))))) (dRet (dC (.bl false))) dNext)
  (dSeq (dFor (iRa1 (dCB lenD (dCons (dVar 1) dNil))) (gNm 2) (dIf (dNot (dTru (dCall sp [] (dCons (dOp ixD (dVar 0) (dVar 2)) (dCons (dOp ixD (dVar 1) (dVar 2)) dNil))))) (dRet (dC (.bl false))) dNext))
  (dRet (dC (.bl true))))) dNext)
  (dSeq (dIf (dTest (dOp isND (dVar 1) (dC .non))) (dRet (dOp isND (dVar 0) (dC .non))) dNext)
  (dSeq (dIf (dTru (dIsi "bool" (dVar 1))) (dRet (dAndV (dIsi "bool" (dVar 0)) (dOp eqD (dVar 0) (dVar 1)))) dNext)
  (dSeq (dIf (dTru (dIsi "int" (dVar 1))) (dRet (dAndV (dCall sp_Lis_int [] (dCons (dVar 0) dNil)) (dOp eqD (dVar 0) (dVar 1)))) dNext)
  (dRet (dAndV (dIsi "str" (dVar 0)) (dOp eqD (dVar 0) (dVar 1))))))))
/-- data without references, at most n deep, of bounded breadth -/
def okT : Nat → D → Prop
  | _, .ref _ => False
  | _, .klst _ => False
  | 0, .tup _ => False
  | n + 1, .tup ds => ds.length ≤ 16777216 ∧ ∀ x ∈ ds, okT n x
  | _, _ => True
theorem okT_norf {n : Nat} {d : D} (h : okT n d) : norf d := by
  cases d with
  | ref _ => cases n <;> exact h.elim
  | klst _ => cases n <;> exact h.elim
  | _ => trivial
def spS (n : Nat) : DSp := fun ds g Q => match ds with
  | [a, d] => (∃ k, okT k a) ∧ okT n d ∧ ∀ b : Bool, (b = true ↔ a = d) → Q (.bl b) g
  | _ => False
def sp_same : Nat → DSp
  | 0 => fun _ _ _ => False
  | n + 1 => spS n
abbrev sp_Lsame : DSp := sp_same 13
theorem len_same (n : Nat) : ∀ ds g Q, sp_same n ds g Q → ds.length = 2 := fun ds g Q h => by
  cases n with
  | zero => exact h.elim
  | succ n =>
    have h : spS n ds g Q := h
    unfold spS at h; split at h <;> first | rfl | exact h.elim
theorem D.str_eq {a b : Str} : (b = a) ↔ (D.str b = D.str a) := ⟨fun h => by rw [h], fun h => by injection h⟩
theorem rd_same (n : Nat) : ∀ ds g Q, sp_same (n + 1) ds g Q → w_Lsame (sp_same n) { nx := fun _ g => Q .non g, rt := Q } (dstart N_Lsame ds) g := fun ds g Q h => by
  have h : spS n ds g Q := h
  unfold spS at h; split at h
  case h_2 => exact h.elim
  obtain ⟨⟨k, ha⟩, hd, q⟩ := h
  rename_i a d
  rw [st0_Lsame]
  unfold w_Lsame
  have hna := okT_norf ha
  walk_at "go"
  cases d with
  | ref _ => cases n <;> exact hd.elim
  | klst _ => cases n <;> exact hd.elim
  | tup ds =>
    refine ⟨_, true, rfl, by decide +kernel, ?_⟩
    walk_at "go"
    refine iteB (fun _ => ?_) (fun z => by cases z)
    walk_at "go"
    cases a with
    | ref _ => exact hna.elim
    | klst _ => exact hna.elim
    | tup as =>
      refine ⟨_, true, rfl, by decide +kernel, ?_⟩
      walk_at "go"
      refine iteNB (fun z => by cases z) (fun _ => ?_)
      walk_at "go"
      refine iteN (fun hl => ?_) (fun hl => ?_)
      · walk_at "go"
        refine q false ⟨(fun z => by cases z), fun z => ?_⟩
        cases z
        exact (hl rfl).elim
      have hl' : as.length = ds.length := by omega
      cases k with
      | zero => exact ha.elim
      | succ k => cases n with
        | zero => exact hd.elim
        | succ n =>
          have hbd := hd.1
          walk_at "go"
          refine ⟨fun i e g' => g' = g ∧ ∃ x, e = [some (.tup as), some (.tup ds), x] ∧ as.take i = ds.take i, ⟨rfl, _, rfl, rfl⟩, fun _ _ _ _ _ => trivial, ?_, ?_⟩
          · rintro i x e g' hx ⟨rfl, y, rfl, ht⟩
            obtain ⟨hi, rfl⟩ := ran_get hx
            have hi2 : i < ds.length := by omega
            have hi1 : i < as.length := by omega
            walk_at "go"
            refine v_ixT (atI_at (List.getElem?_eq_getElem hi1)) ?_
            walk_at "go"
            refine v_ixT (atI_at (List.getElem?_eq_getElem hi2)) ?_
            walk_at "go"
            refine ⟨⟨k, ha.2 _ (List.getElem_mem hi1)⟩, hd.2 _ (List.getElem_mem hi2), fun b hb => ?_⟩
            walk_at "go"
            refine iteNB (fun e => ?_) (fun e => ?_)
            · walk_at "go"
              refine q false ⟨(fun z => by cases z), fun z => ?_⟩
              cases z
              rw [e] at hb
              exact hb.mpr rfl
            · walk_at "go"
              refine ⟨rfl, _, rfl, ?_⟩
              rw [List.take_add_one, List.take_add_one, ht, List.getElem?_eq_getElem hi1, List.getElem?_eq_getElem hi2, hb.mp e]
          · rintro e g' ⟨rfl, y, rfl, ht⟩
            rw [ran_len] at ht
            walk_at "go"
            refine q true ⟨fun _ => ?_, fun _ => rfl⟩
            have e1 : as.take (Int.toNat (ds.length : Int)) = as := List.take_of_length_le (by omega)
            have e2 : ds.take (Int.toNat (ds.length : Int)) = ds := List.take_of_length_le (by omega)
            rw [e1, e2] at ht
            rw [ht]
    | _ =>
      refine ⟨_, false, rfl, by decide +kernel, ?_⟩
      walk_at "go"
      refine iteNB (fun _ => ?_) (fun z => by cases z)
      walk_at "go"
      exact q false ⟨fun z => (by cases z), fun z => (by cases z)⟩
  | non =>
    refine ⟨_, false, rfl, by decide +kernel, ?_⟩
    walk_at "go"
    refine iteB (fun z => by cases z) (fun _ => ?_)
    walk_at "go"
    refine iteB (fun _ => ?_) (fun z => by cases z)
    walk_at "go"
    cases a with
    | ref _ => exact hna.elim
    | klst _ => exact hna.elim
    | non => exact ⟨rfl, q _ ⟨fun _ => rfl, fun _ => rfl⟩⟩
    | _ => exact ⟨rfl, q _ ⟨fun z => (by cases z), fun z => (by cases z)⟩⟩
  | bl b =>
    refine ⟨_, false, rfl, by decide +kernel, ?_⟩
    walk_at "go"
    refine iteB (fun z => by cases z) (fun _ => ?_)
    walk_at "go"
    refine ⟨rfl, ?_⟩
    walk_at "go"
    refine iteB (fun z => by cases z) (fun _ => ?_)
    walk_at "go"
    refine ⟨_, true, rfl, by decide +kernel, ?_⟩
    walk_at "go"
    refine iteB (fun _ => ?_) (fun z => by cases z)
    walk_at "go"
    cases a with
    | ref _ => exact hna.elim
    | klst _ => exact hna.elim
    | bl a =>
      refine ⟨_, true, rfl, by decide +kernel, ?_⟩
      walk_at "go"
      refine iteB (fun _ => ?_) (fun z => by cases z)
      walk_at "go"
      refine q _ ⟨fun z => ?_, fun z => ?_⟩
      · rw [of_decide_eq_true z]
      · cases z; exact decide_eq_true rfl
    | _ =>
      refine ⟨_, false, rfl, by decide +kernel, ?_⟩
      walk_at "go"
      refine iteB (fun z => by cases z) (fun _ => ?_)
      exact q false ⟨fun z => (by cases z), fun z => (by cases z)⟩
  | int b =>
    refine ⟨_, false, rfl, by decide +kernel, ?_⟩
    walk_at "go"
    refine iteB (fun z => by cases z) (fun _ => ?_)
    walk_at "go"
    refine ⟨rfl, ?_⟩
    walk_at "go"
    refine iteB (fun z => by cases z) (fun _ => ?_)
    walk_at "go"
    refine ⟨_, false, rfl, by decide +kernel, ?_⟩
    walk_at "go"
    refine iteB (fun z => by cases z) (fun _ => ?_)
    walk_at "go"
    refine ⟨_, true, rfl, by decide +kernel, ?_⟩
    walk_at "go"
    refine iteB (fun _ => ?_) (fun z => by cases z)
    walk_at "go"
    refine ⟨hna, ?_⟩
    walk_at "go"
    cases a with
    | ref _ => exact hna.elim
    | klst _ => exact hna.elim
    | int a =>
      refine iteB (fun _ => ?_) (fun z => by cases z)
      walk_at "go"
      refine q _ ⟨fun z => ?_, fun z => ?_⟩
      · rw [of_decide_eq_true z]
      · cases z; exact decide_eq_true rfl
    | _ =>
      refine iteB (fun z => by cases z) (fun _ => ?_)
      exact q false ⟨fun z => (by cases z), fun z => (by cases z)⟩
  | str b =>
    refine ⟨_, false, rfl, by decide +kernel, ?_⟩
    walk_at "go"
    refine iteB (fun z => by cases z) (fun _ => ?_)
    walk_at "go"
    refine ⟨rfl, ?_⟩
    walk_at "go"
    refine iteB (fun z => by cases z) (fun _ => ?_)
    walk_at "go"
    refine ⟨_, false, rfl, by decide +kernel, ?_⟩
    walk_at "go"
    refine iteB (fun z => by cases z) (fun _ => ?_)
    walk_at "go"
    refine ⟨_, false, rfl, by decide +kernel, ?_⟩
    walk_at "go"
    refine iteB (fun z => by cases z) (fun _ => ?_)
    walk_at "go"
    cases a with
    | ref _ => exact hna.elim
    | klst _ => exact hna.elim
    | str a =>
      refine ⟨_, true, rfl, by decide +kernel, ?_⟩
      walk_at "go"
      refine iteB (fun _ => ?_) (fun z => by cases z)
      walk_at "go"
      refine q _ ⟨fun z => ?_, fun z => ?_⟩
      · rw [of_decide_eq_true z]
      · cases z; exact decide_eq_true rfl
    | _ =>
      refine ⟨_, false, rfl, by decide +kernel, ?_⟩
      walk_at "go"
      refine iteB (fun z => by cases z) (fun _ => ?_)
      exact q false ⟨fun z => (by cases z), fun z => (by cases z)⟩
theorem okT_mono : ∀ {n : Nat} {d : D}, okT n d → okT (n + 1) d := fun {n d} => by
  induction n generalizing d with
  | zero => intro h; cases d <;> first | exact h.elim | trivial
  | succ n ih =>
    intro h
    cases d with
    | tup ds => exact ⟨h.1, fun x hx => ih (h.2 x hx)⟩
    | ref _ => exact h.elim
    | klst _ => exact h.elim
    | _ => trivial
theorem okT_add {n k : Nat} {d : D} (h : okT n d) : okT (n + k) d := by
  induction k with
  | zero => exact h
  | succ k ih => exact okT_mono ih
theorem okT_le {n k : Nat} {d : D} (h : okT n d) (hk : n ≤ k) : okT k d := by
  have := okT_add (k := k - n) h
  rwa [Nat.add_sub_cancel' hk] at this
theorem ok_strs {ss : List Str} (h : ss.length ≤ 16777216) : okT 1 (.tup (ss.map D.str)) := ⟨by rw [List.length_map]; exact h, fun x hx => by
  obtain ⟨z, _, rfl⟩ := List.mem_map.mp hx
  trivial⟩
theorem ok_sortS {ss : List Str} (h : ss.length ≤ 16777216) : okT 1 (.tup (sortS ss)) := ⟨by
  unfold sortS
  rw [List.length_mergeSort, List.length_map]; exact h, fun x hx => by
  obtain ⟨z, _, rfl⟩ := sortS_mem hx
  trivial⟩
theorem ok_flat {ds : List D} (h : ds.length ≤ 16777216) (h2 : ∀ x ∈ ds, okT 0 x) : okT 1 (.tup ds) := ⟨h, h2⟩
theorem ok_site (s : SiteR) : okT 1 s.d := ⟨by simp, fun x hx => by
  simp only [List.mem_cons, List.not_mem_nil, or_false] at hx
  rcases hx with rfl | rfl | rfl | rfl | rfl | rfl <;> trivial⟩
theorem ok_feed (s : FeedR) : okT 1 s.d := ⟨by simp, fun x hx => by
  simp only [List.mem_cons, List.not_mem_nil, or_false] at hx
  rcases hx with rfl | rfl | rfl | rfl | rfl | rfl <;> trivial⟩
theorem ok_opt (o : Option Str) : okT 0 (optD o) := by cases o <;> trivial
theorem use_same {g : GS} {Q : DK} {a : D} (h1 : okT 12 a) (h : Q (.bl true) g) : sp_Lsame [a, a] g Q :=
  ⟨⟨12, h1⟩, h1, fun b hb => by rw [hb.mpr rfl]; exact h⟩
theorem t_same {g : GS} {Q : DK} {a : D} (h1 : okT 12 a) (h : Q (.bl true) g) : sp_Lsame ([a, a] ++ []) g Q := use_same h1 h
theorem t_sameQ {g : GS} {Q : DK} {a d : D} (h1 : ∃ k, okT k a) (h2 : okT 12 d) (h : ∀ b : Bool, (b = true ↔ a = d) → Q (.bl b) g) : sp_Lsame ([a, d] ++ []) g Q := ⟨h1, h2, h⟩
theorem ok_tup {n : Nat} {ds : List D} (h : ds.length ≤ 16777216) (h2 : ∀ x ∈ ds, okT n x) : okT (n + 1) (.tup ds) := ⟨h, h2⟩
theorem ok_cons {n : Nat} {x : D} {ds : List D} (h1 : okT n x) (h : okT (n + 1) (.tup ds)) (hz : ds.length < 16777216) : okT (n + 1) (.tup (x :: ds)) := ⟨by rw [List.length_cons]; omega, fun y hy => (List.mem_cons.mp hy).elim (fun e => by rw [e]; exact h1) (h.2 y)⟩
theorem ok_nil {n : Nat} : okT (n + 1) (.tup []) := ⟨by simp, fun _ z => nomatch z⟩
theorem ok_int {n : Nat} {i : Int} : okT n (.int i) := by cases n <;> trivial
theorem ok_str {n : Nat} {i : Str} : okT n (.str i) := by cases n <;> trivial
theorem ok_bl {n : Nat} {i : Bool} : okT n (.bl i) := by cases n <;> trivial
theorem ok_non {n : Nat} : okT n .non := by cases n <;> trivial

/-- read.word(word): 0 word, 1 parts, 2 many, 3 first -/
abbrev N_read_word : List Str := ["word", "parts", "many", "first"]
theorem st0_read_word (a0 : D) : dstart N_read_word [a0] = [some a0, none, none, none] := rfl
def w_read_word (Ed : DXK) : DTS := (dSeq (dAsg (dBM "str" splitD (dVar 0) (dCons (dC (.str " ")) dNil)) (gNm 1))
  (dSeq (dAsg (dCB lenD (dCons (dVar 1) dNil)) (gNm 2))
  (dSeq (dAsg (dOp ixD (dVar 1) (dC (.int 0))) (gNm 3))
  (dSeq (dIf (dAnd (dTest (dOp eqD (dVar 2) (dC (.int 1)))) (dTest (dInG [".", "close", "ready", "closed"] (dVar 3)))) (dRet (dTup (dCons (dVar 3) dNil))) dNext)
  (dSeq (dIf (dAnd (dTest (dOp eqD (dVar 2) (dC (.int 2)))) (dAnd (dTest (dInG ["bring", "body", "clear", "want", "have", "old", "took", "spoilt", "cleared"] (dVar 3))) (dTru (dCall sp_is_key [] (dCons (dOp ixD (dVar 1) (dC (.int 1))) dNil))))) (dRet (dTup (dCons (dVar 3) (dCons (dOp ixD (dVar 1) (dC (.int 1))) dNil)))) dNext)
  (dSeq (dIf (dAnd (dTest (dOp eqD (dVar 2) (dC (.int 3)))) (dAnd (dTest (dOp eqD (dVar 3) (dC (.str "open")))) (dAnd (dTru (dCall sp_is_name [] (dCons (dOp ixD (dVar 1) (dC (.int 1))) dNil))) (dTru (dCall sp_is_name [] (dCons (dOp ixD (dVar 1) (dC (.int 2))) dNil)))))) (dRet (dTup (dCons (dVar 3) (dCons (dOp ixD (dVar 1) (dC (.int 1))) (dCons (dOp ixD (dVar 1) (dC (.int 2))) dNil))))) dNext)
  (dSeq (dIf (dAnd (dTest (dOp eqD (dVar 2) (dC (.int 4)))) (dAnd (dTest (dOp eqD (dVar 3) (dC (.str "offer")))) (dTru (dCall sp_is_key [] (dCons (dOp ixD (dVar 1) (dC (.int 1))) dNil))))) (dIf (dAnd (dTru (dCall sp_is_number_of [] (dCons (dOp ixD (dVar 1) (dC (.int 2))) (dCons (dC (.int 3)) dNil)))) (dTru (dCall sp_is_number_of [] (dCons (dOp ixD (dVar 1) (dC (.int 3))) (dCons (dC (.int 7)) dNil))))) (dRet (dTup (dCons (dVar 3) (dCons (dOp ixD (dVar 1) (dC (.int 1))) (dCons (dCB intF (dCons (dOp ixD (dVar 1) (dC (.int 2))) dNil)) (dCons (dCB intF (dCons (dOp ixD (dVar 1) (dC (.int 3))) dNil)) dNil)))))) dNext) dNext)
  (dRaise Ed "BadWord" "word" (dCons (dVar 0) dNil)))))))))
theorem keyB_of {k : List Nat} (h : RowL k) (h2 : 32 ∉ k) : keyB k = lkB k := by
  have e : rowB k = true := List.all_eq_true.mpr fun c hc => by
    have := h c hc
    rw [decide_eq_true this.1, decide_eq_true this.2.1, decide_eq_true this.2.2]; rfl
  unfold keyB lkB
  rw [e, decide_eq_false h2]
  simp
theorem use_key {k : List Nat} {g : GS} {Q : DK} (h : RowL k ∧ 32 ∉ k ∧ k.length ≤ 1000) (q : ∀ g', Up [] g g' → Q (.bl (lkB k)) g') : sp_is_key ([.str (mk k)] ++ []) g Q := ⟨k, rfl, by omega, fun g' u => by
  rw [keyB_of h.1 h.2.1]
  exact q g' u⟩
def sp_read_word : DXSp := fun ds g Q E => match ds with
  | [.str z] => ∃ l : List Nat, z = mk l ∧ RowL l ∧ l.length ≤ 1000 ∧ (∀ ws, prs l = some ws → ∀ g', Up [] g g' → Q (.tup (ws.map wD)) g') ∧ (prs l = none → ∀ d g', Up [] g g' → g' d = some (.xd [("word", .str (mk l))]) → E "BadWord" (some d) g')
  | _ => False
theorem len_read_word : ∀ ds g Q E, sp_read_word ds g Q E → ds.length = 1 := fun ds g Q E h => by
  unfold sp_read_word at h; split at h <;> first | rfl | exact h.elim
theorem rd_read_word : ∀ ds g Q E, sp_read_word ds g Q E → w_read_word E { nx := fun _ g => Q .non g, rt := Q } (dstart N_read_word ds) g := fun ds g Q E h => by
  unfold sp_read_word at h; split at h
  case h_2 => exact h.elim
  obtain ⟨l, rfl, hr, hl, q, qe⟩ := h
  have F : Fr .pu g g [] := Fr.startP
  rw [st0_read_word]
  unfold w_read_word
  have lit0 : (" " : Str) = mk [32] := by decide +kernel
  simp only [lit0]
  have hcf : ∀ p ∈ cutW l, RowL p ∧ 32 ∉ p ∧ p.length ≤ 1000 := fun p hp => ⟨hr.cut hp, cutW_free l p hp, by have := cutW_le l p hp; omega⟩
  have hc0 := cutW_ne l
  have hc1 := cutW_len l
  unfold prs at q qe
  walk_at "ac"
  rename_i r g1 F1
  generalize cutW l = S at *
  cases S with
  | nil => exact absurd rfl hc0
  | cons f S =>
    refine k_ixLN 0 rfl F1 0 rfl (d := .str (mk f)) rfl ?_
    have raised : prsL (f :: S) = none → ∀ x1 x2 g2, Up [] g g2 → dRaise E "BadWord" "word" (dCons (dVar 0) dNil) { nx := fun _ g => Q .non g, rt := Q } [some (.str (mk l)), x1, x2, some (.str (mk f))] g2 := fun e x1 x2 g2 U2 => by
      walk_at "au"
      exact ⟨_, rfl, fun dd hd => qe e dd _ (U2.trans (.new hd)) gup_same⟩
    match S with
    | [] =>
      simp only [List.map_cons, List.map_nil] at F1
      walk_at "au"
      refine iteD (fun _ => ?_) (fun h => absurd h (by walk_at "len"))
      walk_at "au"
      refine iteD (fun h1 => ?_) (fun h1 => ?_)
      · walk_at "au"
        exact q _ (prs1 h1) _ (Fr.upv F1)
      refine DL.s_next ?_
      walk_at "au"
      refine iteD (fun h => absurd h (by walk_at "len")) (fun _ => ?_)
      refine iteB (fun z => by cases z) (fun _ => ?_)
      refine DL.s_next ?_
      walk_at "au"
      refine iteD (fun h => absurd h (by walk_at "len")) (fun _ => ?_)
      refine iteB (fun z => by cases z) (fun _ => ?_)
      refine DL.s_next ?_
      walk_at "au"
      refine iteD (fun h => absurd h (by walk_at "len")) (fun _ => ?_)
      refine iteB (fun z => by cases z) (fun _ => ?_)
      refine DL.s_next ?_
      exact raised (prs1n h1) _ _ _ (Fr.upv F1)
    | [k] =>
      simp only [List.map_cons, List.map_nil] at F1
      walk_at "au"
      refine iteD (fun h => absurd h (by walk_at "len")) (fun _ => ?_)
      refine iteB (fun z => by cases z) (fun _ => ?_)
      refine DL.s_next ?_
      walk_at "au"
      refine iteD (fun _ => ?_) (fun h => absurd h (by walk_at "len"))
      walk_at "au"
      refine iteD (fun h1 => ?_) (fun h1 => ?_)
      · walk_at "au"
        refine use_key (hcf k (by simp)) fun g2 U2 => ?_
        have F2 := F1.up U2
        walk_at "au"
        refine iteB (fun h2 => ?_) (fun h2 => ?_)
        · walk_at "au"
          exact q _ (prs2 h1 h2) _ (Fr.upv F2)
        refine DL.s_next ?_
        walk_at "au"
        refine iteD (fun h => absurd h (by walk_at "len")) (fun _ => ?_)
        refine iteB (fun z => by cases z) (fun _ => ?_)
        refine DL.s_next ?_
        walk_at "au"
        refine iteD (fun h => absurd h (by walk_at "len")) (fun _ => ?_)
        refine iteB (fun z => by cases z) (fun _ => ?_)
        refine DL.s_next ?_
        exact raised (prs2n fun z => by rw [h2] at z; cases z.2) _ _ _ (Fr.upv F2)
      refine iteB (fun z => by cases z) (fun _ => ?_)
      refine DL.s_next ?_
      walk_at "au"
      refine iteD (fun h => absurd h (by walk_at "len")) (fun _ => ?_)
      refine iteB (fun z => by cases z) (fun _ => ?_)
      refine DL.s_next ?_
      walk_at "au"
      refine iteD (fun h => absurd h (by walk_at "len")) (fun _ => ?_)
      refine iteB (fun z => by cases z) (fun _ => ?_)
      refine DL.s_next ?_
      exact raised (prs2n fun z => h1 z.1) _ _ _ (Fr.upv F1)
    | [a, b] =>
      simp only [List.map_cons, List.map_nil] at F1
      walk_at "au"
      refine iteD (fun h => absurd h (by walk_at "len")) (fun _ => ?_)
      refine iteB (fun z => by cases z) (fun _ => ?_)
      refine DL.s_next ?_
      walk_at "au"
      refine iteD (fun h => absurd h (by walk_at "len")) (fun _ => ?_)
      refine iteB (fun z => by cases z) (fun _ => ?_)
      refine DL.s_next ?_
      walk_at "au"
      refine iteD (fun _ => ?_) (fun h => absurd h (by walk_at "len"))
      walk_at "au"
      refine iteD (fun h1 => ?_) (fun h1 => ?_)
      · walk_at "au"
        refine ⟨by rw [tl_mk]; have := (hcf a (by simp)).2.2; omega, fun g2 U2 => ?_⟩
        rw [tl_mk]
        have F2 := F1.up U2
        walk_at "au"
        refine iteB (fun h2 => ?_) (fun h2 => ?_)
        · walk_at "au"
          refine ⟨by rw [tl_mk]; have := (hcf b (by simp)).2.2; omega, fun g3 U3 => ?_⟩
          rw [tl_mk]
          have F3 := F2.up U3
          walk_at "au"
          refine iteB (fun h3 => ?_) (fun h3 => ?_)
          · walk_at "au"
            exact q _ (prs3 h1 h2 h3) _ (Fr.upv F3)
          refine DL.s_next ?_
          walk_at "au"
          refine iteD (fun h => absurd h (by walk_at "len")) (fun _ => ?_)
          refine iteB (fun z => by cases z) (fun _ => ?_)
          refine DL.s_next ?_
          exact raised (prs3n fun z => by rw [h3] at z; cases z.2.2) _ _ _ (Fr.upv F3)
        refine iteB (fun z => by cases z) (fun _ => ?_)
        refine DL.s_next ?_
        walk_at "au"
        refine iteD (fun h => absurd h (by walk_at "len")) (fun _ => ?_)
        refine iteB (fun z => by cases z) (fun _ => ?_)
        refine DL.s_next ?_
        exact raised (prs3n fun z => by rw [h2] at z; cases z.2.1) _ _ _ (Fr.upv F2)
      refine iteB (fun z => by cases z) (fun _ => ?_)
      refine DL.s_next ?_
      walk_at "au"
      refine iteD (fun h => absurd h (by walk_at "len")) (fun _ => ?_)
      refine iteB (fun z => by cases z) (fun _ => ?_)
      refine DL.s_next ?_
      exact raised (prs3n fun z => h1 z.1) _ _ _ (Fr.upv F1)
    | [k, h, d] =>
      simp only [List.map_cons, List.map_nil] at F1
      walk_at "au"
      refine iteD (fun h => absurd h (by walk_at "len")) (fun _ => ?_)
      refine iteB (fun z => by cases z) (fun _ => ?_)
      refine DL.s_next ?_
      walk_at "au"
      refine iteD (fun h => absurd h (by walk_at "len")) (fun _ => ?_)
      refine iteB (fun z => by cases z) (fun _ => ?_)
      refine DL.s_next ?_
      walk_at "au"
      refine iteD (fun h => absurd h (by walk_at "len")) (fun _ => ?_)
      refine iteB (fun z => by cases z) (fun _ => ?_)
      refine DL.s_next ?_
      walk_at "au"
      refine iteD (fun _ => ?_) (fun h => absurd h (by walk_at "len"))
      walk_at "au"
      refine iteD (fun h1 => ?_) (fun h1 => ?_)
      · walk_at "au"
        refine use_key (hcf k (by simp)) fun g2 U2 => ?_
        have F2 := F1.up U2
        walk_at "au"
        refine iteB (fun h2 => ?_) (fun h2 => ?_)
        · walk_at "au"
          have hl := (hcf h (by simp)).2.2
          have dl := (hcf d (by simp)).2.2
          walk_at "au"
          rename_i g3 F3
          refine iteB (fun h3 => ?_) (fun h3 => ?_)
          · walk_at "au"
            rename_i g4 F4
            refine iteB (fun h4 => ?_) (fun h4 => ?_)
            · walk_at "au"
              refine ⟨_, int_numB (Bool.and_eq_true_iff.mp h3).2 (by have := of_decide_eq_true (Bool.and_eq_true_iff.mp h3).1; omega), by rw [TL.len_tl, tl_mk]; have := of_decide_eq_true (Bool.and_eq_true_iff.mp h3).1; omega, ?_⟩
              walk_at "au"
              refine ⟨_, int_numB (Bool.and_eq_true_iff.mp h4).2 (by have := of_decide_eq_true (Bool.and_eq_true_iff.mp h4).1; omega), by rw [TL.len_tl, tl_mk]; have := of_decide_eq_true (Bool.and_eq_true_iff.mp h4).1; omega, ?_⟩
              walk_at "au"
              exact q _ (prs4 h1 h2 h3 h4) _ (Fr.upv F4)
            refine DL.s_next ?_
            exact raised (prs4n fun z => by rw [show lnB d 7 = false from h4] at z; cases z.2.2.2) _ _ _ (Fr.upv F4)
          refine iteB (fun z => by cases z) (fun _ => ?_)
          refine DL.s_next ?_
          exact raised (prs4n fun z => by rw [show lnB h 3 = false from h3] at z; cases z.2.2.1) _ _ _ (Fr.upv F3)
        refine DL.s_next ?_
        exact raised (prs4n fun z => by rw [h2] at z; cases z.2.1) _ _ _ (Fr.upv F2)
      refine iteB (fun z => by cases z) (fun _ => ?_)
      refine DL.s_next ?_
      exact raised (prs4n fun z => h1 z.1) _ _ _ (Fr.upv F1)
    | _ :: _ :: _ :: _ :: S =>
      walk_at "au"
      refine iteD (fun h => absurd h (by walk_at "len")) (fun _ => ?_)
      refine iteB (fun z => by cases z) (fun _ => ?_)
      refine DL.s_next ?_
      walk_at "au"
      refine iteD (fun h => absurd h (by walk_at "len")) (fun _ => ?_)
      refine iteB (fun z => by cases z) (fun _ => ?_)
      refine DL.s_next ?_
      walk_at "au"
      refine iteD (fun h => absurd h (by walk_at "len")) (fun _ => ?_)
      refine iteB (fun z => by cases z) (fun _ => ?_)
      refine DL.s_next ?_
      walk_at "au"
      refine iteD (fun h => absurd h (by walk_at "len")) (fun _ => ?_)
      refine iteB (fun z => by cases z) (fun _ => ?_)
      refine DL.s_next ?_
      exact raised prs5n _ _ _ (Fr.upv F1)

/-- write.word(parts): 0 parts, 1 part -/
abbrev N_write_word : List Str := ["parts", "part"]
theorem st0_write_word (a0 : D) : dstart N_write_word [a0] = [some a0, none] := rfl
def w_write_word : DTS := (dRet (dBM "str" joinD (dC (.str " ")) (dCons (dLc (iAny (dVar 0)) 1 dYes (dCB strAF (dCons (dVar 1) dNil))) dNil)))
def sp_write_word : DSp := fun ds g Q => match ds with
  | [.tup xs] => ∃ ws : List WD, xs = ws.map wD ∧ (ws.length ≤ 100) ∧ ((∀ w ∈ ws, (wT w).length ≤ 10000 ∧ ∀ n, w = .inr n → n < 18446744073709551616)) ∧ ∀ g', Up [] g g' → Q (.str (mk (TL.joinL [32] (ws.map wT)))) g'
  | _ => False
theorem len_write_word : ∀ ds g Q, sp_write_word ds g Q → ds.length = 1 := fun ds g Q h => by
  unfold sp_write_word at h; split at h <;> first | rfl | exact h.elim
theorem t_write_word {k : FK} {g0 g : GS} {lo : FL} {Q : DK} {ws : List WD} (F : Fr k g0 g lo) (p0 : (ws.length ≤ 100)) (p1 : ((∀ w ∈ ws, (wT w).length ≤ 10000 ∧ ∀ n, w = .inr n → n < 18446744073709551616))) (h : ∀ g', Fr k g0 g' lo → Q (.str (mk (TL.joinL [32] (ws.map wT)))) g') : sp_write_word ([.tup (ws.map wD)] ++ []) g Q := ⟨ws, rfl, p0, p1, fun g' u => h g' (F.up u)⟩
local macro_rules | `(tactic| walk_at "call") => `(tactic| ((with_reducible refine t_write_word (by assumption) ?_ ?_ ?_); walk_at "sd"; walk_at "sd"; intro _ _))
theorem rd_write_word : ∀ ds g Q, sp_write_word ds g Q → w_write_word { nx := fun _ g => Q .non g, rt := Q } (dstart N_write_word ds) g := fun ds g Q h => by
  unfold sp_write_word at h; split at h
  case h_2 => exact h.elim
  obtain ⟨ws, rfl, p0, p1, q⟩ := h
  have F : Fr .pu g g [] := Fr.startP
  rw [st0_write_word]
  unfold w_write_word
  have lit0 : (" " : Str) = mk [32] := by decide +kernel
  simp only [lit0]
  walk_at "au"
  refine s_anyT ?_
  walk_at "au"
  refine lcM ws wD (fun w => .str (mk (wT w))) F rfl (fun _ _ => trivial) (by omega) (fun i w g1 Q1 hi F1 k1 => ?_) (fun p g1 F1 => ?_)
  · cases w with
    | inl l =>
      have k1 : ∀ g', Up [] g1 g' → Q1 (.str (mk l)) g' := k1
      dsimp only [wD]
      walk_at "au"
      exact k1 _ .refl
    | inr n =>
      have hn := (p1 _ (List.mem_of_getElem? hi)).2 n rfl
      have k1 : ∀ g', Up [] g1 g' → Q1 (.str (mk (TL.numL n))) g' := k1
      dsimp only [wD]
      walk_at "au"
      refine ⟨logOk ⟨by omega, by omega⟩, ?_⟩
      have := num_mk (v := (n : Int)) (by omega)
      have k2 := k1 _ .refl
      rw [Int.toNat_natCast] at this
      rw [← this] at k2
      exact k2
  walk_at "au"
  refine k_joinM (f := wT) 10000 F1 0 rfl (fun w hw => (p1 w hw).1) (by simp; omega) fun _ => ?_
  walk_at "au"
  exact q _ (Fr.upv (by assumption))

/-- .law.is.name(text): 0 text, 1 letters, 2 sign -/
abbrev N_Lis_name : List Str := ["text", "letters", "sign"]
theorem st0_Lis_name (a0 : D) : dstart N_Lis_name [a0] = [some a0, none, none] := rfl
def w_Lis_name : DTS := (dSeq (dAsg (dC (.str "abcdefghijklmnopqrstuvwxyz")) (gNm 1))
  (dSeq (dIf (dOr (dTest (dOp eqD (dVar 0) (dC (.str "")))) (dOr (dTest (dOp gtD (dCB lenD (dCons (dVar 0) dNil)) (dC (.int 8)))) (dTest (dOp notInD (dOp ixD (dVar 0) (dC (.int 0))) (dVar 1))))) (dRet (dC (.bl false))) dNext)
  (dRet (dOp notInD (dC (.bl false)) (dLc (iAny (dVar 0)) 2 dYes (dOp inD (dVar 2) (dOp addD (dVar 1) (dC (.str "0123456789")))))))))
theorem alnum_in {c : Nat} : c ∈ TL.tl (("abcdefghijklmnopqrstuvwxyz" : Str) ++ ("0123456789" : Str)) ↔ low c ∨ dig c := by
  rw [TL.tl_append, List.mem_append, in_letters, in_digits]
def sp_Lis_name : DSp := fun ds g Q => match ds with
  | [.str z] => ∃ l : List Nat, z = mk l ∧ (l.length ≤ 1000000) ∧ ∀ g', Up [] g g' → Q (.bl (nameB l)) g'
  | _ => False
theorem len_Lis_name : ∀ ds g Q, sp_Lis_name ds g Q → ds.length = 1 := fun ds g Q h => by
  unfold sp_Lis_name at h; split at h <;> first | rfl | exact h.elim
theorem t_Lis_name {k : FK} {g0 g : GS} {lo : FL} {Q : DK} {l : List Nat} (F : Fr k g0 g lo) (p0 : (l.length ≤ 1000000)) (h : ∀ g', Fr k g0 g' lo → Q (.bl (nameB l)) g') : sp_Lis_name ([.str (mk l)] ++ []) g Q := ⟨l, rfl, p0, fun g' u => h g' (F.up u)⟩
local macro_rules | `(tactic| walk_at "call") => `(tactic| ((with_reducible refine t_Lis_name (by assumption) ?_ ?_); walk_at "sd"; intro _ _))
theorem rd_Lis_name : ∀ ds g Q, sp_Lis_name ds g Q → w_Lis_name { nx := fun _ g => Q .non g, rt := Q } (dstart N_Lis_name ds) g := fun ds g Q h => by
  unfold sp_Lis_name at h; split at h
  case h_2 => exact h.elim
  obtain ⟨l, rfl, p0, q⟩ := h
  have F : Fr .pu g g [] := Fr.startP
  rw [st0_Lis_name]
  unfold w_Lis_name
  walk_at "au"
  refine iteD (fun h0 => ?_) (fun h0 => ?_)
  · refine iteB (fun _ => ?_) (fun z => by cases z)
    walk_at "au"
    have e : nameB l = false := by rw [empty_iff.mp h0]; decide
    rw [e] at q
    exact q _ (Fr.upv (by assumption))
  walk_at "au"
  refine iteD (fun h1 => ?_) (fun h1 => ?_)
  · refine iteB (fun _ => ?_) (fun z => by cases z)
    walk_at "au"
    have e : nameB l = false := by unfold nameB; rw [decide_eq_false (by omega)]; rfl
    rw [e] at q
    exact q _ (Fr.upv (by assumption))
  walk_at "au"
  cases l with
  | nil => exact absurd (empty_iff.mpr rfl) h0
  | cons c r =>
    refine v_ixM (by omega) (atI_ofNat (show (c :: r)[Int.toNat 0]? = some c from rfl) (by omega)) ?_
    walk_at "au"
    refine v_nin1 ?_
    walk_at "au"
    refine iteN (fun h2 => ?_) (fun h2 => ?_)
    · walk_at "au"
      have e : nameB (c :: r) = false := by unfold nameB; rw [plainB_cons, decide_eq_false (fun z => h2 (in_letters.mpr z))]; simp
      rw [e] at q
      exact q _ (Fr.upv (by assumption))
    walk_at "au"
    refine s_anyS ?_
    walk_at "au"
    refine lcM (c :: r) (fun c => .str (mk [c])) (fun c => .bl (decide (low c) || decide (dig c))) F rfl (fun _ _ => trivial) (by omega) (fun i d g1 Q1 hi F1 k1 => ?_) (fun R g1 F1 => ?_)
    · walk_at "au"
      refine v_addS (by rw [szl]; decide +kernel) ?_
      walk_at "au"
      refine v_in1' ?_
      have := k1 _ .refl
      have e : decide (d ∈ TL.tl (("abcdefghijklmnopqrstuvwxyz" : Str) ++ ("0123456789" : Str))) = (decide (low d) || decide (dig d)) := by
        rw [← Bool.decide_or]
        exact decide_eq_decide.mpr alnum_in
      rw [e]
      exact this
    walk_at "au"
    refine k_notInB F1 0 rfl ?_
    have e : nameB (c :: r) = (c :: r).all fun c => decide (low c) || decide (dig c) := by unfold nameB; rw [plainB_cons, decide_eq_true (by omega), decide_eq_true (in_letters.mp h2)]; rfl
    rw [e] at q
    exact q _ (Fr.upv F1)

/-- .law.number(text, digits): 0 text, 1 digits, 2 sign -/
abbrev N_Lnumber : List Str := ["text", "digits", "sign"]
theorem st0_Lnumber (a0 a1 : D) : dstart N_Lnumber [a0, a1] = [some a0, some a1, none] := rfl
def w_Lnumber : DTS := (dSeq (dIf (dOr (dTest (dOp eqD (dVar 0) (dC (.str "")))) (dOr (dTest (dOp gtD (dCB lenD (dCons (dVar 0) dNil)) (dVar 1))) (dAnd (dTest (dOp eqD (dOp ixD (dVar 0) (dC (.int 0))) (dC (.str "0")))) (dTest (dOp neD (dVar 0) (dC (.str "0"))))))) (dRet (dC .non)) dNext)
  (dSeq (dIf (dTest (dOp inD (dC (.bl false)) (dLc (iAny (dVar 0)) 2 dYes (dOp inD (dVar 2) (dC (.str "0123456789")))))) (dRet (dC .non)) dNext)
  (dRet (dCB intF (dCons (dVar 0) dNil)))))
theorem numB_nil : numB [] = false := by decide
def sp_Lnumber : DSp := fun ds g Q => match ds with
  | [.str z, .int k] => ∃ l : List Nat, ∃ n : Nat, z = mk l ∧ k = (n : Int) ∧ (l.length ≤ 1000000) ∧ (n ≤ 600) ∧ ∀ g', Up [] g g' → Q ((if lnB l n = true then .int (dval l : Nat) else .non)) g'
  | _ => False
theorem len_Lnumber : ∀ ds g Q, sp_Lnumber ds g Q → ds.length = 2 := fun ds g Q h => by
  unfold sp_Lnumber at h; split at h <;> first | rfl | exact h.elim
theorem t_Lnumber {k : FK} {g0 g : GS} {lo : FL} {Q : DK} {l : List Nat} {n : Nat} (F : Fr k g0 g lo) (p0 : (l.length ≤ 1000000)) (p1 : (n ≤ 600)) (h : ∀ g', Fr k g0 g' lo → Q ((if lnB l n = true then .int (dval l : Nat) else .non)) g') : sp_Lnumber ([.str (mk l), .int ((n : Int))] ++ []) g Q := ⟨l, n, rfl, rfl, p0, p1, fun g' u => h g' (F.up u)⟩
local macro_rules | `(tactic| walk_at "call") => `(tactic| ((with_reducible refine t_Lnumber (by assumption) ?_ ?_ ?_); walk_at "sd"; walk_at "sd"; intro _ _))
theorem rd_Lnumber : ∀ ds g Q, sp_Lnumber ds g Q → w_Lnumber { nx := fun _ g => Q .non g, rt := Q } (dstart N_Lnumber ds) g := fun ds g Q h => by
  unfold sp_Lnumber at h; split at h
  case h_2 => exact h.elim
  obtain ⟨l, n, rfl, rfl, p0, p1, q⟩ := h
  have F : Fr .pu g g [] := Fr.startP
  rw [st0_Lnumber]
  unfold w_Lnumber
  have lit0 : ("" : Str) = mk [] := by decide +kernel
  have lit1 : ("0" : Str) = mk [48] := by decide +kernel
  have lit2 : ("0123456789" : Str) = mk [48, 49, 50, 51, 52, 53, 54, 55, 56, 57] := by decide +kernel
  simp only [lit0, lit1, lit2]
  have nope : lnB l n = false → Q .non g := fun e => by
    have := q g .refl
    rw [e] at this
    exact this
  have hdig : ∀ c, decide (c ∈ ([48, 49, 50, 51, 52, 53, 54, 55, 56, 57] : List Nat)) = decide (dig c) := fun c => decide_eq_decide.mpr (by unfold dig; simp; omega)
  walk_at "au"
  refine iteD (fun h0 => ?_) (fun h0 => ?_)
  · refine iteB (fun _ => ?_) (fun z => by cases z)
    walk_at "au"
    refine nope ?_
    rw [h0]
    unfold lnB
    rw [numB_nil, Bool.and_false]
  walk_at "au"
  refine iteD (fun h1 => ?_) (fun h1 => ?_)
  · refine iteB (fun _ => ?_) (fun z => by cases z)
    walk_at "au"
    refine nope ?_
    unfold lnB
    rw [decide_eq_false (by omega)]
    rfl
  walk_at "au"
  cases l with
  | nil => exact absurd rfl h0
  | cons c r =>
    have p2 : (c :: r).length ≤ 600 := by omega
    refine v_ixM (by omega) (atI_ofNat (show (c :: r)[Int.toNat 0]? = some c from rfl) (by omega)) ?_
    walk_at "au"
    have fin : ∀ g1, Up [] g g1 → (c = 48 → r = []) → digsB (c :: r) = true → ∃ n, intText? (mk (c :: r)) = some n ∧ (mk (c :: r)).length ≤ 640 ∧ Q (.int n) g1 := fun g1 U1 h2 h3 => by
      have hb : numB (c :: r) = true := by
        unfold numB
        rw [h3]
        by_cases hc : c = 48
        · rw [hc, h2 hc]; decide
        · simp [hc]
      have hb2 : lnB (c :: r) n = true := by unfold lnB; rw [hb, decide_eq_true (by omega)]; rfl
      rw [hb2] at q
      exact ⟨_, int_numB hb p2, by rw [TL.len_tl, tl_mk]; omega, q g1 U1⟩
    have rest : (c = 48 → r = []) → dSeq (dIf (dTest (dOp inD (dC (.bl false)) (dLc (iAny (dVar 0)) 2 dYes (dOp inD (dVar 2) (dC (.str (mk [48, 49, 50, 51, 52, 53, 54, 55, 56, 57]))))))) (dRet (dC .non)) dNext) (dRet (dCB intF (dCons (dVar 0) dNil))) { nx := fun _ g => Q .non g, rt := Q } [some (.str (mk (c :: r))), some (.int (n : Int)), none] g := fun h2 => by
      walk_at "au"
      refine s_anyS ?_
      walk_at "au"
      refine lcM (c :: r) (fun c => .str (mk [c])) (fun c => .bl (decide (dig c))) F rfl (fun _ _ => trivial) (by omega) (fun i d g1 Q1 hi F1 k1 => ?_) (fun R g1 F1 => ?_)
      · walk_at "au"
        rw [hdig d]
        exact k1 _ .refl
      walk_at "au"
      refine k_inF F1 0 rfl ?_
      walk_at "au"
      have e1 : ((c :: r).all fun c => decide (dig c)) = digsB (c :: r) := rfl
      rw [e1]
      cases h3 : digsB (c :: r) with
      | false =>
        refine iteB (fun _ => ?_) (fun z => by cases z)
        walk_at "au"
        have := q _ (Fr.upv F1)
        have e2 : lnB (c :: r) n = false := by unfold lnB numB; rw [h3]; simp
        rw [e2] at this
        exact this
      | true =>
        refine iteB (fun z => by cases z) (fun _ => ?_)
        walk_at "au"
        exact fin _ (Fr.upv F1) h2 h3
    refine iteD (fun h2 => ?_) (fun h2 => ?_)
    · walk_at "au"
      refine iteN (fun h3 => ?_) (fun h3 => ?_)
      · walk_at "au"
        refine nope ?_
        have h4 : r ≠ [] := fun z => h3 (by rw [h2, z])
        unfold lnB numB
        rw [h2]
        cases r with
        | nil => exact absurd rfl h4
        | cons => simp
      · refine DL.s_next ?_
        refine rest fun _ => ?_
        have := congrArg List.tail h3
        exact this
    · refine iteB (fun z => by cases z) (fun _ => ?_)
      refine DL.s_next ?_
      exact rest fun z => absurd z h2

/-- .law.parts(word): 0 word, 1 parts, 2 first, 3 keyed, 4 hops, 5 date -/
abbrev N_Lparts : List Str := ["word", "parts", "first", "keyed", "hops", "date"]
theorem st0_Lparts (a0 : D) : dstart N_Lparts [a0] = [some a0, none, none, none, none, none] := rfl
def w_Lparts : DTS := (dSeq (dAsg (dBM "str" splitD (dVar 0) (dCons (dC (.str " ")) dNil)) (gNm 1))
  (dSeq (dAsg (dOp ixD (dVar 1) (dC (.int 0))) (gNm 2))
  (dSeq (dIf (dAnd (dTest (dOp eqD (dCB lenD (dCons (dVar 1) dNil)) (dC (.int 1)))) (dTest (dOp inD (dVar 2) (dTup (dCons (dC (.str ".")) (dCons (dC (.str "close")) (dCons (dC (.str "ready")) (dCons (dC (.str "closed")) dNil)))))))) (dRet (dTup (dCons (dVar 2) dNil))) dNext)
  (dSeq (dIf (dAnd (dTest (dOp eqD (dCB lenD (dCons (dVar 1) dNil)) (dC (.int 3)))) (dAnd (dTest (dOp eqD (dVar 2) (dC (.str "open")))) (dAnd (dTru (dCall sp_Lis_name [] (dCons (dOp ixD (dVar 1) (dC (.int 1))) dNil))) (dTru (dCall sp_Lis_name [] (dCons (dOp ixD (dVar 1) (dC (.int 2))) dNil)))))) (dRet (dTup (dCons (dVar 2) (dCons (dOp ixD (dVar 1) (dC (.int 1))) (dCons (dOp ixD (dVar 1) (dC (.int 2))) dNil))))) dNext)
  (dSeq (dIf (dOr (dTest (dOp ltD (dCB lenD (dCons (dVar 1) dNil)) (dC (.int 2)))) (dOr (dTest (dOp ltD (dCB lenD (dCons (dOp ixD (dVar 1) (dC (.int 1))) dNil)) (dC (.int 1)))) (dTest (dOp gtD (dCB lenD (dCons (dOp ixD (dVar 1) (dC (.int 1))) dNil)) (dC (.int 60)))))) (dRet (dC .non)) dNext)
  (dSeq (dAsg (dTup (dCons (dC (.str "bring")) (dCons (dC (.str "body")) (dCons (dC (.str "clear")) (dCons (dC (.str "want")) (dCons (dC (.str "have")) (dCons (dC (.str "old")) (dCons (dC (.str "took")) (dCons (dC (.str "spoilt")) (dCons (dC (.str "cleared")) dNil)))))))))) (gNm 3))
  (dSeq (dIf (dAnd (dTest (dOp eqD (dCB lenD (dCons (dVar 1) dNil)) (dC (.int 2)))) (dTest (dOp inD (dVar 2) (dVar 3)))) (dRet (dTup (dCons (dVar 2) (dCons (dOp ixD (dVar 1) (dC (.int 1))) dNil)))) dNext)
  (dSeq (dIf (dOr (dTest (dOp neD (dCB lenD (dCons (dVar 1) dNil)) (dC (.int 4)))) (dTest (dOp neD (dVar 2) (dC (.str "offer"))))) (dRet (dC .non)) dNext)
  (dSeq (dAsg (dCall sp_Lnumber [] (dCons (dOp ixD (dVar 1) (dC (.int 2))) (dCons (dC (.int 3)) dNil))) (gNm 4))
  (dSeq (dAsg (dCall sp_Lnumber [] (dCons (dOp ixD (dVar 1) (dC (.int 3))) (dCons (dC (.int 7)) dNil))) (gNm 5))
  (dSeq (dIf (dOr (dTest (dOp isND (dVar 4) (dC .non))) (dTest (dOp isND (dVar 5) (dC .non)))) (dRet (dC .non)) dNext)
  (dRet (dTup (dCons (dVar 2) (dCons (dOp ixD (dVar 1) (dC (.int 1))) (dCons (dVar 4) (dCons (dVar 5) dNil)))))))))))))))))
def sp_Lparts : DSp := fun ds g Q => match ds with
  | [.str z] => ∃ l : List Nat, z = mk l ∧ (l.length ≤ 1000) ∧ ∀ g', Up [] g g' → Q (prsD l) g'
  | _ => False
theorem len_Lparts : ∀ ds g Q, sp_Lparts ds g Q → ds.length = 1 := fun ds g Q h => by
  unfold sp_Lparts at h; split at h <;> first | rfl | exact h.elim
theorem t_Lparts {k : FK} {g0 g : GS} {lo : FL} {Q : DK} {l : List Nat} (F : Fr k g0 g lo) (p0 : (l.length ≤ 1000)) (h : ∀ g', Fr k g0 g' lo → Q (prsD l) g') : sp_Lparts ([.str (mk l)] ++ []) g Q := ⟨l, rfl, p0, fun g' u => h g' (F.up u)⟩
local macro_rules | `(tactic| walk_at "call") => `(tactic| ((with_reducible refine t_Lparts (by assumption) ?_ ?_); walk_at "sd"; intro _ _))
theorem rd_Lparts : ∀ ds g Q, sp_Lparts ds g Q → w_Lparts { nx := fun _ g => Q .non g, rt := Q } (dstart N_Lparts ds) g := fun ds g Q h => by
  unfold sp_Lparts at h; split at h
  case h_2 => exact h.elim
  obtain ⟨l, rfl, p0, q⟩ := h
  have F : Fr .pu g g [] := Fr.startP
  rw [st0_Lparts]
  unfold w_Lparts
  have hcl : ∀ p ∈ cutW l, p.length ≤ 1000 := fun p hp => by have := cutW_le l p hp; omega
  have hc0 := cutW_ne l
  have hc1 := cutW_len l
  have e0 : prsD l = match prsL (cutW l) with | some ws => DL.D.tup (ws.map wD) | none => .non := rfl
  rw [e0] at q
  clear e0
  have lit0 : (" " : Str) = mk [32] := by decide +kernel
  simp only [lit0]
  walk_at "au"
  rename_i r g1 F1
  generalize cutW l = S at *
  cases S with
  | nil => exact absurd rfl hc0
  | cons f S =>
    refine k_ixLN 0 rfl F1 0 rfl (d := .str (mk f)) rfl ?_
    have hf := hcl f List.mem_cons_self
    have qn : prsL (f :: S) = none → ∀ g2, Up [] g g2 → Q .non g2 := fun e g2 u => by
      have := q g2 u
      rw [e] at this
      exact this
    have qs : ∀ ws, prsL (f :: S) = some ws → ∀ g2, Up [] g g2 → Q (.tup (ws.map wD)) g2 := fun ws e g2 u => by
      have := q g2 u
      rw [e] at this
      exact this
    clear q
    match S with
    | [] =>
      simp only [List.map_cons, List.map_nil] at F1
      walk_at "au"
      refine iteD (fun _ => ?_) (fun h => absurd h (by walk_at "len"))
      walk_at "au"
      refine v_inTS (us := bareS) ?_
      walk_at "au"
      refine iteD (fun h1 => ?_) (fun h1 => ?_)
      · walk_at "au"
        exact qs _ (prs1 h1) _ (Fr.upv F1)
      refine DL.s_next ?_
      walk_at "au"
      refine iteD (fun h => absurd h (by walk_at "len")) (fun _ => ?_)
      refine iteB (fun z => by cases z) (fun _ => ?_)
      refine DL.s_next ?_
      walk_at "au"
      refine iteD (fun _ => ?_) (fun h => absurd (show ((1 : Nat) : Int) < 2 by decide) h)
      refine iteB (fun _ => ?_) (fun z => by cases z)
      walk_at "au"
      exact qn (prs1n h1) _ (Fr.upv F1)
    | [k] =>
      have hk := hcl k (by simp)
      simp only [List.map_cons, List.map_nil] at F1
      walk_at "au"
      refine iteD (fun h => absurd h (by walk_at "len")) (fun _ => ?_)
      refine iteB (fun z => by cases z) (fun _ => ?_)
      refine DL.s_next ?_
      walk_at "au"
      refine iteD (fun h => absurd h (by walk_at "len")) (fun _ => ?_)
      refine iteB (fun z => by cases z) (fun _ => ?_)
      refine DL.s_next ?_
      walk_at "au"
      refine iteD (fun h => absurd h (by walk_at "len")) (fun _ => ?_)
      walk_at "au"
      refine iteD (fun h8 => ?_) (fun h8 => ?_)
      · refine iteB (fun _ => ?_) (fun z => by cases z)
        walk_at "au"
        exact qn (prs2n fun z => by first | (rw [lkB_lo h8] at z; cases z.2) | (rw [lkB_hi h9] at z; cases z.2)) _ (Fr.upv (by assumption))
      walk_at "au"
      refine iteD (fun h9 => ?_) (fun h9 => ?_)
      · walk_at "au"
        exact qn (prs2n fun z => by first | (rw [lkB_lo h8] at z; cases z.2) | (rw [lkB_hi h9] at z; cases z.2)) _ (Fr.upv (by assumption))
      refine DL.s_next ?_
      walk_at "au"
      refine iteD (fun _ => ?_) (fun h => absurd h (by walk_at "len"))
      walk_at "au"
      refine v_inTS (us := keyedS) ?_
      walk_at "au"
      refine iteD (fun h1 => ?_) (fun h1 => ?_)
      · walk_at "au"
        exact qs _ (prs2 h1 (lkB_of h8 h9)) _ (Fr.upv F1)
      refine DL.s_next ?_
      walk_at "au"
      refine iteN (fun _ => ?_) (fun h => absurd h (by walk_at "len"))
      refine iteB (fun _ => ?_) (fun z => by cases z)
      walk_at "au"
      exact qn (prs2n fun z => h1 z.1) _ (Fr.upv F1)
    | [a, b] =>
      have ha := hcl a (by simp)
      have hb := hcl b (by simp)
      simp only [List.map_cons, List.map_nil] at F1
      walk_at "au"
      refine iteD (fun h => absurd h (by walk_at "len")) (fun _ => ?_)
      refine iteB (fun z => by cases z) (fun _ => ?_)
      refine DL.s_next ?_
      walk_at "au"
      refine iteD (fun _ => ?_) (fun h => absurd h (by walk_at "len"))
      walk_at "au"
      refine iteD (fun h1 => ?_) (fun h1 => ?_)
      · walk_at "au"
        rename_i g2 F2
        refine iteB (fun h2 => ?_) (fun h2 => ?_)
        · walk_at "au"
          rename_i g3 F3
          refine iteB (fun h3 => ?_) (fun h3 => ?_)
          · walk_at "au"
            exact qs _ (prs3 h1 h2 h3) _ (Fr.upv F3)
          refine DL.s_next ?_
          walk_at "au"
          refine iteD (fun h => absurd h (by walk_at "len")) (fun _ => ?_)
          walk_at "au"
          refine iteD (fun h8 => ?_) (fun h8 => ?_)
          · refine iteB (fun _ => ?_) (fun z => by cases z)
            walk_at "au"
            exact qn (prs3n fun z => by rw [h3] at z; cases z.2.2) _ (Fr.upv (by assumption))
          walk_at "au"
          refine iteD (fun h9 => ?_) (fun h9 => ?_)
          · walk_at "au"
            exact qn (prs3n fun z => by rw [h3] at z; cases z.2.2) _ (Fr.upv (by assumption))
          refine DL.s_next ?_
          walk_at "au"
          refine iteD (fun h => absurd h (by walk_at "len")) (fun _ => ?_)
          refine iteB (fun z => by cases z) (fun _ => ?_)
          refine DL.s_next ?_
          walk_at "au"
          refine iteN (fun _ => ?_) (fun h => absurd h (by walk_at "len"))
          refine iteB (fun _ => ?_) (fun z => by cases z)
          walk_at "au"
          exact qn (prs3n fun z => by rw [h3] at z; cases z.2.2) _ (Fr.upv (by assumption))
        refine iteB (fun z => by cases z) (fun _ => ?_)
        refine DL.s_next ?_
        walk_at "au"
        refine iteD (fun h => absurd h (by walk_at "len")) (fun _ => ?_)
        walk_at "au"
        refine iteD (fun h8 => ?_) (fun h8 => ?_)
        · refine iteB (fun _ => ?_) (fun z => by cases z)
          walk_at "au"
          exact qn (prs3n fun z => by rw [h2] at z; cases z.2.1) _ (Fr.upv (by assumption))
        walk_at "au"
        refine iteD (fun h9 => ?_) (fun h9 => ?_)
        · walk_at "au"
          exact qn (prs3n fun z => by rw [h2] at z; cases z.2.1) _ (Fr.upv (by assumption))
        refine DL.s_next ?_
        walk_at "au"
        refine iteD (fun h => absurd h (by walk_at "len")) (fun _ => ?_)
        refine iteB (fun z => by cases z) (fun _ => ?_)
        refine DL.s_next ?_
        walk_at "au"
        refine iteN (fun _ => ?_) (fun h => absurd h (by walk_at "len"))
        refine iteB (fun _ => ?_) (fun z => by cases z)
        walk_at "au"
        exact qn (prs3n fun z => by rw [h2] at z; cases z.2.1) _ (Fr.upv (by assumption))
      refine iteB (fun z => by cases z) (fun _ => ?_)
      refine DL.s_next ?_
      walk_at "au"
      refine iteD (fun h => absurd h (by walk_at "len")) (fun _ => ?_)
      walk_at "au"
      refine iteD (fun h8 => ?_) (fun h8 => ?_)
      · refine iteB (fun _ => ?_) (fun z => by cases z)
        walk_at "au"
        exact qn (prs3n fun z => h1 z.1) _ (Fr.upv (by assumption))
      walk_at "au"
      refine iteD (fun h9 => ?_) (fun h9 => ?_)
      · walk_at "au"
        exact qn (prs3n fun z => h1 z.1) _ (Fr.upv (by assumption))
      refine DL.s_next ?_
      walk_at "au"
      refine iteD (fun h => absurd h (by walk_at "len")) (fun _ => ?_)
      refine iteB (fun z => by cases z) (fun _ => ?_)
      refine DL.s_next ?_
      walk_at "au"
      refine iteN (fun _ => ?_) (fun h => absurd h (by walk_at "len"))
      refine iteB (fun _ => ?_) (fun z => by cases z)
      walk_at "au"
      exact qn (prs3n fun z => h1 z.1) _ (Fr.upv (by assumption))
    | [k, h, d] =>
      have hk := hcl k (by simp)
      have hh := hcl h (by simp)
      have hd := hcl d (by simp)
      simp only [List.map_cons, List.map_nil] at F1
      walk_at "au"
      refine iteD (fun h => absurd h (by walk_at "len")) (fun _ => ?_)
      refine iteB (fun z => by cases z) (fun _ => ?_)
      refine DL.s_next ?_
      walk_at "au"
      refine iteD (fun h => absurd h (by walk_at "len")) (fun _ => ?_)
      refine iteB (fun z => by cases z) (fun _ => ?_)
      refine DL.s_next ?_
      walk_at "au"
      refine iteD (fun h => absurd h (by walk_at "len")) (fun _ => ?_)
      walk_at "au"
      refine iteD (fun h8 => ?_) (fun h8 => ?_)
      · refine iteB (fun _ => ?_) (fun z => by cases z)
        walk_at "au"
        exact qn (prs4n fun z => by first | (rw [lkB_lo h8] at z; cases z.2.1) | (rw [lkB_hi h9] at z; cases z.2.1)) _ (Fr.upv (by assumption))
      walk_at "au"
      refine iteD (fun h9 => ?_) (fun h9 => ?_)
      · walk_at "au"
        exact qn (prs4n fun z => by first | (rw [lkB_lo h8] at z; cases z.2.1) | (rw [lkB_hi h9] at z; cases z.2.1)) _ (Fr.upv (by assumption))
      refine DL.s_next ?_
      walk_at "au"
      refine iteD (fun h => absurd h (by walk_at "len")) (fun _ => ?_)
      refine iteB (fun z => by cases z) (fun _ => ?_)
      refine DL.s_next ?_
      walk_at "au"
      refine iteN (fun h => absurd rfl h) (fun _ => ?_)
      walk_at "au"
      refine iteN (fun h1 => ?_) (fun h1 => ?_)
      · walk_at "au"
        exact qn (prs4n fun z => h1 z.1) _ (Fr.upv F1)
      refine DL.s_next ?_
      walk_at "au"
      refine t_Lnumber (n := 3) F1 (by omega) (by omega) fun g2 F2 => ?_
      walk_at "au"
      refine t_Lnumber (n := 7) F2 (by omega) (by omega) fun g3 F3 => ?_
      have lk := lkB_of h8 h9
      cases h3 : lnB h 3 with
      | false =>
        rw [if_neg (show ¬ (false = true) by decide)]
        walk_at "au"
        exact qn (prs4n fun z => by rw [h3] at z; cases z.2.2.1) _ (Fr.upv F3)
      | true =>
        rw [if_pos (show true = true from rfl)]
        walk_at "au"
        cases h4 : lnB d 7 with
        | false =>
          rw [if_neg (show ¬ (false = true) by decide)]
          walk_at "au"
          exact qn (prs4n fun z => by rw [h4] at z; cases z.2.2.2) _ (Fr.upv F3)
        | true =>
          rw [if_pos (show true = true from rfl)]
          walk_at "au"
          exact qs _ (prs4 h1 lk h3 h4) _ (Fr.upv F3)
    | a :: _ :: _ :: _ :: S =>
      have ha := hcl a (by simp)
      simp only [List.map_cons, List.map_nil] at F1
      walk_at "au"
      refine iteD (fun h => absurd h (by walk_at "len")) (fun _ => ?_)
      refine iteB (fun z => by cases z) (fun _ => ?_)
      refine DL.s_next ?_
      walk_at "au"
      refine iteD (fun h => absurd h (by walk_at "len")) (fun _ => ?_)
      refine iteB (fun z => by cases z) (fun _ => ?_)
      refine DL.s_next ?_
      walk_at "au"
      refine iteD (fun h => absurd h (by walk_at "len")) (fun _ => ?_)
      walk_at "au"
      refine k_ixLN 1 rfl F1 0 rfl (d := .str (mk a)) rfl ?_
      walk_at "au"
      refine iteD (fun h8 => ?_) (fun h8 => ?_)
      · refine iteB (fun _ => ?_) (fun z => by cases z)
        walk_at "au"
        exact qn rfl _ (Fr.upv (by assumption))
      walk_at "au"
      refine k_ixLN 1 rfl F1 0 rfl (d := .str (mk a)) rfl ?_
      walk_at "au"
      refine iteD (fun h9 => ?_) (fun h9 => ?_)
      · walk_at "au"
        exact qn rfl _ (Fr.upv (by assumption))
      refine DL.s_next ?_
      walk_at "au"
      refine iteD (fun h => absurd h (by walk_at "len")) (fun _ => ?_)
      refine iteB (fun z => by cases z) (fun _ => ?_)
      refine DL.s_next ?_
      walk_at "au"
      refine iteN (fun _ => ?_) (fun h => absurd h (by walk_at "len"))
      refine iteB (fun _ => ?_) (fun z => by cases z)
      walk_at "au"
      exact qn rfl _ (Fr.upv (by assumption))

/-- .law.key(source): 0 source, 1 number, 2 key, 3 way -/
abbrev N_Lkey : List Str := ["source", "number", "key", "way"]
theorem st0_Lkey (a0 : D) : dstart N_Lkey [a0] = [some a0, none, none, none] := rfl
def w_Lkey : DTS := (dSeq (dAsg (dOp addD (dC (.int 1)) (dOp fdivD (dCall sp_Ldraw [] (dCons (dVar 0) (dCons (dC (.int 999999)) dNil))) (dCall sp_Lpick [] (dCons (dVar 0) (dCons (dLst (dCons (dC (.int 1)) (dCons (dC (.int 100)) (dCons (dC (.int 10000)) (dCons (dC (.int 100000)) dNil))))) dNil))))) (gNm 1))
  (dSeq (dAsg (dOp addD (dOp addD (dCB strF (dCons (dVar 1) dNil)) (dC (.str "@"))) (dCall sp_Lnew_name [] (dCons (dVar 0) (dCons (dLst dNil) dNil)))) (gNm 2))
  (dSeq (dAsg (dCall sp_Ldraw [] (dCons (dVar 0) (dCons (dC (.int 7)) dNil))) (gNm 3))
  (dSeq (dIf (dTest (dOp eqD (dVar 3) (dC (.int 2)))) (dRet (dOp addD (dC (.str "n:")) (dVar 2))) dNext)
  (dSeq (dIf (dTest (dOp eqD (dVar 3) (dC (.int 3)))) (dRet (dOp addD (dOp addD (dOp addD (dOp addD (dOp addD (dC (.str "c:")) (dVar 2)) (dC (.str ":l@"))) (dCall sp_Lnew_name [] (dCons (dVar 0) (dCons (dLst dNil) dNil)))) (dC (.str ":ann@"))) (dCall sp_Lnew_name [] (dCons (dVar 0) (dCons (dLst dNil) dNil))))) dNext)
  (dSeq (dIf (dTest (dOp eqD (dVar 3) (dC (.int 4)))) (dRet (dOp addD (dOp addD (dC (.str "s:")) (dVar 2)) (dC (.str ":0:1")))) dNext)
  (dSeq (dIf (dTest (dOp eqD (dVar 3) (dC (.int 5)))) (dSeq (dRet (dRep " " "_" (dCall sp_Lrow [] (dCons (dVar 0) (dCons (dOp addD (dC (.int 1)) (dCall sp_Ldraw [] (dCons (dVar 0) (dCons (dC (.int 60)) dNil)))) dNil)))))
  dNext) dNext)
  (dSeq (dIf (dTest (dOp eqD (dVar 3) (dC (.int 6)))) (dRet (dSl (dOp addD (dOp addD (dVar 2) (dC (.str ":"))) (dOp mulD (dC (.str "ab.c")) (dC (.int 20)))) dNo (dPart (dC (.int 60))))) dNext)
  (dRet (dVar 2))))))))))
theorem t_new0 {s : SI} {m : Nat} {g0 g : GS} {lo : FL} {Q : DK} {p : Addr} (F : Fr (.go s m) g0 g lo) (hm : m < 1000000000000) (n : Nat) (b : Bool) (e : lo[n]? = some (p, .lst [], b)) (h : ∀ l g', RowL l → l.length ≤ 7 → Fr (.go s (m + 10)) g0 g' lo → Q (.str (mk l)) g') : sp_Lnew_name ([.ref s.L, .ref p] ++ []) g Q :=
  ⟨s, m, [], rfl, F.src, hm, F.at n e, by decide, fun nm g' hn _ G => by
    obtain ⟨l, rfl, hr, hl⟩ := RowL.nameOk hn
    exact h l g' hr hl (F.call G)⟩
theorem t_pickR {s : SI} {m : Nat} {g0 g : GS} {lo : FL} {Q : DK} {p : Addr} {xs : List DL.D} (F : Fr (.go s m) g0 g lo) (hm : m < 1000000000000) (n : Nat) (b : Bool) (e : lo[n]? = some (p, .lst xs, b)) (hx : ∀ d ∈ xs, RowD 10 d) (h1 : xs ≠ []) (h2 : xs.length < 1073741824) (h : ∀ l g', RowL l → l.length ≤ 10 → Fr (.go s (m + 1)) g0 g' lo → Q (.str (mk l)) g') : sp_Lpick ([.ref s.L, .ref p] ++ []) g Q :=
  t_LpickD F hm n b e h1 h2 fun d g' hd F' => by
    obtain ⟨l, rfl, hr, hl⟩ := hx d hd
    exact h l g' hr hl F'
theorem t_rowR {s : SI} {m : Nat} {g0 g : GS} {lo : FL} {Q : DK} {k : Int} (F : Fr (.go s m) g0 g lo) (hm : m < 900000000000) (h1 : 0 ≤ k) (h2 : k < 10000) (h : ∀ l g', RowL l → (l.length : Int) = k → Fr (.go s (m + 10000)) g0 g' lo → Q (.str (mk l)) g') : sp_Lrow ([.ref s.L, .int k] ++ []) g Q :=
  ⟨s, m, rfl, F.src, hm, h1, h2, fun cs g' hl hc G => h cs g' (fun c hm => by
    have := rowSigns_asc c (hc c hm)
    omega) hl (F.call G)⟩
local macro_rules | `(tactic| walk_at "call") => `(tactic| ((with_reducible refine (?_ : sp_Lnew_name _ _ _)); first
  | (refine t_new0 (by assumption) ?_ 0 _ rfl ?_; omega; intro _ _ _ _ _)))
local macro_rules | `(tactic| walk_at "call") => `(tactic| ((with_reducible refine (?_ : sp_Lpick ([_, DL.D.ref _] ++ []) _ _)); first
  | (refine t_pickR (by assumption) ?_ 0 _ rfl ?_ ?_ ?_ ?_; omega; (focus (walk_at "rowd"; done)); simp; simp; intro _ _ _ _ _)
  | (refine t_pickR (by assumption) ?_ 1 _ rfl ?_ ?_ ?_ ?_; omega; (focus (walk_at "rowd"; done)); simp; simp; intro _ _ _ _ _)
  | (refine t_pickR (by assumption) ?_ 2 _ rfl ?_ ?_ ?_ ?_; omega; (focus (walk_at "rowd"; done)); simp; simp; intro _ _ _ _ _)))
local macro_rules | `(tactic| walk_at "call") => `(tactic| ((with_reducible refine t_rowR (by assumption) ?_ ?_ ?_ ?_); omega; walk_at "len"; walk_at "len"; intro _ _ _ _ _))
def sp_Lkey : DSp := fun ds g Q => match ds with
  | [.ref L] => ∃ s m, s.L = L ∧ Src s g m ∧ m < 800000000000 ∧ ∀ r : List Nat, ∀ g', (RowL r) → (r.length ≤ 90) → Go s g g' (m + 20000) → Q (.str (mk r)) g'
  | _ => False
theorem len_Lkey : ∀ ds g Q, sp_Lkey ds g Q → ds.length = 1 := fun ds g Q h => by
  unfold sp_Lkey at h; split at h <;> first | rfl | exact h.elim
theorem t_Lkey {s : SI} {m : Nat} {g0 g : GS} {lo : FL} {Q : DK} (F : Fr (.go s m) g0 g lo) (hm : m < 800000000000) (h : ∀ r : List Nat, ∀ g', (RowL r) → (r.length ≤ 90) → Fr (.go s (m + 20000)) g0 g' lo → Q (.str (mk r)) g') : sp_Lkey ([.ref s.L] ++ []) g Q := ⟨s, m, rfl, F.src, hm, fun r g' a0 a1 G => h r g' a0 a1 (F.call G)⟩
local macro_rules | `(tactic| walk_at "call") => `(tactic| ((with_reducible refine t_Lkey (by assumption) ?_ ?_); omega; intro _ _ _ _ _))
theorem rd_Lkey : ∀ ds g Q, sp_Lkey ds g Q → w_Lkey { nx := fun _ g => Q .non g, rt := Q } (dstart N_Lkey ds) g := fun ds g Q h => by
  unfold sp_Lkey at h; split at h
  case h_2 => exact h.elim
  obtain ⟨s, m, rfl, hS, hm, q⟩ := h
  have F := Fr.startG hS
  rw [st0_Lkey]
  unfold w_Lkey
  have lit0 : ("@" : Str) = mk [64] := by decide +kernel
  have lit1 : ("n:" : Str) = mk [110, 58] := by decide +kernel
  have lit2 : (":0:1" : Str) = mk [58, 48, 58, 49] := by decide +kernel
  have lit3 : (" " : Str) = mk [32] := by decide +kernel
  have lit4 : ("_" : Str) = mk [95] := by decide +kernel
  have lit5 : (":ann@" : Str) = mk [58, 97, 110, 110, 64] := by decide +kernel
  have lit6 : ("s:" : Str) = mk [115, 58] := by decide +kernel
  have lit7 : (":" : Str) = mk [58] := by decide +kernel
  have lit8 : ("ab.c" : Str) = mk [97, 98, 46, 99] := by decide +kernel
  have lit9 : (":l@" : Str) = mk [58, 108, 64] := by decide +kernel
  have lit10 : ("c:" : Str) = mk [99, 58] := by decide +kernel
  simp only [lit0, lit1, lit2, lit3, lit4, lit5, lit6, lit7, lit8, lit9, lit10]
  walk_at "au"
  rename_i d g1 d0 d1 F1 p g2 F2 v g3 v1 v2 F3
  have v3 : 1 ≤ v := by omega
  have n0 : 0 ≤ d / v := Int.ediv_nonneg (by omega) (by omega)
  have n1 : d / v ≤ d := Int.ediv_le_self _ (by omega)
  refine v_strI (by omega) (by omega) ?_
  have nl : (TL.numL (1 + d / v).toNat).length ≤ 6 := TL.numL_len (by decide) (by omega)
  have nr := RowL.num (1 + d / v).toNat
  generalize TL.numL (1 + d / v).toNat = nn at *
  generalize 1 + d / v = num at *
  walk_at "au"
  rename_i w g6 w0 w1 F6
  refine iteD (fun _ => ?_) (fun _ => ?_)
  · walk_at "au"
    exact q _ _ (by walk_at "sd") (by walk_at "sd") (Fr.gov (by assumption) (by omega))
  refine DL.s_next ?_
  walk_at "au"
  refine iteD (fun _ => ?_) (fun _ => ?_)
  · walk_at "au"
    exact q _ _ (by walk_at "sd") (by walk_at "sd") (Fr.gov (by assumption) (by omega))
  refine DL.s_next ?_
  walk_at "au"
  refine iteD (fun _ => ?_) (fun _ => ?_)
  · walk_at "au"
    exact q _ _ (by walk_at "sd") (by walk_at "sd") (Fr.gov (by assumption) (by omega))
  refine DL.s_next ?_
  walk_at "au"
  refine iteD (fun _ => ?_) (fun _ => ?_)
  · walk_at "au"
    rename_i t g8 tr tl F8
    refine ⟨by rw [TL.len_tl, TL.len_tl, tl_mk, tl_mk]; simp; omega, ?_⟩
    rw [rep_W' t [95]]
    have e1 : (TL.joinL [95] (cutW t)).length = t.length := rep1_len t
    exact q _ _ (by walk_at "sd") (by walk_at "sd") (Fr.gov (by assumption) (by omega))
  refine DL.s_next ?_
  walk_at "au"
  refine iteD (fun _ => ?_) (fun _ => ?_)
  · walk_at "au"
    refine k_mulS (by omega) (by omega) 4 (by simp) (by decide) fun r hr hc => ?_
    walk_at "au"
    exact q _ _ (by walk_at "sd") (by walk_at "sd") (Fr.gov (by assumption) (by omega))
  refine DL.s_next ?_
  walk_at "au"
  exact q _ _ (by walk_at "sd") (by walk_at "sd") (Fr.gov (by assumption) (by omega))

/-- .law.word(source): 0 source, 1 way, 2 keyed, 3 first, 4 hops, 5 date -/
abbrev N_Lword : List Str := ["source", "way", "keyed", "first", "hops", "date"]
theorem st0_Lword (a0 : D) : dstart N_Lword [a0] = [some a0, none, none, none, none, none] := rfl
def w_Lword : DTS := (dSeq (dAsg (dCall sp_Ldraw [] (dCons (dVar 0) (dCons (dC (.int 5)) dNil))) (gNm 1))
  (dSeq (dIf (dTest (dOp eqD (dVar 1) (dC (.int 0)))) (dRet (dCall sp_Lpick [] (dCons (dVar 0) (dCons (dLst (dCons (dC (.str ".")) (dCons (dC (.str "close")) (dCons (dC (.str "ready")) (dCons (dC (.str "closed")) dNil))))) dNil)))) dNext)
  (dSeq (dIf (dTest (dOp eqD (dVar 1) (dC (.int 1)))) (dSeq (dAsg (dCall sp_Lpick [] (dCons (dVar 0) (dCons (dLst (dCons (dCall sp_Lnew_name [] (dCons (dVar 0) (dCons (dLst dNil) dNil))) (dCons (dOp mulD (dC (.str "a")) (dC (.int 8))) (dCons (dC (.str "b")) dNil)))) dNil))) (gNm 3))
  (dRet (dOp addD (dOp addD (dOp addD (dC (.str "open ")) (dVar 3)) (dC (.str " "))) (dCall sp_Lpick [] (dCons (dVar 0) (dCons (dLst (dCons (dCall sp_Lnew_name [] (dCons (dVar 0) (dCons (dLst dNil) dNil))) (dCons (dC (.str "z2345678")) dNil))) dNil)))))) dNext)
  (dSeq (dIf (dTest (dOp eqD (dVar 1) (dC (.int 2)))) (dSeq (dAsg (dCall sp_Lpick [] (dCons (dVar 0) (dCons (dLst (dCons (dC (.int 0)) (dCons (dC (.int 999)) (dCons (dCall sp_Ldraw [] (dCons (dVar 0) (dCons (dC (.int 10)) dNil))) (dCons (dCall sp_Ldraw [] (dCons (dVar 0) (dCons (dC (.int 1000)) dNil))) dNil))))) dNil))) (gNm 4))
  (dSeq (dAsg (dCall sp_Lpick [] (dCons (dVar 0) (dCons (dLst (dCons (dC (.int 0)) (dCons (dC (.int 9999999)) (dCons (dCall sp_Ldraw [] (dCons (dVar 0) (dCons (dC (.int 100)) dNil))) (dCons (dCall sp_Ldraw [] (dCons (dVar 0) (dCons (dC (.int 10000000)) dNil))) dNil))))) dNil))) (gNm 5))
  (dRet (dOp addD (dOp addD (dOp addD (dOp addD (dOp addD (dC (.str "offer ")) (dCall sp_Lkey [] (dCons (dVar 0) dNil))) (dC (.str " "))) (dCB strF (dCons (dVar 4) dNil))) (dC (.str " "))) (dCB strF (dCons (dVar 5) dNil)))))) dNext)
  (dSeq (dAsg (dLst (dCons (dC (.str "bring")) (dCons (dC (.str "body")) (dCons (dC (.str "clear")) (dCons (dC (.str "want")) (dCons (dC (.str "have")) (dCons (dC (.str "old")) (dCons (dC (.str "took")) (dCons (dC (.str "spoilt")) (dCons (dC (.str "cleared")) dNil)))))))))) (gNm 2))
  (dRet (dOp addD (dOp addD (dCall sp_Lpick [] (dCons (dVar 0) (dCons (dVar 2) dNil))) (dC (.str " "))) (dCall sp_Lkey [] (dCons (dVar 0) dNil)))))))))
def sp_Lword : DSp := fun ds g Q => match ds with
  | [.ref L] => ∃ s m, s.L = L ∧ Src s g m ∧ m < 700000000000 ∧ ∀ r : List Nat, ∀ g', (RowL r) → (r.length ≤ 150) → Go s g g' (m + 30000) → Q (.str (mk r)) g'
  | _ => False
theorem len_Lword : ∀ ds g Q, sp_Lword ds g Q → ds.length = 1 := fun ds g Q h => by
  unfold sp_Lword at h; split at h <;> first | rfl | exact h.elim
theorem t_Lword {s : SI} {m : Nat} {g0 g : GS} {lo : FL} {Q : DK} (F : Fr (.go s m) g0 g lo) (hm : m < 700000000000) (h : ∀ r : List Nat, ∀ g', (RowL r) → (r.length ≤ 150) → Fr (.go s (m + 30000)) g0 g' lo → Q (.str (mk r)) g') : sp_Lword ([.ref s.L] ++ []) g Q := ⟨s, m, rfl, F.src, hm, fun r g' a0 a1 G => h r g' a0 a1 (F.call G)⟩
local macro_rules | `(tactic| walk_at "call") => `(tactic| ((with_reducible refine t_Lword (by assumption) ?_ ?_); omega; intro _ _ _ _ _))
theorem rd_Lword : ∀ ds g Q, sp_Lword ds g Q → w_Lword { nx := fun _ g => Q .non g, rt := Q } (dstart N_Lword ds) g := fun ds g Q h => by
  unfold sp_Lword at h; split at h
  case h_2 => exact h.elim
  obtain ⟨s, m, rfl, hS, hm, q⟩ := h
  have F := Fr.startG hS
  rw [st0_Lword]
  unfold w_Lword
  have lit0 : ("bring" : Str) = mk [98, 114, 105, 110, 103] := by decide +kernel
  have lit1 : ("body" : Str) = mk [98, 111, 100, 121] := by decide +kernel
  have lit2 : ("clear" : Str) = mk [99, 108, 101, 97, 114] := by decide +kernel
  have lit3 : ("want" : Str) = mk [119, 97, 110, 116] := by decide +kernel
  have lit4 : ("have" : Str) = mk [104, 97, 118, 101] := by decide +kernel
  have lit5 : ("old" : Str) = mk [111, 108, 100] := by decide +kernel
  have lit6 : ("took" : Str) = mk [116, 111, 111, 107] := by decide +kernel
  have lit7 : ("spoilt" : Str) = mk [115, 112, 111, 105, 108, 116] := by decide +kernel
  have lit8 : ("cleared" : Str) = mk [99, 108, 101, 97, 114, 101, 100] := by decide +kernel
  have lit9 : (" " : Str) = mk [32] := by decide +kernel
  have lit10 : ("." : Str) = mk [46] := by decide +kernel
  have lit11 : ("close" : Str) = mk [99, 108, 111, 115, 101] := by decide +kernel
  have lit12 : ("ready" : Str) = mk [114, 101, 97, 100, 121] := by decide +kernel
  have lit13 : ("closed" : Str) = mk [99, 108, 111, 115, 101, 100] := by decide +kernel
  have lit14 : ("b" : Str) = mk [98] := by decide +kernel
  have lit15 : ("a" : Str) = mk [97] := by decide +kernel
  have lit16 : ("open " : Str) = mk [111, 112, 101, 110, 32] := by decide +kernel
  have lit17 : ("z2345678" : Str) = mk [122, 50, 51, 52, 53, 54, 55, 56] := by decide +kernel
  have lit18 : ("offer " : Str) = mk [111, 102, 102, 101, 114, 32] := by decide +kernel
  simp only [lit0, lit1, lit2, lit3, lit4, lit5, lit6, lit7, lit8, lit9, lit10, lit11, lit12, lit13, lit14, lit15, lit16, lit17, lit18]
  walk_at "au"
  refine iteD (fun _ => ?_) (fun _ => ?_)
  · walk_at "au"
    exact q _ _ (by walk_at "sd") (by walk_at "sd") (Fr.gov (by assumption) (by omega))
  refine DL.s_next ?_
  walk_at "au"
  refine iteD (fun _ => ?_) (fun _ => ?_)
  · walk_at "au"
    refine k_mul1 (by omega) (by omega) ?_
    have e8 : (8 : Int).toNat = 8 := rfl
    rw [e8]
    walk_at "au"
    exact q _ _ (by walk_at "sd") (by walk_at "sd") (Fr.gov (by assumption) (by omega))
  refine DL.s_next ?_
  walk_at "au"
  refine iteD (fun _ => ?_) (fun _ => ?_)
  · walk_at "au"
    rename_i a1 g1 a2 a3 F1 b1 g2 b2 b3 F2 p2 g3 F3 h g4 h1 h2 F4 c1 g5 c2 c3 F5 d1 g6 d2 d3 F6 p3 g7 F7 d g8 d4 d5 F8 k g9 k1 k2 F9
    have nl : (TL.numL h.toNat).length ≤ 3 := TL.numL_len (by decide) (by omega)
    have nr := RowL.num h.toNat
    have dl : (TL.numL d.toNat).length ≤ 7 := TL.numL_len (by decide) (by omega)
    have dr := RowL.num d.toNat
    refine v_strI (by omega) (by omega) ?_
    generalize TL.numL h.toNat = ht at *
    walk_at "au"
    refine v_strI (by omega) (by omega) ?_
    generalize TL.numL d.toNat = dt at *
    walk_at "au"
    exact q _ _ (by walk_at "sd") (by walk_at "sd") (Fr.gov (by assumption) (by omega))
  refine DL.s_next ?_
  walk_at "au"
  exact q _ _ (by walk_at "sd") (by walk_at "sd") (Fr.gov (by assumption) (by omega))

/-- .law.bent(source, word): 0 source, 1 word, 2 place, 3 odd, 4 parts, 5 way -/
abbrev N_Lbent : List Str := ["source", "word", "place", "odd", "parts", "way"]
theorem st0_Lbent (a0 a1 : D) : dstart N_Lbent [a0, a1] = [some a0, some a1, none, none, none, none] := rfl
def w_Lbent : DTS := (dSeq (dAsg (dCall sp_Ldraw [] (dCons (dVar 0) (dCons (dOp addD (dCB lenD (dCons (dVar 1) dNil)) (dC (.int 1))) dNil))) (gNm 2))
  (dSeq (dAsg (dCall sp_Lpick [] (dCons (dVar 0) (dCons (dLst (dCons (dC (.str " ")) (dCons (dC (.str "0")) (dCons (dC (.str "A")) (dCons (dC (.str "-")) (dCons (dC (.str ".")) (dCons (dC (.str "@")) (dCons (dC (.str "x")) (dCons (dC (.str "9")) (dCons (dC (.str "1")) dNil)))))))))) dNil))) (gNm 3))
  (dSeq (dAsg (dBM "str" splitD (dVar 1) (dCons (dC (.str " ")) dNil)) (gNm 4))
  (dSeq (dAsg (dCall sp_Ldraw [] (dCons (dVar 0) (dCons (dC (.int 10)) dNil))) (gNm 5))
  (dSeq (dIf (dTest (dOp eqD (dVar 5) (dC (.int 0)))) (dRet (dOp addD (dOp addD (dSl (dVar 1) dNo (dPart (dVar 2))) (dVar 3)) (dSl (dVar 1) (dPart (dVar 2)) dNo))) dNext)
  (dSeq (dIf (dTest (dOp eqD (dVar 5) (dC (.int 1)))) (dRet (dOp addD (dOp addD (dSl (dVar 1) dNo (dPart (dVar 2))) (dVar 3)) (dSl (dVar 1) (dPart (dOp addD (dVar 2) (dC (.int 1)))) dNo))) dNext)
  (dSeq (dIf (dTest (dOp eqD (dVar 5) (dC (.int 2)))) (dRet (dOp addD (dSl (dVar 1) dNo (dPart (dVar 2))) (dSl (dVar 1) (dPart (dOp addD (dVar 2) (dC (.int 1)))) dNo))) dNext)
  (dSeq (dIf (dTest (dOp eqD (dVar 5) (dC (.int 3)))) (dRet (dOp addD (dVar 1) (dC (.str " ")))) dNext)
  (dSeq (dIf (dTest (dOp eqD (dVar 5) (dC (.int 4)))) (dRet (dOp addD (dC (.str " ")) (dVar 1))) dNext)
  (dSeq (dIf (dTest (dOp eqD (dVar 5) (dC (.int 5)))) (dSeq (dRet (dRep " " "  " (dVar 1)))
  dNext) dNext)
  (dSeq (dIf (dTest (dOp eqD (dVar 5) (dC (.int 6)))) (dRet (dOp addD (dOp addD (dVar 1) (dC (.str " "))) (dOp ixD (dVar 4) (dOp subD (dCB lenD (dCons (dVar 4) dNil)) (dC (.int 1)))))) dNext)
  (dSeq (dIf (dTest (dOp eqD (dVar 5) (dC (.int 7)))) (dRet (dBM "str" joinD (dC (.str " ")) (dCons (dSl (dVar 4) dNo (dPart (dOp subD (dCB lenD (dCons (dVar 4) dNil)) (dC (.int 1))))) dNil))) dNext)
  (dSeq (dIf (dTest (dOp eqD (dVar 5) (dC (.int 8)))) (dRet (dOp addD (dVar 1) (dOp mulD (dC (.str "0")) (dCall sp_Lpick [] (dCons (dVar 0) (dCons (dLst (dCons (dC (.int 1)) (dCons (dC (.int 2)) (dCons (dC (.int 52)) (dCons (dC (.int 59)) dNil))))) dNil)))))) dNext)
  (dRet (dBM0 "str" upperD (dVar 1))))))))))))))))
def sp_Lbent : DSp := fun ds g Q => match ds with
  | [.ref L, .str z] => ∃ s m, ∃ l : List Nat, s.L = L ∧ Src s g m ∧ m < 920000000000 ∧ z = mk l ∧ (RowL l) ∧ (l.length ≤ 1000) ∧ ∀ r : List Nat, ∀ g', (RowL r) → (r.length ≤ 2 * l.length + 60) → Go s g g' (m + 10) → Q (.str (mk r)) g'
  | _ => False
theorem len_Lbent : ∀ ds g Q, sp_Lbent ds g Q → ds.length = 2 := fun ds g Q h => by
  unfold sp_Lbent at h; split at h <;> first | rfl | exact h.elim
theorem t_Lbent {s : SI} {m : Nat} {g0 g : GS} {lo : FL} {Q : DK} {l : List Nat} (F : Fr (.go s m) g0 g lo) (hm : m < 920000000000) (p0 : (RowL l)) (p1 : (l.length ≤ 1000)) (h : ∀ r : List Nat, ∀ g', (RowL r) → (r.length ≤ 2 * l.length + 60) → Fr (.go s (m + 10)) g0 g' lo → Q (.str (mk r)) g') : sp_Lbent ([.ref s.L, .str (mk l)] ++ []) g Q := ⟨s, m, l, rfl, F.src, hm, rfl, p0, p1, fun r g' a0 a1 G => h r g' a0 a1 (F.call G)⟩
local macro_rules | `(tactic| walk_at "call") => `(tactic| ((with_reducible refine t_Lbent (by assumption) ?_ ?_ ?_ ?_); omega; walk_at "sd"; walk_at "sd"; intro _ _ _ _ _))
theorem rd_Lbent : ∀ ds g Q, sp_Lbent ds g Q → w_Lbent { nx := fun _ g => Q .non g, rt := Q } (dstart N_Lbent ds) g := fun ds g Q h => by
  unfold sp_Lbent at h; split at h
  case h_2 => exact h.elim
  obtain ⟨s, m, l, rfl, hS, hm, rfl, p0, p1, q⟩ := h
  have F := Fr.startG hS
  rw [st0_Lbent]
  unfold w_Lbent
  have lit0 : (" " : Str) = mk [32] := by decide +kernel
  have lit1 : ("0" : Str) = mk [48] := by decide +kernel
  have lit2 : ("A" : Str) = mk [65] := by decide +kernel
  have lit3 : ("-" : Str) = mk [45] := by decide +kernel
  have lit4 : ("." : Str) = mk [46] := by decide +kernel
  have lit5 : ("@" : Str) = mk [64] := by decide +kernel
  have lit6 : ("x" : Str) = mk [120] := by decide +kernel
  have lit7 : ("9" : Str) = mk [57] := by decide +kernel
  have lit8 : ("1" : Str) = mk [49] := by decide +kernel
  have lit9 : ("  " : Str) = mk [32, 32] := by decide +kernel
  simp only [lit0, lit1, lit2, lit3, lit4, lit5, lit6, lit7, lit8, lit9]
  have hj := joinW_drop (cutW l)
  have h2 := joinW2_len (cutW l)
  rw [cutW_join] at hj h2
  have hcf : ∀ p ∈ cutW l, RowL p ∧ p.length ≤ l.length := fun p hp => ⟨p0.cut hp, cutW_le l p hp⟩
  have hc0 := cutW_ne l
  have hc1 := cutW_len l
  have hc2 : 0 < (cutW l).length := List.length_pos_iff.mpr hc0
  walk_at "au"
  rename_i pl g1 pl0 pl1 F1 P g2 F2 odd g3 odd0 odd1 F3 R g4 F4 w g5 w0 w1 F5
  refine iteD (fun _ => ?_) (fun _ => ?_)
  · walk_at "au"
    exact q _ _ (by walk_at "sd") (by walk_at "sd") (Fr.gov (by assumption) (by omega))
  refine DL.s_next ?_
  walk_at "au"
  refine iteD (fun _ => ?_) (fun _ => ?_)
  · walk_at "au"
    exact q _ _ (by walk_at "sd") (by walk_at "sd") (Fr.gov (by assumption) (by omega))
  refine DL.s_next ?_
  walk_at "au"
  refine iteD (fun _ => ?_) (fun _ => ?_)
  · walk_at "au"
    exact q _ _ (by walk_at "sd") (by walk_at "sd") (Fr.gov (by assumption) (by omega))
  refine DL.s_next ?_
  walk_at "au"
  refine iteD (fun _ => ?_) (fun _ => ?_)
  · walk_at "au"
    exact q _ _ (by walk_at "sd") (by walk_at "sd") (Fr.gov (by assumption) (by omega))
  refine DL.s_next ?_
  walk_at "au"
  refine iteD (fun _ => ?_) (fun _ => ?_)
  · walk_at "au"
    exact q _ _ (by walk_at "sd") (by walk_at "sd") (Fr.gov (by assumption) (by omega))
  refine DL.s_next ?_
  walk_at "au"
  refine iteD (fun _ => ?_) (fun _ => ?_)
  · walk_at "au"
    refine ⟨by rw [TL.len_tl, TL.len_tl, tl_mk, tl_mk]; simp; omega, ?_⟩
    rw [rep_W' l [32, 32]]
    exact q _ _ (by walk_at "sd") (by walk_at "sd") (Fr.gov (by assumption) (by omega))
  refine DL.s_next ?_
  walk_at "au"
  refine iteD (fun _ => ?_) (fun _ => ?_)
  · walk_at "au"
    refine k_ixAL F5 0 rfl ?_ ?_ fun d hd => ?_
    · rw [List.length_map]; omega
    · rw [List.length_map]; omega
    obtain ⟨t, ht, rfl⟩ := List.mem_map.mp hd
    have hr := (hcf t ht).1
    have hl := (hcf t ht).2
    walk_at "au"
    exact q _ _ (by walk_at "sd") (by walk_at "sd") (Fr.gov (by assumption) (by omega))
  refine DL.s_next ?_
  walk_at "au"
  refine iteD (fun _ => ?_) (fun _ => ?_)
  · walk_at "au"
    rename_i r6 g6 F6
    rw [List.length_map, ← List.map_take] at F6
    have e7 : (cutW l).take (((cutW l).length : Int) - 1).toNat = (cutW l).dropLast := by
      rw [List.dropLast_eq_take]
      congr 1
      omega
    rw [e7] at F6
    refine k_joinM (f := fun p => p) l.length F6 0 rfl (fun p hp => (hcf p (List.dropLast_subset _ hp)).2) ?_ fun _ => ?_
    · rw [List.length_dropLast]
      have : ((cutW l).length - 1) * (l.length + [32].length) ≤ 1000 * 1001 := Nat.mul_le_mul (by omega) (by simp; omega)
      omega
    have e8 : ((cutW l).dropLast.map fun p => p) = (cutW l).dropLast := List.map_id' _
    rw [e8]
    have r8 : RowL (TL.joinL [32] (cutW l).dropLast) := .join (rowL_lit (by decide)) fun p hp => (hcf p (List.dropLast_subset _ hp)).1
    generalize TL.joinL [32] (cutW l).dropLast = jj at *
    walk_at "au"
    exact q _ _ (by walk_at "sd") (by walk_at "sd") (Fr.gov (by assumption) (by omega))
  refine DL.s_next ?_
  walk_at "au"
  refine iteD (fun _ => ?_) (fun _ => ?_)
  · walk_at "au"
    rename_i p6 g6 F6 v g7 v1 v2 F7
    refine k_mul1 (by omega) (by omega) ?_
    have v3 : v.toNat ≤ 59 := by omega
    generalize v.toNat = n at *
    walk_at "au"
    exact q _ _ (by walk_at "sd") (by walk_at "sd") (Fr.gov (by assumption) (by omega))
  refine DL.s_next ?_
  walk_at "au"
  refine v_upperM (fun c hc => by have := p0 c hc; omega) (by omega) ?_
  have e9 := List.length_map (as := l) PyProof.Rows.up1
  exact q _ _ (by walk_at "sd") (by walk_at "sd") (Fr.gov (by assumption) (by omega))

/-- .law.read.right(word): 0 word, 1 due, 2 fault, 3 parts -/
abbrev N_Lread_right : List Str := ["word", "due", "fault", "parts"]
theorem st0_Lread_right (a0 : D) : dstart N_Lread_right [a0] = [some a0, none, none, none] := rfl
def w_Lread_right : DTS := (dSeq (dAsg (dCall sp_Lparts [] (dCons (dVar 0) dNil)) (gNm 1))
  (dSeq (dTry "BadWord" 2 (dSetW 3 (dCallW sp_read_word (dCons (dVar 0) dNil))) (fun a d => (dSeq (dIf (dOr (dTest (dOp notND (dVar 1) (dC .non))) (dOr (dNot (dTru (dIsX 2 a d true))) (dTru (dIsX 2 a d false)))) (dRet (dC (.bl false))) dNext)
  (dRet (dAndV (dNotV (dIsX 2 a d false)) (dCall sp_sameC [] (dCons (dXf a d "word" (dVar 2)) (dCons (dVar 0) dNil))))))))
  (dRet (dAndV (dOp notND (dVar 1) (dC .non)) (dAndV (dCall sp_Lsame [] (dCons (dVar 3) (dCons (dVar 1) dNil))) (dCall sp_Lsame [] (dCons (dCall sp_write_word [] (dCons (dVar 1) dNil)) (dCons (dVar 0) dNil))))))))
theorem rd_sameC : ∀ ds g Q, sp_sameC ds g Q → w_sameC { nx := fun _ g => Q .non g, rt := Q } (dstart ["actual", "due", "k"] ds) g := fun ds g Q ⟨a, b, e, q⟩ => by
  subst e
  show w_sameC _ [some (.str a), some (.str b), none] g
  unfold w_sameC
  walk_at "go"
  refine ⟨_, false, rfl, by decide +kernel, ?_⟩
  walk_at "go"
  refine iteB (fun z => by cases z) (fun _ => ?_)
  walk_at "go"
  refine k_isS ?_
  walk_at "go"
  refine iteB (fun z => by cases z) (fun _ => ?_)
  walk_at "go"
  refine ⟨_, false, rfl, by decide +kernel, ?_⟩
  walk_at "go"
  refine iteB (fun z => by cases z) (fun _ => ?_)
  walk_at "go"
  refine ⟨_, false, rfl, by decide +kernel, ?_⟩
  walk_at "go"
  refine iteB (fun z => by cases z) (fun _ => ?_)
  walk_at "go"
  refine ⟨_, true, rfl, by decide +kernel, ?_⟩
  walk_at "go"
  refine ⟨_, rfl, ?_⟩
  show dVar 1 _ _ _
  walk_at "go"
  exact v_eqS q
theorem ok_wD (w : WD) : okT 11 (wD w) := by
  cases w <;> trivial
theorem prs_ok {l : List Nat} {ws : List WD} (h : prs l = some ws) (hl : l.length ≤ 1000) : okT 12 (.tup (ws.map wD)) ∧ ws.length ≤ 100 ∧ ∀ w ∈ ws, (wT w).length ≤ 10000 ∧ ∀ n, w = .inr n → n < 18446744073709551616 := by
  have h4 := (prs_some h).2
  have hj := (prs_some h).1
  refine ⟨⟨by rw [List.length_map]; omega, fun x hx => ?_⟩, by omega, fun w hw => ⟨?_, fun n hn => prs_num h n (hn ▸ hw)⟩⟩
  · obtain ⟨w, _, rfl⟩ := List.mem_map.mp hx
    exact ok_wD w
  · have := joinL_le [32] (ws.map wT) (wT w) (List.mem_map.mpr ⟨w, hw, rfl⟩)
    rw [hj] at this
    omega
def sp_Lread_right : DSp := fun ds g Q => match ds with
  | [.str z] => ∃ l : List Nat, z = mk l ∧ (RowL l) ∧ (l.length ≤ 1000) ∧ ∀ g', Up [] g g' → Q (.bl true) g'
  | _ => False
theorem len_Lread_right : ∀ ds g Q, sp_Lread_right ds g Q → ds.length = 1 := fun ds g Q h => by
  unfold sp_Lread_right at h; split at h <;> first | rfl | exact h.elim
theorem t_Lread_right {k : FK} {g0 g : GS} {lo : FL} {Q : DK} {l : List Nat} (F : Fr k g0 g lo) (p0 : (RowL l)) (p1 : (l.length ≤ 1000)) (h : ∀ g', Fr k g0 g' lo → Q (.bl true) g') : sp_Lread_right ([.str (mk l)] ++ []) g Q := ⟨l, rfl, p0, p1, fun g' u => h g' (F.up u)⟩
local macro_rules | `(tactic| walk_at "call") => `(tactic| ((with_reducible refine t_Lread_right (by assumption) ?_ ?_ ?_); walk_at "sd"; walk_at "sd"; intro _ _))
theorem rd_Lread_right : ∀ ds g Q, sp_Lread_right ds g Q → w_Lread_right { nx := fun _ g => Q .non g, rt := Q } (dstart N_Lread_right ds) g := fun ds g Q h => by
  unfold sp_Lread_right at h; split at h
  case h_2 => exact h.elim
  obtain ⟨l, rfl, p0, p1, q⟩ := h
  have F : Fr .pu g g [] := Fr.startP
  rw [st0_Lread_right]
  unfold w_Lread_right
  walk_at "au"
  refine ⟨l, rfl, p0, p1, fun ws hw g1 U1 => ?_, fun hn d g1 U1 hd => ?_⟩
  · have e : prsD l = .tup (ws.map wD) := by unfold prsD; rw [hw]
    obtain ⟨o1, o2, o3⟩ := prs_ok hw p1
    rw [e]
    have F1 := (Fr.up (by assumption) U1)
    walk_at "au"
    refine t_same o1 ?_
    walk_at "au"
    rw [(prs_some hw).1]
    refine t_same ok_str ?_
    exact q _ (Fr.upv (by assumption))
  · have e : prsD l = .non := by unfold prsD; rw [hn]
    rw [e]
    refine ⟨rfl, fun a => ?_⟩
    walk_at "au"
    refine ⟨_, _, rfl, ?_⟩
    rw [decide_eq_true rfl]
    exact q _ (by first | exact (Fr.upv (by assumption)).trans U1 | exact U1)

/-- .law.row.right(row): 0 row, 1 due -/
abbrev N_Lrow_right : List Str := ["row", "due"]
theorem st0_Lrow_right (a0 : D) : dstart N_Lrow_right [a0] = [some a0, none] := rfl
def w_Lrow_right : DTS := (dSeq (dAsg (dVar 0) (gNm 1))
  (dSeq (dIf (dTest (dOp eqD (dSl (dVar 0) dNo (dPart (dC (.int 1)))) (dC (.str ".")))) (dAsg (dOp addD (dC (.str ".")) (dVar 0)) (gNm 1)) dNext)
  (dRet (dAndV (dCall sp_Lsame [] (dCons (dCall sp_stuffed [] (dCons (dVar 0) dNil)) (dCons (dVar 1) dNil))) (dCall sp_Lsame [] (dCons (dCall sp_unstuffed [] (dCons (dVar 1) dNil)) (dCons (dVar 0) dNil)))))))
def sp_Lrow_right : DSp := fun ds g Q => match ds with
  | [.str z] => ∃ l : List Nat, z = mk l ∧ (l.length ≤ 1000) ∧ ∀ g', Up [] g g' → Q (.bl true) g'
  | _ => False
theorem len_Lrow_right : ∀ ds g Q, sp_Lrow_right ds g Q → ds.length = 1 := fun ds g Q h => by
  unfold sp_Lrow_right at h; split at h <;> first | rfl | exact h.elim
theorem t_Lrow_right {k : FK} {g0 g : GS} {lo : FL} {Q : DK} {l : List Nat} (F : Fr k g0 g lo) (p0 : (l.length ≤ 1000)) (h : ∀ g', Fr k g0 g' lo → Q (.bl true) g') : sp_Lrow_right ([.str (mk l)] ++ []) g Q := ⟨l, rfl, p0, fun g' u => h g' (F.up u)⟩
local macro_rules | `(tactic| walk_at "call") => `(tactic| ((with_reducible refine t_Lrow_right (by assumption) ?_ ?_); walk_at "sd"; intro _ _))
theorem rd_Lrow_right : ∀ ds g Q, sp_Lrow_right ds g Q → w_Lrow_right { nx := fun _ g => Q .non g, rt := Q } (dstart N_Lrow_right ds) g := fun ds g Q h => by
  unfold sp_Lrow_right at h; split at h
  case h_2 => exact h.elim
  obtain ⟨l, rfl, p0, q⟩ := h
  have F : Fr .pu g g [] := Fr.startP
  rw [st0_Lrow_right]
  unfold w_Lrow_right
  have lit0 : ("." : Str) = mk [46] := by decide +kernel
  simp only [lit0]
  walk_at "au"
  have h0 : l.take (Int.toNat 1) = [46] ↔ l.head? = some 46 := by
    show l.take 1 = [46] ↔ _
    cases l with
    | nil => simp
    | cons c r => simp
  refine iteD (fun h1 => ?_) (fun h1 => ?_)
  · have e1 : stuffL l = [46] ++ l := if_pos (h0.mp h1)
    have e2 : unstuffL ([46] ++ l) = l := if_pos rfl
    walk_at "au"
    rw [e1]
    refine t_same ok_str ?_
    walk_at "au"
    rw [e2]
    refine t_same ok_str ?_
    exact q _ (Fr.upv (by assumption))
  · have h2 : ¬ l.head? = some 46 := fun z => h1 (h0.mpr z)
    have e1 : stuffL l = l := if_neg h2
    have e2 : unstuffL l = l := if_neg h2
    walk_at "au"
    rw [e1]
    refine t_same ok_str ?_
    walk_at "au"
    rw [e2]
    refine t_same ok_str ?_
    exact q _ (Fr.upv (by assumption))

/-- law(script): 0 script, 1 source, 2 words, 3 step, 4 word, 5 rows, 6 row -/
abbrev N_law : List Str := ["script", "source", "words", "step", "word", "rows", "row"]
theorem st0_law (a0 : D) : dstart N_law [a0] = [some a0, none, none, none, none, none, none] := rfl
def w_law : DTS := (dSeq (dAsg (dCall sp_Lsource [] (dCons (dVar 0) dNil)) (gNm 1))
  (dSeq (dAsg (dLst (dCons (dC (.str "")) (dCons (dC (.str " ")) (dCons (dC (.str "  ")) (dCons (dC (.str "hello")) (dCons (dC (.str "Open a b")) (dCons (dC (.str "open a")) (dCons (dC (.str "open a b c")) (dCons (dC (.str "offer 1@a 1")) (dCons (dC (.str "offer 1@a 1 2 3")) (dCons (dC (.str "want a b")) dNil))))))))))) (gNm 2))
  (dSeq (dAsg (dOp addD (dVar 2) (dLst (dCons (dC (.str "offer 1@a 1000 2")) (dCons (dC (.str "offer 1@a 1 10000000")) (dCons (dC (.str "offer 1@a -1 2")) (dCons (dC (.str "offer 1@a 01 2")) (dCons (dC (.str "offer 1@a 1 2")) dNil))))))) (gNm 2))
  (dSeq (dAsg (dOp addD (dVar 2) (dLst (dCons (dC (.str "..")) (dCons (dC (.str "close ")) (dCons (dC (.str "ready x")) (dCons (dC (.str "want")) (dCons (dC (.str "body")) (dCons (dC (.str "offer hello 0 0")) (dCons (dC (.str "want a")) (dCons (dC (.str "open a a")) dNil)))))))))) (gNm 2))
  (dSeq (dFor (iRa1 (dC (.int 6))) (gNm 3) (dSeq (dAsg (dCall sp_Lword [] (dCons (dVar 1) dNil)) (gNm 4))
  (dSeq (dDrop (dBM "list" appD (dVar 2) (dCons (dVar 4) dNil)))
  (dSeq (dAsg (dCall sp_Lbent [] (dCons (dVar 1) (dCons (dVar 4) dNil))) (gNm 4))
  (dSeq (dDrop (dBM "list" appD (dVar 2) (dCons (dVar 4) dNil)))
  (dIf (dTest (dOp eqD (dCall sp_Ldraw [] (dCons (dVar 1) (dCons (dC (.int 3)) dNil))) (dC (.int 1)))) (dDrop (dBM "list" appD (dVar 2) (dCons (dCall sp_Lbent [] (dCons (dVar 1) (dCons (dVar 4) dNil))) dNil))) dNext))))))
  (dSeq (dFor (iAny (dVar 2)) (gNm 4) (dIf (dNot (dTru (dCall sp_Lread_right [] (dCons (dVar 4) dNil)))) (dRet (dC (.bl false))) dNext))
  (dSeq (dAsg (dLst (dCons (dC (.str "")) (dCons (dC (.str ".")) (dCons (dC (.str "..")) (dCons (dC (.str "...")) (dCons (dC (.str ".x")) (dCons (dC (.str "x.")) (dCons (dC (.str " .")) (dCons (dC (.str ". .")) (dCons (dC (.str "close")) dNil)))))))))) (gNm 5))
  (dSeq (dFor (iRa1 (dC (.int 4))) (gNm 3) (dSeq (dAsg (dCall sp_Lrow [] (dCons (dVar 1) (dCons (dCall sp_Ldraw [] (dCons (dVar 1) (dCons (dC (.int 30)) dNil))) dNil))) (gNm 6))
  (dAsg (dOp addD (dVar 5) (dLst (dCons (dVar 6) (dCons (dOp addD (dOp mulD (dC (.str ".")) (dCall sp_Ldraw [] (dCons (dVar 1) (dCons (dC (.int 4)) dNil)))) (dVar 6)) (dCons (dCall sp_Lword [] (dCons (dVar 1) dNil)) dNil))))) (gNm 5))))
  (dSeq (dFor (iAny (dVar 5)) (gNm 6) (dIf (dNot (dTru (dCall sp_Lrow_right [] (dCons (dVar 6) dNil)))) (dRet (dC (.bl false))) dNext))
  (dRet (dC (.bl true))))))))))))
theorem app_row {B : Nat} {xs : List DL.D} {d : DL.D} (h : ∀ d ∈ xs, RowD B d) (hd : RowD B d) : ∀ x ∈ xs ++ [d], RowD B x := fun x hx => by
  rcases List.mem_append.mp hx with hx | hx
  · exact h x hx
  · rw [List.mem_singleton.mp hx]; exact hd
theorem join_row {B : Nat} {xs ys : List DL.D} (h : ∀ d ∈ xs, RowD B d) (hy : ∀ d ∈ ys, RowD B d) : ∀ x ∈ xs ++ ys, RowD B x := fun x hx => by
  rcases List.mem_append.mp hx with hx | hx
  · exact h x hx
  · exact hy x hx
def sp_law : DSp := fun ds g Q => match ds with
  | [.klst xs] => ∃ ns : List Int, xs = ns.map D.int ∧ ns.length ≤ 63 ∧ ∀ g', Q (.bl true) g'
  | _ => False
theorem len_law : ∀ ds g Q, sp_law ds g Q → ds.length = 1 := fun ds g Q h => by
  unfold sp_law at h; split at h <;> first | rfl | exact h.elim
theorem fin (K : PySem.W.Frag) (H : L2.Hp) (a : Addr) (ns : List Int) (hn : ns.length ≤ 63) (hO : L2.Only H) (hS : L2.SqL K H a (ns.map L2.V.int)) : lSp K sp_law [.ref a] H (fun v _ => v = .bl true) fun _ _ _ => False :=
  fin_of (sp := sp_law) (fun ns g hn _ => ⟨ns, rfl, hn, fun _ => rfl⟩) K H a ns hn hO hS
theorem rd_law : ∀ ds g Q, sp_law ds g Q → w_law { nx := fun _ g => Q .non g, rt := Q } (dstart N_law ds) g := fun ds g Q h => by
  unfold sp_law at h; split at h
  case h_2 => exact h.elim
  obtain ⟨ns, rfl, hn, q⟩ := h
  rw [st0_law]
  unfold w_law
  have lit0 : ("" : Str) = mk [] := by decide +kernel
  have lit1 : (" " : Str) = mk [32] := by decide +kernel
  have lit2 : ("  " : Str) = mk [32, 32] := by decide +kernel
  have lit3 : ("hello" : Str) = mk [104, 101, 108, 108, 111] := by decide +kernel
  have lit4 : ("Open a b" : Str) = mk [79, 112, 101, 110, 32, 97, 32, 98] := by decide +kernel
  have lit5 : ("open a" : Str) = mk [111, 112, 101, 110, 32, 97] := by decide +kernel
  have lit6 : ("open a b c" : Str) = mk [111, 112, 101, 110, 32, 97, 32, 98, 32, 99] := by decide +kernel
  have lit7 : ("offer 1@a 1" : Str) = mk [111, 102, 102, 101, 114, 32, 49, 64, 97, 32, 49] := by decide +kernel
  have lit8 : ("offer 1@a 1 2 3" : Str) = mk [111, 102, 102, 101, 114, 32, 49, 64, 97, 32, 49, 32, 50, 32, 51] := by decide +kernel
  have lit9 : ("want a b" : Str) = mk [119, 97, 110, 116, 32, 97, 32, 98] := by decide +kernel
  have lit10 : ("." : Str) = mk [46] := by decide +kernel
  have lit11 : (".." : Str) = mk [46, 46] := by decide +kernel
  have lit12 : ("..." : Str) = mk [46, 46, 46] := by decide +kernel
  have lit13 : (".x" : Str) = mk [46, 120] := by decide +kernel
  have lit14 : ("x." : Str) = mk [120, 46] := by decide +kernel
  have lit15 : (" ." : Str) = mk [32, 46] := by decide +kernel
  have lit16 : (". ." : Str) = mk [46, 32, 46] := by decide +kernel
  have lit17 : ("close" : Str) = mk [99, 108, 111, 115, 101] := by decide +kernel
  have lit18 : ("offer 1@a 1000 2" : Str) = mk [111, 102, 102, 101, 114, 32, 49, 64, 97, 32, 49, 48, 48, 48, 32, 50] := by decide +kernel
  have lit19 : ("offer 1@a 1 10000000" : Str) = mk [111, 102, 102, 101, 114, 32, 49, 64, 97, 32, 49, 32, 49, 48, 48, 48, 48, 48, 48, 48] := by decide +kernel
  have lit20 : ("offer 1@a -1 2" : Str) = mk [111, 102, 102, 101, 114, 32, 49, 64, 97, 32, 45, 49, 32, 50] := by decide +kernel
  have lit21 : ("offer 1@a 01 2" : Str) = mk [111, 102, 102, 101, 114, 32, 49, 64, 97, 32, 48, 49, 32, 50] := by decide +kernel
  have lit22 : ("offer 1@a 1 2" : Str) = mk [111, 102, 102, 101, 114, 32, 49, 64, 97, 32, 49, 32, 50] := by decide +kernel
  have lit23 : ("close " : Str) = mk [99, 108, 111, 115, 101, 32] := by decide +kernel
  have lit24 : ("ready x" : Str) = mk [114, 101, 97, 100, 121, 32, 120] := by decide +kernel
  have lit25 : ("want" : Str) = mk [119, 97, 110, 116] := by decide +kernel
  have lit26 : ("body" : Str) = mk [98, 111, 100, 121] := by decide +kernel
  have lit27 : ("offer hello 0 0" : Str) = mk [111, 102, 102, 101, 114, 32, 104, 101, 108, 108, 111, 32, 48, 32, 48] := by decide +kernel
  have lit28 : ("want a" : Str) = mk [119, 97, 110, 116, 32, 97] := by decide +kernel
  have lit29 : ("open a a" : Str) = mk [111, 112, 101, 110, 32, 97, 32, 97] := by decide +kernel
  simp only [lit0, lit1, lit2, lit3, lit4, lit5, lit6, lit7, lit8, lit9, lit10, lit11, lit12, lit13, lit14, lit15, lit16, lit17, lit18, lit19, lit20, lit21, lit22, lit23, lit24, lit25, lit26, lit27, lit28, lit29]
  walk_at "au"
  refine ⟨ns, rfl, hn, fun s g1 es U1 hS f1 f2 => ?_⟩
  have F : Fr (.go s 0) g1 g1 [] := Fr.startG hS
  walk_at "au"
  rename_i p1 g2 F2 p2 g3 F3 r1 g4 F4 p3 g5 F5 r2 g6 F6
  obtain ⟨xs, hxl, hxr, F7⟩ : ∃ xs : List DL.D, xs.length = 23 ∧ (∀ d ∈ xs, RowD 1000 d) ∧ Fr (.go s 0) g1 g6 [(r2, .lst xs, true)] := ⟨_, rfl, by
    refine join_row (join_row ?_ ?_) ?_ <;> walk_at "rowd", F6.sub (.cons₂ _ (List.nil_sublist _))⟩
  clear F2 F3 F4 F5 F6
  refine for2 3 4 (fun i _ _ g' => ∃ xs : List DL.D, xs.length ≤ 23 + 3 * i ∧ (∀ d ∈ xs, RowD 1000 d) ∧ Fr (.go s (40000 * i)) g1 g' [(r2, .lst xs, true)]) ⟨_, _, rfl, xs, by omega, hxr, F7.le (by omega)⟩ (fun _ _ _ _ _ _ => trivial) (fun i d x3 x4 g7 hd hI => ?_) (fun x3 x4 g7 hI => ?_)
  · obtain ⟨xs, hl, hr, F8⟩ := hI
    obtain ⟨hi, rfl⟩ := ran_get hd
    dsimp only [List.set_cons_succ, List.set_cons_zero]
    walk_at "au"
    rename_i w1 g8 w2 w3 F9 g9 F10 b1 g10 b2 b3 F11 g11 F12 v g12 v0 v1 F13
    refine iteD (fun _ => ?_) (fun _ => ?_)
    · walk_at "au"
      refine ⟨_, _, rfl, _, ?_, app_row (app_row (app_row hr ⟨_, rfl, w2, by omega⟩) ⟨_, rfl, b2, by omega⟩) ⟨_, rfl, by assumption, by omega⟩, Fr.le (by assumption) (by omega)⟩
      simp only [List.length_append, List.length_singleton]
      omega
    · walk_at "au"
      refine ⟨_, _, rfl, _, ?_, app_row (app_row hr ⟨_, rfl, w2, by omega⟩) ⟨_, rfl, b2, by omega⟩, Fr.le (by assumption) (by omega)⟩
      simp only [List.length_append, List.length_singleton]
      omega
  obtain ⟨ys, hyl, hyr, F8⟩ := hI
  rw [ran_len] at hyl F8
  have e6 : (6 : Int).toNat = 6 := rfl
  rw [e6] at hyl F8
  clear F7 hxr hxl
  dsimp only [List.set_cons_succ, List.set_cons_zero]
  walk_at "au"
  refine s_anyL ?_
  walk_at "au"
  refine for1 4 (fun i _ g' => Fr (.go s 240000) g1 g' [(r2, .lst ys, true)]) ⟨_, rfl, F8.le (by omega)⟩ (fun _ _ g' _ h => .inl (h.at 0 rfl)) (fun i d x4 g8 hd F9 => ?_) (fun x4 g8 F9 => ?_)
  · obtain ⟨l, rfl, hl1, hl2⟩ := hyr d (List.mem_of_getElem? hd)
    dsimp only [List.set_cons_succ, List.set_cons_zero]
    walk_at "au"
    refine t_Lread_right F9 hl1 hl2 fun g9 F10 => ?_
    walk_at "au"
    exact ⟨_, rfl, by assumption⟩
  dsimp only [List.set_cons_succ, List.set_cons_zero]
  walk_at "au"
  rename_i P g9 F10
  obtain ⟨zs, hzl, hzr, F11⟩ : ∃ zs : List DL.D, zs.length = 9 ∧ (∀ d ∈ zs, RowD 1000 d) ∧ Fr (.go s 240000) g1 g9 [(P, .lst zs, true)] := ⟨_, rfl, by walk_at "rowd", F10.sub (.cons₂ _ (List.nil_sublist _))⟩
  clear F10 F9 F8
  refine for3 3 5 6 (fun i _ x5 _ g' => ∃ R zs, x5 = some (.ref R) ∧ zs.length ≤ 9 + 3 * i ∧ (∀ d ∈ zs, RowD 1000 d) ∧ Fr (.go s (240000 + 50000 * i)) g1 g' [(R, .lst zs, true)]) ⟨_, _, _, rfl, P, zs, rfl, by omega, hzr, F11.le (by omega)⟩ (fun _ _ _ _ _ _ _ => trivial) (fun i d x3 x5 x6 g10 hd hI => ?_) (fun x3 x5 x6 g10 hI => ?_)
  · obtain ⟨R, zs, rfl, hl, hr, F12⟩ := hI
    obtain ⟨hi, rfl⟩ := ran_get hd
    dsimp only [List.set_cons_succ, List.set_cons_zero]
    walk_at "au"
    rename_i v g11 v0 v1 F13 row g12 rw1 rw2 F14 k g13 k0 k1 F15
    refine k_mul1 (by omega) (by omega) ?_
    have k3 : k.toNat ≤ 3 := by omega
    generalize k.toNat = n at *
    walk_at "au"
    rename_i rr g14 rr1 rr2 F16 P2 g15 F17 R2 g16 F18
    have hz : ∀ d ∈ zs ++ [DL.D.str (mk row), .str (mk (List.replicate n 46 ++ row)), .str (mk rr)], RowD 1000 d := join_row hr (rowD_cons ⟨_, rfl, rw1, by omega⟩ (rowD_cons ⟨_, rfl, by walk_at "rows", by rw [List.length_append, List.length_replicate]; omega⟩ (rowD_cons ⟨_, rfl, rr1, by omega⟩ rowD_nil)))
    refine ⟨_, _, _, rfl, R2, _, rfl, ?_, hz, (F18.sub (.cons₂ _ (List.nil_sublist _))).le (by omega)⟩
    simp only [List.length_append, List.length_cons, List.length_nil]
    omega
  obtain ⟨R, ts, rfl, htl, htr, F12⟩ := hI
  rw [ran_len] at htl F12
  have e4 : (4 : Int).toNat = 4 := rfl
  rw [e4] at htl F12
  dsimp only [List.set_cons_succ, List.set_cons_zero]
  walk_at "au"
  refine s_anyL ?_
  walk_at "au"
  refine for1 6 (fun i _ g' => Fr (.go s 500000) g1 g' [(R, .lst ts, true)]) ⟨_, rfl, F12.le (by omega)⟩ (fun _ _ g' _ h => .inl (h.at 0 rfl)) (fun i d x6 g11 hd F13 => ?_) (fun x6 g11 F13 => ?_)
  · obtain ⟨l, rfl, hl1, hl2⟩ := htr d (List.mem_of_getElem? hd)
    dsimp only [List.set_cons_succ, List.set_cons_zero]
    walk_at "au"
    exact ⟨_, rfl, by assumption⟩
  walk_at "au"
  exact q _

open PySem PySem.Spec PyProof.Rows L2 DL
def topS (i : Nat) : Stmt := PySem.Challenge.pw_criermoot_k39_words_read.main.body.getD i (.Pass ⟨0, 0, 0, 0⟩)
def clsB : Stmt → List Stmt
  | .ClassDef (body := b) .. => b
  | _ => []
abbrev s_is_row : Stmt := topS 9
theorem sc_is_row : FnScope N_is_row ["text"] (defScope s_is_row) := ⟨rfl, rfl, rfl, by decide +kernel, rfl, by decide +kernel, by decide +kernel⟩
abbrev s_is_plain_word : Stmt := topS 10
theorem sc_is_plain_word : FnScope N_is_plain_word ["text"] (defScope s_is_plain_word) := ⟨rfl, rfl, rfl, by decide +kernel, rfl, by decide +kernel, by decide +kernel⟩
abbrev s_is_name : Stmt := topS 11
theorem sc_is_name : FnScope N_is_name ["text"] (defScope s_is_name) := ⟨rfl, rfl, rfl, by decide +kernel, rfl, by decide +kernel, by decide +kernel⟩
abbrev s_is_number : Stmt := topS 12
theorem sc_is_number : FnScope N_is_number ["text"] (defScope s_is_number) := ⟨rfl, rfl, rfl, by decide +kernel, rfl, by decide +kernel, by decide +kernel⟩
abbrev s_is_key : Stmt := topS 19
theorem sc_is_key : FnScope N_is_key ["text"] (defScope s_is_key) := ⟨rfl, rfl, rfl, by decide +kernel, rfl, by decide +kernel, by decide +kernel⟩
abbrev s_is_number_of : Stmt := topS 20
theorem sc_is_number_of : FnScope N_is_number_of ["text", "digits"] (defScope s_is_number_of) := ⟨rfl, rfl, rfl, by decide +kernel, rfl, by decide +kernel, by decide +kernel⟩
abbrev s_stuffed : Stmt := topS 23
theorem sc_stuffed : FnScope N_stuffed ["row"] (defScope s_stuffed) := ⟨rfl, rfl, rfl, by decide +kernel, rfl, by decide +kernel, by decide +kernel⟩
abbrev s_unstuffed : Stmt := topS 24
theorem sc_unstuffed : FnScope N_unstuffed ["word"] (defScope s_unstuffed) := ⟨rfl, rfl, rfl, by decide +kernel, rfl, by decide +kernel, by decide +kernel⟩
abbrev s_Lmix : Stmt := topS 26
theorem sc_Lmix : FnScope N_Lmix ["seed", "turn"] (defScope s_Lmix) := ⟨rfl, rfl, rfl, by decide +kernel, rfl, by decide +kernel, by decide +kernel⟩
abbrev s_Lsource : Stmt := topS 27
theorem sc_Lsource : FnScope N_Lsource ["script"] (defScope s_Lsource) := ⟨rfl, rfl, rfl, by decide +kernel, rfl, by decide +kernel, by decide +kernel⟩
abbrev s_Ldraw : Stmt := topS 28
theorem sc_Ldraw : FnScope N_Ldraw ["source", "many"] (defScope s_Ldraw) := ⟨rfl, rfl, rfl, by decide +kernel, rfl, by decide +kernel, by decide +kernel⟩
abbrev s_Lpick : Stmt := topS 29
theorem sc_Lpick : FnScope N_Lpick ["source", "row"] (defScope s_Lpick) := ⟨rfl, rfl, rfl, by decide +kernel, rfl, by decide +kernel, by decide +kernel⟩
abbrev s_Lnew_name : Stmt := topS 30
theorem sc_Lnew_name : FnScope N_Lnew_name ["source", "used"] (defScope s_Lnew_name) := ⟨rfl, rfl, rfl, by decide +kernel, rfl, by decide +kernel, by decide +kernel⟩
abbrev s_Lrow : Stmt := topS 31
theorem sc_Lrow : FnScope N_Lrow ["source", "size"] (defScope s_Lrow) := ⟨rfl, rfl, rfl, by decide +kernel, rfl, by decide +kernel, by decide +kernel⟩
abbrev s_Lis_int : Stmt := topS 32
theorem sc_Lis_int : FnScope N_Lis_int ["value"] (defScope s_Lis_int) := ⟨rfl, rfl, rfl, by decide +kernel, rfl, by decide +kernel, by decide +kernel⟩
abbrev s_Lsame : Stmt := topS 33
theorem sc_Lsame : FnScope N_Lsame ["actual", "due"] (defScope s_Lsame) := ⟨rfl, rfl, rfl, by decide +kernel, rfl, by decide +kernel, by decide +kernel⟩
abbrev s_read_word : Stmt := topS 21
theorem sc_read_word : FnScope N_read_word ["word"] (defScope s_read_word) := ⟨rfl, rfl, rfl, by decide +kernel, rfl, by decide +kernel, by decide +kernel⟩
abbrev s_write_word : Stmt := topS 22
theorem sc_write_word : FnScope N_write_word ["parts"] (defScope s_write_word) := ⟨rfl, rfl, rfl, by decide +kernel, rfl, by decide +kernel, by decide +kernel⟩
abbrev s_Lis_name : Stmt := topS 34
theorem sc_Lis_name : FnScope N_Lis_name ["text"] (defScope s_Lis_name) := ⟨rfl, rfl, rfl, by decide +kernel, rfl, by decide +kernel, by decide +kernel⟩
abbrev s_Lnumber : Stmt := topS 35
theorem sc_Lnumber : FnScope N_Lnumber ["text", "digits"] (defScope s_Lnumber) := ⟨rfl, rfl, rfl, by decide +kernel, rfl, by decide +kernel, by decide +kernel⟩
abbrev s_Lparts : Stmt := topS 36
theorem sc_Lparts : FnScope N_Lparts ["word"] (defScope s_Lparts) := ⟨rfl, rfl, rfl, by decide +kernel, rfl, by decide +kernel, by decide +kernel⟩
abbrev s_Lkey : Stmt := topS 37
theorem sc_Lkey : FnScope N_Lkey ["source"] (defScope s_Lkey) := ⟨rfl, rfl, rfl, by decide +kernel, rfl, by decide +kernel, by decide +kernel⟩
abbrev s_Lword : Stmt := topS 38
theorem sc_Lword : FnScope N_Lword ["source"] (defScope s_Lword) := ⟨rfl, rfl, rfl, by decide +kernel, rfl, by decide +kernel, by decide +kernel⟩
abbrev s_Lbent : Stmt := topS 39
theorem sc_Lbent : FnScope N_Lbent ["source", "word"] (defScope s_Lbent) := ⟨rfl, rfl, rfl, by decide +kernel, rfl, by decide +kernel, by decide +kernel⟩
abbrev s_Lread_right : Stmt := topS 40
theorem sc_Lread_right : FnScope N_Lread_right ["word"] (defScope s_Lread_right) := ⟨rfl, rfl, rfl, by decide +kernel, rfl, by decide +kernel, by decide +kernel⟩
abbrev s_Lrow_right : Stmt := topS 41
theorem sc_Lrow_right : FnScope N_Lrow_right ["row"] (defScope s_Lrow_right) := ⟨rfl, rfl, rfl, by decide +kernel, rfl, by decide +kernel, by decide +kernel⟩
abbrev s_law : Stmt := topS 42
theorem sc_law : FnScope N_law ["script"] (defScope s_law) := ⟨rfl, rfl, rfl, by decide +kernel, rfl, by decide +kernel, by decide +kernel⟩
abbrev sX_BadWord : Stmt := (clsB (topS 4)).getD 0 (.Pass ⟨0, 0, 0, 0⟩)
theorem bdX_BadWord : ∃ (m : Str) (j1 : Nat) (p0 p1 p2 p3 p4 p5 p6 p7 p8 p9 : Pos), defBody sX_BadWord = [.Expr (.Call (.Attribute (.Call (.Name "super" p0) [] [] p1) "__init__" p2) [.Constant (.str m) j1 p3] [] p4) p5, .Assign [.Attribute (.Name "self" p6) "word" p7] (.Name "word" p8) p9] ∧ (p2.endLine == p4.line) = true := ⟨_, _, _, _, _, _, _, _, _, _, _, _, rfl, rfl⟩
structure Fx (P : Program) (K : PySem.W.Frag) (mg : Str → Option Value) where
  gX_BadWord : mg "BadWord" = some (.ref (clsA K "BadWord"))
  gX_LimitError : mg "LimitError" = some (.ref (clsA K "LimitError"))
  gX_MootError : mg "MootError" = some (.ref (clsA K "MootError"))
  gX_TextError : mg "TextError" = some (.ref (clsA K "TextError"))
  fI_BadWord : Addr
  cc_BadWord : Addr
  cd_BadWord : Addr
  dX_BadWord : FuncData
  X_BadWord : XI P K mg (clsA K "BadWord") fI_BadWord cc_BadWord cd_BadWord "BadWord.__init__" "word" sX_BadWord dX_BadWord
  iC_BadWord : PySem.W.findIn K (.ref (clsA K "BadWord")) "__init__" = some (some (.ref fI_BadWord))
  tI_BadWord : PySem.W.typeIn K (.ref fI_BadWord) = some (.type "function")
  bX_BadWord : Binds K dX_BadWord ["self", "word"] []
  xc_BadWord : ExcC K (clsA K "BadWord")
  xf_BadWord : XfC K (clsA K "BadWord")
  ex_BadWord_MootError : PySem.W.exmOne K (.ref (clsA K "BadWord")) (.ref (clsA K "MootError")) = some true
  k_BadWord_BadWord : PySem.W.kitOne K (.ref (clsA K "BadWord")) (.ref (clsA K "BadWord")) = some true
  k_BadWord_LimitError : PySem.W.kitOne K (.ref (clsA K "BadWord")) (.ref (clsA K "LimitError")) = some false
  k_BadWord_TextError : PySem.W.kitOne K (.ref (clsA K "BadWord")) (.ref (clsA K "TextError")) = some false
  a_is_row : Addr
  d_is_row : FuncData
  F_is_row : Fun K "is_row" "is_row" s_is_row a_is_row d_is_row
  g_is_row : mg "is_row" = some (.ref a_is_row)
  b_is_row : Binds K d_is_row ["text"] []
  a_is_plain_word : Addr
  d_is_plain_word : FuncData
  F_is_plain_word : Fun K "is_plain_word" "is_plain_word" s_is_plain_word a_is_plain_word d_is_plain_word
  g_is_plain_word : mg "is_plain_word" = some (.ref a_is_plain_word)
  b_is_plain_word : Binds K d_is_plain_word ["text"] []
  a_is_name : Addr
  d_is_name : FuncData
  F_is_name : Fun K "is_name" "is_name" s_is_name a_is_name d_is_name
  g_is_name : mg "is_name" = some (.ref a_is_name)
  b_is_name : Binds K d_is_name ["text"] []
  a_is_number : Addr
  d_is_number : FuncData
  F_is_number : Fun K "is_number" "is_number" s_is_number a_is_number d_is_number
  g_is_number : mg "is_number" = some (.ref a_is_number)
  b_is_number : Binds K d_is_number ["text"] []
  a_is_key : Addr
  d_is_key : FuncData
  F_is_key : Fun K "is_key" "is_key" s_is_key a_is_key d_is_key
  g_is_key : mg "is_key" = some (.ref a_is_key)
  b_is_key : Binds K d_is_key ["text"] []
  a_is_number_of : Addr
  d_is_number_of : FuncData
  F_is_number_of : Fun K "is_number_of" "is_number_of" s_is_number_of a_is_number_of d_is_number_of
  g_is_number_of : mg "is_number_of" = some (.ref a_is_number_of)
  b_is_number_of : Binds K d_is_number_of ["text", "digits"] []
  a_stuffed : Addr
  d_stuffed : FuncData
  F_stuffed : Fun K "stuffed" "stuffed" s_stuffed a_stuffed d_stuffed
  g_stuffed : mg "stuffed" = some (.ref a_stuffed)
  b_stuffed : Binds K d_stuffed ["row"] []
  a_unstuffed : Addr
  d_unstuffed : FuncData
  F_unstuffed : Fun K "unstuffed" "unstuffed" s_unstuffed a_unstuffed d_unstuffed
  g_unstuffed : mg "unstuffed" = some (.ref a_unstuffed)
  b_unstuffed : Binds K d_unstuffed ["word"] []
  a_Lmix : Addr
  d_Lmix : FuncData
  F_Lmix : Fun K "_law_mix" "_law_mix" s_Lmix a_Lmix d_Lmix
  g_Lmix : mg "_law_mix" = some (.ref a_Lmix)
  b_Lmix : Binds K d_Lmix ["seed", "turn"] []
  a_Lsource : Addr
  d_Lsource : FuncData
  F_Lsource : Fun K "_law_source" "_law_source" s_Lsource a_Lsource d_Lsource
  g_Lsource : mg "_law_source" = some (.ref a_Lsource)
  b_Lsource : Binds K d_Lsource ["script"] []
  a_Ldraw : Addr
  d_Ldraw : FuncData
  F_Ldraw : Fun K "_law_draw" "_law_draw" s_Ldraw a_Ldraw d_Ldraw
  g_Ldraw : mg "_law_draw" = some (.ref a_Ldraw)
  b_Ldraw : Binds K d_Ldraw ["source", "many"] []
  a_Lpick : Addr
  d_Lpick : FuncData
  F_Lpick : Fun K "_law_pick" "_law_pick" s_Lpick a_Lpick d_Lpick
  g_Lpick : mg "_law_pick" = some (.ref a_Lpick)
  b_Lpick : Binds K d_Lpick ["source", "row"] []
  a_Lnew_name : Addr
  d_Lnew_name : FuncData
  F_Lnew_name : Fun K "_law_new_name" "_law_new_name" s_Lnew_name a_Lnew_name d_Lnew_name
  g_Lnew_name : mg "_law_new_name" = some (.ref a_Lnew_name)
  b_Lnew_name : Binds K d_Lnew_name ["source", "used"] []
  a_Lrow : Addr
  d_Lrow : FuncData
  F_Lrow : Fun K "_law_row" "_law_row" s_Lrow a_Lrow d_Lrow
  g_Lrow : mg "_law_row" = some (.ref a_Lrow)
  b_Lrow : Binds K d_Lrow ["source", "size"] []
  a_Lis_int : Addr
  d_Lis_int : FuncData
  F_Lis_int : Fun K "_law_is_int" "_law_is_int" s_Lis_int a_Lis_int d_Lis_int
  g_Lis_int : mg "_law_is_int" = some (.ref a_Lis_int)
  b_Lis_int : Binds K d_Lis_int ["value"] []
  a_Lsame : Addr
  d_Lsame : FuncData
  F_Lsame : Fun K "_law_same" "_law_same" s_Lsame a_Lsame d_Lsame
  g_Lsame : mg "_law_same" = some (.ref a_Lsame)
  b_Lsame : Binds K d_Lsame ["actual", "due"] []
  a_read_word : Addr
  d_read_word : FuncData
  F_read_word : Fun K "read_word" "read_word" s_read_word a_read_word d_read_word
  g_read_word : mg "read_word" = some (.ref a_read_word)
  b_read_word : Binds K d_read_word ["word"] []
  a_write_word : Addr
  d_write_word : FuncData
  F_write_word : Fun K "write_word" "write_word" s_write_word a_write_word d_write_word
  g_write_word : mg "write_word" = some (.ref a_write_word)
  b_write_word : Binds K d_write_word ["parts"] []
  a_Lis_name : Addr
  d_Lis_name : FuncData
  F_Lis_name : Fun K "_law_is_name" "_law_is_name" s_Lis_name a_Lis_name d_Lis_name
  g_Lis_name : mg "_law_is_name" = some (.ref a_Lis_name)
  b_Lis_name : Binds K d_Lis_name ["text"] []
  a_Lnumber : Addr
  d_Lnumber : FuncData
  F_Lnumber : Fun K "_law_number" "_law_number" s_Lnumber a_Lnumber d_Lnumber
  g_Lnumber : mg "_law_number" = some (.ref a_Lnumber)
  b_Lnumber : Binds K d_Lnumber ["text", "digits"] []
  a_Lparts : Addr
  d_Lparts : FuncData
  F_Lparts : Fun K "_law_parts" "_law_parts" s_Lparts a_Lparts d_Lparts
  g_Lparts : mg "_law_parts" = some (.ref a_Lparts)
  b_Lparts : Binds K d_Lparts ["word"] []
  a_Lkey : Addr
  d_Lkey : FuncData
  F_Lkey : Fun K "_law_key" "_law_key" s_Lkey a_Lkey d_Lkey
  g_Lkey : mg "_law_key" = some (.ref a_Lkey)
  b_Lkey : Binds K d_Lkey ["source"] []
  a_Lword : Addr
  d_Lword : FuncData
  F_Lword : Fun K "_law_word" "_law_word" s_Lword a_Lword d_Lword
  g_Lword : mg "_law_word" = some (.ref a_Lword)
  b_Lword : Binds K d_Lword ["source"] []
  a_Lbent : Addr
  d_Lbent : FuncData
  F_Lbent : Fun K "_law_bent" "_law_bent" s_Lbent a_Lbent d_Lbent
  g_Lbent : mg "_law_bent" = some (.ref a_Lbent)
  b_Lbent : Binds K d_Lbent ["source", "word"] []
  a_Lread_right : Addr
  d_Lread_right : FuncData
  F_Lread_right : Fun K "_law_read_right" "_law_read_right" s_Lread_right a_Lread_right d_Lread_right
  g_Lread_right : mg "_law_read_right" = some (.ref a_Lread_right)
  b_Lread_right : Binds K d_Lread_right ["word"] []
  a_Lrow_right : Addr
  d_Lrow_right : FuncData
  F_Lrow_right : Fun K "_law_row_right" "_law_row_right" s_Lrow_right a_Lrow_right d_Lrow_right
  g_Lrow_right : mg "_law_row_right" = some (.ref a_Lrow_right)
  b_Lrow_right : Binds K d_Lrow_right ["row"] []
  a_law : Addr
  d_law : FuncData
  F_law : Fun K "law" "law" s_law a_law d_law
  g_law : mg "law" = some (.ref a_law)
  b_law : Binds K d_law ["script"] []
  m_abs : mg "abs" = none
  m_all : mg "all" = none
  m_bool : mg "bool" = none
  m_int : mg "int" = none
  m_isinstance : mg "isinstance" = none
  m_len : mg "len" = none
  m_list : mg "list" = none
  m_ord : mg "ord" = none
  m_range : mg "range" = none
  m_str : mg "str" = none
  m_tuple : mg "tuple" = none
  t_DATE_DIGITS : Tok
  c_DATE_DIGITS : mg "DATE_DIGITS" = some (.int (7) t_DATE_DIGITS)
  t_DIGITS : Tok
  c_DIGITS : mg "DIGITS" = some (.str "0123456789" t_DIGITS)
  t_HOPS_DIGITS : Tok
  c_HOPS_DIGITS : mg "HOPS_DIGITS" = some (.int (3) t_HOPS_DIGITS)
  t_LETTERS : Tok
  c_LETTERS : mg "LETTERS" = some (.str "abcdefghijklmnopqrstuvwxyz" t_LETTERS)
  t_MOST_KEY : Tok
  c_MOST_KEY : mg "MOST_KEY" = some (.int (60) t_MOST_KEY)
  t_MOST_NAME : Tok
  c_MOST_NAME : mg "MOST_NAME" = some (.int (8) t_MOST_NAME)
  o_a_BARE : Addr
  c_BARE : mg "BARE" = some (.ref o_a_BARE)
  o_BARE : GlT K o_a_BARE [".", "close", "ready", "closed"]
  o_a_KEYED : Addr
  c_KEYED : mg "KEYED" = some (.ref o_a_KEYED)
  o_KEYED : GlT K o_a_KEYED ["bring", "body", "clear", "want", "have", "old", "took", "spoilt", "cleared"]
section
variable {P : Program} {w : World} {K : PySem.W.Frag} {mg : Str → Option Value} {base : Heap}
theorem ok_is_row (T : Fx P K mg) : FnOk P w K mg base CX0 1 T.a_is_row T.d_is_row ["text"] (lSp K sp_is_row) :=
  okD T.F_is_row sc_is_row len_is_row rd_is_row fun cdv A outer s H E hr =>
    (dss_one (ds_ret (de_callB (call_allD rfl) (by rfl) T.m_all (by decide +kernel) (da_cons (de_lc (x := "sign") (j := 1) rfl sc_is_row.nd (di_any (de_var (pv 0))) (blkOk_by (own := [("sign", 1)]) (N := N_is_row) (sc := defScope s_is_row) (by decide +kernel)) (fun _ _ _ _ _ => pg_name (i := 1) sc_is_row.nd rfl (by first | exact .inl rfl | exact .inr rfl)) (fun _ _ _ _ _ => dts_nil) (fun _ _ _ _ _ => (de_and (de_chain (op_leD hr.units) (op_leD hr.units) de_str (de_var (pv 1)) de_str) (de_one (de_cmp (op_neDD hr.units) (de_callB call_ordD (by rfl) T.m_ord (by decide +kernel) (da_cons (de_var (pv 1)) da_nil)) de_int (nomark _)))))) da_nil))))
theorem ok_is_plain_word (T : Fx P K mg) : FnOk P w K mg base CX0 1 T.a_is_plain_word T.d_is_plain_word ["text"] (lSp K sp_is_plain_word) :=
  okD T.F_is_plain_word sc_is_plain_word len_is_plain_word rd_is_plain_word fun cdv A outer s H E hr =>
    (dss_cons (ds_if (DW.dt (dw_or (dt_cmp (op_eqDD hr.units) (de_var (pv 0)) de_str (nomark _)) (dw_or1 (dt_cmp (op_notInDD (u65 hr)) (de_ix (de_var (pv 0)) de_int (fun _ _ => rfl)) (de_globS (by rfl) T.c_LETTERS ⟨_, rfl⟩) (by rfl))))) (dss_one (ds_ret de_bl)) dss_nil)
    (dss_one (ds_ret (de_callB (call_allD rfl) (by rfl) T.m_all (by decide +kernel) (da_cons (de_lc (x := "sign") (j := 1) rfl sc_is_plain_word.nd (di_any (de_var (pv 0))) (blkOk_by (own := [("sign", 1)]) (N := N_is_plain_word) (sc := defScope s_is_plain_word) (by decide +kernel)) (fun _ _ _ _ _ => pg_name (i := 1) sc_is_plain_word.nd rfl (by first | exact .inl rfl | exact .inr rfl)) (fun _ _ _ _ _ => dts_nil) (fun _ _ _ _ _ => (de_or (de_cmp (op_inDD (u65 hr)) (de_var (pv 1)) (de_globS (by rfl) T.c_LETTERS ⟨_, rfl⟩) (by rfl)) (de_one (de_cmp (op_inDD (u65 hr)) (de_var (pv 1)) (de_globS (by rfl) T.c_DIGITS ⟨_, rfl⟩) (by rfl)))))) da_nil)))))
theorem ok_is_name (T : Fx P K mg) : FnOk P w K mg base CX0 2 T.a_is_name T.d_is_name ["text"] (lSp K sp_is_name) :=
  okD T.F_is_name sc_is_name len_is_name rd_is_name fun cdv A outer s H E hr =>
    (dss_one (ds_ret (de_and (de_cmp (op_leD hr.units) (de_callB call_lenD (by rfl) T.m_len (by decide +kernel) (da_cons (de_var (pv 0)) da_nil)) (de_globI (by rfl) T.c_MOST_NAME ⟨_, rfl⟩) (nomark _)) (de_one (de_call ((ok_is_plain_word T).mono (by decide)) hr (by rfl) T.g_is_plain_word T.F_is_plain_word.kp T.b_is_plain_word .nil (fun _ => .nil) (da_cons (de_var (pv 0)) da_nil))))))
theorem ok_is_number (T : Fx P K mg) : FnOk P w K mg base CX0 1 T.a_is_number T.d_is_number ["text"] (lSp K sp_is_number) :=
  okD T.F_is_number sc_is_number len_is_number rd_is_number fun cdv A outer s H E hr =>
    (dss_cons (ds_if (DW.dt (dw_or (dt_cmp (op_eqDD hr.units) (de_var (pv 0)) de_str (nomark _)) (dw_or1 (dt_not (dt_tru (de_callB (call_allD rfl) (by rfl) T.m_all (by decide +kernel) (da_cons (de_lc (x := "sign") (j := 1) rfl sc_is_number.nd (di_any (de_var (pv 0))) (blkOk_by (own := [("sign", 1)]) (N := N_is_number) (sc := defScope s_is_number) (by decide +kernel)) (fun _ _ _ _ _ => pg_name (i := 1) sc_is_number.nd rfl (by first | exact .inl rfl | exact .inr rfl)) (fun _ _ _ _ _ => dts_nil) (fun _ _ _ _ _ => (de_cmp (op_inDD (u65 hr)) (de_var (pv 1)) (de_globS (by rfl) T.c_DIGITS ⟨_, rfl⟩) (by rfl)))) da_nil))))))) (dss_one (ds_ret de_bl)) dss_nil)
    (dss_one (ds_ret (de_or (de_cmp (op_eqDD hr.units) (de_var (pv 0)) de_str (nomark _)) (de_one (de_cmp (op_neDD hr.units) (de_ix (de_var (pv 0)) de_int (fun _ _ => rfl)) de_str (nomark _)))))))
theorem ok_is_key (T : Fx P K mg) : FnOk P w K mg base CX0 2 T.a_is_key T.d_is_key ["text"] (lSp K sp_is_key) :=
  okD T.F_is_key sc_is_key len_is_key rd_is_key fun cdv A outer s H E hr =>
    (dss_one (ds_ret (de_and (de_chain (op_leD hr.units) (op_leD hr.units) de_int (de_callB call_lenD (by rfl) T.m_len (by decide +kernel) (da_cons (de_var (pv 0)) da_nil)) (de_globI (by rfl) T.c_MOST_KEY ⟨_, rfl⟩)) (de_and (de_cmp (op_notInDD (u65 hr)) de_str (de_var (pv 0)) (by rfl)) (de_one (de_call ((ok_is_row T).mono (by decide)) hr (by rfl) T.g_is_row T.F_is_row.kp T.b_is_row .nil (fun _ => .nil) (da_cons (de_var (pv 0)) da_nil)))))))
theorem ok_is_number_of (T : Fx P K mg) : FnOk P w K mg base CX0 2 T.a_is_number_of T.d_is_number_of ["text", "digits"] (lSp K sp_is_number_of) :=
  okD T.F_is_number_of sc_is_number_of len_is_number_of rd_is_number_of fun cdv A outer s H E hr =>
    (dss_one (ds_ret (de_and (de_cmp (op_leD hr.units) (de_callB call_lenD (by rfl) T.m_len (by decide +kernel) (da_cons (de_var (pv 0)) da_nil)) (de_var (pv 1)) (nomark _)) (de_one (de_call ((ok_is_number T).mono (by decide)) hr (by rfl) T.g_is_number T.F_is_number.kp T.b_is_number .nil (fun _ => .nil) (da_cons (de_var (pv 0)) da_nil))))))
theorem ok_stuffed (T : Fx P K mg) : FnOk P w K mg base CX0 1 T.a_stuffed T.d_stuffed ["row"] (lSp K sp_stuffed) :=
  okD T.F_stuffed sc_stuffed len_stuffed rd_stuffed fun cdv A outer s H E hr =>
    (dss_cons (ds_if (dt_tru (de_bm PySem.F.plainAttrs_str PySem.F.slot_str_startswith PySem.F.type_str_startswith mt_startsD (de_var (pv 0)) (da_cons de_str da_nil))) (dss_one (ds_ret (de_op op_addD de_str (de_var (pv 0))))) dss_nil)
    (dss_one (ds_ret (de_var (pv 0)))))
theorem ok_unstuffed (T : Fx P K mg) : FnOk P w K mg base CX0 1 T.a_unstuffed T.d_unstuffed ["word"] (lSp K sp_unstuffed) :=
  okD T.F_unstuffed sc_unstuffed len_unstuffed rd_unstuffed fun cdv A outer s H E hr =>
    (dss_cons (ds_if (dt_tru (de_bm PySem.F.plainAttrs_str PySem.F.slot_str_startswith PySem.F.type_str_startswith mt_startsD (de_var (pv 0)) (da_cons de_str da_nil))) (dss_one (ds_ret (de_sl (de_var (pv 0)) (do_some de_int) do_no))) dss_nil)
    (dss_one (ds_ret (de_var (pv 0)))))
theorem ok_Lmix (T : Fx P K mg) : FnOk P w K mg base CX0 1 T.a_Lmix T.d_Lmix ["seed", "turn"] (lSp K sp_Lmix) :=
  okD T.F_Lmix sc_Lmix len_Lmix rd_Lmix fun cdv A outer s H E hr =>
    (dss_cons (ds_set (i := 2) (fun _ h => ps_set sc_Lmix.nd rfl (by first | exact .inl rfl | exact .inr rfl) h) (de_op op_modD (de_callTy call_intF (by rfl) T.m_int (by decide +kernel) (da_cons (de_op op_addD (de_op op_addD (de_op op_mulD (de_var (pv 0)) de_int) (de_op op_mulD (de_var (pv 1)) de_int)) de_int) da_nil)) de_int))
    (dss_cons (ds_set (i := 2) (fun _ h => ps_set sc_Lmix.nd rfl (by first | exact .inl rfl | exact .inr rfl) h) (de_op op_modD (de_callTy call_intF (by rfl) T.m_int (by decide +kernel) (da_cons (de_op op_addD (de_op op_addD (de_op op_mulD (de_var (pv 2)) (de_var (pv 2))) (de_op op_mulD (de_var (pv 1)) de_int)) de_int) da_nil)) de_int))
    (dss_cons (ds_set (i := 2) (fun _ h => ps_set sc_Lmix.nd rfl (by first | exact .inl rfl | exact .inr rfl) h) (de_op op_modD (de_callTy call_intF (by rfl) T.m_int (by decide +kernel) (da_cons (de_op op_addD (de_op op_addD (de_op op_mulD (de_var (pv 2)) de_int) (de_op op_mulD (de_op op_mulD (de_var (pv 1)) (de_var (pv 1))) de_int)) de_int) da_nil)) de_int))
    (dss_one (ds_ret (de_var (pv 2)))))))
theorem ok_Lsource (T : Fx P K mg) : FnOk P w K mg base CX0 2 T.a_Lsource T.d_Lsource ["script"] (lSp K sp_Lsource) :=
  okD T.F_Lsource sc_Lsource len_Lsource rd_Lsource fun cdv A outer s H E hr =>
    (dss_cons (ds_set (i := 1) (fun _ h => ps_set sc_Lsource.nd rfl (by first | exact .inl rfl | exact .inr rfl) h) de_int)
    (dss_cons (ds_for PassesOwn.never rfl (di_range1 (by rfl) T.m_range (de_callB call_lenD (by rfl) T.m_len (by decide +kernel) (da_cons (de_var (pv 0)) da_nil))) (dg_name (pg_name (i := 2) sc_Lsource.nd rfl (by first | exact .inl rfl | exact .inr rfl))) (dss_one (ds_set (i := 1) (fun _ h => ps_set sc_Lsource.nd rfl (by first | exact .inl rfl | exact .inr rfl) h) (de_call ((ok_Lmix T).mono (by decide)) hr (by rfl) T.g_Lmix T.F_Lmix.kp T.b_Lmix .nil (fun _ => .nil) (da_cons (de_op op_addD (de_var (pv 1)) (de_op op_modD (de_callTy call_intF (by rfl) T.m_int (by decide +kernel) (da_cons (de_ix (de_var (pv 0)) (de_var (pv 2)) (fun _ _ => rfl)) da_nil)) de_int)) (da_cons (de_var (pv 2)) da_nil))))))
    (dss_one (ds_ret (de_lst (da_cons (de_callTy call_lstF (by rfl) T.m_list (by decide +kernel) (da_cons (de_var (pv 0)) da_nil)) (da_cons de_int (da_cons de_int (da_cons (de_var (pv 1)) (da_cons de_int da_nil))))))))))
theorem ok_Ldraw (T : Fx P K mg) : FnOk P w K mg base CX0 2 T.a_Ldraw T.d_Ldraw ["source", "many"] (lSp K sp_Ldraw) :=
  okD T.F_Ldraw sc_Ldraw len_Ldraw rd_Ldraw fun cdv A outer s H E hr =>
    (dss_cons (ds_if (DW.dt (dw_and (dt_cmp (op_eqDD hr.units) (de_ix (de_var (pv 0)) de_int (fun _ _ => rfl)) de_int (nomark _)) (dw_and (dt_cmp (op_ltD hr.units) (de_ix (de_var (pv 0)) de_int (fun _ _ => rfl)) (de_callB call_lenD (by rfl) T.m_len (by decide +kernel) (da_cons (de_ix (de_var (pv 0)) de_int (fun _ _ => rfl)) da_nil)) (nomark _)) (dw_and1 (dt_cmp (op_eqDD hr.units) (de_op op_modD (de_callTy call_intF (by rfl) T.m_int (by decide +kernel) (da_cons (de_ix (de_var (pv 0)) de_int (fun _ _ => rfl)) da_nil)) de_int) de_int (nomark _)))))) (dss_cons (ds_set (i := 2) (fun _ h => ps_set sc_Ldraw.nd rfl (by first | exact .inl rfl | exact .inr rfl) h) (de_ix (de_ix (de_var (pv 0)) de_int (fun _ _ => rfl)) (de_ix (de_var (pv 0)) de_int (fun _ _ => rfl)) (fun _ _ => rfl)))
    (dss_cons (ds_asg (de_op op_addD (de_ix (de_var (pv 0)) de_int (fun _ _ => rfl)) de_int) (dg_sub (de_var (pv 0)) de_int))
    (dss_one (ds_if (dt_cmp (op_geD hr.units) (de_callB call_absD (by rfl) T.m_abs (by decide +kernel) (da_cons (de_var (pv 2)) da_nil)) (de_op op_powD de_int de_int) (nomark _)) (dss_one (ds_asg (de_op op_andD (de_callB call_absD (by rfl) T.m_abs (by decide +kernel) (da_cons (de_var (pv 2)) da_nil)) (de_op op_subD (de_op op_shlD de_int de_int) de_int)) (dg_sub (de_var (pv 0)) de_int))) (dss_one (ds_asg (de_call ((ok_Lmix T).mono (by decide)) hr (by rfl) T.g_Lmix T.F_Lmix.kp T.b_Lmix .nil (fun _ => .nil) (da_cons (de_op op_addD (de_ix (de_var (pv 0)) de_int (fun _ _ => rfl)) (de_op op_modD (de_callTy call_intF (by rfl) T.m_int (by decide +kernel) (da_cons (de_var (pv 2)) da_nil)) de_int)) (da_cons (de_ix (de_var (pv 0)) de_int (fun _ _ => rfl)) da_nil))) (dg_sub (de_var (pv 0)) de_int))))))) dss_nil)
    (dss_cons (ds_if (dt_cmp (op_gtD hr.units) (de_ix (de_var (pv 0)) de_int (fun _ _ => rfl)) de_int (nomark _)) (dss_cons (ds_set (i := 3) (fun _ h => ps_set sc_Ldraw.nd rfl (by first | exact .inl rfl | exact .inr rfl) h) (de_op op_modD (de_callTy call_intF (by rfl) T.m_int (by decide +kernel) (da_cons (de_ix (de_var (pv 0)) de_int (fun _ _ => rfl)) da_nil)) (de_var (pv 1))))
    (dss_cons (ds_asg (de_op op_fdivD (de_callTy call_intF (by rfl) T.m_int (by decide +kernel) (da_cons (de_ix (de_var (pv 0)) de_int (fun _ _ => rfl)) da_nil)) (de_var (pv 1))) (dg_sub (de_var (pv 0)) de_int))
    (dss_one (ds_ret (de_var (pv 3)))))) dss_nil)
    (dss_cons (ds_asg (de_op op_addD (de_ix (de_var (pv 0)) de_int (fun _ _ => rfl)) de_int) (dg_sub (de_var (pv 0)) de_int))
    (dss_one (ds_ret (de_op op_modD (de_callTy call_intF (by rfl) T.m_int (by decide +kernel) (da_cons (de_op op_fdivD (de_call ((ok_Lmix T).mono (by decide)) hr (by rfl) T.g_Lmix T.F_Lmix.kp T.b_Lmix .nil (fun _ => .nil) (da_cons (de_ix (de_var (pv 0)) de_int (fun _ _ => rfl)) (da_cons (de_ix (de_var (pv 0)) de_int (fun _ _ => rfl)) da_nil))) de_int) da_nil)) (de_var (pv 1))))))))
theorem ok_Lpick (T : Fx P K mg) : FnOk P w K mg base CX0 3 T.a_Lpick T.d_Lpick ["source", "row"] (lSp K sp_Lpick) :=
  okD T.F_Lpick sc_Lpick len_Lpick rd_Lpick fun cdv A outer s H E hr =>
    (dss_one (ds_ret (de_ix (de_var (pv 1)) (de_call ((ok_Ldraw T).mono (by decide)) hr (by rfl) T.g_Ldraw T.F_Ldraw.kp T.b_Ldraw .nil (fun _ => .nil) (da_cons (de_var (pv 0)) (da_cons (de_callB call_lenD (by rfl) T.m_len (by decide +kernel) (da_cons (de_var (pv 1)) da_nil)) da_nil))) (fun _ _ => rfl))))
theorem ok_Lnew_name (T : Fx P K mg) : FnOk P w K mg base CX0 3 T.a_Lnew_name T.d_Lnew_name ["source", "used"] (lSp K sp_Lnew_name) :=
  okD T.F_Lnew_name sc_Lnew_name len_Lnew_name rd_Lnew_name fun cdv A outer s H E hr =>
    (dss_cons (ds_set (i := 2) (fun _ h => ps_set sc_Lnew_name.nd rfl (by first | exact .inl rfl | exact .inr rfl) h) de_str)
    (dss_cons (ds_set (i := 3) (fun _ h => ps_set sc_Lnew_name.nd rfl (by first | exact .inl rfl | exact .inr rfl) h) (de_op op_addD de_int (de_call ((ok_Ldraw T).mono (by decide)) hr (by rfl) T.g_Ldraw T.F_Ldraw.kp T.b_Ldraw .nil (fun _ => .nil) (da_cons (de_var (pv 0)) (da_cons de_int da_nil)))))
    (dss_cons (ds_set (i := 4) (fun _ h => ps_set sc_Lnew_name.nd rfl (by first | exact .inl rfl | exact .inr rfl) h) (de_ix (de_var (pv 2)) (de_call ((ok_Ldraw T).mono (by decide)) hr (by rfl) T.g_Ldraw T.F_Ldraw.kp T.b_Ldraw .nil (fun _ => .nil) (da_cons (de_var (pv 0)) (da_cons de_int da_nil))) (fun _ _ => rfl)))
    (dss_cons (ds_for PassesOwn.never rfl (di_range1 (by rfl) T.m_range (de_op op_subD (de_var (pv 3)) de_int)) (dg_name (pg_name (i := 5) sc_Lnew_name.nd rfl (by first | exact .inl rfl | exact .inr rfl))) (dss_one (ds_set (i := 4) (fun _ h => ps_set sc_Lnew_name.nd rfl (by first | exact .inl rfl | exact .inr rfl) h) (de_op op_addD (de_var (pv 4)) (de_ix (de_op op_addD (de_var (pv 2)) de_str) (de_call ((ok_Ldraw T).mono (by decide)) hr (by rfl) T.g_Ldraw T.F_Ldraw.kp T.b_Ldraw .nil (fun _ => .nil) (da_cons (de_var (pv 0)) (da_cons de_int da_nil))) (fun _ _ => rfl))))))
    (dss_cons (ds_for PassesOwn.never rfl (di_range1 (by rfl) T.m_range (de_op op_addD (de_callB call_lenD (by rfl) T.m_len (by decide +kernel) (da_cons (de_var (pv 1)) da_nil)) de_int)) (dg_name (pg_name (i := 5) sc_Lnew_name.nd rfl (by first | exact .inl rfl | exact .inr rfl))) (dss_cons (ds_set (i := 6) (fun _ h => ps_set sc_Lnew_name.nd rfl (by first | exact .inl rfl | exact .inr rfl) h) (de_op op_addD (de_var (pv 4)) (de_ix (de_lst (da_cons de_str (da_cons (de_callTy call_strF (by rfl) T.m_str (by decide +kernel) (da_cons (de_var (pv 5)) da_nil)) da_nil))) (de_callTy call_intF (by rfl) T.m_int (by decide +kernel) (da_cons (de_cmp (op_gtD hr.units) (de_var (pv 5)) de_int (nomark _)) da_nil)) (fun _ _ => rfl))))
    (dss_one (ds_if (dt_cmp (op_notInDD (u65 hr)) (de_var (pv 6)) (de_var (pv 1)) (by rfl)) (dss_one (ds_ret (de_var (pv 6)))) dss_nil))))
    (dss_one (ds_ret (de_var (pv 4)))))))))
theorem ok_Lrow (T : Fx P K mg) : FnOk P w K mg base CX0 3 T.a_Lrow T.d_Lrow ["source", "size"] (lSp K sp_Lrow) :=
  okD T.F_Lrow sc_Lrow len_Lrow rd_Lrow fun cdv A outer s H E hr =>
    (dss_cons (ds_set (i := 2) (fun _ h => ps_set sc_Lrow.nd rfl (by first | exact .inl rfl | exact .inr rfl) h) de_str)
    (dss_one (ds_ret (de_bm PySem.F.plainAttrs_str PySem.F.slot_str_join PySem.F.type_str_join mt_joinD de_str (da_cons (de_lc (x := "k") (j := 3) rfl sc_Lrow.nd (di_range1 (by rfl) T.m_range (de_var (pv 1))) (blkOk_by (own := [("k", 3)]) (N := N_Lrow) (sc := defScope s_Lrow) (by decide +kernel)) (fun _ _ _ _ _ => pg_name (i := 3) sc_Lrow.nd rfl (by first | exact .inl rfl | exact .inr rfl)) (fun _ _ _ _ _ => dts_nil) (fun _ _ _ _ _ => (de_ix (de_var (pv 2)) (de_call ((ok_Ldraw T).mono (by decide)) hr (by rfl) T.g_Ldraw T.F_Ldraw.kp T.b_Ldraw .nil (fun _ => .nil) (da_cons (de_var (pv 0)) (da_cons (de_callB call_lenD (by rfl) T.m_len (by decide +kernel) (da_cons (de_var (pv 2)) da_nil)) da_nil))) (fun _ _ => rfl)))) da_nil)))))
theorem ok_Lis_int (T : Fx P K mg) : FnOk P w K mg base CX0 1 T.a_Lis_int T.d_Lis_int ["value"] (lSp K sp_Lis_int) :=
  okD T.F_Lis_int sc_Lis_int len_Lis_int rd_Lis_int fun cdv A outer s H E hr =>
    (dss_one (ds_ret (de_and (de_isi (T := "int") (by rfl) T.m_isinstance (de_var (pv 0)) (by rfl) T.m_int (by decide +kernel)) (de_one (de_not (de_isi (T := "bool") (by rfl) T.m_isinstance (de_var (pv 0)) (by rfl) T.m_bool (by decide +kernel)))))))
theorem okC_Lsame (T : Fx P K mg) : FnC P w K mg base 1 T.a_Lsame T.d_Lsame ["actual", "due"] (lSp K sp_sameC) :=
  okC T.F_Lsame sc_Lsame len_sameC rd_sameC fun cdv A outer s H E hr =>
    (dss_cons (ds_if (dt_tru (de_isi (T := "tuple") (by rfl) T.m_isinstance (de_var (pv 1)) (by rfl) T.m_tuple (by decide +kernel))) dss_dead dss_nil)
    (dss_cons (ds_if (dt_cmp op_isND (de_var (pv 1)) de_non (nomark _)) dss_dead dss_nil)
    (dss_cons (ds_if (dt_tru (de_isi (T := "bool") (by rfl) T.m_isinstance (de_var (pv 1)) (by rfl) T.m_bool (by decide +kernel))) dss_dead dss_nil)
    (dss_cons (ds_if (dt_tru (de_isi (T := "int") (by rfl) T.m_isinstance (de_var (pv 1)) (by rfl) T.m_int (by decide +kernel))) dss_dead dss_nil)
    (dss_one (ds_ret (de_and (de_isi (T := "str") (by rfl) T.m_isinstance (de_var (pv 0)) (by rfl) T.m_str (by decide +kernel)) (de_one (de_cmp (op_eqDD hr.units) (de_var (pv 0)) (de_var (pv 1)) (nomark _))))))))))
theorem st_Lsame (T : Fx P K mg) {k : Nat} {sp sp2 : DSp} (G_Lsame : FnOk P w K mg base CX0 k T.a_Lsame T.d_Lsame ["actual", "due"] (lSp K sp)) (hl : ∀ ds g Q, sp2 ds g Q → ds.length = 2) (hrd : ∀ ds g Q, sp2 ds g Q → w_Lsame sp { nx := fun _ g => Q .non g, rt := Q } (dstart N_Lsame ds) g) (hk : 1 ≤ k) : FnOk P w K mg base CX0 (k + 1) T.a_Lsame T.d_Lsame ["actual", "due"] (lSp K sp2) :=
  okD T.F_Lsame sc_Lsame hl hrd fun cdv A outer s H E hr =>
    (dss_cons (ds_if (dt_tru (de_isi (T := "tuple") (by rfl) T.m_isinstance (de_var (pv 1)) (by rfl) T.m_tuple (by decide +kernel))) (dss_cons (ds_if (DW.dt (dw_or (dt_not (dt_tru (de_isi (T := "tuple") (by rfl) T.m_isinstance (de_var (pv 0)) (by rfl) T.m_tuple (by decide +kernel)))) (dw_or1 (dt_cmp (op_neDD hr.units) (de_callB call_lenD (by rfl) T.m_len (by decide +kernel) (da_cons (de_var (pv 0)) da_nil)) (de_callB call_lenD (by rfl) T.m_len (by decide +kernel) (da_cons (de_var (pv 1)) da_nil)) (nomark _))))) (dss_one (ds_ret de_bl)) dss_nil)
    (dss_cons (ds_for PassesOwn.never rfl (di_range1 (by rfl) T.m_range (de_callB call_lenD (by rfl) T.m_len (by decide +kernel) (da_cons (de_var (pv 1)) da_nil))) (dg_name (pg_name (i := 2) sc_Lsame.nd rfl (by first | exact .inl rfl | exact .inr rfl))) (dss_one (ds_if (dt_not (dt_tru (de_call G_Lsame hr (by rfl) T.g_Lsame T.F_Lsame.kp T.b_Lsame .nil (fun _ => .nil) (da_cons (de_ix (de_var (pv 0)) (de_var (pv 2)) (fun _ _ => rfl)) (da_cons (de_ix (de_var (pv 1)) (de_var (pv 2)) (fun _ _ => rfl)) da_nil))))) (dss_one (ds_ret de_bl)) dss_nil)))
    (dss_one (ds_ret de_bl)))) dss_nil)
    (dss_cons (ds_if (dt_cmp op_isND (de_var (pv 1)) de_non (nomark _)) (dss_one (ds_ret (de_cmp op_isND (de_var (pv 0)) de_non (nomark _)))) dss_nil)
    (dss_cons (ds_if (dt_tru (de_isi (T := "bool") (by rfl) T.m_isinstance (de_var (pv 1)) (by rfl) T.m_bool (by decide +kernel))) (dss_one (ds_ret (de_and (de_isi (T := "bool") (by rfl) T.m_isinstance (de_var (pv 0)) (by rfl) T.m_bool (by decide +kernel)) (de_one (de_cmp (op_eqDD hr.units) (de_var (pv 0)) (de_var (pv 1)) (nomark _)))))) dss_nil)
    (dss_cons (ds_if (dt_tru (de_isi (T := "int") (by rfl) T.m_isinstance (de_var (pv 1)) (by rfl) T.m_int (by decide +kernel))) (dss_one (ds_ret (de_and (de_call ((ok_Lis_int T).mono (Nat.le_trans (by decide) hk)) hr (by rfl) T.g_Lis_int T.F_Lis_int.kp T.b_Lis_int .nil (fun _ => .nil) (da_cons (de_var (pv 0)) da_nil)) (de_one (de_cmp (op_eqDD hr.units) (de_var (pv 0)) (de_var (pv 1)) (nomark _)))))) dss_nil)
    (dss_one (ds_ret (de_and (de_isi (T := "str") (by rfl) T.m_isinstance (de_var (pv 0)) (by rfl) T.m_str (by decide +kernel)) (de_one (de_cmp (op_eqDD hr.units) (de_var (pv 0)) (de_var (pv 1)) (nomark _))))))))))
theorem fl_Lsame (T : Fx P K mg) : ∀ n, FnOk P w K mg base CX0 (n + 1) T.a_Lsame T.d_Lsame ["actual", "due"] (lSp K (sp_same n))
  | 0 => ⟨fun vs H Q E h => (by obtain ⟨_, _, _, _, _, z, _⟩ := h; exact z.elim), fun A outer s H args us vs Q E _ _ _ _ h => (by obtain ⟨_, _, _, _, _, z, _⟩ := h; exact z.elim)⟩
  | n + 1 => st_Lsame T (fl_Lsame T n) (len_same _) (rd_same n) (by omega)
theorem ok_Lsame (T : Fx P K mg) : FnOk P w K mg base CX0 14 T.a_Lsame T.d_Lsame ["actual", "due"] (lSp K sp_Lsame) := fl_Lsame T 13
theorem ok_read_word (T : Fx P K mg) : FnOk P w K mg base (L2.CX P w) 3 T.a_read_word T.d_read_word ["word"] (lSpX K sp_read_word) :=
  okX T.F_read_word sc_read_word len_read_word rd_read_word fun cdv A outer s H E hr Ed kx =>
    (dss_cons (DS.nox (ds_set (i := 1) (fun _ h => ps_set sc_read_word.nd rfl (by first | exact .inl rfl | exact .inr rfl) h) (de_bm PySem.F.plainAttrs_str PySem.F.slot_str_split PySem.F.type_str_split mt_splitD (de_var (pv 0)) (da_cons de_str da_nil))))
    (dss_cons (DS.nox (ds_set (i := 2) (fun _ h => ps_set sc_read_word.nd rfl (by first | exact .inl rfl | exact .inr rfl) h) (de_callB call_lenD (by rfl) T.m_len (by decide +kernel) (da_cons (de_var (pv 1)) da_nil))))
    (dss_cons (DS.nox (ds_set (i := 3) (fun _ h => ps_set sc_read_word.nd rfl (by first | exact .inl rfl | exact .inr rfl) h) (de_ix (de_var (pv 1)) de_int (fun _ _ => rfl))))
    (dss_cons (DS.nox (ds_if (DW.dt (dw_and (dt_cmp (op_eqDD hr.units) (de_var (pv 2)) de_int (nomark _)) (dw_and1 (dt_inG (de_var (pv 3)) (by rfl) T.c_BARE T.o_BARE)))) (dss_one (ds_ret (de_tup (da_cons (de_var (pv 3)) da_nil)))) dss_nil))
    (dss_cons (DS.nox (ds_if (DW.dt (dw_and (dt_cmp (op_eqDD hr.units) (de_var (pv 2)) de_int (nomark _)) (dw_and (dt_inG (de_var (pv 3)) (by rfl) T.c_KEYED T.o_KEYED) (dw_and1 (dt_tru (de_call ((ok_is_key T).mono (by decide)) hr (by rfl) T.g_is_key T.F_is_key.kp T.b_is_key .nil (fun _ => .nil) (da_cons (de_ix (de_var (pv 1)) de_int (fun _ _ => rfl)) da_nil))))))) (dss_one (ds_ret (de_tup (da_cons (de_var (pv 3)) (da_cons (de_ix (de_var (pv 1)) de_int (fun _ _ => rfl)) da_nil))))) dss_nil))
    (dss_cons (DS.nox (ds_if (DW.dt (dw_and (dt_cmp (op_eqDD hr.units) (de_var (pv 2)) de_int (nomark _)) (dw_and (dt_cmp (op_eqDD hr.units) (de_var (pv 3)) de_str (nomark _)) (dw_and (dt_tru (de_call ((ok_is_name T).mono (by decide)) hr (by rfl) T.g_is_name T.F_is_name.kp T.b_is_name .nil (fun _ => .nil) (da_cons (de_ix (de_var (pv 1)) de_int (fun _ _ => rfl)) da_nil))) (dw_and1 (dt_tru (de_call ((ok_is_name T).mono (by decide)) hr (by rfl) T.g_is_name T.F_is_name.kp T.b_is_name .nil (fun _ => .nil) (da_cons (de_ix (de_var (pv 1)) de_int (fun _ _ => rfl)) da_nil)))))))) (dss_one (ds_ret (de_tup (da_cons (de_var (pv 3)) (da_cons (de_ix (de_var (pv 1)) de_int (fun _ _ => rfl)) (da_cons (de_ix (de_var (pv 1)) de_int (fun _ _ => rfl)) da_nil)))))) dss_nil))
    (dss_cons (DS.nox (ds_if (DW.dt (dw_and (dt_cmp (op_eqDD hr.units) (de_var (pv 2)) de_int (nomark _)) (dw_and (dt_cmp (op_eqDD hr.units) (de_var (pv 3)) de_str (nomark _)) (dw_and1 (dt_tru (de_call ((ok_is_key T).mono (by decide)) hr (by rfl) T.g_is_key T.F_is_key.kp T.b_is_key .nil (fun _ => .nil) (da_cons (de_ix (de_var (pv 1)) de_int (fun _ _ => rfl)) da_nil))))))) (dss_one (ds_if (DW.dt (dw_and (dt_tru (de_call ((ok_is_number_of T).mono (by decide)) hr (by rfl) T.g_is_number_of T.F_is_number_of.kp T.b_is_number_of .nil (fun _ => .nil) (da_cons (de_ix (de_var (pv 1)) de_int (fun _ _ => rfl)) (da_cons (de_globI (by rfl) T.c_HOPS_DIGITS ⟨_, rfl⟩) da_nil)))) (dw_and1 (dt_tru (de_call ((ok_is_number_of T).mono (by decide)) hr (by rfl) T.g_is_number_of T.F_is_number_of.kp T.b_is_number_of .nil (fun _ => .nil) (da_cons (de_ix (de_var (pv 1)) de_int (fun _ _ => rfl)) (da_cons (de_globI (by rfl) T.c_DATE_DIGITS ⟨_, rfl⟩) da_nil))))))) (dss_one (ds_ret (de_tup (da_cons (de_var (pv 3)) (da_cons (de_ix (de_var (pv 1)) de_int (fun _ _ => rfl)) (da_cons (de_callTy call_intF (by rfl) T.m_int (by decide +kernel) (da_cons (de_ix (de_var (pv 1)) de_int (fun _ _ => rfl)) da_nil)) (da_cons (de_callTy call_intF (by rfl) T.m_int (by decide +kernel) (da_cons (de_ix (de_var (pv 1)) de_int (fun _ _ => rfl)) da_nil)) da_nil))))))) dss_nil)) dss_nil))
    (dss_one (ds_raise (k := 0) T.X_BadWord T.iC_BadWord T.tI_BadWord T.bX_BadWord (hr.mono (by decide)) rfl (takes_of rfl rfl rfl rfl) kx (by rfl) T.gX_BadWord (da_cons (de_var (pv 0)) da_nil))))))))))
theorem ok_write_word (T : Fx P K mg) : FnOk P w K mg base CX0 1 T.a_write_word T.d_write_word ["parts"] (lSp K sp_write_word) :=
  okD T.F_write_word sc_write_word len_write_word rd_write_word fun cdv A outer s H E hr =>
    (dss_one (ds_ret (de_bm PySem.F.plainAttrs_str PySem.F.slot_str_join PySem.F.type_str_join mt_joinD de_str (da_cons (de_lc (x := "part") (j := 1) rfl sc_write_word.nd (di_any (de_var (pv 0))) (blkOk_by (own := [("part", 1)]) (N := N_write_word) (sc := defScope s_write_word) (by decide +kernel)) (fun _ _ _ _ _ => pg_name (i := 1) sc_write_word.nd rfl (by first | exact .inl rfl | exact .inr rfl)) (fun _ _ _ _ _ => dts_nil) (fun _ _ _ _ _ => (de_callTy call_strAF (by rfl) T.m_str (by decide +kernel) (da_cons (de_var (pv 1)) da_nil)))) da_nil))))
theorem ok_Lis_name (T : Fx P K mg) : FnOk P w K mg base CX0 1 T.a_Lis_name T.d_Lis_name ["text"] (lSp K sp_Lis_name) :=
  okD T.F_Lis_name sc_Lis_name len_Lis_name rd_Lis_name fun cdv A outer s H E hr =>
    (dss_cons (ds_set (i := 1) (fun _ h => ps_set sc_Lis_name.nd rfl (by first | exact .inl rfl | exact .inr rfl) h) de_str)
    (dss_cons (ds_if (DW.dt (dw_or (dt_cmp (op_eqDD hr.units) (de_var (pv 0)) de_str (nomark _)) (dw_or (dt_cmp (op_gtD hr.units) (de_callB call_lenD (by rfl) T.m_len (by decide +kernel) (da_cons (de_var (pv 0)) da_nil)) de_int (nomark _)) (dw_or1 (dt_cmp (op_notInDD (u65 hr)) (de_ix (de_var (pv 0)) de_int (fun _ _ => rfl)) (de_var (pv 1)) (by rfl)))))) (dss_one (ds_ret de_bl)) dss_nil)
    (dss_one (ds_ret (de_cmp (op_notInDD (u65 hr)) de_bl (de_lc (x := "sign") (j := 2) rfl sc_Lis_name.nd (di_any (de_var (pv 0))) (blkOk_by (own := [("sign", 2)]) (N := N_Lis_name) (sc := defScope s_Lis_name) (by decide +kernel)) (fun _ _ _ _ _ => pg_name (i := 2) sc_Lis_name.nd rfl (by first | exact .inl rfl | exact .inr rfl)) (fun _ _ _ _ _ => dts_nil) (fun _ _ _ _ _ => (de_cmp (op_inDD (u65 hr)) (de_var (pv 2)) (de_op op_addD (de_var (pv 1)) de_str) (by rfl)))) (by rfl))))))
theorem ok_Lnumber (T : Fx P K mg) : FnOk P w K mg base CX0 1 T.a_Lnumber T.d_Lnumber ["text", "digits"] (lSp K sp_Lnumber) :=
  okD T.F_Lnumber sc_Lnumber len_Lnumber rd_Lnumber fun cdv A outer s H E hr =>
    (dss_cons (ds_if (DW.dt (dw_or (dt_cmp (op_eqDD hr.units) (de_var (pv 0)) de_str (nomark _)) (dw_or (dt_cmp (op_gtD hr.units) (de_callB call_lenD (by rfl) T.m_len (by decide +kernel) (da_cons (de_var (pv 0)) da_nil)) (de_var (pv 1)) (nomark _)) (dw_or1 (DW.dt (dw_and (dt_cmp (op_eqDD hr.units) (de_ix (de_var (pv 0)) de_int (fun _ _ => rfl)) de_str (nomark _)) (dw_and1 (dt_cmp (op_neDD hr.units) (de_var (pv 0)) de_str (nomark _))))))))) (dss_one (ds_ret de_non)) dss_nil)
    (dss_cons (ds_if (dt_cmp (op_inDD (u65 hr)) de_bl (de_lc (x := "sign") (j := 2) rfl sc_Lnumber.nd (di_any (de_var (pv 0))) (blkOk_by (own := [("sign", 2)]) (N := N_Lnumber) (sc := defScope s_Lnumber) (by decide +kernel)) (fun _ _ _ _ _ => pg_name (i := 2) sc_Lnumber.nd rfl (by first | exact .inl rfl | exact .inr rfl)) (fun _ _ _ _ _ => dts_nil) (fun _ _ _ _ _ => (de_cmp (op_inDD (u65 hr)) (de_var (pv 2)) de_str (by rfl)))) (by rfl)) (dss_one (ds_ret de_non)) dss_nil)
    (dss_one (ds_ret (de_callTy call_intF (by rfl) T.m_int (by decide +kernel) (da_cons (de_var (pv 0)) da_nil))))))
theorem ok_Lparts (T : Fx P K mg) : FnOk P w K mg base CX0 2 T.a_Lparts T.d_Lparts ["word"] (lSp K sp_Lparts) :=
  okD T.F_Lparts sc_Lparts len_Lparts rd_Lparts fun cdv A outer s H E hr =>
    (dss_cons (ds_set (i := 1) (fun _ h => ps_set sc_Lparts.nd rfl (by first | exact .inl rfl | exact .inr rfl) h) (de_bm PySem.F.plainAttrs_str PySem.F.slot_str_split PySem.F.type_str_split mt_splitD (de_var (pv 0)) (da_cons de_str da_nil)))
    (dss_cons (ds_set (i := 2) (fun _ h => ps_set sc_Lparts.nd rfl (by first | exact .inl rfl | exact .inr rfl) h) (de_ix (de_var (pv 1)) de_int (fun _ _ => rfl)))
    (dss_cons (ds_if (DW.dt (dw_and (dt_cmp (op_eqDD hr.units) (de_callB call_lenD (by rfl) T.m_len (by decide +kernel) (da_cons (de_var (pv 1)) da_nil)) de_int (nomark _)) (dw_and1 (dt_cmp (op_inDD (u65 hr)) (de_var (pv 2)) (de_tup (da_cons de_str (da_cons de_str (da_cons de_str (da_cons de_str da_nil))))) (by rfl))))) (dss_one (ds_ret (de_tup (da_cons (de_var (pv 2)) da_nil)))) dss_nil)
    (dss_cons (ds_if (DW.dt (dw_and (dt_cmp (op_eqDD hr.units) (de_callB call_lenD (by rfl) T.m_len (by decide +kernel) (da_cons (de_var (pv 1)) da_nil)) de_int (nomark _)) (dw_and (dt_cmp (op_eqDD hr.units) (de_var (pv 2)) de_str (nomark _)) (dw_and (dt_tru (de_call ((ok_Lis_name T).mono (by decide)) hr (by rfl) T.g_Lis_name T.F_Lis_name.kp T.b_Lis_name .nil (fun _ => .nil) (da_cons (de_ix (de_var (pv 1)) de_int (fun _ _ => rfl)) da_nil))) (dw_and1 (dt_tru (de_call ((ok_Lis_name T).mono (by decide)) hr (by rfl) T.g_Lis_name T.F_Lis_name.kp T.b_Lis_name .nil (fun _ => .nil) (da_cons (de_ix (de_var (pv 1)) de_int (fun _ _ => rfl)) da_nil)))))))) (dss_one (ds_ret (de_tup (da_cons (de_var (pv 2)) (da_cons (de_ix (de_var (pv 1)) de_int (fun _ _ => rfl)) (da_cons (de_ix (de_var (pv 1)) de_int (fun _ _ => rfl)) da_nil)))))) dss_nil)
    (dss_cons (ds_if (DW.dt (dw_or (dt_cmp (op_ltD hr.units) (de_callB call_lenD (by rfl) T.m_len (by decide +kernel) (da_cons (de_var (pv 1)) da_nil)) de_int (nomark _)) (dw_or (dt_cmp (op_ltD hr.units) (de_callB call_lenD (by rfl) T.m_len (by decide +kernel) (da_cons (de_ix (de_var (pv 1)) de_int (fun _ _ => rfl)) da_nil)) de_int (nomark _)) (dw_or1 (dt_cmp (op_gtD hr.units) (de_callB call_lenD (by rfl) T.m_len (by decide +kernel) (da_cons (de_ix (de_var (pv 1)) de_int (fun _ _ => rfl)) da_nil)) de_int (nomark _)))))) (dss_one (ds_ret de_non)) dss_nil)
    (dss_cons (ds_set (i := 3) (fun _ h => ps_set sc_Lparts.nd rfl (by first | exact .inl rfl | exact .inr rfl) h) (de_tup (da_cons de_str (da_cons de_str (da_cons de_str (da_cons de_str (da_cons de_str (da_cons de_str (da_cons de_str (da_cons de_str (da_cons de_str da_nil)))))))))))
    (dss_cons (ds_if (DW.dt (dw_and (dt_cmp (op_eqDD hr.units) (de_callB call_lenD (by rfl) T.m_len (by decide +kernel) (da_cons (de_var (pv 1)) da_nil)) de_int (nomark _)) (dw_and1 (dt_cmp (op_inDD (u65 hr)) (de_var (pv 2)) (de_var (pv 3)) (by rfl))))) (dss_one (ds_ret (de_tup (da_cons (de_var (pv 2)) (da_cons (de_ix (de_var (pv 1)) de_int (fun _ _ => rfl)) da_nil))))) dss_nil)
    (dss_cons (ds_if (DW.dt (dw_or (dt_cmp (op_neDD hr.units) (de_callB call_lenD (by rfl) T.m_len (by decide +kernel) (da_cons (de_var (pv 1)) da_nil)) de_int (nomark _)) (dw_or1 (dt_cmp (op_neDD hr.units) (de_var (pv 2)) de_str (nomark _))))) (dss_one (ds_ret de_non)) dss_nil)
    (dss_cons (ds_set (i := 4) (fun _ h => ps_set sc_Lparts.nd rfl (by first | exact .inl rfl | exact .inr rfl) h) (de_call ((ok_Lnumber T).mono (by decide)) hr (by rfl) T.g_Lnumber T.F_Lnumber.kp T.b_Lnumber .nil (fun _ => .nil) (da_cons (de_ix (de_var (pv 1)) de_int (fun _ _ => rfl)) (da_cons de_int da_nil))))
    (dss_cons (ds_set (i := 5) (fun _ h => ps_set sc_Lparts.nd rfl (by first | exact .inl rfl | exact .inr rfl) h) (de_call ((ok_Lnumber T).mono (by decide)) hr (by rfl) T.g_Lnumber T.F_Lnumber.kp T.b_Lnumber .nil (fun _ => .nil) (da_cons (de_ix (de_var (pv 1)) de_int (fun _ _ => rfl)) (da_cons de_int da_nil))))
    (dss_cons (ds_if (DW.dt (dw_or (dt_cmp op_isND (de_var (pv 4)) de_non (nomark _)) (dw_or1 (dt_cmp op_isND (de_var (pv 5)) de_non (nomark _))))) (dss_one (ds_ret de_non)) dss_nil)
    (dss_one (ds_ret (de_tup (da_cons (de_var (pv 2)) (da_cons (de_ix (de_var (pv 1)) de_int (fun _ _ => rfl)) (da_cons (de_var (pv 4)) (da_cons (de_var (pv 5)) da_nil))))))))))))))))))
theorem ok_Lkey (T : Fx P K mg) : FnOk P w K mg base CX0 4 T.a_Lkey T.d_Lkey ["source"] (lSp K sp_Lkey) :=
  okD T.F_Lkey sc_Lkey len_Lkey rd_Lkey fun cdv A outer s H E hr =>
    (dss_cons (ds_set (i := 1) (fun _ h => ps_set sc_Lkey.nd rfl (by first | exact .inl rfl | exact .inr rfl) h) (de_op op_addD de_int (de_op op_fdivD (de_call ((ok_Ldraw T).mono (by decide)) hr (by rfl) T.g_Ldraw T.F_Ldraw.kp T.b_Ldraw .nil (fun _ => .nil) (da_cons (de_var (pv 0)) (da_cons de_int da_nil))) (de_call ((ok_Lpick T).mono (by decide)) hr (by rfl) T.g_Lpick T.F_Lpick.kp T.b_Lpick .nil (fun _ => .nil) (da_cons (de_var (pv 0)) (da_cons (de_lst (da_cons de_int (da_cons de_int (da_cons de_int (da_cons de_int da_nil))))) da_nil))))))
    (dss_cons (ds_set (i := 2) (fun _ h => ps_set sc_Lkey.nd rfl (by first | exact .inl rfl | exact .inr rfl) h) (de_op op_addD (de_op op_addD (de_callTy call_strF (by rfl) T.m_str (by decide +kernel) (da_cons (de_var (pv 1)) da_nil)) de_str) (de_call ((ok_Lnew_name T).mono (by decide)) hr (by rfl) T.g_Lnew_name T.F_Lnew_name.kp T.b_Lnew_name .nil (fun _ => .nil) (da_cons (de_var (pv 0)) (da_cons (de_lst da_nil) da_nil)))))
    (dss_cons (ds_set (i := 3) (fun _ h => ps_set sc_Lkey.nd rfl (by first | exact .inl rfl | exact .inr rfl) h) (de_call ((ok_Ldraw T).mono (by decide)) hr (by rfl) T.g_Ldraw T.F_Ldraw.kp T.b_Ldraw .nil (fun _ => .nil) (da_cons (de_var (pv 0)) (da_cons de_int da_nil))))
    (dss_cons (ds_if (dt_cmp (op_eqDD hr.units) (de_var (pv 3)) de_int (nomark _)) (dss_one (ds_ret (de_op op_addD de_str (de_var (pv 2))))) dss_nil)
    (dss_cons (ds_if (dt_cmp (op_eqDD hr.units) (de_var (pv 3)) de_int (nomark _)) (dss_one (ds_ret (de_op op_addD (de_op op_addD (de_op op_addD (de_op op_addD (de_op op_addD de_str (de_var (pv 2))) de_str) (de_call ((ok_Lnew_name T).mono (by decide)) hr (by rfl) T.g_Lnew_name T.F_Lnew_name.kp T.b_Lnew_name .nil (fun _ => .nil) (da_cons (de_var (pv 0)) (da_cons (de_lst da_nil) da_nil)))) de_str) (de_call ((ok_Lnew_name T).mono (by decide)) hr (by rfl) T.g_Lnew_name T.F_Lnew_name.kp T.b_Lnew_name .nil (fun _ => .nil) (da_cons (de_var (pv 0)) (da_cons (de_lst da_nil) da_nil)))))) dss_nil)
    (dss_cons (ds_if (dt_cmp (op_eqDD hr.units) (de_var (pv 3)) de_int (nomark _)) (dss_one (ds_ret (de_op op_addD (de_op op_addD de_str (de_var (pv 2))) de_str))) dss_nil)
    (dss_cons (ds_ifK (op_eqDD hr.units) (de_var (pv 3)) (dsst_cons (dst_ret (det_repl (det_of (de_call ((ok_Lrow T).mono (by decide)) hr (by rfl) T.g_Lrow T.F_Lrow.kp T.b_Lrow .nil (fun _ => .nil) (da_cons (de_var (pv 0)) (da_cons (de_op op_addD de_int (de_call ((ok_Ldraw T).mono (by decide)) hr (by rfl) T.g_Ldraw T.F_Ldraw.kp T.b_Ldraw .nil (fun _ => .nil) (da_cons (de_var (pv 0)) (da_cons de_int da_nil)))) da_nil)))) (by decide +kernel)))
    (dsst_of dss_nil)) (dsst_of dss_nil) (nomark _))
    (dss_cons (ds_if (dt_cmp (op_eqDD hr.units) (de_var (pv 3)) de_int (nomark _)) (dss_one (ds_ret (de_sl (de_op op_addD (de_op op_addD (de_var (pv 2)) de_str) (de_op op_mulD de_str de_int)) do_no (do_some de_int)))) dss_nil)
    (dss_one (ds_ret (de_var (pv 2))))))))))))
theorem ok_Lword (T : Fx P K mg) : FnOk P w K mg base CX0 5 T.a_Lword T.d_Lword ["source"] (lSp K sp_Lword) :=
  okD T.F_Lword sc_Lword len_Lword rd_Lword fun cdv A outer s H E hr =>
    (dss_cons (ds_set (i := 1) (fun _ h => ps_set sc_Lword.nd rfl (by first | exact .inl rfl | exact .inr rfl) h) (de_call ((ok_Ldraw T).mono (by decide)) hr (by rfl) T.g_Ldraw T.F_Ldraw.kp T.b_Ldraw .nil (fun _ => .nil) (da_cons (de_var (pv 0)) (da_cons de_int da_nil))))
    (dss_cons (ds_if (dt_cmp (op_eqDD hr.units) (de_var (pv 1)) de_int (nomark _)) (dss_one (ds_ret (de_call ((ok_Lpick T).mono (by decide)) hr (by rfl) T.g_Lpick T.F_Lpick.kp T.b_Lpick .nil (fun _ => .nil) (da_cons (de_var (pv 0)) (da_cons (de_lst (da_cons de_str (da_cons de_str (da_cons de_str (da_cons de_str da_nil))))) da_nil))))) dss_nil)
    (dss_cons (ds_if (dt_cmp (op_eqDD hr.units) (de_var (pv 1)) de_int (nomark _)) (dss_cons (ds_set (i := 3) (fun _ h => ps_set sc_Lword.nd rfl (by first | exact .inl rfl | exact .inr rfl) h) (de_call ((ok_Lpick T).mono (by decide)) hr (by rfl) T.g_Lpick T.F_Lpick.kp T.b_Lpick .nil (fun _ => .nil) (da_cons (de_var (pv 0)) (da_cons (de_lst (da_cons (de_call ((ok_Lnew_name T).mono (by decide)) hr (by rfl) T.g_Lnew_name T.F_Lnew_name.kp T.b_Lnew_name .nil (fun _ => .nil) (da_cons (de_var (pv 0)) (da_cons (de_lst da_nil) da_nil))) (da_cons (de_op op_mulD de_str de_int) (da_cons de_str da_nil)))) da_nil))))
    (dss_one (ds_ret (de_op op_addD (de_op op_addD (de_op op_addD de_str (de_var (pv 3))) de_str) (de_call ((ok_Lpick T).mono (by decide)) hr (by rfl) T.g_Lpick T.F_Lpick.kp T.b_Lpick .nil (fun _ => .nil) (da_cons (de_var (pv 0)) (da_cons (de_lst (da_cons (de_call ((ok_Lnew_name T).mono (by decide)) hr (by rfl) T.g_Lnew_name T.F_Lnew_name.kp T.b_Lnew_name .nil (fun _ => .nil) (da_cons (de_var (pv 0)) (da_cons (de_lst da_nil) da_nil))) (da_cons de_str da_nil))) da_nil))))))) dss_nil)
    (dss_cons (ds_if (dt_cmp (op_eqDD hr.units) (de_var (pv 1)) de_int (nomark _)) (dss_cons (ds_set (i := 4) (fun _ h => ps_set sc_Lword.nd rfl (by first | exact .inl rfl | exact .inr rfl) h) (de_call ((ok_Lpick T).mono (by decide)) hr (by rfl) T.g_Lpick T.F_Lpick.kp T.b_Lpick .nil (fun _ => .nil) (da_cons (de_var (pv 0)) (da_cons (de_lst (da_cons de_int (da_cons de_int (da_cons (de_call ((ok_Ldraw T).mono (by decide)) hr (by rfl) T.g_Ldraw T.F_Ldraw.kp T.b_Ldraw .nil (fun _ => .nil) (da_cons (de_var (pv 0)) (da_cons de_int da_nil))) (da_cons (de_call ((ok_Ldraw T).mono (by decide)) hr (by rfl) T.g_Ldraw T.F_Ldraw.kp T.b_Ldraw .nil (fun _ => .nil) (da_cons (de_var (pv 0)) (da_cons de_int da_nil))) da_nil))))) da_nil))))
    (dss_cons (ds_set (i := 5) (fun _ h => ps_set sc_Lword.nd rfl (by first | exact .inl rfl | exact .inr rfl) h) (de_call ((ok_Lpick T).mono (by decide)) hr (by rfl) T.g_Lpick T.F_Lpick.kp T.b_Lpick .nil (fun _ => .nil) (da_cons (de_var (pv 0)) (da_cons (de_lst (da_cons de_int (da_cons de_int (da_cons (de_call ((ok_Ldraw T).mono (by decide)) hr (by rfl) T.g_Ldraw T.F_Ldraw.kp T.b_Ldraw .nil (fun _ => .nil) (da_cons (de_var (pv 0)) (da_cons de_int da_nil))) (da_cons (de_call ((ok_Ldraw T).mono (by decide)) hr (by rfl) T.g_Ldraw T.F_Ldraw.kp T.b_Ldraw .nil (fun _ => .nil) (da_cons (de_var (pv 0)) (da_cons de_int da_nil))) da_nil))))) da_nil))))
    (dss_one (ds_ret (de_op op_addD (de_op op_addD (de_op op_addD (de_op op_addD (de_op op_addD de_str (de_call ((ok_Lkey T).mono (by decide)) hr (by rfl) T.g_Lkey T.F_Lkey.kp T.b_Lkey .nil (fun _ => .nil) (da_cons (de_var (pv 0)) da_nil))) de_str) (de_callTy call_strF (by rfl) T.m_str (by decide +kernel) (da_cons (de_var (pv 4)) da_nil))) de_str) (de_callTy call_strF (by rfl) T.m_str (by decide +kernel) (da_cons (de_var (pv 5)) da_nil))))))) dss_nil)
    (dss_cons (ds_set (i := 2) (fun _ h => ps_set sc_Lword.nd rfl (by first | exact .inl rfl | exact .inr rfl) h) (de_lst (da_cons de_str (da_cons de_str (da_cons de_str (da_cons de_str (da_cons de_str (da_cons de_str (da_cons de_str (da_cons de_str (da_cons de_str da_nil)))))))))))
    (dss_one (ds_ret (de_op op_addD (de_op op_addD (de_call ((ok_Lpick T).mono (by decide)) hr (by rfl) T.g_Lpick T.F_Lpick.kp T.b_Lpick .nil (fun _ => .nil) (da_cons (de_var (pv 0)) (da_cons (de_var (pv 2)) da_nil))) de_str) (de_call ((ok_Lkey T).mono (by decide)) hr (by rfl) T.g_Lkey T.F_Lkey.kp T.b_Lkey .nil (fun _ => .nil) (da_cons (de_var (pv 0)) da_nil))))))))))
theorem ok_Lbent (T : Fx P K mg) : FnOk P w K mg base CX0 4 T.a_Lbent T.d_Lbent ["source", "word"] (lSp K sp_Lbent) :=
  okD T.F_Lbent sc_Lbent len_Lbent rd_Lbent fun cdv A outer s H E hr =>
    (dss_cons (ds_set (i := 2) (fun _ h => ps_set sc_Lbent.nd rfl (by first | exact .inl rfl | exact .inr rfl) h) (de_call ((ok_Ldraw T).mono (by decide)) hr (by rfl) T.g_Ldraw T.F_Ldraw.kp T.b_Ldraw .nil (fun _ => .nil) (da_cons (de_var (pv 0)) (da_cons (de_op op_addD (de_callB call_lenD (by rfl) T.m_len (by decide +kernel) (da_cons (de_var (pv 1)) da_nil)) de_int) da_nil))))
    (dss_cons (ds_set (i := 3) (fun _ h => ps_set sc_Lbent.nd rfl (by first | exact .inl rfl | exact .inr rfl) h) (de_call ((ok_Lpick T).mono (by decide)) hr (by rfl) T.g_Lpick T.F_Lpick.kp T.b_Lpick .nil (fun _ => .nil) (da_cons (de_var (pv 0)) (da_cons (de_lst (da_cons de_str (da_cons de_str (da_cons de_str (da_cons de_str (da_cons de_str (da_cons de_str (da_cons de_str (da_cons de_str (da_cons de_str da_nil)))))))))) da_nil))))
    (dss_cons (ds_set (i := 4) (fun _ h => ps_set sc_Lbent.nd rfl (by first | exact .inl rfl | exact .inr rfl) h) (de_bm PySem.F.plainAttrs_str PySem.F.slot_str_split PySem.F.type_str_split mt_splitD (de_var (pv 1)) (da_cons de_str da_nil)))
    (dss_cons (ds_set (i := 5) (fun _ h => ps_set sc_Lbent.nd rfl (by first | exact .inl rfl | exact .inr rfl) h) (de_call ((ok_Ldraw T).mono (by decide)) hr (by rfl) T.g_Ldraw T.F_Ldraw.kp T.b_Ldraw .nil (fun _ => .nil) (da_cons (de_var (pv 0)) (da_cons de_int da_nil))))
    (dss_cons (ds_if (dt_cmp (op_eqDD hr.units) (de_var (pv 5)) de_int (nomark _)) (dss_one (ds_ret (de_op op_addD (de_op op_addD (de_sl (de_var (pv 1)) do_no (do_some (de_var (pv 2)))) (de_var (pv 3))) (de_sl (de_var (pv 1)) (do_some (de_var (pv 2))) do_no)))) dss_nil)
    (dss_cons (ds_if (dt_cmp (op_eqDD hr.units) (de_var (pv 5)) de_int (nomark _)) (dss_one (ds_ret (de_op op_addD (de_op op_addD (de_sl (de_var (pv 1)) do_no (do_some (de_var (pv 2)))) (de_var (pv 3))) (de_sl (de_var (pv 1)) (do_some (de_op op_addD (de_var (pv 2)) de_int)) do_no)))) dss_nil)
    (dss_cons (ds_if (dt_cmp (op_eqDD hr.units) (de_var (pv 5)) de_int (nomark _)) (dss_one (ds_ret (de_op op_addD (de_sl (de_var (pv 1)) do_no (do_some (de_var (pv 2)))) (de_sl (de_var (pv 1)) (do_some (de_op op_addD (de_var (pv 2)) de_int)) do_no)))) dss_nil)
    (dss_cons (ds_if (dt_cmp (op_eqDD hr.units) (de_var (pv 5)) de_int (nomark _)) (dss_one (ds_ret (de_op op_addD (de_var (pv 1)) de_str))) dss_nil)
    (dss_cons (ds_if (dt_cmp (op_eqDD hr.units) (de_var (pv 5)) de_int (nomark _)) (dss_one (ds_ret (de_op op_addD de_str (de_var (pv 1))))) dss_nil)
    (dss_cons (ds_ifK (op_eqDD hr.units) (de_var (pv 5)) (dsst_cons (dst_ret (det_repl (det_of (de_var (pv 1))) (by decide +kernel)))
    (dsst_of dss_nil)) (dsst_of dss_nil) (nomark _))
    (dss_cons (ds_if (dt_cmp (op_eqDD hr.units) (de_var (pv 5)) de_int (nomark _)) (dss_one (ds_ret (de_op op_addD (de_op op_addD (de_var (pv 1)) de_str) (de_ix (de_var (pv 4)) (de_op op_subD (de_callB call_lenD (by rfl) T.m_len (by decide +kernel) (da_cons (de_var (pv 4)) da_nil)) de_int) (fun _ _ => rfl))))) dss_nil)
    (dss_cons (ds_if (dt_cmp (op_eqDD hr.units) (de_var (pv 5)) de_int (nomark _)) (dss_one (ds_ret (de_bm PySem.F.plainAttrs_str PySem.F.slot_str_join PySem.F.type_str_join mt_joinD de_str (da_cons (de_sl (de_var (pv 4)) do_no (do_some (de_op op_subD (de_callB call_lenD (by rfl) T.m_len (by decide +kernel) (da_cons (de_var (pv 4)) da_nil)) de_int))) da_nil)))) dss_nil)
    (dss_cons (ds_if (dt_cmp (op_eqDD hr.units) (de_var (pv 5)) de_int (nomark _)) (dss_one (ds_ret (de_op op_addD (de_var (pv 1)) (de_op op_mulD de_str (de_call ((ok_Lpick T).mono (by decide)) hr (by rfl) T.g_Lpick T.F_Lpick.kp T.b_Lpick .nil (fun _ => .nil) (da_cons (de_var (pv 0)) (da_cons (de_lst (da_cons de_int (da_cons de_int (da_cons de_int (da_cons de_int da_nil))))) da_nil))))))) dss_nil)
    (dss_one (ds_ret (de_bm0 PySem.F.plainAttrs_str PySem.F.slot_str_upper PySem.F.type_str_upper mt_upperD (de_var (pv 1))))))))))))))))))
theorem ok_Lread_right (T : Fx P K mg) : FnOk P w K mg base CX0 15 T.a_Lread_right T.d_Lread_right ["word"] (lSp K sp_Lread_right) :=
  okD T.F_Lread_right sc_Lread_right len_Lread_right rd_Lread_right fun cdv A outer s H E hr =>
    (dss_cons (ds_set (i := 1) (fun _ h => ps_set sc_Lread_right.nd rfl (by first | exact .inl rfl | exact .inr rfl) h) (de_call ((ok_Lparts T).mono (by decide)) hr (by rfl) T.g_Lparts T.F_Lparts.kp T.b_Lparts .nil (fun _ => .nil) (da_cons (de_var (pv 0)) da_nil)))
    (dss_cons (ds_try (nm := "BadWord") rfl rfl sc_Lread_right.nd rfl rfl ⟨by rfl, by decide, .inl T.gX_MootError⟩ T.ex_BadWord_MootError (fun W pn xe tk => (ds_setW (i := 3) (fun _ h => ps_set sc_Lread_right.nd rfl (by first | exact .inl rfl | exact .inr rfl) h) (de_callW ((ok_read_word T).mono (by decide)) hr (by rfl) T.g_read_word T.F_read_word.kp T.b_read_word tk (da_cons (de_var (pv 0)) da_nil)))) (fun a oe d pn hz hd => (dss_cons (ds_if (DW.dt (dw_or (dt_cmp op_notND (de_var (pv 1)) de_non (nomark _)) (dw_or (dt_not (dt_tru (de_isX T.xc_BadWord hz hd (by rfl) T.m_isinstance (pv 2) (by rfl) T.gX_BadWord T.k_BadWord_BadWord))) (dw_or1 (dt_tru (de_isX T.xc_BadWord hz hd (by rfl) T.m_isinstance (pv 2) (by rfl) T.gX_TextError T.k_BadWord_TextError)))))) (dss_one (ds_ret de_bl)) dss_nil)
    (dss_one (ds_ret (de_and (de_not (de_isX T.xc_BadWord hz hd (by rfl) T.m_isinstance (pv 2) (by rfl) T.gX_LimitError T.k_BadWord_LimitError)) (de_one (de_callC (okC_Lsame T) (((roomC_of hr).mark _).mono (Nat.le_of_ble_eq_true rfl)) (by rfl) T.g_Lsame T.F_Lsame.kp T.b_Lsame (da_cons (de_xf T.xf_BadWord T.X_BadWord.no hz hd (de_var (pv 2))) (da_cons (de_var (pv 0)) da_nil))))))))))
    (dss_one (ds_ret (de_and (de_cmp op_notND (de_var (pv 1)) de_non (nomark _)) (de_and (de_call ((ok_Lsame T).mono (by decide)) hr (by rfl) T.g_Lsame T.F_Lsame.kp T.b_Lsame .nil (fun _ => .nil) (da_cons (de_var (pv 3)) (da_cons (de_var (pv 1)) da_nil))) (de_one (de_call ((ok_Lsame T).mono (by decide)) hr (by rfl) T.g_Lsame T.F_Lsame.kp T.b_Lsame .nil (fun _ => .nil) (da_cons (de_call ((ok_write_word T).mono (by decide)) hr (by rfl) T.g_write_word T.F_write_word.kp T.b_write_word .nil (fun _ => .nil) (da_cons (de_var (pv 1)) da_nil)) (da_cons (de_var (pv 0)) da_nil))))))))))
theorem ok_Lrow_right (T : Fx P K mg) : FnOk P w K mg base CX0 15 T.a_Lrow_right T.d_Lrow_right ["row"] (lSp K sp_Lrow_right) :=
  okD T.F_Lrow_right sc_Lrow_right len_Lrow_right rd_Lrow_right fun cdv A outer s H E hr =>
    (dss_cons (ds_set (i := 1) (fun _ h => ps_set sc_Lrow_right.nd rfl (by first | exact .inl rfl | exact .inr rfl) h) (de_var (pv 0)))
    (dss_cons (ds_if (dt_cmp (op_eqDD hr.units) (de_sl (de_var (pv 0)) do_no (do_some de_int)) de_str (nomark _)) (dss_one (ds_set (i := 1) (fun _ h => ps_set sc_Lrow_right.nd rfl (by first | exact .inl rfl | exact .inr rfl) h) (de_op op_addD de_str (de_var (pv 0))))) dss_nil)
    (dss_one (ds_ret (de_and (de_call ((ok_Lsame T).mono (by decide)) hr (by rfl) T.g_Lsame T.F_Lsame.kp T.b_Lsame .nil (fun _ => .nil) (da_cons (de_call ((ok_stuffed T).mono (by decide)) hr (by rfl) T.g_stuffed T.F_stuffed.kp T.b_stuffed .nil (fun _ => .nil) (da_cons (de_var (pv 0)) da_nil)) (da_cons (de_var (pv 1)) da_nil))) (de_one (de_call ((ok_Lsame T).mono (by decide)) hr (by rfl) T.g_Lsame T.F_Lsame.kp T.b_Lsame .nil (fun _ => .nil) (da_cons (de_call ((ok_unstuffed T).mono (by decide)) hr (by rfl) T.g_unstuffed T.F_unstuffed.kp T.b_unstuffed .nil (fun _ => .nil) (da_cons (de_var (pv 1)) da_nil)) (da_cons (de_var (pv 0)) da_nil)))))))))
theorem ok_law (T : Fx P K mg) : FnOk P w K mg base CX0 16 T.a_law T.d_law ["script"] (lSp K sp_law) :=
  okD T.F_law sc_law len_law rd_law fun cdv A outer s H E hr =>
    (dss_cons (ds_set (i := 1) (fun _ h => ps_set sc_law.nd rfl (by first | exact .inl rfl | exact .inr rfl) h) (de_call ((ok_Lsource T).mono (by decide)) hr (by rfl) T.g_Lsource T.F_Lsource.kp T.b_Lsource .nil (fun _ => .nil) (da_cons (de_var (pv 0)) da_nil)))
    (dss_cons (ds_set (i := 2) (fun _ h => ps_set sc_law.nd rfl (by first | exact .inl rfl | exact .inr rfl) h) (de_lst (da_cons de_str (da_cons de_str (da_cons de_str (da_cons de_str (da_cons de_str (da_cons de_str (da_cons de_str (da_cons de_str (da_cons de_str (da_cons de_str da_nil))))))))))))
    (dss_cons (ds_set (i := 2) (fun _ h => ps_set sc_law.nd rfl (by first | exact .inl rfl | exact .inr rfl) h) (de_op op_addD (de_var (pv 2)) (de_lst (da_cons de_str (da_cons de_str (da_cons de_str (da_cons de_str (da_cons de_str da_nil))))))))
    (dss_cons (ds_set (i := 2) (fun _ h => ps_set sc_law.nd rfl (by first | exact .inl rfl | exact .inr rfl) h) (de_op op_addD (de_var (pv 2)) (de_lst (da_cons de_str (da_cons de_str (da_cons de_str (da_cons de_str (da_cons de_str (da_cons de_str (da_cons de_str (da_cons de_str da_nil)))))))))))
    (dss_cons (ds_for PassesOwn.never rfl (di_range1 (by rfl) T.m_range de_int) (dg_name (pg_name (i := 3) sc_law.nd rfl (by first | exact .inl rfl | exact .inr rfl))) (dss_cons (ds_set (i := 4) (fun _ h => ps_set sc_law.nd rfl (by first | exact .inl rfl | exact .inr rfl) h) (de_call ((ok_Lword T).mono (by decide)) hr (by rfl) T.g_Lword T.F_Lword.kp T.b_Lword .nil (fun _ => .nil) (da_cons (de_var (pv 1)) da_nil)))
    (dss_cons (ds_expr (de_bm PySem.F.plainAttrs_list PySem.F.slot_list_append PySem.F.type_list_append mt_appD (de_var (pv 2)) (da_cons (de_var (pv 4)) da_nil)))
    (dss_cons (ds_set (i := 4) (fun _ h => ps_set sc_law.nd rfl (by first | exact .inl rfl | exact .inr rfl) h) (de_call ((ok_Lbent T).mono (by decide)) hr (by rfl) T.g_Lbent T.F_Lbent.kp T.b_Lbent .nil (fun _ => .nil) (da_cons (de_var (pv 1)) (da_cons (de_var (pv 4)) da_nil))))
    (dss_cons (ds_expr (de_bm PySem.F.plainAttrs_list PySem.F.slot_list_append PySem.F.type_list_append mt_appD (de_var (pv 2)) (da_cons (de_var (pv 4)) da_nil)))
    (dss_one (ds_if (dt_cmp (op_eqDD hr.units) (de_call ((ok_Ldraw T).mono (by decide)) hr (by rfl) T.g_Ldraw T.F_Ldraw.kp T.b_Ldraw .nil (fun _ => .nil) (da_cons (de_var (pv 1)) (da_cons de_int da_nil))) de_int (nomark _)) (dss_one (ds_expr (de_bm PySem.F.plainAttrs_list PySem.F.slot_list_append PySem.F.type_list_append mt_appD (de_var (pv 2)) (da_cons (de_call ((ok_Lbent T).mono (by decide)) hr (by rfl) T.g_Lbent T.F_Lbent.kp T.b_Lbent .nil (fun _ => .nil) (da_cons (de_var (pv 1)) (da_cons (de_var (pv 4)) da_nil))) da_nil)))) dss_nil)))))))
    (dss_cons (ds_for PassesOwn.never rfl (di_any (de_var (pv 2))) (dg_name (pg_name (i := 4) sc_law.nd rfl (by first | exact .inl rfl | exact .inr rfl))) (dss_one (ds_if (dt_not (dt_tru (de_call ((ok_Lread_right T).mono (by decide)) hr (by rfl) T.g_Lread_right T.F_Lread_right.kp T.b_Lread_right .nil (fun _ => .nil) (da_cons (de_var (pv 4)) da_nil)))) (dss_one (ds_ret de_bl)) dss_nil)))
    (dss_cons (ds_set (i := 5) (fun _ h => ps_set sc_law.nd rfl (by first | exact .inl rfl | exact .inr rfl) h) (de_lst (da_cons de_str (da_cons de_str (da_cons de_str (da_cons de_str (da_cons de_str (da_cons de_str (da_cons de_str (da_cons de_str (da_cons de_str da_nil)))))))))))
    (dss_cons (ds_for PassesOwn.never rfl (di_range1 (by rfl) T.m_range de_int) (dg_name (pg_name (i := 3) sc_law.nd rfl (by first | exact .inl rfl | exact .inr rfl))) (dss_cons (ds_set (i := 6) (fun _ h => ps_set sc_law.nd rfl (by first | exact .inl rfl | exact .inr rfl) h) (de_call ((ok_Lrow T).mono (by decide)) hr (by rfl) T.g_Lrow T.F_Lrow.kp T.b_Lrow .nil (fun _ => .nil) (da_cons (de_var (pv 1)) (da_cons (de_call ((ok_Ldraw T).mono (by decide)) hr (by rfl) T.g_Ldraw T.F_Ldraw.kp T.b_Ldraw .nil (fun _ => .nil) (da_cons (de_var (pv 1)) (da_cons de_int da_nil))) da_nil))))
    (dss_one (ds_set (i := 5) (fun _ h => ps_set sc_law.nd rfl (by first | exact .inl rfl | exact .inr rfl) h) (de_op op_addD (de_var (pv 5)) (de_lst (da_cons (de_var (pv 6)) (da_cons (de_op op_addD (de_op op_mulD de_str (de_call ((ok_Ldraw T).mono (by decide)) hr (by rfl) T.g_Ldraw T.F_Ldraw.kp T.b_Ldraw .nil (fun _ => .nil) (da_cons (de_var (pv 1)) (da_cons de_int da_nil)))) (de_var (pv 6))) (da_cons (de_call ((ok_Lword T).mono (by decide)) hr (by rfl) T.g_Lword T.F_Lword.kp T.b_Lword .nil (fun _ => .nil) (da_cons (de_var (pv 1)) da_nil)) da_nil)))))))))
    (dss_cons (ds_for PassesOwn.never rfl (di_any (de_var (pv 5))) (dg_name (pg_name (i := 6) sc_law.nd rfl (by first | exact .inl rfl | exact .inr rfl))) (dss_one (ds_if (dt_not (dt_tru (de_call ((ok_Lrow_right T).mono (by decide)) hr (by rfl) T.g_Lrow_right T.F_Lrow_right.kp T.b_Lrow_right .nil (fun _ => .nil) (da_cons (de_var (pv 6)) da_nil)))) (dss_one (ds_ret de_bl)) dss_nil)))
    (dss_one (ds_ret de_bl)))))))))))
end
theorem all_mk {l : PySem.W.OpenLaw} {w : World} {K : PySem.W.Frag} {h : Heap} {mg : Str → Option Value} {fa : Addr} (X : K.In h) (G : h.Ns mainGlobals mg) (hfa : mg "law" = some (.ref fa))
    {c_BadWord : Addr} (u_BadWord : PySem.W.nsIn K mainGlobals "BadWord" = some (some (.ref c_BadWord))) (kc_BadWord : PySem.W.isClsIn K c_BadWord = true) (kt_BadWord : PySem.W.typeIn K (.ref c_BadWord) = some (.type "type"))
    {c_LimitError : Addr} (u_LimitError : PySem.W.nsIn K mainGlobals "LimitError" = some (some (.ref c_LimitError))) (kc_LimitError : PySem.W.isClsIn K c_LimitError = true) (kt_LimitError : PySem.W.typeIn K (.ref c_LimitError) = some (.type "type"))
    {c_MootError : Addr} (u_MootError : PySem.W.nsIn K mainGlobals "MootError" = some (some (.ref c_MootError))) (kc_MootError : PySem.W.isClsIn K c_MootError = true) (kt_MootError : PySem.W.typeIn K (.ref c_MootError) = some (.type "type"))
    {c_TextError : Addr} (u_TextError : PySem.W.nsIn K mainGlobals "TextError" = some (some (.ref c_TextError))) (kc_TextError : PySem.W.isClsIn K c_TextError = true) (kt_TextError : PySem.W.typeIn K (.ref c_TextError) = some (.type "type"))
    (zX : PySem.W.nsIn K mainGlobals "super" = some none) (opX : PySem.W.nsIn K cStatics "thirdparty.any" = some none) (tpX : (l.prog.main.scope.names.lookup ("super" : Str)).isSome = false) (hnX : PySem.W.specialIn K (.builtin "object.__class__") "__get__" = some (some (.builtin "getset_descriptor.__get__"))) (htX : PySem.W.takesIn K (.builtin "object.__class__") = some true)
    {fI_BadWord cc_BadWord cd_BadWord NX_BadWord : Addr} {xoc_BadWord xkV_BadWord xdc_BadWord xpm_BadWord xct_BadWord xcl_BadWord xce_BadWord : Value} {xod_BadWord xan_BadWord xcd_BadWord xcf_BadWord xdd_BadWord : Option Addr} {xsl_BadWord xcs_BadWord xcg_BadWord : Array (Option Value)} {xvs_BadWord : Array Value} {xfl_BadWord xnm_BadWord xqn_BadWord : Str} {xtf_BadWord : Tok} {xbs_BadWord xbm_BadWord xsb_BadWord : List Value} {xsn_BadWord : List Str} {xab_BadWord : Bool} {xco_BadWord : Option Bool} {m0_BadWord m1_BadWord m2_BadWord m3_BadWord m5_BadWord : Option Value}
    (iX_BadWord : PySem.W.findIn K (.ref c_BadWord) "__init__" = some (some (.ref fI_BadWord))) (tX_BadWord : PySem.W.typeIn K (.ref fI_BadWord) = some (.type "function")) (lX_BadWord : K.lookup fI_BadWord = some ⟨xoc_BadWord, xod_BadWord, .func (PySem.W.fnX "__init__" "BadWord.__init__" (defArgs sX_BadWord) (defBody sX_BadWord) (defScope sX_BadWord) [("__class__", cc_BadWord)] .none xkV_BadWord xdc_BadWord xpm_BadWord xan_BadWord (.ref cd_BadWord) xct_BadWord), xsl_BadWord⟩) (cX_BadWord : PySem.W.codeIn K (.ref cd_BadWord) "BadWord.__init__" = true)
    (fX_BadWord : K.lookup cd_BadWord = some ⟨xcl_BadWord, xcd_BadWord, .fields xvs_BadWord, xcs_BadWord⟩) (fY_BadWord : xvs_BadWord[2]? = some (.str xfl_BadWord xtf_BadWord)) (fZ_BadWord : ((l.prog.main.file : Str) == xfl_BadWord) = true) (eX_BadWord : K.lookup cc_BadWord = some ⟨xce_BadWord, xcf_BadWord, .cell (some (.ref c_BadWord)), xcg_BadWord⟩) (aX_BadWord : PySem.W.ks_superIn K c_BadWord c_BadWord "__init__" = some (some (.builtin "ValueError.__init__"))) (sX2_BadWord : PySem.W.subIn K (.ref c_BadWord) (.type "ValueError") = some true) (mX_BadWord : PySem.W.mroIn K c_BadWord (.ref c_BadWord) = some true) (nX_BadWord : PySem.W.findIn K (.ref c_BadWord) "word" = some none)
    (xL_BadWord : K.lookup c_BadWord = some (excClassObj xnm_BadWord xqn_BadWord c_BadWord NX_BadWord xbs_BadWord xbm_BadWord true xsn_BadWord xsb_BadWord xab_BadWord xco_BadWord xdd_BadWord m0_BadWord m1_BadWord m2_BadWord m3_BadWord m5_BadWord "ValueError.__new__")) (xV_BadWord : PySem.HandSPX.refsVE xbm_BadWord = true) (sa_BadWord : PySem.W.findIn K (.ref c_BadWord) "__setattr__" = some (some (.builtin "object.__setattr__"))) (ga_BadWord : PySem.W.findIn K (.ref c_BadWord) "__getattribute__" = some (some (.builtin "BaseException.__getattribute__"))) (gg_BadWord : PySem.W.findIn K (.ref c_BadWord) "__getattr__" = some none) (kk_BadWord : PySem.W.keepIn K (.ref c_BadWord) = true) (eB_BadWord : PySem.W.subIn K (.ref c_BadWord) (.type "BaseException") = some true) (hd_BadWord : PySem.W.hasDictIn K c_BadWord = true) (ha_BadWord : PySem.W.findIn K (.ref c_BadWord) "__class__" = some (some (.builtin "object.__class__"))) (hm_BadWord : PySem.W.mroIn K c_BadWord (.type "object") = some true)
    (xe_BadWord_MootError : PySem.W.subIn K (.ref c_MootError) (.type "BaseException") = some true) (xs_BadWord_MootError : PySem.W.subIn K (.ref c_BadWord) (.ref c_MootError) = some true)
    (xk_BadWord_BadWord : PySem.W.subIn K (.ref c_BadWord) (.ref c_BadWord) = some true)
    (xk_BadWord_LimitError : PySem.W.subIn K (.ref c_BadWord) (.ref c_LimitError) = some false) (xn_BadWord_LimitError : c_BadWord ≠ c_LimitError)
    (xk_BadWord_TextError : PySem.W.subIn K (.ref c_BadWord) (.ref c_TextError) = some false) (xn_BadWord_TextError : c_BadWord ≠ c_TextError)
    {od_is_row an_is_row : Option Addr} {sl_is_row : Array (Option Value)} {oc_is_row kV_is_row dc_is_row pm_is_row cd_is_row ct_is_row : Value} {f_is_row : Addr}
    (a_is_row : PySem.W.nsIn K mainGlobals "is_row" = some (some (.ref f_is_row))) (l_is_row : K.lookup f_is_row = some ⟨oc_is_row, od_is_row, .func (PySem.W.fnOf "is_row" "is_row" (defArgs s_is_row) (defBody s_is_row) (defScope s_is_row) .none kV_is_row dc_is_row pm_is_row an_is_row cd_is_row ct_is_row), sl_is_row⟩) (c_is_row : PySem.W.codeIn K cd_is_row "is_row" = true) (k_is_row : PySem.W.keepIn K (.ref f_is_row) = true)
    {od_is_plain_word an_is_plain_word : Option Addr} {sl_is_plain_word : Array (Option Value)} {oc_is_plain_word kV_is_plain_word dc_is_plain_word pm_is_plain_word cd_is_plain_word ct_is_plain_word : Value} {f_is_plain_word : Addr}
    (a_is_plain_word : PySem.W.nsIn K mainGlobals "is_plain_word" = some (some (.ref f_is_plain_word))) (l_is_plain_word : K.lookup f_is_plain_word = some ⟨oc_is_plain_word, od_is_plain_word, .func (PySem.W.fnOf "is_plain_word" "is_plain_word" (defArgs s_is_plain_word) (defBody s_is_plain_word) (defScope s_is_plain_word) .none kV_is_plain_word dc_is_plain_word pm_is_plain_word an_is_plain_word cd_is_plain_word ct_is_plain_word), sl_is_plain_word⟩) (c_is_plain_word : PySem.W.codeIn K cd_is_plain_word "is_plain_word" = true) (k_is_plain_word : PySem.W.keepIn K (.ref f_is_plain_word) = true)
    {od_is_name an_is_name : Option Addr} {sl_is_name : Array (Option Value)} {oc_is_name kV_is_name dc_is_name pm_is_name cd_is_name ct_is_name : Value} {f_is_name : Addr}
    (a_is_name : PySem.W.nsIn K mainGlobals "is_name" = some (some (.ref f_is_name))) (l_is_name : K.lookup f_is_name = some ⟨oc_is_name, od_is_name, .func (PySem.W.fnOf "is_name" "is_name" (defArgs s_is_name) (defBody s_is_name) (defScope s_is_name) .none kV_is_name dc_is_name pm_is_name an_is_name cd_is_name ct_is_name), sl_is_name⟩) (c_is_name : PySem.W.codeIn K cd_is_name "is_name" = true) (k_is_name : PySem.W.keepIn K (.ref f_is_name) = true)
    {od_is_number an_is_number : Option Addr} {sl_is_number : Array (Option Value)} {oc_is_number kV_is_number dc_is_number pm_is_number cd_is_number ct_is_number : Value} {f_is_number : Addr}
    (a_is_number : PySem.W.nsIn K mainGlobals "is_number" = some (some (.ref f_is_number))) (l_is_number : K.lookup f_is_number = some ⟨oc_is_number, od_is_number, .func (PySem.W.fnOf "is_number" "is_number" (defArgs s_is_number) (defBody s_is_number) (defScope s_is_number) .none kV_is_number dc_is_number pm_is_number an_is_number cd_is_number ct_is_number), sl_is_number⟩) (c_is_number : PySem.W.codeIn K cd_is_number "is_number" = true) (k_is_number : PySem.W.keepIn K (.ref f_is_number) = true)
    {od_is_key an_is_key : Option Addr} {sl_is_key : Array (Option Value)} {oc_is_key kV_is_key dc_is_key pm_is_key cd_is_key ct_is_key : Value} {f_is_key : Addr}
    (a_is_key : PySem.W.nsIn K mainGlobals "is_key" = some (some (.ref f_is_key))) (l_is_key : K.lookup f_is_key = some ⟨oc_is_key, od_is_key, .func (PySem.W.fnOf "is_key" "is_key" (defArgs s_is_key) (defBody s_is_key) (defScope s_is_key) .none kV_is_key dc_is_key pm_is_key an_is_key cd_is_key ct_is_key), sl_is_key⟩) (c_is_key : PySem.W.codeIn K cd_is_key "is_key" = true) (k_is_key : PySem.W.keepIn K (.ref f_is_key) = true)
    {od_is_number_of an_is_number_of : Option Addr} {sl_is_number_of : Array (Option Value)} {oc_is_number_of kV_is_number_of dc_is_number_of pm_is_number_of cd_is_number_of ct_is_number_of : Value} {f_is_number_of : Addr}
    (a_is_number_of : PySem.W.nsIn K mainGlobals "is_number_of" = some (some (.ref f_is_number_of))) (l_is_number_of : K.lookup f_is_number_of = some ⟨oc_is_number_of, od_is_number_of, .func (PySem.W.fnOf "is_number_of" "is_number_of" (defArgs s_is_number_of) (defBody s_is_number_of) (defScope s_is_number_of) .none kV_is_number_of dc_is_number_of pm_is_number_of an_is_number_of cd_is_number_of ct_is_number_of), sl_is_number_of⟩) (c_is_number_of : PySem.W.codeIn K cd_is_number_of "is_number_of" = true) (k_is_number_of : PySem.W.keepIn K (.ref f_is_number_of) = true)
    {od_stuffed an_stuffed : Option Addr} {sl_stuffed : Array (Option Value)} {oc_stuffed kV_stuffed dc_stuffed pm_stuffed cd_stuffed ct_stuffed : Value} {f_stuffed : Addr}
    (a_stuffed : PySem.W.nsIn K mainGlobals "stuffed" = some (some (.ref f_stuffed))) (l_stuffed : K.lookup f_stuffed = some ⟨oc_stuffed, od_stuffed, .func (PySem.W.fnOf "stuffed" "stuffed" (defArgs s_stuffed) (defBody s_stuffed) (defScope s_stuffed) .none kV_stuffed dc_stuffed pm_stuffed an_stuffed cd_stuffed ct_stuffed), sl_stuffed⟩) (c_stuffed : PySem.W.codeIn K cd_stuffed "stuffed" = true) (k_stuffed : PySem.W.keepIn K (.ref f_stuffed) = true)
    {od_unstuffed an_unstuffed : Option Addr} {sl_unstuffed : Array (Option Value)} {oc_unstuffed kV_unstuffed dc_unstuffed pm_unstuffed cd_unstuffed ct_unstuffed : Value} {f_unstuffed : Addr}
    (a_unstuffed : PySem.W.nsIn K mainGlobals "unstuffed" = some (some (.ref f_unstuffed))) (l_unstuffed : K.lookup f_unstuffed = some ⟨oc_unstuffed, od_unstuffed, .func (PySem.W.fnOf "unstuffed" "unstuffed" (defArgs s_unstuffed) (defBody s_unstuffed) (defScope s_unstuffed) .none kV_unstuffed dc_unstuffed pm_unstuffed an_unstuffed cd_unstuffed ct_unstuffed), sl_unstuffed⟩) (c_unstuffed : PySem.W.codeIn K cd_unstuffed "unstuffed" = true) (k_unstuffed : PySem.W.keepIn K (.ref f_unstuffed) = true)
    {od_Lmix an_Lmix : Option Addr} {sl_Lmix : Array (Option Value)} {oc_Lmix kV_Lmix dc_Lmix pm_Lmix cd_Lmix ct_Lmix : Value} {f_Lmix : Addr}
    (a_Lmix : PySem.W.nsIn K mainGlobals "_law_mix" = some (some (.ref f_Lmix))) (l_Lmix : K.lookup f_Lmix = some ⟨oc_Lmix, od_Lmix, .func (PySem.W.fnOf "_law_mix" "_law_mix" (defArgs s_Lmix) (defBody s_Lmix) (defScope s_Lmix) .none kV_Lmix dc_Lmix pm_Lmix an_Lmix cd_Lmix ct_Lmix), sl_Lmix⟩) (c_Lmix : PySem.W.codeIn K cd_Lmix "_law_mix" = true) (k_Lmix : PySem.W.keepIn K (.ref f_Lmix) = true)
    {od_Lsource an_Lsource : Option Addr} {sl_Lsource : Array (Option Value)} {oc_Lsource kV_Lsource dc_Lsource pm_Lsource cd_Lsource ct_Lsource : Value} {f_Lsource : Addr}
    (a_Lsource : PySem.W.nsIn K mainGlobals "_law_source" = some (some (.ref f_Lsource))) (l_Lsource : K.lookup f_Lsource = some ⟨oc_Lsource, od_Lsource, .func (PySem.W.fnOf "_law_source" "_law_source" (defArgs s_Lsource) (defBody s_Lsource) (defScope s_Lsource) .none kV_Lsource dc_Lsource pm_Lsource an_Lsource cd_Lsource ct_Lsource), sl_Lsource⟩) (c_Lsource : PySem.W.codeIn K cd_Lsource "_law_source" = true) (k_Lsource : PySem.W.keepIn K (.ref f_Lsource) = true)
    {od_Ldraw an_Ldraw : Option Addr} {sl_Ldraw : Array (Option Value)} {oc_Ldraw kV_Ldraw dc_Ldraw pm_Ldraw cd_Ldraw ct_Ldraw : Value} {f_Ldraw : Addr}
    (a_Ldraw : PySem.W.nsIn K mainGlobals "_law_draw" = some (some (.ref f_Ldraw))) (l_Ldraw : K.lookup f_Ldraw = some ⟨oc_Ldraw, od_Ldraw, .func (PySem.W.fnOf "_law_draw" "_law_draw" (defArgs s_Ldraw) (defBody s_Ldraw) (defScope s_Ldraw) .none kV_Ldraw dc_Ldraw pm_Ldraw an_Ldraw cd_Ldraw ct_Ldraw), sl_Ldraw⟩) (c_Ldraw : PySem.W.codeIn K cd_Ldraw "_law_draw" = true) (k_Ldraw : PySem.W.keepIn K (.ref f_Ldraw) = true)
    {od_Lpick an_Lpick : Option Addr} {sl_Lpick : Array (Option Value)} {oc_Lpick kV_Lpick dc_Lpick pm_Lpick cd_Lpick ct_Lpick : Value} {f_Lpick : Addr}
    (a_Lpick : PySem.W.nsIn K mainGlobals "_law_pick" = some (some (.ref f_Lpick))) (l_Lpick : K.lookup f_Lpick = some ⟨oc_Lpick, od_Lpick, .func (PySem.W.fnOf "_law_pick" "_law_pick" (defArgs s_Lpick) (defBody s_Lpick) (defScope s_Lpick) .none kV_Lpick dc_Lpick pm_Lpick an_Lpick cd_Lpick ct_Lpick), sl_Lpick⟩) (c_Lpick : PySem.W.codeIn K cd_Lpick "_law_pick" = true) (k_Lpick : PySem.W.keepIn K (.ref f_Lpick) = true)
    {od_Lnew_name an_Lnew_name : Option Addr} {sl_Lnew_name : Array (Option Value)} {oc_Lnew_name kV_Lnew_name dc_Lnew_name pm_Lnew_name cd_Lnew_name ct_Lnew_name : Value} {f_Lnew_name : Addr}
    (a_Lnew_name : PySem.W.nsIn K mainGlobals "_law_new_name" = some (some (.ref f_Lnew_name))) (l_Lnew_name : K.lookup f_Lnew_name = some ⟨oc_Lnew_name, od_Lnew_name, .func (PySem.W.fnOf "_law_new_name" "_law_new_name" (defArgs s_Lnew_name) (defBody s_Lnew_name) (defScope s_Lnew_name) .none kV_Lnew_name dc_Lnew_name pm_Lnew_name an_Lnew_name cd_Lnew_name ct_Lnew_name), sl_Lnew_name⟩) (c_Lnew_name : PySem.W.codeIn K cd_Lnew_name "_law_new_name" = true) (k_Lnew_name : PySem.W.keepIn K (.ref f_Lnew_name) = true)
    {od_Lrow an_Lrow : Option Addr} {sl_Lrow : Array (Option Value)} {oc_Lrow kV_Lrow dc_Lrow pm_Lrow cd_Lrow ct_Lrow : Value} {f_Lrow : Addr}
    (a_Lrow : PySem.W.nsIn K mainGlobals "_law_row" = some (some (.ref f_Lrow))) (l_Lrow : K.lookup f_Lrow = some ⟨oc_Lrow, od_Lrow, .func (PySem.W.fnOf "_law_row" "_law_row" (defArgs s_Lrow) (defBody s_Lrow) (defScope s_Lrow) .none kV_Lrow dc_Lrow pm_Lrow an_Lrow cd_Lrow ct_Lrow), sl_Lrow⟩) (c_Lrow : PySem.W.codeIn K cd_Lrow "_law_row" = true) (k_Lrow : PySem.W.keepIn K (.ref f_Lrow) = true)
    {od_Lis_int an_Lis_int : Option Addr} {sl_Lis_int : Array (Option Value)} {oc_Lis_int kV_Lis_int dc_Lis_int pm_Lis_int cd_Lis_int ct_Lis_int : Value} {f_Lis_int : Addr}
    (a_Lis_int : PySem.W.nsIn K mainGlobals "_law_is_int" = some (some (.ref f_Lis_int))) (l_Lis_int : K.lookup f_Lis_int = some ⟨oc_Lis_int, od_Lis_int, .func (PySem.W.fnOf "_law_is_int" "_law_is_int" (defArgs s_Lis_int) (defBody s_Lis_int) (defScope s_Lis_int) .none kV_Lis_int dc_Lis_int pm_Lis_int an_Lis_int cd_Lis_int ct_Lis_int), sl_Lis_int⟩) (c_Lis_int : PySem.W.codeIn K cd_Lis_int "_law_is_int" = true) (k_Lis_int : PySem.W.keepIn K (.ref f_Lis_int) = true)
    {od_Lsame an_Lsame : Option Addr} {sl_Lsame : Array (Option Value)} {oc_Lsame kV_Lsame dc_Lsame pm_Lsame cd_Lsame ct_Lsame : Value} {f_Lsame : Addr}
    (a_Lsame : PySem.W.nsIn K mainGlobals "_law_same" = some (some (.ref f_Lsame))) (l_Lsame : K.lookup f_Lsame = some ⟨oc_Lsame, od_Lsame, .func (PySem.W.fnOf "_law_same" "_law_same" (defArgs s_Lsame) (defBody s_Lsame) (defScope s_Lsame) .none kV_Lsame dc_Lsame pm_Lsame an_Lsame cd_Lsame ct_Lsame), sl_Lsame⟩) (c_Lsame : PySem.W.codeIn K cd_Lsame "_law_same" = true) (k_Lsame : PySem.W.keepIn K (.ref f_Lsame) = true)
    {od_read_word an_read_word : Option Addr} {sl_read_word : Array (Option Value)} {oc_read_word kV_read_word dc_read_word pm_read_word cd_read_word ct_read_word : Value} {f_read_word : Addr}
    (a_read_word : PySem.W.nsIn K mainGlobals "read_word" = some (some (.ref f_read_word))) (l_read_word : K.lookup f_read_word = some ⟨oc_read_word, od_read_word, .func (PySem.W.fnOf "read_word" "read_word" (defArgs s_read_word) (defBody s_read_word) (defScope s_read_word) .none kV_read_word dc_read_word pm_read_word an_read_word cd_read_word ct_read_word), sl_read_word⟩) (c_read_word : PySem.W.codeIn K cd_read_word "read_word" = true) (k_read_word : PySem.W.keepIn K (.ref f_read_word) = true)
    {od_write_word an_write_word : Option Addr} {sl_write_word : Array (Option Value)} {oc_write_word kV_write_word dc_write_word pm_write_word cd_write_word ct_write_word : Value} {f_write_word : Addr}
    (a_write_word : PySem.W.nsIn K mainGlobals "write_word" = some (some (.ref f_write_word))) (l_write_word : K.lookup f_write_word = some ⟨oc_write_word, od_write_word, .func (PySem.W.fnOf "write_word" "write_word" (defArgs s_write_word) (defBody s_write_word) (defScope s_write_word) .none kV_write_word dc_write_word pm_write_word an_write_word cd_write_word ct_write_word), sl_write_word⟩) (c_write_word : PySem.W.codeIn K cd_write_word "write_word" = true) (k_write_word : PySem.W.keepIn K (.ref f_write_word) = true)
    {od_Lis_name an_Lis_name : Option Addr} {sl_Lis_name : Array (Option Value)} {oc_Lis_name kV_Lis_name dc_Lis_name pm_Lis_name cd_Lis_name ct_Lis_name : Value} {f_Lis_name : Addr}
    (a_Lis_name : PySem.W.nsIn K mainGlobals "_law_is_name" = some (some (.ref f_Lis_name))) (l_Lis_name : K.lookup f_Lis_name = some ⟨oc_Lis_name, od_Lis_name, .func (PySem.W.fnOf "_law_is_name" "_law_is_name" (defArgs s_Lis_name) (defBody s_Lis_name) (defScope s_Lis_name) .none kV_Lis_name dc_Lis_name pm_Lis_name an_Lis_name cd_Lis_name ct_Lis_name), sl_Lis_name⟩) (c_Lis_name : PySem.W.codeIn K cd_Lis_name "_law_is_name" = true) (k_Lis_name : PySem.W.keepIn K (.ref f_Lis_name) = true)
    {od_Lnumber an_Lnumber : Option Addr} {sl_Lnumber : Array (Option Value)} {oc_Lnumber kV_Lnumber dc_Lnumber pm_Lnumber cd_Lnumber ct_Lnumber : Value} {f_Lnumber : Addr}
    (a_Lnumber : PySem.W.nsIn K mainGlobals "_law_number" = some (some (.ref f_Lnumber))) (l_Lnumber : K.lookup f_Lnumber = some ⟨oc_Lnumber, od_Lnumber, .func (PySem.W.fnOf "_law_number" "_law_number" (defArgs s_Lnumber) (defBody s_Lnumber) (defScope s_Lnumber) .none kV_Lnumber dc_Lnumber pm_Lnumber an_Lnumber cd_Lnumber ct_Lnumber), sl_Lnumber⟩) (c_Lnumber : PySem.W.codeIn K cd_Lnumber "_law_number" = true) (k_Lnumber : PySem.W.keepIn K (.ref f_Lnumber) = true)
    {od_Lparts an_Lparts : Option Addr} {sl_Lparts : Array (Option Value)} {oc_Lparts kV_Lparts dc_Lparts pm_Lparts cd_Lparts ct_Lparts : Value} {f_Lparts : Addr}
    (a_Lparts : PySem.W.nsIn K mainGlobals "_law_parts" = some (some (.ref f_Lparts))) (l_Lparts : K.lookup f_Lparts = some ⟨oc_Lparts, od_Lparts, .func (PySem.W.fnOf "_law_parts" "_law_parts" (defArgs s_Lparts) (defBody s_Lparts) (defScope s_Lparts) .none kV_Lparts dc_Lparts pm_Lparts an_Lparts cd_Lparts ct_Lparts), sl_Lparts⟩) (c_Lparts : PySem.W.codeIn K cd_Lparts "_law_parts" = true) (k_Lparts : PySem.W.keepIn K (.ref f_Lparts) = true)
    {od_Lkey an_Lkey : Option Addr} {sl_Lkey : Array (Option Value)} {oc_Lkey kV_Lkey dc_Lkey pm_Lkey cd_Lkey ct_Lkey : Value} {f_Lkey : Addr}
    (a_Lkey : PySem.W.nsIn K mainGlobals "_law_key" = some (some (.ref f_Lkey))) (l_Lkey : K.lookup f_Lkey = some ⟨oc_Lkey, od_Lkey, .func (PySem.W.fnOf "_law_key" "_law_key" (defArgs s_Lkey) (defBody s_Lkey) (defScope s_Lkey) .none kV_Lkey dc_Lkey pm_Lkey an_Lkey cd_Lkey ct_Lkey), sl_Lkey⟩) (c_Lkey : PySem.W.codeIn K cd_Lkey "_law_key" = true) (k_Lkey : PySem.W.keepIn K (.ref f_Lkey) = true)
    {od_Lword an_Lword : Option Addr} {sl_Lword : Array (Option Value)} {oc_Lword kV_Lword dc_Lword pm_Lword cd_Lword ct_Lword : Value} {f_Lword : Addr}
    (a_Lword : PySem.W.nsIn K mainGlobals "_law_word" = some (some (.ref f_Lword))) (l_Lword : K.lookup f_Lword = some ⟨oc_Lword, od_Lword, .func (PySem.W.fnOf "_law_word" "_law_word" (defArgs s_Lword) (defBody s_Lword) (defScope s_Lword) .none kV_Lword dc_Lword pm_Lword an_Lword cd_Lword ct_Lword), sl_Lword⟩) (c_Lword : PySem.W.codeIn K cd_Lword "_law_word" = true) (k_Lword : PySem.W.keepIn K (.ref f_Lword) = true)
    {od_Lbent an_Lbent : Option Addr} {sl_Lbent : Array (Option Value)} {oc_Lbent kV_Lbent dc_Lbent pm_Lbent cd_Lbent ct_Lbent : Value} {f_Lbent : Addr}
    (a_Lbent : PySem.W.nsIn K mainGlobals "_law_bent" = some (some (.ref f_Lbent))) (l_Lbent : K.lookup f_Lbent = some ⟨oc_Lbent, od_Lbent, .func (PySem.W.fnOf "_law_bent" "_law_bent" (defArgs s_Lbent) (defBody s_Lbent) (defScope s_Lbent) .none kV_Lbent dc_Lbent pm_Lbent an_Lbent cd_Lbent ct_Lbent), sl_Lbent⟩) (c_Lbent : PySem.W.codeIn K cd_Lbent "_law_bent" = true) (k_Lbent : PySem.W.keepIn K (.ref f_Lbent) = true)
    {od_Lread_right an_Lread_right : Option Addr} {sl_Lread_right : Array (Option Value)} {oc_Lread_right kV_Lread_right dc_Lread_right pm_Lread_right cd_Lread_right ct_Lread_right : Value} {f_Lread_right : Addr}
    (a_Lread_right : PySem.W.nsIn K mainGlobals "_law_read_right" = some (some (.ref f_Lread_right))) (l_Lread_right : K.lookup f_Lread_right = some ⟨oc_Lread_right, od_Lread_right, .func (PySem.W.fnOf "_law_read_right" "_law_read_right" (defArgs s_Lread_right) (defBody s_Lread_right) (defScope s_Lread_right) .none kV_Lread_right dc_Lread_right pm_Lread_right an_Lread_right cd_Lread_right ct_Lread_right), sl_Lread_right⟩) (c_Lread_right : PySem.W.codeIn K cd_Lread_right "_law_read_right" = true) (k_Lread_right : PySem.W.keepIn K (.ref f_Lread_right) = true)
    {od_Lrow_right an_Lrow_right : Option Addr} {sl_Lrow_right : Array (Option Value)} {oc_Lrow_right kV_Lrow_right dc_Lrow_right pm_Lrow_right cd_Lrow_right ct_Lrow_right : Value} {f_Lrow_right : Addr}
    (a_Lrow_right : PySem.W.nsIn K mainGlobals "_law_row_right" = some (some (.ref f_Lrow_right))) (l_Lrow_right : K.lookup f_Lrow_right = some ⟨oc_Lrow_right, od_Lrow_right, .func (PySem.W.fnOf "_law_row_right" "_law_row_right" (defArgs s_Lrow_right) (defBody s_Lrow_right) (defScope s_Lrow_right) .none kV_Lrow_right dc_Lrow_right pm_Lrow_right an_Lrow_right cd_Lrow_right ct_Lrow_right), sl_Lrow_right⟩) (c_Lrow_right : PySem.W.codeIn K cd_Lrow_right "_law_row_right" = true) (k_Lrow_right : PySem.W.keepIn K (.ref f_Lrow_right) = true)
    {od_law an_law : Option Addr} {sl_law : Array (Option Value)} {oc_law kV_law dc_law pm_law cd_law ct_law : Value} {f_law : Addr}
    (a_law : PySem.W.nsIn K mainGlobals "law" = some (some (.ref f_law))) (l_law : K.lookup f_law = some ⟨oc_law, od_law, .func (PySem.W.fnOf "law" "law" (defArgs s_law) (defBody s_law) (defScope s_law) .none kV_law dc_law pm_law an_law cd_law ct_law), sl_law⟩) (c_law : PySem.W.codeIn K cd_law "law" = true) (k_law : PySem.W.keepIn K (.ref f_law) = true)
    (z_abs : PySem.W.nsIn K mainGlobals "abs" = some none)
    (z_all : PySem.W.nsIn K mainGlobals "all" = some none)
    (z_bool : PySem.W.nsIn K mainGlobals "bool" = some none)
    (z_int : PySem.W.nsIn K mainGlobals "int" = some none)
    (z_isinstance : PySem.W.nsIn K mainGlobals "isinstance" = some none)
    (z_len : PySem.W.nsIn K mainGlobals "len" = some none)
    (z_list : PySem.W.nsIn K mainGlobals "list" = some none)
    (z_ord : PySem.W.nsIn K mainGlobals "ord" = some none)
    (z_range : PySem.W.nsIn K mainGlobals "range" = some none)
    (z_str : PySem.W.nsIn K mainGlobals "str" = some none)
    (z_tuple : PySem.W.nsIn K mainGlobals "tuple" = some none)
    {t_DATE_DIGITS : Tok} (y_DATE_DIGITS : PySem.W.nsIn K mainGlobals "DATE_DIGITS" = some (some (.int (7) t_DATE_DIGITS)))
    {t_DIGITS : Tok} (y_DIGITS : PySem.W.nsIn K mainGlobals "DIGITS" = some (some (.str "0123456789" t_DIGITS)))
    {t_HOPS_DIGITS : Tok} (y_HOPS_DIGITS : PySem.W.nsIn K mainGlobals "HOPS_DIGITS" = some (some (.int (3) t_HOPS_DIGITS)))
    {t_LETTERS : Tok} (y_LETTERS : PySem.W.nsIn K mainGlobals "LETTERS" = some (some (.str "abcdefghijklmnopqrstuvwxyz" t_LETTERS)))
    {t_MOST_KEY : Tok} (y_MOST_KEY : PySem.W.nsIn K mainGlobals "MOST_KEY" = some (some (.int (60) t_MOST_KEY)))
    {t_MOST_NAME : Tok} (y_MOST_NAME : PySem.W.nsIn K mainGlobals "MOST_NAME" = some (some (.int (8) t_MOST_NAME)))
    {oa_BARE : Addr} {od_BARE : Option Addr} {oi_BARE : Array Value} {on_BARE : Nat} {os_BARE : Array (Option Value)} (y_BARE : PySem.W.nsIn K mainGlobals "BARE" = some (some (.ref oa_BARE))) (ol_BARE : K.lookup oa_BARE = some ⟨.type "tuple", od_BARE, .seq oi_BARE on_BARE, os_BARE⟩) (oz_BARE : oi_BARE.size ≤ sizeLine) (ov_BARE : Vals (([".", "close", "ready", "closed"] : List Str).map V.str) oi_BARE.toList)
    {oa_KEYED : Addr} {od_KEYED : Option Addr} {oi_KEYED : Array Value} {on_KEYED : Nat} {os_KEYED : Array (Option Value)} (y_KEYED : PySem.W.nsIn K mainGlobals "KEYED" = some (some (.ref oa_KEYED))) (ol_KEYED : K.lookup oa_KEYED = some ⟨.type "tuple", od_KEYED, .seq oi_KEYED on_KEYED, os_KEYED⟩) (oz_KEYED : oi_KEYED.size ≤ sizeLine) (ov_KEYED : Vals ((["bring", "body", "clear", "want", "have", "old", "took", "spoilt", "cleared"] : List Str).map V.str) oi_KEYED.toList) :
    ∃ fd : FuncData, (∀ (s : Shared) (v : Value), BindsTo s fd ⟨[v], []⟩ [("script", v)]) ∧ ∀ base : Heap, K.In base → base.Ns mainGlobals mg → FnOk l.prog w K mg base CX0 16 fa fd ["script"] (lSp K sp_law) := by
  have e : f_law = fa := by
    have e := (PySem.W.mg_of X G a_law).symm.trans hfa
    injection e with e
    injection e
  subst e
  have ec_BadWord : clsA K "BadWord" = c_BadWord := by
    unfold clsA
    rw [u_BadWord]
  subst ec_BadWord
  have ec_LimitError : clsA K "LimitError" = c_LimitError := by
    unfold clsA
    rw [u_LimitError]
  subst ec_LimitError
  have ec_MootError : clsA K "MootError" = c_MootError := by
    unfold clsA
    rw [u_MootError]
  subst ec_MootError
  have ec_TextError : clsA K "TextError" = c_TextError := by
    unfold clsA
    rw [u_TextError]
  subst ec_TextError
  have F_is_row := fun_mk (st := s_is_row) l_is_row c_is_row k_is_row
  have b_is_row := F_is_row.binds (ps := ["text"]) fun _ _ _ _ _ _ us hl => match us, hl with | [_], _ => rfl
  have F_is_plain_word := fun_mk (st := s_is_plain_word) l_is_plain_word c_is_plain_word k_is_plain_word
  have b_is_plain_word := F_is_plain_word.binds (ps := ["text"]) fun _ _ _ _ _ _ us hl => match us, hl with | [_], _ => rfl
  have F_is_name := fun_mk (st := s_is_name) l_is_name c_is_name k_is_name
  have b_is_name := F_is_name.binds (ps := ["text"]) fun _ _ _ _ _ _ us hl => match us, hl with | [_], _ => rfl
  have F_is_number := fun_mk (st := s_is_number) l_is_number c_is_number k_is_number
  have b_is_number := F_is_number.binds (ps := ["text"]) fun _ _ _ _ _ _ us hl => match us, hl with | [_], _ => rfl
  have F_is_key := fun_mk (st := s_is_key) l_is_key c_is_key k_is_key
  have b_is_key := F_is_key.binds (ps := ["text"]) fun _ _ _ _ _ _ us hl => match us, hl with | [_], _ => rfl
  have F_is_number_of := fun_mk (st := s_is_number_of) l_is_number_of c_is_number_of k_is_number_of
  have b_is_number_of := F_is_number_of.binds (ps := ["text", "digits"]) fun _ _ _ _ _ _ us hl => match us, hl with | [_, _], _ => rfl
  have F_stuffed := fun_mk (st := s_stuffed) l_stuffed c_stuffed k_stuffed
  have b_stuffed := F_stuffed.binds (ps := ["row"]) fun _ _ _ _ _ _ us hl => match us, hl with | [_], _ => rfl
  have F_unstuffed := fun_mk (st := s_unstuffed) l_unstuffed c_unstuffed k_unstuffed
  have b_unstuffed := F_unstuffed.binds (ps := ["word"]) fun _ _ _ _ _ _ us hl => match us, hl with | [_], _ => rfl
  have F_Lmix := fun_mk (st := s_Lmix) l_Lmix c_Lmix k_Lmix
  have b_Lmix := F_Lmix.binds (ps := ["seed", "turn"]) fun _ _ _ _ _ _ us hl => match us, hl with | [_, _], _ => rfl
  have F_Lsource := fun_mk (st := s_Lsource) l_Lsource c_Lsource k_Lsource
  have b_Lsource := F_Lsource.binds (ps := ["script"]) fun _ _ _ _ _ _ us hl => match us, hl with | [_], _ => rfl
  have F_Ldraw := fun_mk (st := s_Ldraw) l_Ldraw c_Ldraw k_Ldraw
  have b_Ldraw := F_Ldraw.binds (ps := ["source", "many"]) fun _ _ _ _ _ _ us hl => match us, hl with | [_, _], _ => rfl
  have F_Lpick := fun_mk (st := s_Lpick) l_Lpick c_Lpick k_Lpick
  have b_Lpick := F_Lpick.binds (ps := ["source", "row"]) fun _ _ _ _ _ _ us hl => match us, hl with | [_, _], _ => rfl
  have F_Lnew_name := fun_mk (st := s_Lnew_name) l_Lnew_name c_Lnew_name k_Lnew_name
  have b_Lnew_name := F_Lnew_name.binds (ps := ["source", "used"]) fun _ _ _ _ _ _ us hl => match us, hl with | [_, _], _ => rfl
  have F_Lrow := fun_mk (st := s_Lrow) l_Lrow c_Lrow k_Lrow
  have b_Lrow := F_Lrow.binds (ps := ["source", "size"]) fun _ _ _ _ _ _ us hl => match us, hl with | [_, _], _ => rfl
  have F_Lis_int := fun_mk (st := s_Lis_int) l_Lis_int c_Lis_int k_Lis_int
  have b_Lis_int := F_Lis_int.binds (ps := ["value"]) fun _ _ _ _ _ _ us hl => match us, hl with | [_], _ => rfl
  have F_Lsame := fun_mk (st := s_Lsame) l_Lsame c_Lsame k_Lsame
  have b_Lsame := F_Lsame.binds (ps := ["actual", "due"]) fun _ _ _ _ _ _ us hl => match us, hl with | [_, _], _ => rfl
  have F_read_word := fun_mk (st := s_read_word) l_read_word c_read_word k_read_word
  have b_read_word := F_read_word.binds (ps := ["word"]) fun _ _ _ _ _ _ us hl => match us, hl with | [_], _ => rfl
  have F_write_word := fun_mk (st := s_write_word) l_write_word c_write_word k_write_word
  have b_write_word := F_write_word.binds (ps := ["parts"]) fun _ _ _ _ _ _ us hl => match us, hl with | [_], _ => rfl
  have F_Lis_name := fun_mk (st := s_Lis_name) l_Lis_name c_Lis_name k_Lis_name
  have b_Lis_name := F_Lis_name.binds (ps := ["text"]) fun _ _ _ _ _ _ us hl => match us, hl with | [_], _ => rfl
  have F_Lnumber := fun_mk (st := s_Lnumber) l_Lnumber c_Lnumber k_Lnumber
  have b_Lnumber := F_Lnumber.binds (ps := ["text", "digits"]) fun _ _ _ _ _ _ us hl => match us, hl with | [_, _], _ => rfl
  have F_Lparts := fun_mk (st := s_Lparts) l_Lparts c_Lparts k_Lparts
  have b_Lparts := F_Lparts.binds (ps := ["word"]) fun _ _ _ _ _ _ us hl => match us, hl with | [_], _ => rfl
  have F_Lkey := fun_mk (st := s_Lkey) l_Lkey c_Lkey k_Lkey
  have b_Lkey := F_Lkey.binds (ps := ["source"]) fun _ _ _ _ _ _ us hl => match us, hl with | [_], _ => rfl
  have F_Lword := fun_mk (st := s_Lword) l_Lword c_Lword k_Lword
  have b_Lword := F_Lword.binds (ps := ["source"]) fun _ _ _ _ _ _ us hl => match us, hl with | [_], _ => rfl
  have F_Lbent := fun_mk (st := s_Lbent) l_Lbent c_Lbent k_Lbent
  have b_Lbent := F_Lbent.binds (ps := ["source", "word"]) fun _ _ _ _ _ _ us hl => match us, hl with | [_, _], _ => rfl
  have F_Lread_right := fun_mk (st := s_Lread_right) l_Lread_right c_Lread_right k_Lread_right
  have b_Lread_right := F_Lread_right.binds (ps := ["word"]) fun _ _ _ _ _ _ us hl => match us, hl with | [_], _ => rfl
  have F_Lrow_right := fun_mk (st := s_Lrow_right) l_Lrow_right c_Lrow_right k_Lrow_right
  have b_Lrow_right := F_Lrow_right.binds (ps := ["row"]) fun _ _ _ _ _ _ us hl => match us, hl with | [_], _ => rfl
  have F_law := fun_mk (st := s_law) l_law c_law k_law
  have b_law := F_law.binds (ps := ["script"]) fun _ _ _ _ _ _ us hl => match us, hl with | [_], _ => rfl
  let T : Fx l.prog K mg := { gX_BadWord := PySem.W.mg_of X G u_BadWord, gX_LimitError := PySem.W.mg_of X G u_LimitError, gX_MootError := PySem.W.mg_of X G u_MootError, gX_TextError := PySem.W.mg_of X G u_TextError, fI_BadWord := fI_BadWord, cc_BadWord := cc_BadWord, cd_BadWord := cd_BadWord, dX_BadWord := _, X_BadWord := { ex := ⟨_, _, _, _, _, _, _, _, rfl, lX_BadWord⟩, code := cX_BadWord, file := ⟨_, _, _, _, _, _, fX_BadWord, fY_BadWord, fZ_BadWord⟩, cell := ⟨_, _, _, eX_BadWord⟩, top := tpX, sup := PySem.W.mg_none_of X G zX, bd := bdX_BadWord, ar := ⟨_, rfl, rfl⟩, ks := rfl, kc := rfl, ka := rfl, kf := rfl, knd := rfl, co := rfl, gn := rfl, nc := by decide +kernel, fn := by decide, fs := by decide, al := aX_BadWord, sb := sX2_BadWord, sC := mX_BadWord, op := opX, no := nX_BadWord, ox := ⟨⟨_, _, _, _, _, _, _, _, _, _, _, _, _, _, _, xL_BadWord, xV_BadWord⟩, sa_BadWord, eB_BadWord, kt_BadWord, kk_BadWord⟩ }, iC_BadWord := iX_BadWord, tI_BadWord := tX_BadWord, bX_BadWord := (Binds.all fun us hl => match us, hl with | [_, _], _ => rfl), xc_BadWord := ⟨ga_BadWord, gg_BadWord, eB_BadWord, hd_BadWord, ha_BadWord, hnX, htX, hm_BadWord⟩, xf_BadWord := ⟨ga_BadWord, gg_BadWord, eB_BadWord, hd_BadWord⟩, ex_BadWord_MootError := exm_own xe_BadWord_MootError kc_MootError kt_MootError xs_BadWord_MootError, k_BadWord_BadWord := kit_own kc_BadWord kt_BadWord xk_BadWord_BadWord (fun _ => rfl), k_BadWord_LimitError := kit_own kc_LimitError kt_LimitError xk_BadWord_LimitError (fun z => absurd z xn_BadWord_LimitError), k_BadWord_TextError := kit_own kc_TextError kt_TextError xk_BadWord_TextError (fun z => absurd z xn_BadWord_TextError), a_is_row := f_is_row, d_is_row := _, F_is_row := F_is_row, b_is_row := b_is_row, g_is_row := PySem.W.mg_of X G a_is_row, a_is_plain_word := f_is_plain_word, d_is_plain_word := _, F_is_plain_word := F_is_plain_word, b_is_plain_word := b_is_plain_word, g_is_plain_word := PySem.W.mg_of X G a_is_plain_word, a_is_name := f_is_name, d_is_name := _, F_is_name := F_is_name, b_is_name := b_is_name, g_is_name := PySem.W.mg_of X G a_is_name, a_is_number := f_is_number, d_is_number := _, F_is_number := F_is_number, b_is_number := b_is_number, g_is_number := PySem.W.mg_of X G a_is_number, a_is_key := f_is_key, d_is_key := _, F_is_key := F_is_key, b_is_key := b_is_key, g_is_key := PySem.W.mg_of X G a_is_key, a_is_number_of := f_is_number_of, d_is_number_of := _, F_is_number_of := F_is_number_of, b_is_number_of := b_is_number_of, g_is_number_of := PySem.W.mg_of X G a_is_number_of, a_stuffed := f_stuffed, d_stuffed := _, F_stuffed := F_stuffed, b_stuffed := b_stuffed, g_stuffed := PySem.W.mg_of X G a_stuffed, a_unstuffed := f_unstuffed, d_unstuffed := _, F_unstuffed := F_unstuffed, b_unstuffed := b_unstuffed, g_unstuffed := PySem.W.mg_of X G a_unstuffed, a_Lmix := f_Lmix, d_Lmix := _, F_Lmix := F_Lmix, b_Lmix := b_Lmix, g_Lmix := PySem.W.mg_of X G a_Lmix, a_Lsource := f_Lsource, d_Lsource := _, F_Lsource := F_Lsource, b_Lsource := b_Lsource, g_Lsource := PySem.W.mg_of X G a_Lsource, a_Ldraw := f_Ldraw, d_Ldraw := _, F_Ldraw := F_Ldraw, b_Ldraw := b_Ldraw, g_Ldraw := PySem.W.mg_of X G a_Ldraw, a_Lpick := f_Lpick, d_Lpick := _, F_Lpick := F_Lpick, b_Lpick := b_Lpick, g_Lpick := PySem.W.mg_of X G a_Lpick, a_Lnew_name := f_Lnew_name, d_Lnew_name := _, F_Lnew_name := F_Lnew_name, b_Lnew_name := b_Lnew_name, g_Lnew_name := PySem.W.mg_of X G a_Lnew_name, a_Lrow := f_Lrow, d_Lrow := _, F_Lrow := F_Lrow, b_Lrow := b_Lrow, g_Lrow := PySem.W.mg_of X G a_Lrow, a_Lis_int := f_Lis_int, d_Lis_int := _, F_Lis_int := F_Lis_int, b_Lis_int := b_Lis_int, g_Lis_int := PySem.W.mg_of X G a_Lis_int, a_Lsame := f_Lsame, d_Lsame := _, F_Lsame := F_Lsame, b_Lsame := b_Lsame, g_Lsame := PySem.W.mg_of X G a_Lsame, a_read_word := f_read_word, d_read_word := _, F_read_word := F_read_word, b_read_word := b_read_word, g_read_word := PySem.W.mg_of X G a_read_word, a_write_word := f_write_word, d_write_word := _, F_write_word := F_write_word, b_write_word := b_write_word, g_write_word := PySem.W.mg_of X G a_write_word, a_Lis_name := f_Lis_name, d_Lis_name := _, F_Lis_name := F_Lis_name, b_Lis_name := b_Lis_name, g_Lis_name := PySem.W.mg_of X G a_Lis_name, a_Lnumber := f_Lnumber, d_Lnumber := _, F_Lnumber := F_Lnumber, b_Lnumber := b_Lnumber, g_Lnumber := PySem.W.mg_of X G a_Lnumber, a_Lparts := f_Lparts, d_Lparts := _, F_Lparts := F_Lparts, b_Lparts := b_Lparts, g_Lparts := PySem.W.mg_of X G a_Lparts, a_Lkey := f_Lkey, d_Lkey := _, F_Lkey := F_Lkey, b_Lkey := b_Lkey, g_Lkey := PySem.W.mg_of X G a_Lkey, a_Lword := f_Lword, d_Lword := _, F_Lword := F_Lword, b_Lword := b_Lword, g_Lword := PySem.W.mg_of X G a_Lword, a_Lbent := f_Lbent, d_Lbent := _, F_Lbent := F_Lbent, b_Lbent := b_Lbent, g_Lbent := PySem.W.mg_of X G a_Lbent, a_Lread_right := f_Lread_right, d_Lread_right := _, F_Lread_right := F_Lread_right, b_Lread_right := b_Lread_right, g_Lread_right := PySem.W.mg_of X G a_Lread_right, a_Lrow_right := f_Lrow_right, d_Lrow_right := _, F_Lrow_right := F_Lrow_right, b_Lrow_right := b_Lrow_right, g_Lrow_right := PySem.W.mg_of X G a_Lrow_right, a_law := f_law, d_law := _, F_law := F_law, b_law := b_law, g_law := PySem.W.mg_of X G a_law, m_abs := PySem.W.mg_none_of X G z_abs, m_all := PySem.W.mg_none_of X G z_all, m_bool := PySem.W.mg_none_of X G z_bool, m_int := PySem.W.mg_none_of X G z_int, m_isinstance := PySem.W.mg_none_of X G z_isinstance, m_len := PySem.W.mg_none_of X G z_len, m_list := PySem.W.mg_none_of X G z_list, m_ord := PySem.W.mg_none_of X G z_ord, m_range := PySem.W.mg_none_of X G z_range, m_str := PySem.W.mg_none_of X G z_str, m_tuple := PySem.W.mg_none_of X G z_tuple, t_DATE_DIGITS := _, c_DATE_DIGITS := PySem.W.mg_of X G y_DATE_DIGITS, t_DIGITS := _, c_DIGITS := PySem.W.mg_of X G y_DIGITS, t_HOPS_DIGITS := _, c_HOPS_DIGITS := PySem.W.mg_of X G y_HOPS_DIGITS, t_LETTERS := _, c_LETTERS := PySem.W.mg_of X G y_LETTERS, t_MOST_KEY := _, c_MOST_KEY := PySem.W.mg_of X G y_MOST_KEY, t_MOST_NAME := _, c_MOST_NAME := PySem.W.mg_of X G y_MOST_NAME, o_a_BARE := oa_BARE, c_BARE := PySem.W.mg_of X G y_BARE, o_BARE := glT_mk ol_BARE oz_BARE ov_BARE, o_a_KEYED := oa_KEYED, c_KEYED := PySem.W.mg_of X G y_KEYED, o_KEYED := glT_mk ol_KEYED oz_KEYED ov_KEYED }
  exact ⟨T.d_law, fun s v => .of_eq rfl, fun base _ _ => ok_law (P := l.prog) (w := w) (base := base) T⟩
end CK39
open PySem PySem.W PyProof.Rows
set_option maxHeartbeats 0 in
theorem PySem.Challenge.cw_criermoot_k39_words_read_holds : PySem.Challenge.rw_criermoot_k39_words_read.Holds := by
  w_on; o_law; k_head; (case hw => w_witness2)
  k_fill
  refine L2.walk_ofK (l := PySem.Challenge.rw_criermoot_k39_words_read) (n := 63) (k := 16) (x := "script") (CX := L2.CX0) (sp := fun K => DL.lSp K CK39.sp_law) rfl (by decide) rfl ⟨rfl, by decide, by decide⟩ (fun w h Y => PySem.W.kIn_of Y) ?F CK39.fin (fun _ _ _ _ h => h)
  case F =>
    intro w mg fa h KX G hmg
    refine' CK39.all_mk KX G hmg ?u_BadWord ?kc_BadWord ?kt_BadWord ?u_LimitError ?kc_LimitError ?kt_LimitError ?u_MootError ?kc_MootError ?kt_MootError ?u_TextError ?kc_TextError ?kt_TextError ?zX ?opX ?tpX ?hnX ?htX ?iX_BadWord ?tX_BadWord ?lX_BadWord ?cX_BadWord ?fX_BadWord ?fY_BadWord ?fZ_BadWord ?eX_BadWord ?aX_BadWord ?sX2_BadWord ?mX_BadWord ?nX_BadWord ?xL_BadWord ?xV_BadWord ?sa_BadWord ?ga_BadWord ?gg_BadWord ?kk_BadWord ?eB_BadWord ?hd_BadWord ?ha_BadWord ?hm_BadWord ?xe_BadWord_MootError ?xs_BadWord_MootError ?xk_BadWord_BadWord ?xk_BadWord_LimitError ?xn_BadWord_LimitError ?xk_BadWord_TextError ?xn_BadWord_TextError ?a_is_row ?l_is_row ?c_is_row ?k_is_row ?a_is_plain_word ?l_is_plain_word ?c_is_plain_word ?k_is_plain_word ?a_is_name ?l_is_name ?c_is_name ?k_is_name ?a_is_number ?l_is_number ?c_is_number ?k_is_number ?a_is_key ?l_is_key ?c_is_key ?k_is_key ?a_is_number_of ?l_is_number_of ?c_is_number_of ?k_is_number_of ?a_stuffed ?l_stuffed ?c_stuffed ?k_stuffed ?a_unstuffed ?l_unstuffed ?c_unstuffed ?k_unstuffed ?a_Lmix ?l_Lmix ?c_Lmix ?k_Lmix ?a_Lsource ?l_Lsource ?c_Lsource ?k_Lsource ?a_Ldraw ?l_Ldraw ?c_Ldraw ?k_Ldraw ?a_Lpick ?l_Lpick ?c_Lpick ?k_Lpick ?a_Lnew_name ?l_Lnew_name ?c_Lnew_name ?k_Lnew_name ?a_Lrow ?l_Lrow ?c_Lrow ?k_Lrow ?a_Lis_int ?l_Lis_int ?c_Lis_int ?k_Lis_int ?a_Lsame ?l_Lsame ?c_Lsame ?k_Lsame ?a_read_word ?l_read_word ?c_read_word ?k_read_word ?a_write_word ?l_write_word ?c_write_word ?k_write_word ?a_Lis_name ?l_Lis_name ?c_Lis_name ?k_Lis_name ?a_Lnumber ?l_Lnumber ?c_Lnumber ?k_Lnumber ?a_Lparts ?l_Lparts ?c_Lparts ?k_Lparts ?a_Lkey ?l_Lkey ?c_Lkey ?k_Lkey ?a_Lword ?l_Lword ?c_Lword ?k_Lword ?a_Lbent ?l_Lbent ?c_Lbent ?k_Lbent ?a_Lread_right ?l_Lread_right ?c_Lread_right ?k_Lread_right ?a_Lrow_right ?l_Lrow_right ?c_Lrow_right ?k_Lrow_right ?a_law ?l_law ?c_law ?k_law ?z_abs ?z_all ?z_bool ?z_int ?z_isinstance ?z_len ?z_list ?z_ord ?z_range ?z_str ?z_tuple ?y_DATE_DIGITS ?y_DIGITS ?y_HOPS_DIGITS ?y_LETTERS ?y_MOST_KEY ?y_MOST_NAME ?y_BARE ?ol_BARE ?oz_BARE ?ov_BARE ?y_KEYED ?ol_KEYED ?oz_KEYED ?ov_KEYED
    (case u_BadWord => k_is); (case kc_BadWord => k_is); (case kt_BadWord => k_is); (case u_LimitError => k_is); (case kc_LimitError => k_is); (case kt_LimitError => k_is); (case u_MootError => k_is); (case kc_MootError => k_is); (case kt_MootError => k_is); (case u_TextError => k_is); (case kc_TextError => k_is); (case kt_TextError => k_is); (case zX => k_is); (case opX => k_is); (case tpX => (first | rfl | decide +kernel | kernel_rfl)); (case hnX => k_is); (case htX => k_is); (case iX_BadWord => k_is); (case tX_BadWord => k_is); (case lX_BadWord => k_is); (case cX_BadWord => k_is); (case fX_BadWord => k_is); (case fY_BadWord => (first | rfl | decide +kernel | kernel_rfl)); (case fZ_BadWord => (first | rfl | decide +kernel | kernel_rfl)); (case eX_BadWord => k_is); (case aX_BadWord => ks_is); (case sX2_BadWord => k_is); (case mX_BadWord => k_is); (case nX_BadWord => k_is); (case xL_BadWord => k_is); (case xV_BadWord => (first | rfl | decide +kernel | kernel_rfl)); (case sa_BadWord => k_is); (case ga_BadWord => k_is); (case gg_BadWord => k_is); (case kk_BadWord => k_is); (case eB_BadWord => k_is); (case hd_BadWord => k_is); (case ha_BadWord => k_is); (case hm_BadWord => k_is); (case xe_BadWord_MootError => k_is); (case xs_BadWord_MootError => k_is); (case xk_BadWord_BadWord => k_is); (case xk_BadWord_LimitError => k_is); (case xn_BadWord_LimitError => decide); (case xk_BadWord_TextError => k_is); (case xn_BadWord_TextError => decide); (case a_is_row => k_is); (case l_is_row => k_is); (case c_is_row => k_is); (case k_is_row => k_is); (case a_is_plain_word => k_is); (case l_is_plain_word => k_is); (case c_is_plain_word => k_is); (case k_is_plain_word => k_is); (case a_is_name => k_is); (case l_is_name => k_is); (case c_is_name => k_is); (case k_is_name => k_is); (case a_is_number => k_is); (case l_is_number => k_is); (case c_is_number => k_is); (case k_is_number => k_is); (case a_is_key => k_is); (case l_is_key => k_is); (case c_is_key => k_is); (case k_is_key => k_is); (case a_is_number_of => k_is); (case l_is_number_of => k_is); (case c_is_number_of => k_is); (case k_is_number_of => k_is); (case a_stuffed => k_is); (case l_stuffed => k_is); (case c_stuffed => k_is); (case k_stuffed => k_is); (case a_unstuffed => k_is); (case l_unstuffed => k_is); (case c_unstuffed => k_is); (case k_unstuffed => k_is); (case a_Lmix => k_is); (case l_Lmix => k_is); (case c_Lmix => k_is); (case k_Lmix => k_is); (case a_Lsource => k_is); (case l_Lsource => k_is); (case c_Lsource => k_is); (case k_Lsource => k_is); (case a_Ldraw => k_is); (case l_Ldraw => k_is); (case c_Ldraw => k_is); (case k_Ldraw => k_is); (case a_Lpick => k_is); (case l_Lpick => k_is); (case c_Lpick => k_is); (case k_Lpick => k_is); (case a_Lnew_name => k_is); (case l_Lnew_name => k_is); (case c_Lnew_name => k_is); (case k_Lnew_name => k_is); (case a_Lrow => k_is); (case l_Lrow => k_is); (case c_Lrow => k_is); (case k_Lrow => k_is); (case a_Lis_int => k_is); (case l_Lis_int => k_is); (case c_Lis_int => k_is); (case k_Lis_int => k_is); (case a_Lsame => k_is); (case l_Lsame => k_is); (case c_Lsame => k_is); (case k_Lsame => k_is); (case a_read_word => k_is); (case l_read_word => k_is); (case c_read_word => k_is); (case k_read_word => k_is); (case a_write_word => k_is); (case l_write_word => k_is); (case c_write_word => k_is); (case k_write_word => k_is); (case a_Lis_name => k_is); (case l_Lis_name => k_is); (case c_Lis_name => k_is); (case k_Lis_name => k_is); (case a_Lnumber => k_is); (case l_Lnumber => k_is); (case c_Lnumber => k_is); (case k_Lnumber => k_is); (case a_Lparts => k_is); (case l_Lparts => k_is); (case c_Lparts => k_is); (case k_Lparts => k_is); (case a_Lkey => k_is); (case l_Lkey => k_is); (case c_Lkey => k_is); (case k_Lkey => k_is); (case a_Lword => k_is); (case l_Lword => k_is); (case c_Lword => k_is); (case k_Lword => k_is); (case a_Lbent => k_is); (case l_Lbent => k_is); (case c_Lbent => k_is); (case k_Lbent => k_is); (case a_Lread_right => k_is); (case l_Lread_right => k_is); (case c_Lread_right => k_is); (case k_Lread_right => k_is); (case a_Lrow_right => k_is); (case l_Lrow_right => k_is); (case c_Lrow_right => k_is); (case k_Lrow_right => k_is); (case a_law => k_is); (case l_law => k_is); (case c_law => k_is); (case k_law => k_is); (case z_abs => k_is); (case z_all => k_is); (case z_bool => k_is); (case z_int => k_is); (case z_isinstance => k_is); (case z_len => k_is); (case z_list => k_is); (case z_ord => k_is); (case z_range => k_is); (case z_str => k_is); (case z_tuple => k_is); (case y_DATE_DIGITS => k_is); (case y_DIGITS => k_is); (case y_HOPS_DIGITS => k_is); (case y_LETTERS => k_is); (case y_MOST_KEY => k_is); (case y_MOST_NAME => k_is); (case y_BARE => k_is); (case ol_BARE => k_is); (case oz_BARE => decide); (case ov_BARE => (repeat (first | exact .nil | refine .cons ⟨_, rfl⟩ ?_))); (case y_KEYED => k_is); (case ol_KEYED => k_is); (case oz_KEYED => decide); (case ov_KEYED => (repeat (first | exact .nil | refine .cons ⟨_, rfl⟩ ?_)))
