import PyProof.Rows.All
import Wide.All
import OpenK.AllK
import Wide.FinOn
import HandS.ForMost
import HandS.IsInst
import HandS.TupAny
import HandS.Deep
import HandS.Replace
import PySem.Challenge.RW_criermoot_k02_words
set_option Elab.async false
set_option linter.all false
set_option maxRecDepth 100000

namespace DL
open PySem L2
/-- immutable data, deep; a reference to a mutable object -/
inductive D where
  | non | bl (b : Bool) | int (i : Int) | str (x : Str) | tup (ds : List D) | ref (a : Addr) | klst (ds : List D)
/-- mutable objects -/
inductive MO where
  | lst (ds : List D) | ro (ds : List D) | ins (C : Addr) (fs : List (Str × D))
abbrev GS := Addr → Option MO
def gup (g : GS) (a : Addr) (o : MO) : GS := fun b => if b = a then some o else g b
theorem gup_same {g : GS} {a : Addr} {o : MO} : gup g a o a = some o := by unfold gup; rw [if_pos rfl]
theorem gup_ne {g : GS} {a b : Addr} {o : MO} (h : b ≠ a) : gup g a o b = g b := by unfold gup; rw [if_neg h]
abbrev DK := D → GS → Prop
abbrev EV := List (Option D)
abbrev DTE := EV → GS → DK → Prop
abbrev DTT := EV → GS → (Bool → GS → Prop) → Prop
abbrev DTA := EV → GS → (List D → GS → Prop) → Prop
structure DEnds where
  nx : EV → GS → Prop
  rt : DK
  bk : EV → GS → Prop := fun _ _ => False
  ct : EV → GS → Prop := fun _ _ => False
abbrev DTS := DEnds → EV → GS → Prop
abbrev DSp := List D → GS → DK → Prop

/-! ### what represents what -/
/-- a list that never changes: the script, a written one -/
def SqF (K : PySem.W.Frag) (H : Hp) (a : Addr) (xs : List V) : Prop := (∃ o, H a = some (.frz o (.lst xs))) ∨
  ∃ (o : Obj) (its : Array Value) (n : Nat), K.lookup a = some o ∧ o.cls = .type "list" ∧ o.dict = none ∧ o.data = .seq its n ∧ its.size ≤ sizeLine ∧ Vals xs its.toList
theorem SqF.sq {K : PySem.W.Frag} {H : Hp} {a : Addr} {xs : List V} (h : SqF K H a xs) : SqL K H a xs := by
  rcases h with ⟨o, h⟩ | h
  · exact .inl (.inr ⟨o, h⟩)
  · exact .inr h
mutual
inductive RepD (K : PySem.W.Frag) (H : Hp) : V → D → Prop
  | non : RepD K H .non .non
  | bl (b : Bool) : RepD K H (.bl b) (.bl b)
  | int (i : Int) : RepD K H (.int i) (.int i)
  | str (x : Str) : RepD K H (.str x) (.str x)
  | ref (a : Addr) : RepD K H (.ref a) (.ref a)
  | tup {a : Addr} {xs : List V} {ds : List D} : SqT K H a xs → RepL K H xs ds → RepD K H (.ref a) (.tup ds)
  | kl {a : Addr} {xs : List V} {ds : List D} : SqF K H a xs → RepL K H xs ds → RepD K H (.ref a) (.klst ds)
inductive RepL (K : PySem.W.Frag) (H : Hp) : List V → List D → Prop
  | nil : RepL K H [] []
  | cons {v : V} {d : D} {vs : List V} {ds : List D} : RepD K H v d → RepL K H vs ds → RepL K H (v :: vs) (d :: ds)
end
def Ext (H H' : Hp) : Prop := (∀ a xs, H a = some (.tup xs) → H' a = some (.tup xs)) ∧ ∀ a o u, H a = some (.frz o u) → H' a = some (.frz o u)
theorem Ext.refl (H : Hp) : Ext H H := ⟨fun _ _ h => h, fun _ _ _ h => h⟩
theorem Ext.trans {H H1 H2 : Hp} (a : Ext H H1) (b : Ext H1 H2) : Ext H H2 := ⟨fun x y h => b.1 x y (a.1 x y h), fun x y z h => b.2 x y z (a.2 x y z h)⟩
theorem Ext.new {H : Hp} {p : Addr} {o : HO} (h : H p = none) : Ext H (upd H p o) :=
  ⟨fun a xs e => by rw [upd_ne (ne_of_none e h)]; exact e, fun a ob u e => by rw [upd_ne (ne_of_none e h)]; exact e⟩
theorem Ext.lst {H : Hp} {p : Addr} {xs : List V} {o : HO} (h : H p = some (.lst xs)) : Ext H (upd H p o) :=
  ⟨fun a ys e => by rw [upd_ne (ne_of e h (by intro z; cases z))]; exact e, fun a ob u e => by rw [upd_ne (ne_of e h (by intro z; cases z))]; exact e⟩
theorem Ext.ins {H : Hp} {p C dx : Addr} {fs : List (Str × V)} {o : HO} (h : H p = some (.ins C dx fs)) : Ext H (upd H p o) :=
  ⟨fun a ys e => by rw [upd_ne (ne_of e h (by intro z; cases z))]; exact e, fun a ob u e => by rw [upd_ne (ne_of e h (by intro z; cases z))]; exact e⟩
theorem Ext.sqT {K : PySem.W.Frag} {H H' : Hp} {a : Addr} {xs : List V} (e : Ext H H') (h : SqT K H a xs) : SqT K H' a xs := by
  rcases h with (h | ⟨o, h⟩) | h
  · exact .inl (.inl (e.1 _ _ h))
  · exact .inl (.inr ⟨o, e.2 _ _ _ h⟩)
  · exact .inr h
theorem Ext.sqF {K : PySem.W.Frag} {H H' : Hp} {a : Addr} {xs : List V} (e : Ext H H') (h : SqF K H a xs) : SqF K H' a xs := by
  rcases h with ⟨o, h⟩ | h
  · exact .inl ⟨o, e.2 _ _ _ h⟩
  · exact .inr h
section
variable {K : PySem.W.Frag} {H H' : Hp}
mutual
theorem RepD.mono (e : Ext H H') : ∀ {v : V} {d : D}, RepD K H v d → RepD K H' v d
  | _, _, .non => .non
  | _, _, .bl b => .bl b
  | _, _, .int i => .int i
  | _, _, .str x => .str x
  | _, _, .ref a => .ref a
  | _, _, .tup h r => .tup (e.sqT h) (RepL.mono e r)
  | _, _, .kl h r => .kl (e.sqF h) (RepL.mono e r)
theorem RepL.mono (e : Ext H H') : ∀ {vs : List V} {ds : List D}, RepL K H vs ds → RepL K H' vs ds
  | _, _, .nil => .nil
  | _, _, .cons h r => .cons (RepD.mono e h) (RepL.mono e r)
end
theorem RepL.length : ∀ {vs : List V} {ds : List D}, RepL K H vs ds → vs.length = ds.length
  | _, _, .nil => rfl
  | _, _, .cons _ r => congrArg (· + 1) (RepL.length r)
theorem RepL.get : ∀ {vs : List V} {ds : List D} {i : Nat} {d : D}, RepL K H vs ds → ds[i]? = some d → ∃ v, vs[i]? = some v ∧ RepD K H v d
  | _, _, _, _, .nil, h => by simp at h
  | _, _, 0, _, .cons r _, h => by simp at h; subst h; exact ⟨_, rfl, r⟩
  | _, _, i + 1, _, .cons _ t, h => by
    obtain ⟨v, e, r⟩ := RepL.get (i := i) t (by simpa using h)
    exact ⟨v, by simpa using e, r⟩
theorem RepL.getV : ∀ {vs : List V} {ds : List D} {i : Nat} {v : V}, RepL K H vs ds → vs[i]? = some v → ∃ d, ds[i]? = some d ∧ RepD K H v d
  | _, _, _, _, .nil, h => by simp at h
  | _, _, 0, _, .cons r _, h => by simp at h; subst h; exact ⟨_, rfl, r⟩
  | _, _, i + 1, _, .cons _ t, h => by
    obtain ⟨v, e, r⟩ := RepL.getV (i := i) t (by simpa using h)
    exact ⟨v, by simpa using e, r⟩
theorem RepL.set {v : V} {d : D} (r : RepD K H v d) : ∀ {vs : List V} {ds : List D} (i : Nat), RepL K H vs ds → RepL K H (vs.set i v) (ds.set i d)
  | _, _, _, .nil => .nil
  | _, _, 0, .cons _ t => .cons r t
  | _, _, i + 1, .cons h t => .cons h (RepL.set r i t)
theorem RepL.app : ∀ {vs ws : List V} {ds es : List D}, RepL K H vs ds → RepL K H ws es → RepL K H (vs ++ ws) (ds ++ es)
  | _, _, _, _, .nil, s => s
  | _, _, _, _, .cons h r, s => .cons h (RepL.app r s)
theorem RepL.take : ∀ {vs : List V} {ds : List D} (n : Nat), RepL K H vs ds → RepL K H (vs.take n) (ds.take n)
  | _, _, 0, _ => .nil
  | _, _, _ + 1, .nil => .nil
  | _, _, n + 1, .cons r t => .cons r (RepL.take n t)
theorem RepL.drop : ∀ {vs : List V} {ds : List D} (n : Nat), RepL K H vs ds → RepL K H (vs.drop n) (ds.drop n)
  | _, _, 0, r => r
  | _, _, _ + 1, .nil => .nil
  | _, _, n + 1, .cons _ t => RepL.drop n t
theorem RepL.rev {vs : List V} {ds : List D} (r : RepL K H vs ds) : RepL K H vs.reverse ds.reverse := by
  induction vs generalizing ds with
  | nil => cases r; exact .nil
  | cons v vs ih =>
    cases r with
    | cons h t => rw [List.reverse_cons, List.reverse_cons]; exact (ih t).app (.cons h .nil)
theorem RepL.erase : ∀ {vs : List V} {ds : List D} (i : Nat), RepL K H vs ds → RepL K H (vs.eraseIdx i) (ds.eraseIdx i)
  | _, _, _, .nil => .nil
  | _, _, 0, .cons _ t => t
  | _, _, i + 1, .cons h t => .cons h (RepL.erase i t)
theorem RepL.inj1 : ∀ {vs : List V} {ds : List D}, RepL K H vs ds → vs = [] → ds = []
  | _, _, .nil, _ => rfl
theorem RepL.ints : ∀ {vs : List V} (ns : List Int), RepL K H vs (ns.map D.int) → vs = ns.map V.int
  | _, [], .nil => rfl
  | _, n :: ns, .cons h t => by
    cases h
    rw [List.map_cons, RepL.ints ns t]
theorem RepL.strs : ∀ {vs : List V} (ns : List Str), RepL K H vs (ns.map D.str) → vs = ns.map V.str
  | _, [], .nil => rfl
  | _, n :: ns, .cons h t => by
    cases h
    rw [List.map_cons, RepL.strs ns t]
theorem RepL.ofInts : ∀ (ns : List Int), RepL K H (ns.map V.int) (ns.map D.int)
  | [] => .nil
  | n :: ns => .cons (.int n) (RepL.ofInts ns)
theorem RepL.ofStrs : ∀ (ns : List Str), RepL K H (ns.map V.str) (ns.map D.str)
  | [] => .nil
  | n :: ns => .cons (.str n) (RepL.ofStrs ns)
end
def RepF (K : PySem.W.Frag) (H : Hp) : List (Str × V) → List (Str × D) → Prop := Paired fun p q => p.1 = q.1 ∧ RepD K H p.2 q.2
def RepO (K : PySem.W.Frag) (H : Hp) (a : Addr) : MO → Prop
  | .lst ds => ∃ xs, H a = some (.lst xs) ∧ RepL K H xs ds
  | .ro ds => ∃ o xs, H a = some (.frz o (.lst xs)) ∧ RepL K H xs ds
  | .ins C fs => ∃ dx vs, H a = some (.ins C dx vs) ∧ RepF K H vs fs
def RepG (K : PySem.W.Frag) (H : Hp) (g : GS) : Prop := ∀ a o, g a = some o → RepO K H a o
def RepE (K : PySem.W.Frag) (H : Hp) (σ : L2.St) (e : EV) : Prop := σ.length = e.length ∧ ∀ (i : Nat) (d : D), e[i]? = some (some d) → ∃ v, σ[i]? = some (some v) ∧ RepD K H v d
section
variable {K : PySem.W.Frag} {H H' : Hp} {σ : L2.St} {e : EV} {g : GS}
theorem RepE.mono (x : Ext H H') (r : RepE K H σ e) : RepE K H' σ e := ⟨r.1, fun i d h => let ⟨v, a, b⟩ := r.2 i d h; ⟨v, a, b.mono x⟩⟩
theorem RepF.mono (x : Ext H H') {vs : List (Str × V)} {fs : List (Str × D)} (r : RepF K H vs fs) : RepF K H' vs fs := L2.Paired.mapP r fun _ _ h => ⟨h.1, h.2.mono x⟩
theorem RepE.set {v : V} {d : D} (r : RepE K H σ e) (h : RepD K H v d) (i : Nat) : RepE K H (σ.set i (some v)) (e.set i (some d)) := by
  refine ⟨by rw [List.length_set, List.length_set]; exact r.1, fun j c hj => ?_⟩
  by_cases hij : i = j
  · subst hij
    by_cases hl : i < e.length
    · rw [List.getElem?_set_self hl] at hj
      cases hj
      exact ⟨v, List.getElem?_set_self (by rw [r.1]; exact hl), h⟩
    · rw [List.getElem?_eq_none (by rw [List.length_set]; omega)] at hj
      cases hj
  · rw [List.getElem?_set_ne hij] at hj
    obtain ⟨w, a, b⟩ := r.2 j c hj
    exact ⟨w, by rw [List.getElem?_set_ne hij]; exact a, b⟩
theorem RepG.free (r : RepG K H g) {p : Addr} (h : H p = none) : g p = none := by
  cases q : g p with
  | none => rfl
  | some o =>
    have z := r p o q
    cases o with
    | lst ds => obtain ⟨xs, e, _⟩ := z; rw [h] at e; cases e
    | ro ds => obtain ⟨o, xs, e, _⟩ := z; rw [h] at e; cases e
    | ins C fs => obtain ⟨dx, vs, e, _⟩ := z; rw [h] at e; cases e
/-- one object written or laid -/
theorem RepG.upd {p : Addr} {o : HO} {m : MO} (r : RepG K H g) (x : Ext H (upd H p o)) (new : RepO K (L2.upd H p o) p m) : RepG K (L2.upd H p o) (gup g p m) := fun a n e => by
  by_cases h : a = p
  · subst h
    rw [gup_same] at e
    cases e
    exact new
  · rw [gup_ne h] at e
    have z := r a n e
    cases n with
    | lst ds => obtain ⟨xs, e, q⟩ := z; exact ⟨xs, by rw [upd_ne h]; exact e, q.mono x⟩
    | ro ds => obtain ⟨o, xs, e, q⟩ := z; exact ⟨o, xs, by rw [upd_ne h]; exact e, q.mono x⟩
    | ins C fs => obtain ⟨dx, vs, e, q⟩ := z; exact ⟨dx, vs, by rw [upd_ne h]; exact e, q.mono x⟩
/-- an untracked-at-our-level object laid (a tuple) -/
theorem RepG.hid {p : Addr} {o : HO} (r : RepG K H g) (h : H p = none) : RepG K (L2.upd H p o) g := fun a n e => by
  have z := r a n e
  have x : Ext H (L2.upd H p o) := .new h
  have na : a ≠ p := fun z => by rw [z, r.free h] at e; cases e
  cases n with
  | lst ds => obtain ⟨xs, e, q⟩ := z; exact ⟨xs, by rw [upd_ne na]; exact e, q.mono x⟩
  | ro ds => obtain ⟨o, xs, e, q⟩ := z; exact ⟨o, xs, by rw [upd_ne na]; exact e, q.mono x⟩
  | ins C fs => obtain ⟨dx, vs, e, q⟩ := z; exact ⟨dx, vs, by rw [upd_ne na]; exact e, q.mono x⟩
end
/-! ### the lifts -/
section
variable (K : PySem.W.Frag)
def KD (H : Hp) (Qd : DK) (Q : VK) : Prop := ∀ v d H' g', Ext H H' → RepG K H' g' → RepD K H' v d → Qd d g' → Q v H'
def lE (T : DTE) : TE := fun σ H Q => ∃ e g Qd, RepE K H σ e ∧ RepG K H g ∧ T e g Qd ∧ KD K H Qd Q
def lT (T : DTT) : TT := fun σ H Q => ∃ e g Qd, RepE K H σ e ∧ RepG K H g ∧ T e g Qd ∧ ∀ b H' g', Ext H H' → RepG K H' g' → Qd b g' → Q b H'
def lA (T : DTA) : TA := fun σ H Q => ∃ e g Qd, RepE K H σ e ∧ RepG K H g ∧ T e g Qd ∧ ∀ vs ds H' g', Ext H H' → RepG K H' g' → RepL K H' vs ds → Qd ds g' → Q vs H'
def KS (H : Hp) (Q : EV → GS → Prop) (Q' : L2.St → Hp → Prop) : Prop := ∀ σ' H' e' g', Ext H H' → RepE K H' σ' e' → RepG K H' g' → Q e' g' → Q' σ' H'
def lS (T : DTS) : TS := fun D σ H => ∃ e g Dd, RepE K H σ e ∧ RepG K H g ∧ T Dd e g ∧ KS K H Dd.nx D.nx ∧ KD K H Dd.rt D.rt ∧ KS K H Dd.bk D.bk ∧ KS K H Dd.ct D.ct
def lSp (sp : DSp) : Sp := fun vs H Q _ => ∃ ds g Qd, RepL K H vs ds ∧ RepG K H g ∧ sp ds g Qd ∧ KD K H Qd Q
end
theorem KD.mono {K : PySem.W.Frag} {H H' : Hp} {Qd : DK} {Q : VK} (k : KD K H Qd Q) (x : Ext H H') : KD K H' Qd Q := fun v d H2 g2 y => k v d H2 g2 (x.trans y)
theorem KS.mono {K : PySem.W.Frag} {H H' : Hp} {Q : EV → GS → Prop} {Q' : L2.St → Hp → Prop} (k : KS K H Q Q') (x : Ext H H') : KS K H' Q Q' := fun s H2 e g y => k s H2 e g (x.trans y)
structure DE (X : Cx) (e : Expr) (T : DTE) : Prop where
  pe : PE X e (lE X.K T)
structure DT (X : Cx) (e : Expr) (T : DTT) : Prop where
  pt : PT X e (lT X.K T)
structure DW (X : Cx) (e : Expr) (T : DTT) : Prop where
  pw : PW X e (lT X.K T)
structure DA (X : Cx) (es : List Expr) (T : DTA) : Prop where
  pa : PA X es (lA X.K T)
structure DS (X : Cx) (s : Stmt) (T : DTS) : Prop where
  ps : PS X s (lS X.K T)
structure DSs (X : Cx) (s : List Stmt) (T : DTS) : Prop where
  pss : PSs X s (lS X.K T)
/-! ### weakening -/
section
variable {X : Cx}
theorem peW {e : Expr} {t t' : TE} (h : PE X e t) (w : ∀ σ H Q, t' σ H Q → t σ H Q) : PE X e t' := ⟨fun pins s σ H Q I q => h.run pins s σ H Q I (w σ H Q q)⟩
theorem ptW {e : Expr} {t t' : TT} (h : PT X e t) (w : ∀ σ H Q, t' σ H Q → t σ H Q) : PT X e t' := ⟨fun pins s σ H Q I q => h.run pins s σ H Q I (w σ H Q q)⟩
theorem pwW {e : Expr} {t t' : TT} (h : PW X e t) (w : ∀ σ H Q, t' σ H Q → t σ H Q) : PW X e t' := ⟨fun wh pins s σ H Q I q => h.run wh pins s σ H Q I (w σ H Q q)⟩
theorem paW {e : List Expr} {t t' : TA} (h : PA X e t) (w : ∀ σ H Q, t' σ H Q → t σ H Q) : PA X e t' := ⟨fun pos pins s σ H Q I q => h.run pos pins s σ H Q I (w σ H Q q)⟩
theorem psW {e : Stmt} {t t' : TS} (h : PS X e t) (w : ∀ D σ H, t' D σ H → t D σ H) : PS X e t' := ⟨fun pins s σ H Q I q => h.run pins s σ H Q I (w Q σ H q)⟩
theorem pssW {e : List Stmt} {t t' : TS} (h : PSs X e t) (w : ∀ D σ H, t' D σ H → t D σ H) : PSs X e t' := ⟨fun pins s σ H Q I q => h.run pins s σ H Q I (w Q σ H q)⟩
end
end DL

namespace DL
open PySem L2
theorem szl : sizeLine = 16777216 := sizeLine_eq
section
variable {X : Cx} {K : PySem.W.Frag} {H H' : Hp} {σ : L2.St}
/-! ### names, constants -/
def look : EV → Nat → Option D
  | [], _ => none
  | x :: _, 0 => x
  | _ :: r, n + 1 => look r n
theorem look_get : ∀ (e : EV) (i : Nat) (d : D), look e i = some d → e[i]? = some (some d)
  | [], _, _, h => by cases h
  | x :: r, 0, d, h => by
    have h' : x = some d := h
    simp [h']
  | x :: r, n + 1, d, h => by
    have h' : look r n = some d := h
    simpa using look_get r n d h'
def dVar (i : Nat) : DTE := fun e g Q => ∃ d, look e i = some d ∧ Q d g
def dC (d : D) : DTE := fun _ g Q => Q d g
theorem RepG.fin {g : GS} {Qd : DK} {Q : VK} (r : RepG K H g) (k : KD K H Qd Q) {v : V} {d : D} (h : RepD K H v d) (q : Qd d g) : Q v H := k v d H g (.refl H) r h q
theorem RepG.laidL {g : GS} (r : RepG K H g) {n : Addr} (hn : H n = none) {xs : List V} {ds : List D} (l : RepL K H xs ds) : RepG K (L2.upd H n (.lst xs)) (gup g n (.lst ds)) :=
  r.upd (m := .lst ds) (.new hn) (show ∃ _, _ ∧ _ from ⟨_, upd_same, l.mono (.new hn)⟩)
theorem RepG.setL {g : GS} (r : RepG K H g) {n : Addr} {ys : List V} (hn : H n = some (.lst ys)) {xs : List V} {ds : List D} (l : RepL K H xs ds) : RepG K (L2.upd H n (.lst xs)) (gup g n (.lst ds)) :=
  r.upd (m := .lst ds) (.lst hn) (show ∃ _, _ ∧ _ from ⟨_, upd_same, l.mono (.lst hn)⟩)
theorem RepG.finL {g : GS} {Qd : DK} {Q : VK} (r : RepG K H g) (k : KD K H Qd Q) {n : Addr} (hn : H n = none) {xs : List V} {ds : List D} (l : RepL K H xs ds) (q : ∀ p, g p = none → Qd (.ref p) (gup g p (.lst ds))) : Q (.ref n) (L2.upd H n (.lst xs)) :=
  k _ _ _ _ (.new hn) (r.laidL hn l) (.ref n) (q n (r.free hn))
theorem RepG.finU {g : GS} {Qd : DK} {Q : VK} (r : RepG K H g) (k : KD K H Qd Q) {n : Addr} (hn : H n = none) {xs : List V} {ds : List D} (l : RepL K H xs ds) (q : Qd (.tup ds) g) : Q (.ref n) (L2.upd H n (.tup xs)) :=
  k _ _ _ _ (.new hn) (r.hid hn) (.tup (SqT.of upd_same) (l.mono (.new hn))) q
theorem RepG.lst {g : GS} (r : RepG K H g) {p : Addr} {ds : List D} (h : g p = some (.lst ds)) : ∃ xs, H p = some (.lst xs) ∧ RepL K H xs ds := r p _ h
theorem RepG.ro {g : GS} (r : RepG K H g) {p : Addr} {ds : List D} (h : g p = some (.ro ds)) : ∃ o xs, H p = some (.frz o (.lst xs)) ∧ RepL K H xs ds := r p _ h
theorem RepG.ins {g : GS} (r : RepG K H g) {p C : Addr} {fs : List (Str × D)} (h : g p = some (.ins C fs)) : ∃ dx vs, H p = some (.ins C dx vs) ∧ RepF K H vs fs := r p _ h
/-- a list that is read -/
def rdL (g : GS) (p : Addr) (ds : List D) : Prop := g p = some (.lst ds) ∨ g p = some (.ro ds)
theorem RepG.sq {g : GS} (r : RepG K H g) {p : Addr} {ds : List D} (h : rdL g p ds) : ∃ xs, SqL K H p xs ∧ RepL K H xs ds := by
  rcases h with h | h
  · obtain ⟨xs, e, l⟩ := r.lst h
    exact ⟨xs, .of e, l⟩
  · obtain ⟨o, xs, e, l⟩ := r.ro h
    exact ⟨xs, .inl (.inr ⟨o, e⟩), l⟩
theorem de_var {i : Nat} {x : Str} {pos : Pos} (h : PE X (.Name x pos) (tVar i)) : DE X (.Name x pos) (dVar i) := ⟨peW h fun σ H Q ⟨e, g, Qd, re, rg, ⟨d, l, q⟩, k⟩ => by
  obtain ⟨v, hv, r⟩ := re.2 i d (look_get e i d l)
  exact ⟨v, hv, rg.fin k r q⟩⟩
theorem de_c {e : Expr} {v : V} {d : D} (h : PE X e (tC v)) (r : ∀ H, RepD X.K H v d) : DE X e (dC d) := ⟨peW h fun σ H Q ⟨e, g, Qd, re, rg, q, k⟩ => rg.fin k (r H) q⟩
theorem de_int {i j pos} : DE X (.Constant (.int i) j pos) (dC (.int i)) := de_c pe_int fun _ => .int i
theorem de_bl {b j pos} : DE X (.Constant (.bool b) j pos) (dC (.bl b)) := de_c pe_bl fun _ => .bl b
theorem de_non {j pos} : DE X (.Constant .none j pos) (dC .non) := de_c pe_non fun _ => .non
theorem de_str {x j pos} : DE X (.Constant (.str x) j pos) (dC (.str x)) := de_c pe_str fun _ => .str x
theorem de_globS {x y : Str} {u : Value} {pos : Pos} (hg : Gl X x) (hm : X.mg x = some u) (r : RelV (.str y) u) (hd : (x == ("__debug__" : Str)) = false := by decide) : DE X (.Name x pos) (dC (.str y)) := de_c (pe_glob hg hm r hd) fun _ => .str y
theorem de_globI {x : Str} {i : Int} {u : Value} {pos : Pos} (hg : Gl X x) (hm : X.mg x = some u) (r : RelV (.int i) u) (hd : (x == ("__debug__" : Str)) = false := by decide) : DE X (.Name x pos) (dC (.int i)) := de_c (pe_glob hg hm r hd) fun _ => .int i
/-! ### two-place operations -/
abbrev DR2 := D → D → GS → DK → Prop
def lR2 (K : PySem.W.Frag) (r : DR2) : R2 := fun x y H Q => ∃ dx dy g Qd, RepD K H x dx ∧ RepD K H y dy ∧ RepG K H g ∧ r dx dy g Qd ∧ KD K H Qd Q
def dOp (r : DR2) (ta tb : DTE) : DTE := fun e g Q => ta e g fun x g1 => tb e g1 fun y g2 => r x y g2 Q
theorem lop {r : DR2} {ta tb : DTE} {σ : L2.St} {H : Hp} {Q : VK} (h : lE K (dOp r ta tb) σ H Q) : tOp (lR2 K r) (lE K ta) (lE K tb) σ H Q := by
  obtain ⟨e, g, Qd, re, rg, q, k⟩ := h
  refine ⟨e, g, _, re, rg, q, fun x dx H1 g1 x1 rg1 rx q1 => ?_⟩
  refine ⟨e, g1, _, re.mono x1, rg1, q1, fun y dy H2 g2 x2 rg2 ry q2 => ?_⟩
  exact ⟨dx, dy, g2, Qd, rx.mono x2, ry, rg2, q2, k.mono (x1.trans x2)⟩
abbrev DOpR (X : Cx) (f : Value → Value → Sem Value) (r : DR2) : Prop := OpR X f (lR2 X.K r)
variable {a b c : Expr} {ta tb tc te : DTE} {pos : Pos}
theorem de_op {op : Operator} {r : DR2} (ho : DOpR X (binaryOp op) r) (ha : DE X a ta) (hb : DE X b tb) : DE X (.BinOp a op b pos) (dOp r ta tb) := ⟨peW (pe_op ho ha.pe hb.pe) fun _ _ _ h => lop h⟩
theorem de_cmp {op : CmpOp} {r : DR2} (ho : DOpR X (compareOp op) r) (ha : DE X a ta) (hb : DE X b tb) (hm : behindInMarks op b = false) : DE X (.Compare a [op] [b] pos) (dOp r ta tb) := ⟨peW (pe_cmpR ho ha.pe hb.pe hm) fun _ _ _ h => lop h⟩
def dTest (t : DTE) : DTT := fun e g Q => t e g fun d g' => ∃ k, d = .bl k ∧ Q k g'
theorem ltest {t : DTE} {σ : L2.St} {H : Hp} {Q : Bool → Hp → Prop} (h : lT K (dTest t) σ H Q) : tTest (lE K t) σ H Q := by
  obtain ⟨e, g, Qd, re, rg, q, k⟩ := h
  refine ⟨e, g, _, re, rg, q, fun x d H1 g1 x1 rg1 rx q1 => ?_⟩
  obtain ⟨b, rfl, q1⟩ := q1
  cases rx
  exact ⟨b, rfl, k _ _ _ x1 rg1 q1⟩
theorem tTest_mono {t t' : TE} (w : ∀ σ H Q, t' σ H Q → t σ H Q) {σ : L2.St} {H : Hp} {Q : Bool → Hp → Prop} (h : tTest t' σ H Q) : tTest t σ H Q := w _ _ _ h
theorem dt_cmp {op : CmpOp} {r : DR2} (ho : DOpR X (compareOp op) r) (ha : DE X a ta) (hb : DE X b tb) (hm : behindInMarks op b = false) : DT X (.Compare a [op] [b] pos) (dTest (dOp r ta tb)) :=
  ⟨ptW (pt_cmpR ho ha.pe hb.pe hm) fun _ _ _ h => tTest_mono (fun _ _ _ q => lop q) (ltest h)⟩
/-- a op1 b op2 c -/
def dChain (r r' : DR2) (ta tb tc : DTE) : DTE := fun e g Q => ta e g fun x g1 => tb e g1 fun y g2 => r x y g2 fun z g3 => ∃ k, z = .bl k ∧ (if k = true then tc e g3 fun w g4 => r' y w g4 Q else Q (.bl false) g3)
theorem lchain {r r' : DR2} {ta tb tc : DTE} {σ : L2.St} {H : Hp} {Q : VK} (h : lE K (dChain r r' ta tb tc) σ H Q) : tChain (lR2 K r) (lR2 K r') (lE K ta) (lE K tb) (lE K tc) σ H Q := by
  obtain ⟨e, g, Qd, re, rg, q, k⟩ := h
  refine ⟨e, g, _, re, rg, q, fun x dx H1 g1 x1 rg1 rx q1 => ?_⟩
  refine ⟨e, g1, _, re.mono x1, rg1, q1, fun y dy H2 g2 x2 rg2 ry q2 => ?_⟩
  refine ⟨dx, dy, g2, _, rx.mono x2, ry, rg2, q2, fun z dz H3 g3 x3 rg3 rz q3 => ?_⟩
  obtain ⟨b, rfl, q3⟩ := q3
  cases rz
  refine ⟨b, rfl, ?_⟩
  cases b with
  | false => exact k _ _ _ _ ((x1.trans x2).trans x3) rg3 (.bl false) q3
  | true =>
    rw [if_pos rfl] at q3 ⊢
    refine ⟨e, g3, _, re.mono ((x1.trans x2).trans x3), rg3, q3, fun w dw H4 g4 x4 rg4 rw' q4 => ?_⟩
    exact ⟨dy, dw, g4, Qd, ry.mono (x3.trans x4), rw', rg4, q4, k.mono (((x1.trans x2).trans x3).trans x4)⟩
theorem de_chain {op op' : CmpOp} {r r' : DR2} (ho : DOpR X (compareOp op) r) (ho' : DOpR X (compareOp op') r') (ha : DE X a ta) (hb : DE X b tb) (hc : DE X c tc)
    (hm : lastMarks [op, op'] [b, c] = false := by with_unfolding_all rfl) : DE X (.Compare a [op, op'] [b, c] pos) (dChain r r' ta tb tc) := ⟨peW (pe_chain ho ho' ha.pe hb.pe hc.pe hm) fun _ _ _ h => lchain h⟩
theorem dt_chain {op op' : CmpOp} {r r' : DR2} (ho : DOpR X (compareOp op) r) (ho' : DOpR X (compareOp op') r') (ha : DE X a ta) (hb : DE X b tb) (hc : DE X c tc)
    (hm : lastMarks [op, op'] [b, c] = false := by with_unfolding_all rfl) : DT X (.Compare a [op, op'] [b, c] pos) (dTest (dChain r r' ta tb tc)) :=
  ⟨ptW (pt_chain ho ho' ha.pe hb.pe hc.pe hm) fun _ _ _ h => tTest_mono (fun _ _ _ q => lchain q) (ltest h)⟩
/-! ### one-place -/
def lR1 (K : PySem.W.Frag) (r : D → GS → DK → Prop) : V → Hp → VK → Prop := fun x H Q => ∃ dx g Qd, RepD K H x dx ∧ RepG K H g ∧ r dx g Qd ∧ KD K H Qd Q
def dUn (r : D → GS → DK → Prop) (ta : DTE) : DTE := fun e g Q => ta e g fun x g1 => r x g1 Q
theorem de_un {op : UnaryOp} {r : D → GS → DK → Prop} (ho : UnR X (unaryOp op) (lR1 X.K r)) (ha : DE X a ta) : DE X (.UnaryOp op a pos) (dUn r ta) := ⟨peW (pe_un ho ha.pe) fun σ H Q ⟨e, g, Qd, re, rg, q, k⟩ =>
  ⟨e, g, _, re, rg, q, fun x dx H1 g1 x1 rg1 rx q1 => ⟨dx, g1, Qd, rx, rg1, q1, k.mono x1⟩⟩⟩
def negD : D → GS → DK → Prop := fun x g Q => match x with | .int i => Q (.int (-i)) g | _ => False
theorem un_negD : UnR X (unaryOp .USub) (lR1 X.K negD) := fun pins s σ H x v Q I rx ⟨dx, g, Qd, r, rg, q, k⟩ => by
  cases r with
  | int i => exact un_neg pins s σ H _ v Q I rx ⟨i, rfl, rg.fin k (.int _) q⟩
  | _ => exact q.elim
/-! ### the operations -/
def addD : DR2 := fun x y g Q => match x, y with
  | .int i, .int j => Q (.int (i + j)) g
  | .str a, .str b => a.length + b.length ≤ sizeLine ∧ Q (.str (a ++ b)) g
  | .tup a, .tup b => a.length + b.length ≤ sizeLine ∧ Q (.tup (a ++ b)) g
  | .ref p, .ref q => ∃ xs ys, g p = some (.lst xs) ∧ g q = some (.lst ys) ∧ xs.length + ys.length ≤ sizeLine ∧ ∀ r, g r = none → Q (.ref r) (gup g r (.lst (xs ++ ys)))
  | _, _ => False
theorem op_addD : DOpR X (binaryOp .Add) addD := fun pins s σ H x y v u Q I rx ry ⟨dx, dy, g, Qd, r1, r2, rg, q, k⟩ => by
  cases r1 with
  | int i => cases r2 with
    | int j => exact op_add pins s σ H _ _ v u Q I rx ry ⟨i, j, rfl, rfl, rg.fin k (.int _) q⟩
    | _ => exact q.elim
  | str i => cases r2 with
    | str j => exact op_add_str pins s σ H _ _ v u Q I rx ry ⟨i, j, rfl, rfl, q.1, rg.fin k (.str _) q.2⟩
    | _ => exact q.elim
  | @tup a xs ds h1 l1 => cases r2 with
    | @tup b ys es h2 l2 =>
      refine op_catA pins s σ H _ _ v u Q I rx ry ⟨a, b, xs, ys, rfl, rfl, h1, h2, by rw [l1.length, l2.length]; exact q.1, fun e => ?_, fun _ e => ?_, fun _ _ p hp => ?_⟩
      · have := l1.inj1 e
        subst this
        exact rg.fin k (.tup h2 l2) q.2
      · have := l2.inj1 e
        subst this
        have q' := q.2
        rw [List.append_nil] at q'
        exact rg.fin k (.tup h1 l1) q'
      · exact rg.finU k hp (l1.app l2) q.2
    | _ => exact q.elim
  | ref p => cases r2 with
    | ref b =>
      obtain ⟨ds, es, h1, h2, hz, q⟩ := q
      obtain ⟨xs, e1, l1⟩ := rg.lst h1
      obtain ⟨ys, e2, l2⟩ := rg.lst h2
      refine op_cat pins s σ H _ _ v u Q I rx ry ⟨p, b, xs, ys, rfl, rfl, e1, e2, by rw [l1.length, l2.length]; exact hz, fun n hn => rg.finL k hn (l1.app l2) q⟩
    | _ => exact q.elim
  | _ => cases r2 <;> exact q.elim
def intD (C : Int → Int → Prop) (f : Int → Int → D) : DR2 := fun x y g Q => match x, y with
  | .int i, .int j => C i j ∧ Q (f i j) g
  | _, _ => False
theorem op_intD {f : Value → Value → Sem Value} {C : Int → Int → Prop} {h : Int → Int → V} {h' : Int → Int → D} (ho : OpR X f (rI C h)) (r : ∀ H i j, RepD X.K H (h i j) (h' i j)) : DOpR X f (intD C h') := fun pins s σ H x y v u Q I rx ry ⟨dx, dy, g, Qd, r1, r2, rg, q, k⟩ => by
  cases r1 with
  | int i => cases r2 with
    | int j => exact ho pins s σ H _ _ v u Q I rx ry ⟨i, j, rfl, rfl, q.1, rg.fin k (r _ _ _) q.2⟩
    | _ => exact q.elim
  | _ => cases r2 <;> exact q.elim
theorem op_intD0 {f : Value → Value → Sem Value} {h : Int → Int → V} {h' : Int → Int → D} (ho : OpR X f (rI0 h)) (r : ∀ H i j, RepD X.K H (h i j) (h' i j)) : DOpR X f (intD (fun _ _ => True) h') := fun pins s σ H x y v u Q I rx ry ⟨dx, dy, g, Qd, r1, r2, rg, q, k⟩ => by
  cases r1 with
  | int i => cases r2 with
    | int j => exact ho pins s σ H _ _ v u Q I rx ry ⟨i, j, rfl, rfl, rg.fin k (r _ _ _) q.2⟩
    | _ => exact q.elim
  | _ => cases r2 <;> exact q.elim
abbrev subD : DR2 := intD (fun _ _ => True) fun i j => .int (i - j)
theorem op_subD : DOpR X (binaryOp .Sub) subD := op_intD0 op_sub fun _ _ _ => .int _
abbrev fdivD : DR2 := intD CDivN fun i j => .int (i.fdiv j)
theorem op_fdivD : DOpR X (binaryOp .FloorDiv) fdivD := op_intD op_fdivN fun _ _ _ => .int _
abbrev modD : DR2 := intD (fun _ j => j ≠ 0) fun i j => .int (i.fmod j)
theorem op_modD : DOpR X (binaryOp .Mod) modD := op_intD op_modN fun _ _ _ => .int _
abbrev powD : DR2 := intD CPow fun i j => .int (i ^ j.toNat)
theorem op_powD : DOpR X (binaryOp .Pow) powD := op_intD op_pow fun _ _ _ => .int _
abbrev shlD : DR2 := intD CPow fun i j => .int (i * 2 ^ j.toNat)
theorem op_shlD : DOpR X (binaryOp .LShift) shlD := op_intD op_shl fun _ _ _ => .int _
abbrev shrD : DR2 := intD (fun _ j => 0 ≤ j) fun i j => .int (i / 2 ^ j.toNat)
theorem op_shrD : DOpR X (binaryOp .RShift) shrD := op_intD op_shr fun _ _ _ => .int _
abbrev andD : DR2 := intD (fun _ _ => True) fun i j => .int (Builtin.bitAnd i j)
theorem op_andD : DOpR X (binaryOp .BitAnd) andD := op_intD0 op_and fun _ _ _ => .int _
abbrev orD : DR2 := intD (fun _ _ => True) fun i j => .int (Builtin.bitOr i j)
theorem op_orD : DOpR X (binaryOp .BitOr) orD := op_intD0 op_or fun _ _ _ => .int _
def repS (s : Str) : Nat → Str
  | 0 => ⟨#[]⟩
  | n + 1 => s ++ repS s n
def mulD : DR2 := fun x y g Q => match x, y with
  | .int i, .int j => CMul i j ∧ Q (.int (i * j)) g
  | .ref p, .int k => ∃ xs, g p = some (.lst xs) ∧ -(2 ^ 63) ≤ k ∧ k < 2 ^ 63 ∧ xs.length * k.toNat ≤ sizeLine ∧ ∀ r, g r = none → Q (.ref r) (gup g r (.lst (List.replicate k.toNat xs).flatten))
  | _, _ => False
theorem RepL.repl {vs : List V} {ds : List D} (r : RepL K H vs ds) : ∀ k : Nat, RepL K H (List.replicate k vs).flatten (List.replicate k ds).flatten
  | 0 => .nil
  | k + 1 => by rw [List.replicate_succ, List.replicate_succ, List.flatten_cons, List.flatten_cons]; exact r.app (RepL.repl r k)
theorem op_mulD : DOpR X (binaryOp .Mult) mulD := fun pins s σ H x y v u Q I rx ry ⟨dx, dy, g, Qd, r1, r2, rg, q, k⟩ => by
  cases r1 with
  | int i => cases r2 with
    | int j => exact op_mul pins s σ H _ _ v u Q I rx ry ⟨i, j, rfl, rfl, q.1, rg.fin k (.int _) q.2⟩
    | _ => exact q.elim
  | ref p => cases r2 with
    | int j =>
      obtain ⟨ds, h1, b1, b2, hz, q⟩ := q
      obtain ⟨xs, e1, l1⟩ := rg.lst h1
      refine op_rep pins s σ H _ _ v u Q I rx ry ⟨p, j, xs, rfl, rfl, e1, b1, b2, by rw [l1.length]; exact hz, fun n hn => rg.finL k hn (l1.repl _) q⟩
    | _ => exact q.elim
  | _ => cases r2 <;> exact q.elim
end
end DL

namespace DL
open PySem L2
/-! ### data without references, as the library's data -/
mutual
def pd : D → PyData
  | .non => .none
  | .bl b => .bool b
  | .int i => .int i
  | .str x => .str x
  | .tup ds => .tuple (pds ds)
  | .ref _ => .none
  | .klst _ => .none
def pds : List D → List PyData
  | [] => []
  | d :: ds => pd d :: pds ds
end
mutual
def pure? : D → Bool
  | .tup ds => pures ds
  | .str x => PyData.strOk x
  | .ref _ => false
  | .klst _ => false
  | _ => true
def pures : List D → Bool
  | [] => true
  | d :: ds => pure? d && pures ds
end
mutual
def dep : D → Nat
  | .tup ds => deps ds + 1
  | _ => 0
def deps : List D → Nat
  | [] => 0
  | d :: ds => max (dep d) (deps ds)
end
mutual
theorem pd_lay : ∀ d : D, pure? d = true → (pd d).canLay0 = true
  | .non, _ => by simp [pd, PyData.canLay0]
  | .bl b, _ => by simp [pd, PyData.canLay0]
  | .int i, _ => by simp [pd, PyData.canLay0]
  | .str x, h => by
    simp only [pd, PyData.canLay0]
    exact h
  | .ref a, _ => by simp [pd, PyData.canLay0]
  | .klst a, _ => by simp [pd, PyData.canLay0]
  | .tup ds, h => by
    simp only [pd, PyData.canLay0]
    exact pds_lay ds h
theorem pds_lay : ∀ ds : List D, pures ds = true → PyData.canLayAll0 (pds ds) = true
  | [], _ => by simp [pds, PyData.canLayAll0]
  | d :: ds, h => by
    simp only [pures, Bool.and_eq_true] at h
    simp [pds, PyData.canLayAll0, pd_lay d h.1, pds_lay ds h.2]
end
mutual
theorem pd_dep : ∀ d : D, (pd d).depth ≤ dep d
  | .non => by simp [pd, PyData.depth]
  | .bl b => by simp [pd, PyData.depth]
  | .int i => by simp [pd, PyData.depth]
  | .str x => by simp [pd, PyData.depth]
  | .ref a => by simp [pd, PyData.depth]
  | .klst a => by simp [pd, PyData.depth]
  | .tup ds => by
    have h := pds_dep ds
    simp only [pd, PyData.depth, dep]
    omega
theorem pds_dep : ∀ ds : List D, PyData.depthAll (pds ds) ≤ deps ds
  | [] => by simp [pds, PyData.depthAll]
  | d :: ds => by
    have h1 := pd_dep d
    have h2 := pds_dep ds
    simp only [pds, PyData.depthAll, deps]
    omega
end
/-- pure and not deep -/
def fine (d : D) : Prop := pure? d = true ∧ dep d ≤ 60
theorem fine_shaped {d : D} (h : fine d) : SeqAt.shaped (pd d) = true := by
  unfold SeqAt.shaped
  rw [pd_lay d h.1, Bool.true_and]
  have := pd_dep d
  exact decide_eq_true (Nat.le_trans this (Nat.le_trans h.2 (by decide)))
theorem fines_shaped {ds : List D} (h1 : pures ds = true) (h2 : deps ds ≤ 60) : SeqAt.shaped (.list (pds ds)) = true := by
  unfold SeqAt.shaped
  have := pds_dep ds
  have e : (PyData.list (pds ds)).canLay0 = true := by simp [PyData.canLay0, pds_lay ds h1]
  rw [e, Bool.true_and]
  refine decide_eq_true ?_
  simp only [PyData.depth]
  omega
section
variable {K : PySem.W.Frag} {H : Hp}
mutual
theorem RepD.dp : ∀ {v : V} {d : D}, RepD K H v d → pure? d = true → Dp K H v (pd d)
  | _, _, .non, _ => .non
  | _, _, .bl b, _ => .bl b
  | _, _, .int i, _ => .int i
  | _, _, .str x, _ => .str x
  | _, _, .ref a, h => by cases h
  | _, _, .kl _ _, h => by cases h
  | _, _, .tup h r, p => .tup h (RepL.dps r p)
theorem RepL.dps : ∀ {vs : List V} {ds : List D}, RepL K H vs ds → pures ds = true → DpAll K H vs (pds ds)
  | _, _, .nil, _ => .nil
  | _, _, .cons h r, p => by
    simp only [pures, Bool.and_eq_true] at p
    exact .cons (RepD.dp h p.1) (RepL.dps r p.2)
end
end
def eqP (a b : D) : Bool := PyData.eqv (pd a) (pd b)
section
variable {X : Cx} {K : PySem.W.Frag} {H H' : Hp} {σ : L2.St}
variable {a b c : Expr} {ta tb tc te : DTE} {pos : Pos}
/-! ### comparisons -/
abbrev ltD0 : DR2 := intD (fun _ _ => True) fun i j => .bl (decide (i < j))
def cmpD (f : Int → Int → Bool) (s : Str → Str → Bool) : DR2 := fun x y g Q => match x, y with
  | .int i, .int j => Q (.bl (f i j)) g
  | .str i, .str j => Q (.bl (s i j)) g
  | _, _ => False
theorem op_cmpD {f : Int → Int → Bool} {s : Str → Str → Bool} {op : CmpOp} (h1 : OpR X (compareOp op) (rI0 fun i j => .bl (f i j))) (h2 : OpR X (compareOp op) (fun x y H Q => ∃ i j, x = .str i ∧ y = .str j ∧ Q (.bl (s i j)) H)) : DOpR X (compareOp op) (cmpD f s) := fun pins s σ H x y v u Q I rx ry ⟨dx, dy, g, Qd, r1, r2, rg, q, k⟩ => by
  cases r1 with
  | int i => cases r2 with
    | int j => exact h1 pins s σ H _ _ v u Q I rx ry ⟨i, j, rfl, rfl, rg.fin k (.bl _) q⟩
    | _ => exact q.elim
  | str i => cases r2 with
    | str j => exact h2 pins s σ H _ _ v u Q I rx ry ⟨i, j, rfl, rfl, rg.fin k (.bl _) q⟩
    | _ => exact q.elim
  | _ => cases r2 <;> exact q.elim
abbrev ltD : DR2 := cmpD (fun i j => decide (i < j)) fun i j => decide (i.cps.toList < j.cps.toList)
abbrev leD : DR2 := cmpD (fun i j => decide (i ≤ j)) fun i j => !decide (j.cps.toList < i.cps.toList)
abbrev gtD : DR2 := cmpD (fun i j => decide (j < i)) fun i j => decide (j.cps.toList < i.cps.toList)
abbrev geD : DR2 := cmpD (fun i j => decide (j ≤ i)) fun i j => !decide (i.cps.toList < j.cps.toList)
theorem op_ltD : DOpR X (compareOp .Lt) ltD := op_cmpD op_lt op_lt_str
theorem op_leD : DOpR X (compareOp .LtE) leD := op_cmpD op_le op_le_str
theorem op_gtD : DOpR X (compareOp .Gt) gtD := op_cmpD op_gt op_gt_str
theorem op_geD : DOpR X (compareOp .GtE) geD := op_cmpD op_ge op_ge_str
/-- ==: scalars of one kind at once, else data -/
def eqD : DR2 := fun x y g Q => match x, y with
  | .int i, .int j => Q (.bl (decide (i = j))) g
  | .str i, .str j => Q (.bl (decide (i = j))) g
  | .bl i, .bl j => Q (.bl (decide (i = j))) g
  | .ref p, .ref q => ∃ xs ys, rdL g p xs ∧ rdL g q ys ∧ pures xs = true ∧ pures ys = true ∧ deps xs ≤ 60 ∧ deps ys ≤ 60 ∧ Q (.bl (PyData.eqv (.list (pds xs)) (.list (pds ys)))) g
  | x, y => fine x ∧ fine y ∧ Q (.bl (eqP x y)) g
def notV (Q : DK) : DK := fun x g => match x with | .bl b => Q (.bl (!b)) g | _ => False
def neD : DR2 := fun x y g Q => eqD x y g (notV Q)
theorem RepG.dpl {g : GS} (rg : RepG K H g) {p : Addr} {xs : List D} (h : rdL g p xs) (hp : pures xs = true) : Dp K H (.ref p) (.list (pds xs)) := by
  obtain ⟨vs, s, l⟩ := rg.sq h
  exact .lst s (l.dps hp)
theorem op_eqDD (hu : X.A.units + 64 < cLine) : DOpR X (compareOp .Eq) eqD := fun pins s σ H x y v u Q I rx ry ⟨dx, dy, g, Qd, r1, r2, rg, q, k⟩ => by
  have gen : (fine dx ∧ fine dy ∧ Qd (.bl (eqP dx dy)) g) → wpAny (model X.prog X.w) X.A (compareOp .Eq v u) (EP X pins σ Q) X.xe s := fun q =>
    op_eqD hu pins s σ H x y v u Q I rx ry ⟨pd dx, pd dy, r1.dp q.1.1, r2.dp q.2.1.1, fine_shaped q.1, fine_shaped q.2.1, rg.fin k (.bl _) q.2.2⟩
  cases r1 with
  | int i => cases r2 with
    | int j => exact op_eq pins s σ H _ _ v u Q I rx ry ⟨rfl, by rw [dec_int, Bool.beq_eq_decide_eq]; exact rg.fin k (.bl _) q⟩
    | _ => exact gen q
  | str i => cases r2 with
    | str j => exact op_eq pins s σ H _ _ v u Q I rx ry ⟨rfl, by rw [dec_str, Bool.beq_eq_decide_eq]; exact rg.fin k (.bl _) q⟩
    | _ => exact gen q
  | bl i => cases r2 with
    | bl j => exact op_eq pins s σ H _ _ v u Q I rx ry ⟨rfl, by rw [dec_bl, Bool.beq_eq_decide_eq]; exact rg.fin k (.bl _) q⟩
    | _ => exact gen q
  | ref i => cases r2 with
    | ref j =>
      obtain ⟨xs, ys, h1, h2, p1, p2, d1, d2, q⟩ := q
      exact op_eqD hu pins s σ H _ _ v u Q I rx ry ⟨_, _, rg.dpl h1 p1, rg.dpl h2 p2, fines_shaped p1 d1, fines_shaped p2 d2, rg.fin k (.bl _) q⟩
    | _ => exact gen q
  | _ => cases r2 <;> exact gen q
theorem op_neDD (hu : X.A.units + 64 < cLine) : DOpR X (compareOp .NotEq) neD := fun pins s σ H x y v u Q I rx ry ⟨dx, dy, g, Qd, r1, r2, rg, q, k⟩ => by
  have gen : (fine dx ∧ fine dy ∧ Qd (.bl (!eqP dx dy)) g) → wpAny (model X.prog X.w) X.A (compareOp .NotEq v u) (EP X pins σ Q) X.xe s := fun q =>
    op_neD hu pins s σ H x y v u Q I rx ry ⟨pd dx, pd dy, r1.dp q.1.1, r2.dp q.2.1.1, fine_shaped q.1, fine_shaped q.2.1, rg.fin k (.bl _) q.2.2⟩
  cases r1 with
  | int i => cases r2 with
    | int j => exact op_ne pins s σ H _ _ v u Q I rx ry ⟨rfl, by rw [dec_int, Bool.beq_eq_decide_eq]; exact rg.fin k (.bl _) q⟩
    | _ => exact gen q
  | str i => cases r2 with
    | str j => exact op_ne pins s σ H _ _ v u Q I rx ry ⟨rfl, by rw [dec_str, Bool.beq_eq_decide_eq]; exact rg.fin k (.bl _) q⟩
    | _ => exact gen q
  | bl i => cases r2 with
    | bl j => exact op_ne pins s σ H _ _ v u Q I rx ry ⟨rfl, by rw [dec_bl, Bool.beq_eq_decide_eq]; exact rg.fin k (.bl _) q⟩
    | _ => exact gen q
  | ref i => cases r2 with
    | ref j =>
      obtain ⟨xs, ys, h1, h2, p1, p2, d1, d2, q⟩ := q
      exact op_neD hu pins s σ H _ _ v u Q I rx ry ⟨_, _, rg.dpl h1 p1, rg.dpl h2 p2, fines_shaped p1 d1, fines_shaped p2 d2, rg.fin k (.bl _) q⟩
    | _ => exact gen q
  | _ => cases r2 <;> exact gen q
/-- is None, is not None -/
def isND : DR2 := fun x y g Q => y = .non ∧ Q (.bl (match x with | .non => true | _ => false)) g
def notND : DR2 := fun x y g Q => y = .non ∧ Q (.bl (match x with | .non => false | _ => true)) g
theorem op_isND : DOpR X (compareOp .Is) isND := fun pins s σ H x y v u Q I rx ry ⟨dx, dy, g, Qd, r1, r2, rg, q, k⟩ => by
  obtain ⟨rfl, q⟩ := q
  cases r2
  refine op_isN pins s σ H _ _ v u Q I rx ry ⟨rfl, ?_⟩
  cases r1 <;> exact rg.fin k (.bl _) q
theorem op_notND : DOpR X (compareOp .IsNot) notND := fun pins s σ H x y v u Q I rx ry ⟨dx, dy, g, Qd, r1, r2, rg, q, k⟩ => by
  obtain ⟨rfl, q⟩ := q
  cases r2
  refine op_notN pins s σ H _ _ v u Q I rx ry ⟨rfl, ?_⟩
  cases r1 <;> exact rg.fin k (.bl _) q
/-- in -/
def inStr (a b : Str) : Bool := !(Builtin.Str.occurrences b a 0 b.length 1).isEmpty
theorem inStr_one (c : Nat) (z : Str) : inStr ⟨#[c]⟩ z = decide (c ∈ z.cps.toList) := PySem.StrLaws.found_one z c
def scalD : D → Bool
  | .non => true
  | .bl _ => true
  | .int _ => true
  | .str _ => true
  | _ => false
def inD : DR2 := fun x y g Q => match x, y with
  | .str a, .str b => Q (.bl (inStr a b)) g
  | x, .ref p => ∃ ds, rdL g p ds ∧ ((scalD x = true ∧ ds.all scalD = true) ∨ (fine x ∧ pures ds = true ∧ deps ds ≤ 60)) ∧ Q (.bl (ds.any fun z => eqP z x)) g
  | x, .tup ds => scalD x = true ∧ ds.all scalD = true ∧ Q (.bl (ds.any fun z => eqP z x)) g
  | _, _ => False
def notInD : DR2 := fun x y g Q => inD x y g (notV Q)
theorem any_pds (f : PyData → Bool) : ∀ ds : List D, (pds ds).any f = ds.any fun z => f (pd z)
  | [] => rfl
  | d :: ds => by rw [pds, List.any_cons, List.any_cons, any_pds f ds]
theorem eqV_eqP {v w : V} {d e : D} (r : RepD K H v d) (r' : RepD K H w e) (h : scalD d = true) (h' : scalD e = true) : flatV v = true ∧ eqV v w = eqP d e := by
  cases r <;> first | cases h | skip
  all_goals (cases r' <;> first | cases h' | skip)
  all_goals (refine ⟨rfl, ?_⟩; simp [eqV, eqP, pd, PyData.eqv])
theorem inV_eqP {w : V} {e : D} (r' : RepD K H w e) (h' : scalD e = true) : ∀ {vs : List V} {ds : List D}, RepL K H vs ds → ds.all scalD = true → vs.all flatV = true ∧ inV w vs = ds.any fun z => eqP z e
  | _, _, .nil, _ => ⟨rfl, rfl⟩
  | _, _, .cons (v := v) (vs := vs) h r, p => by
    rw [List.all_cons, Bool.and_eq_true] at p
    obtain ⟨f, e1⟩ := eqV_eqP h r' p.1 h'
    obtain ⟨f2, e2⟩ := inV_eqP r' h' r p.2
    refine ⟨by rw [List.all_cons, f, f2]; rfl, ?_⟩
    rw [List.any_cons, ← e2, ← e1]
    rfl
theorem op_inDD (hu : X.A.units + 65 < cLine) : DOpR X (compareOp .In) inD := fun pins s σ H x y v u Q I rx ry ⟨dx, dy, g, Qd, r1, r2, rg, q, k⟩ => by
  cases r2 with
  | str b => cases r1 with
    | str a => exact op_in_str pins s σ H _ _ v u Q I rx ry ⟨a, b, rfl, rfl, rg.fin k (.bl _) q⟩
    | _ => exact q.elim
  | ref p =>
    have q' : ∃ ds, rdL g p ds ∧ ((scalD dx = true ∧ ds.all scalD = true) ∨ (fine dx ∧ pures ds = true ∧ deps ds ≤ 60)) ∧ Qd (.bl (ds.any fun z => eqP z dx)) g := by cases r1 <;> exact q
    obtain ⟨ds, h, ⟨h1, h2⟩ | ⟨f, hp, hd⟩, q⟩ := q'
    · obtain ⟨xs, hs, l⟩ := rg.sq h
      obtain ⟨f, e⟩ := inV_eqP r1 h1 l h2
      refine op_in_seq pins s σ H _ _ v u Q I rx ry ⟨p, xs, rfl, .inl hs, (eqV_eqP r1 r1 h1 h1).1, f, ?_⟩
      rw [e]
      exact rg.fin k (.bl _) q
    · refine op_inD hu pins s σ H _ _ v u Q I rx ry ⟨pd dx, pds ds, r1.dp f.1, rg.dpl h hp, fine_shaped f, fines_shaped hp hd, ?_⟩
      rw [any_pds]
      exact rg.fin k (.bl _) q
  | @tup p xs ds hs l =>
    have q' : scalD dx = true ∧ ds.all scalD = true ∧ Qd (.bl (ds.any fun z => eqP z dx)) g := by cases r1 <;> exact q
    obtain ⟨h1, h2, q⟩ := q'
    obtain ⟨f, e⟩ := inV_eqP r1 h1 l h2
    refine op_in_seq pins s σ H _ _ v u Q I rx ry ⟨p, xs, rfl, .inr hs, (eqV_eqP r1 r1 h1 h1).1, f, ?_⟩
    rw [e]
    exact rg.fin k (.bl _) q
  | _ => cases r1 <;> exact q.elim
theorem op_notInDD (hu : X.A.units + 65 < cLine) : DOpR X (compareOp .NotIn) notInD := fun pins s σ H x y v u Q I rx ry ⟨dx, dy, g, Qd, r1, r2, rg, q, k⟩ => by
  cases r2 with
  | str b => cases r1 with
    | str a => exact op_notin_str pins s σ H _ _ v u Q I rx ry ⟨a, b, rfl, rfl, rg.fin k (.bl _) q⟩
    | _ => exact q.elim
  | ref p =>
    have q' : ∃ ds, rdL g p ds ∧ ((scalD dx = true ∧ ds.all scalD = true) ∨ (fine dx ∧ pures ds = true ∧ deps ds ≤ 60)) ∧ notV Qd (.bl (ds.any fun z => eqP z dx)) g := by cases r1 <;> exact q
    obtain ⟨ds, h, ⟨h1, h2⟩ | ⟨f, hp, hd⟩, q⟩ := q'
    · obtain ⟨xs, hs, l⟩ := rg.sq h
      obtain ⟨f, e⟩ := inV_eqP r1 h1 l h2
      refine op_notIn_seq pins s σ H _ _ v u Q I rx ry ⟨p, xs, rfl, .inl hs, (eqV_eqP r1 r1 h1 h1).1, f, ?_⟩
      rw [e]
      exact rg.fin k (.bl _) q
    · refine op_notInD hu pins s σ H _ _ v u Q I rx ry ⟨pd dx, pds ds, r1.dp f.1, rg.dpl h hp, fine_shaped f, fines_shaped hp hd, ?_⟩
      rw [any_pds]
      exact rg.fin k (.bl _) q
  | @tup p xs ds hs l =>
    have q' : scalD dx = true ∧ ds.all scalD = true ∧ notV Qd (.bl (ds.any fun z => eqP z dx)) g := by cases r1 <;> exact q
    obtain ⟨h1, h2, q⟩ := q'
    obtain ⟨f, e⟩ := inV_eqP r1 h1 l h2
    refine op_notIn_seq pins s σ H _ _ v u Q I rx ry ⟨p, xs, rfl, .inr hs, (eqV_eqP r1 r1 h1 h1).1, f, ?_⟩
    rw [e]
    exact rg.fin k (.bl _) q
  | _ => cases r1 <;> exact q.elim
/-! ### subscripts, slices -/
def ixD : DR2 := fun x y g Q => match y with
  | .int i => (match x with
    | .tup ds => ∃ d, atI ds i = some d ∧ Q d g
    | .str z => z.length ≤ sizeLine ∧ ∃ c, atI z.cps.toList i = some c ∧ Q (.str ⟨#[c]⟩) g
    | .ref p => ∃ ds d, rdL g p ds ∧ atI ds i = some d ∧ Q d g
    | .klst ds => ∃ d, atI ds i = some d ∧ Q d g
    | _ => False)
  | _ => False
theorem RepL.at {vs : List V} {ds : List D} (r : RepL K H vs ds) {i : Int} {d : D} (h : atI ds i = some d) : ∃ v, atI vs i = some v ∧ RepD K H v d := by
  unfold atI at h ⊢
  rw [r.length]
  cases q : ixN ds.length i with
  | none => rw [q] at h; cases h
  | some j =>
    rw [q] at h
    obtain ⟨v, e, r'⟩ := r.get (i := j) (by simpa using h)
    exact ⟨v, by simpa using e, r'⟩
theorem de_ix (ha : DE X a ta) (hb : DE X b tb) (hs : PlainIx b) : DE X (.Subscript a b pos) (dOp ixD ta tb) := by
  refine ⟨peW (pe_ix (r := lR2 X.K ixD) ?_ ha.pe hb.pe hs) fun _ _ _ h => lop h⟩
  intro value slice pins s σ H x y v u Q I rx ry ⟨dx, dy, g, Qd, r1, r2, rg, q, k⟩
  cases r2 with
  | int i => cases r1 with
    | @tup p xs ds hs l =>
      obtain ⟨d, e, q⟩ := q
      obtain ⟨w, e', r⟩ := l.at e
      exact ix_tup value slice pins s σ H _ _ v u Q I rx ry ⟨p, xs, i, w, rfl, rfl, hs, e', rg.fin k r q⟩
    | str z =>
      obtain ⟨hz, c, e, q⟩ := q
      exact ix_str value slice pins s σ H _ _ v u Q I rx ry ⟨z, i, c, rfl, rfl, hz, e, rg.fin k (.str _) q⟩
    | ref p =>
      obtain ⟨ds, d, h, e, q⟩ := q
      obtain ⟨xs, hs, l⟩ := rg.sq h
      obtain ⟨w, e', r⟩ := l.at e
      exact ix_list value slice pins s σ H _ _ v u Q I rx ry ⟨p, xs, i, w, rfl, rfl, hs, e', rg.fin k r q⟩
    | @kl p xs ds hs l =>
      obtain ⟨d, e, q⟩ := q
      obtain ⟨w, e', r⟩ := l.at e
      exact ix_list value slice pins s σ H _ _ v u Q I rx ry ⟨p, xs, i, w, rfl, rfl, hs.sq, e', rg.fin k r q⟩
    | _ => exact q.elim
  | _ => exact q.elim
abbrev DTO := EV → GS → (Option Int → GS → Prop) → Prop
structure DO (X : Cx) (e : Option Expr) (T : DTO) : Prop where
  po : PO X e (fun σ H Q => ∃ e g Qd, RepE X.K H σ e ∧ RepG X.K H g ∧ T e g Qd ∧ ∀ o H' g', Ext H H' → RepG X.K H' g' → Qd o g' → Q o H')
def dNo : DTO := fun _ g Q => Q none g
def dPart (t : DTE) : DTO := fun e g Q => t e g fun x g1 => ∃ i, x = .int i ∧ Q (some i) g1
theorem poW {e : Option Expr} {t t' : TO} (h : PO X e t) (w : ∀ σ H Q, t' σ H Q → t σ H Q) : PO X e t' := ⟨fun pins s σ H Q I q => h.run pins s σ H Q I (w σ H Q q)⟩
theorem do_no : DO X none dNo := ⟨poW po_none fun σ H Q ⟨e, g, Qd, re, rg, q, k⟩ => k none H g (.refl H) rg q⟩
theorem do_some (h : DE X a ta) : DO X (some a) (dPart ta) := ⟨poW (po_some h.pe) fun σ H Q ⟨e, g, Qd, re, rg, q, k⟩ => ⟨e, g, _, re, rg, q, fun v d H1 g1 x1 rg1 r ⟨i, e1, q1⟩ => by
  subst e1
  cases r
  exact ⟨i, rfl, k _ _ _ x1 rg1 q1⟩⟩⟩
def cutD (xs : List D) (lo hi : Option Int) : List D := (xs.drop (HT.sIx xs.length 0 lo)).take (HT.sIx xs.length xs.length hi - HT.sIx xs.length 0 lo)
def slD : D → Option Int → Option Int → GS → DK → Prop := fun x lo hi g Q => match x with
  | .tup ds => Q (.tup (cutD ds lo hi)) g
  | .str z => z.length ≤ sizeLine ∧ Q (.str (cutS z lo hi)) g
  | .ref p => ∃ ds, rdL g p ds ∧ ∀ r, g r = none → Q (.ref r) (gup g r (.lst (cutD ds lo hi)))
  | _ => False
def dSl (t : DTE) (l h : DTO) : DTE := fun e g Q => t e g fun x g1 => l e g1 fun lo g2 => h e g2 fun hi g3 => slD x lo hi g3 Q
theorem RepL.cut {vs : List V} {ds : List D} (r : RepL K H vs ds) (lo hi : Option Int) : RepL K H (cutV vs lo hi) (cutD ds lo hi) := by
  unfold cutV cutD
  rw [r.length]
  exact (r.drop _).take _
theorem cutD_whole {xs : List D} {lo hi : Option Int} (h : HT.sIx xs.length 0 lo = 0 ∧ HT.sIx xs.length xs.length hi = xs.length) : cutD xs lo hi = xs := by
  unfold cutD
  rw [h.1, h.2]
  simp
theorem de_sl {lo hi : Option Expr} {p2 : Pos} {tl th : DTO} (ha : DE X a ta) (hl : DO X lo tl) (hh : DO X hi th) : DE X (.Subscript a (.Slice lo hi none p2) pos) (dSl ta tl th) := by
  refine ⟨peW (pe_slice (r := fun x lo hi H Q => ∃ dx g Qd, RepD X.K H x dx ∧ RepG X.K H g ∧ slD dx lo hi g Qd ∧ KD X.K H Qd Q) ?_ ha.pe hl.po hh.po) fun σ H Q ⟨e, g, Qd, re, rg, q, k⟩ => ?_⟩
  · intro pins s σ H x v vl vu lo hi sl Q I rx hs pl pu ⟨dx, g, Qd, r1, rg, q, k⟩
    cases r1 with
    | @tup p xs ds hq l =>
      refine sl_tupA pins s σ H _ v vl vu lo hi sl Q I rx hs pl pu ⟨p, xs, rfl, hq, fun h => ?_, fun _ n hn => ?_⟩
      · rw [l.length] at h
        have q' : Qd (.tup (cutD ds lo hi)) g := q
        rw [cutD_whole h] at q'
        exact rg.fin k (.tup hq l) q'
      · exact rg.finU k hn (l.cut lo hi) q
    | str z => exact sl_str pins s σ H _ v vl vu lo hi sl Q I rx hs pl pu ⟨z, rfl, q.1, rg.fin k (.str _) q.2⟩
    | ref p =>
      obtain ⟨ds, h, q⟩ := q
      obtain ⟨xs, hq, l⟩ := rg.sq h
      exact sl_list pins s σ H _ v vl vu lo hi sl Q I rx hs pl pu ⟨p, xs, rfl, hq, fun n hn => rg.finL k hn (l.cut lo hi) q⟩
    | _ => exact q.elim
  · refine ⟨e, g, _, re, rg, q, fun x dx H1 g1 x1 rg1 r1 q1 => ?_⟩
    refine ⟨e, g1, _, re.mono x1, rg1, q1, fun l H2 g2 x2 rg2 q2 => ?_⟩
    refine ⟨e, g2, _, re.mono (x1.trans x2), rg2, q2, fun u H3 g3 x3 rg3 q3 => ?_⟩
    exact ⟨dx, g3, Qd, r1.mono (x2.trans x3), rg3, q3, k.mono ((x1.trans x2).trans x3)⟩
end
end DL

namespace DL
open PySem L2
section
variable {X : Cx} {K : PySem.W.Frag} {H H' : Hp} {σ : L2.St}
variable {a b c e : Expr} {es : List Expr} {ta tb tc te : DTE} {tA tB : DTT} {t : DTA} {pos : Pos}
/-! ### argument lists, displays -/
def dNil : DTA := fun _ g Q => Q [] g
def dCons (ta : DTE) (tr : DTA) : DTA := fun e g Q => ta e g fun x g1 => tr e g1 fun xs g2 => Q (x :: xs) g2
theorem da_nil : DA X [] dNil := ⟨paW pa_nil fun σ H Q ⟨e, g, Qd, re, rg, q, k⟩ => k [] [] H g (.refl H) rg .nil q⟩
theorem da_cons (ha : DE X a ta) (hr : DA X es t) (hs : starEach (a :: es) X.env = (false, eval a X.env) :: starEach es X.env := by rfl) : DA X (a :: es) (dCons ta t) :=
  ⟨paW (pa_cons ha.pe hr.pa hs) fun σ H Q ⟨e, g, Qd, re, rg, q, k⟩ => ⟨e, g, _, re, rg, q, fun x d H1 g1 x1 rg1 r1 q1 => ⟨e, g1, _, re.mono x1, rg1, q1, fun vs ds H2 g2 x2 rg2 l2 q2 =>
    k _ _ H2 g2 (x1.trans x2) rg2 (.cons (r1.mono x2) l2) q2⟩⟩⟩
def dTup (t : DTA) : DTE := fun e g Q => t e g fun xs g1 => xs.length ≤ sizeLine ∧ Q (.tup xs) g1
def dLst (t : DTA) : DTE := fun e g Q => t e g fun xs g1 => xs.length ≤ sizeLine ∧ ∀ p, g1 p = none → Q (.ref p) (gup g1 p (.lst xs))
theorem de_tup {x1} (h : DA X es t) : DE X (.Tuple es x1 pos) (dTup t) := ⟨peW (pe_tup h.pa) fun σ H Q ⟨e, g, Qd, re, rg, q, k⟩ => ⟨e, g, _, re, rg, q, fun vs ds H1 g1 x1 rg1 l1 q1 =>
  ⟨by rw [l1.length]; exact q1.1, fun p hp => rg1.finU (k.mono x1) hp l1 q1.2⟩⟩⟩
theorem de_lst (h : DA X es t) : DE X (.List es pos) (dLst t) := ⟨peW (pe_lst h.pa) fun σ H Q ⟨e, g, Qd, re, rg, q, k⟩ => ⟨e, g, _, re, rg, q, fun vs ds H1 g1 x1 rg1 l1 q1 =>
  ⟨by rw [l1.length]; exact q1.1, fun p hp => rg1.finL (k.mono x1) hp l1 q1.2⟩⟩⟩
/-! ### calls of built-ins -/
abbrev DRC := List D → GS → DK → Prop
def lRC (K : PySem.W.Frag) (r : DRC) : List V → Hp → VK → Prop := fun xs H Q => ∃ ds g Qd, RepL K H xs ds ∧ RepG K H g ∧ r ds g Qd ∧ KD K H Qd Q
def dCB (r : DRC) (t : DTA) : DTE := fun e g Q => t e g fun xs g1 => r xs g1 Q
theorem lcb {r : DRC} {t : DTA} {σ : L2.St} {H : Hp} {Q : VK} (h : lE K (dCB r t) σ H Q) : tCB (lRC K r) (lA K t) σ H Q := by
  obtain ⟨e, g, Qd, re, rg, q, k⟩ := h
  exact ⟨e, g, _, re, rg, q, fun vs ds H1 g1 x1 rg1 l1 q1 => ⟨ds, g1, Qd, l1, rg1, q1, k.mono x1⟩⟩
variable {x : Str} {p : Pos} {id T : String} {r : DRC}
theorem de_callB (hc : CallR X (.builtin id) (lRC X.K r)) (hg : Gl X x) (hm : X.mg x = none) (hv : bootBuiltins x = some (.builtin id)) (ha : DA X (e :: es) t) (hn : x ≠ "__name__" := by decide) (hdb : (x == ("__debug__" : Str)) = false := by decide)
    (he : starEach (e :: es) X.env = (false, eval e X.env) :: starEach es X.env := by rfl) (hpl : (backTo pos (starEach es X.env)).any (·.1) = false := by rfl) : DE X (.Call (.Name x p) (e :: es) [] pos) (dCB r t) :=
  ⟨peW (pe_callB hc hg hm hv ha.pa hn hdb he hpl) fun _ _ _ h => lcb h⟩
theorem de_callTy (hc : CallR X (.type T) (lRC X.K r)) (hg : Gl X x) (hm : X.mg x = none) (hv : bootBuiltins x = some (.type T)) (ha : DA X (e :: es) t) (hn : x ≠ "__name__" := by decide) (hdb : (x == ("__debug__" : Str)) = false := by decide)
    (he : starEach (e :: es) X.env = (false, eval e X.env) :: starEach es X.env := by rfl) (hpl : (backTo pos (starEach es X.env)).any (·.1) = false := by rfl) : DE X (.Call (.Name x p) (e :: es) [] pos) (dCB r t) :=
  ⟨peW (pe_callTy hc hg hm hv ha.pa hn hdb he hpl) fun _ _ _ h => lcb h⟩
def lenD : DRC := fun xs g Q => match xs with
  | [.str z] => z.length ≤ sizeLine ∧ Q (.int (z.length : Nat)) g
  | [.tup ds] => Q (.int (ds.length : Nat)) g
  | [.klst ds] => Q (.int (ds.length : Nat)) g
  | [.ref p] => ∃ ds, rdL g p ds ∧ Q (.int (ds.length : Nat)) g
  | _ => False
theorem call_lenD : CallR X (.builtin "len") (lRC X.K lenD) := fun pins s σ H xs us Q I rs ⟨ds, g, Qd, l, rg, q, k⟩ => by
  rcases l with _ | ⟨r1, _ | ⟨r2, l⟩⟩
  · exact q.elim
  · cases r1 with
    | str z => exact call_len pins s σ H _ us Q I rs ⟨_, _, rfl, ⟨q.1, rfl⟩, rg.fin k (.int _) q.2⟩
    | @tup a xs ds hs l => exact call_len pins s σ H _ us Q I rs ⟨_, ds.length, rfl, .inr ⟨xs, hs, l.length.symm⟩, rg.fin k (.int _) q⟩
    | @kl a xs ds hs l => exact call_len pins s σ H _ us Q I rs ⟨_, ds.length, rfl, .inl ⟨xs, hs.sq, l.length.symm⟩, rg.fin k (.int _) q⟩
    | ref p =>
      obtain ⟨ds, h, q⟩ := q
      obtain ⟨xs, hs, l⟩ := rg.sq h
      exact call_len pins s σ H _ us Q I rs ⟨_, ds.length, rfl, .inl ⟨xs, hs, l.length.symm⟩, rg.fin k (.int _) q⟩
    | _ => exact q.elim
  · cases r1 <;> exact q.elim
def intF : DRC := fun xs g Q => match xs with
  | [.int i] => Q (.int i) g
  | [.bl b] => Q (.int (if b then 1 else 0)) g
  | [.str z] => ∃ n, PySem.intText? z = some n ∧ z.length ≤ 640 ∧ Q (.int n) g
  | _ => False
theorem call_intF : CallR X (.type "int") (lRC X.K intF) := fun pins s σ H xs us Q I rs ⟨ds, g, Qd, l, rg, q, k⟩ => by
  rcases l with _ | ⟨r1, _ | ⟨r2, l⟩⟩
  · exact q.elim
  · cases r1 with
    | int i => exact call_int1 pins s σ H _ us Q I rs (.inl ⟨i, rfl, rg.fin k (.int _) q⟩)
    | bl b => exact call_int1 pins s σ H _ us Q I rs (.inr ⟨b, rfl, rg.fin k (.int _) q⟩)
    | str z =>
      obtain ⟨n, h, hz, q⟩ := q
      exact call_int_str pins s σ H _ us Q I rs ⟨z, n, rfl, h, hz, rg.fin k (.int _) q⟩
    | _ => exact q.elim
  · cases r1 <;> exact q.elim
def int1D (C : Int → Prop) (f : Int → D) : DRC := fun xs g Q => match xs with
  | [.int i] => C i ∧ Q (f i) g
  | _ => False
abbrev absD : DRC := int1D (fun _ => True) fun i => .int (if i < 0 then -i else i)
theorem call_absD : CallR X (.builtin "abs") (lRC X.K absD) := fun pins s σ H xs us Q I rs ⟨ds, g, Qd, l, rg, q, k⟩ => by
  rcases l with _ | ⟨r1, _ | ⟨r2, l⟩⟩
  · exact q.elim
  · cases r1 with
    | int i => exact call_abs pins s σ H _ us Q I rs ⟨i, rfl, rg.fin k (.int _) q.2⟩
    | _ => exact q.elim
  · cases r1 <;> exact q.elim
abbrev strF : DRC := int1D (fun i => i.natAbs.log2 < 1920) fun i => .str (toString i)
theorem call_strF : CallR X (.type "str") (lRC X.K strF) := fun pins s σ H xs us Q I rs ⟨ds, g, Qd, l, rg, q, k⟩ => by
  rcases l with _ | ⟨r1, _ | ⟨r2, l⟩⟩
  · exact q.elim
  · cases r1 with
    | int i => exact call_str_int pins s σ H _ us Q I rs ⟨i, rfl, q.1, rg.fin k (.str _) q.2⟩
    | _ => exact q.elim
  · cases r1 <;> exact q.elim
def ordD : DRC := fun xs g Q => match xs with
  | [.str z] => z.length = 1 ∧ Q (.int (z.cps.getD 0 0 : Nat)) g
  | _ => False
theorem call_ordD : CallR X (.builtin "ord") (lRC X.K ordD) := fun pins s σ H xs us Q I rs ⟨ds, g, Qd, l, rg, q, k⟩ => by
  rcases l with _ | ⟨r1, _ | ⟨r2, l⟩⟩
  · exact q.elim
  · cases r1 with
    | str z => exact call_ord pins s σ H _ us Q I rs ⟨z, rfl, q.1, rg.fin k (.int _) q.2⟩
    | _ => exact q.elim
  · cases r1 <;> exact q.elim
def int2D (f : Int → Int → D) : DRC := fun xs g Q => match xs with
  | [.int i, .int j] => Q (f i j) g
  | _ => False
abbrev max2D : DRC := int2D fun i j => .int (if j > i then j else i)
abbrev min2D : DRC := int2D fun i j => .int (if j < i then j else i)
theorem call_int2D {f : Value} {h : Int → Int → Int} (hc : CallR X f (fun xs H Q => ∃ i j, xs = [.int i, .int j] ∧ Q (.int (h i j)) H)) : CallR X f (lRC X.K (int2D fun i j => .int (h i j))) := fun pins s σ H xs us Q I rs ⟨ds, g, Qd, l, rg, q, k⟩ => by
  rcases l with _ | ⟨r1, _ | ⟨r2, _ | ⟨r3, l⟩⟩⟩
  · exact q.elim
  · cases r1 <;> exact q.elim
  · cases r1 with
    | int i => cases r2 with
      | int j => exact hc pins s σ H _ us Q I rs ⟨i, j, rfl, rg.fin k (.int _) q⟩
      | _ => exact q.elim
    | _ => cases r2 <;> exact q.elim
  · cases r1 <;> cases r2 <;> exact q.elim
theorem call_max2D (hc : X.calm = true) : CallR X (.builtin "max") (lRC X.K max2D) := call_int2D (call_max2 hc)
theorem call_min2D (hc : X.calm = true) : CallR X (.builtin "min") (lRC X.K min2D) := call_int2D (call_min2 hc)
def tupF : DRC := fun xs g Q => match xs with
  | [.tup ds] => Q (.tup ds) g
  | [.ref p] => ∃ ds, rdL g p ds ∧ Q (.tup ds) g
  | _ => False
theorem call_tupF : CallR X (.type "tuple") (lRC X.K tupF) := fun pins s σ H xs us Q I rs ⟨ds, g, Qd, l, rg, q, k⟩ => by
  rcases l with _ | ⟨r1, _ | ⟨r2, l⟩⟩
  · exact q.elim
  · cases r1 with
    | @tup a xs ds hs l => exact call_tuple_of pins s σ H _ us Q I rs ⟨a, xs, rfl, .inr ⟨hs, rg.fin k (.tup hs l) q⟩⟩
    | ref p =>
      obtain ⟨ds, h, q⟩ := q
      obtain ⟨xs, hs, l⟩ := rg.sq h
      exact call_tuple_of pins s σ H _ us Q I rs ⟨p, xs, rfl, .inl ⟨hs, fun n hn => rg.finU k hn l q⟩⟩
    | _ => exact q.elim
  · cases r1 <;> exact q.elim
def lstF : DRC := fun xs g Q => match xs with
  | [.klst ds] => ∀ p, g p = none → Q (.ref p) (gup g p (.lst ds))
  | [.tup ds] => ∀ p, g p = none → Q (.ref p) (gup g p (.lst ds))
  | [.ref p] => ∃ ds, rdL g p ds ∧ ∀ p, g p = none → Q (.ref p) (gup g p (.lst ds))
  | _ => False
theorem call_lstF : CallR X (.type "list") (lRC X.K lstF) := fun pins s σ H xs us Q I rs ⟨ds, g, Qd, l, rg, q, k⟩ => by
  rcases l with _ | ⟨r1, _ | ⟨r2, l⟩⟩
  · exact q.elim
  · cases r1 with
    | @tup a xs ds hs l => exact call_list_of pins s σ H _ us Q I rs ⟨a, xs, rfl, .inr hs, fun n hn => rg.finL k hn l q⟩
    | @kl a xs ds hs l => exact call_list_of pins s σ H _ us Q I rs ⟨a, xs, rfl, .inl hs.sq, fun n hn => rg.finL k hn l q⟩
    | ref p =>
      obtain ⟨ds, h, q⟩ := q
      obtain ⟨xs, hs, l⟩ := rg.sq h
      exact call_list_of pins s σ H _ us Q I rs ⟨p, xs, rfl, .inl hs, fun n hn => rg.finL k hn l q⟩
    | _ => exact q.elim
  · cases r1 <;> exact q.elim
/-! ### isinstance(x, T), T a written built-in class -/
def tyD (g : GS) : D → String → Prop
  | .non, n => n = "NoneType"
  | .bl _, n => n = "bool"
  | .int _, n => n = "int"
  | .str _, n => n = "str"
  | .tup _, n => n = "tuple"
  | .klst _, n => n = "list"
  | .ref p, n => n = "list" ∧ ∃ ds, rdL g p ds
def dIsi (T : String) (ta : DTE) : DTE := fun e g Q => ta e g fun x g1 => ∃ n b, tyD g1 x n ∧ kitB n T = some b ∧ Q (.bl b) g1
theorem tyD_tyX {g : GS} (rg : RepG K H g) {v : V} {d : D} (r : RepD K H v d) {n : String} (h : tyD g d n) : TyX K H v (.type n) := by
  cases r with
  | non => cases h; exact .base .non
  | bl b => cases h; exact .base (.bl b)
  | int b => cases h; exact .base (.int b)
  | str b => cases h; exact .base (.str b)
  | ref p =>
    obtain ⟨rfl, ds, h⟩ := h
    rcases h with h | h
    · obtain ⟨xs, e, _⟩ := rg.lst h
      exact .base (.lst e)
    · obtain ⟨o, xs, e, _⟩ := rg.ro h
      exact .base (.frz e)
  | kl hs l =>
    cases h
    rcases hs with ⟨o, h⟩ | ⟨o, its, m, h1, h2, _⟩
    · exact .base (.frz h)
    · exact .kList h1 h2
  | tup hs l =>
    cases h
    rcases hs with (h | ⟨o, h⟩) | ⟨o, its, m, h1, h2, _⟩
    · exact .base (.tup h)
    · exact .fTuple h
    · exact .kTuple h1 h2
theorem de_isi {p2 : Pos} {y : Str} (hg : Gl X "isinstance") (hm : X.mg "isinstance" = none) (ha : DE X a ta) (hg2 : Gl X y) (hm2 : X.mg y = none) (hv : bootBuiltins y = some (.type T)) (hn2 : y ≠ "__name__" := by decide) (hd2 : (y == ("__debug__" : Str)) = false := by decide) (hs1 : starEach [a, .Name y p2] X.env = (false, eval a X.env) :: starEach [.Name y p2] X.env := by rfl) (hs2 : starEach [.Name y p2] X.env = (false, eval (.Name y p2) X.env) :: starEach [] X.env := by rfl)
    (hpl : (backTo pos (starEach [.Name y p2] X.env)).any (·.1) = false := by rfl) : DE X (.Call (.Name "isinstance" p) [a, .Name y p2] [] pos) (dIsi T ta) :=
  ⟨peW (pe_callB call_isi hg hm (by decide +kernel) (pa_cons ha.pe (pa_cons (pe_bltn (v := .ty T) hg2 hm2 hv rfl hn2 hd2) pa_nil hs2) hs1) (by decide) (by decide) hs1 hpl) fun σ H Q ⟨e, g, Qd, re, rg, q, k⟩ =>
    ⟨e, g, _, re, rg, q, fun x d H1 g1 x1 rg1 r1 q1 => by
      obtain ⟨n, b, h1, h2, q1⟩ := q1
      exact ⟨x, .ty T, _, _, b, rfl, .ty T, tyD_tyX rg1 r1 h1, kit_ty h2, rg1.fin (k.mono x1) (.bl b) q1⟩⟩⟩
/-! ### methods of built-in types -/
abbrev DRM := D → List D → GS → DK → Prop
def lRM (K : PySem.W.Frag) (r : DRM) : V → List V → Hp → VK → Prop := fun x xs H Q => ∃ d ds g Qd, RepD K H x d ∧ RepL K H xs ds ∧ RepG K H g ∧ r d ds g Qd ∧ KD K H Qd Q
def rcv (T : String) (x : D) (g : GS) : Prop := match x with
  | .str _ => T = "str"
  | .ref p => T = "list" ∧ ∃ ds, rdL g p ds
  | _ => False
theorem rcv_ty {g : GS} (rg : RepG K H g) {v : V} {d : D} (r : RepD K H v d) {T : String} (h : rcv T d g) : tyV K T v H := by
  cases r with
  | str z => exact h
  | ref p =>
    obtain ⟨h1, ds, h⟩ := h
    obtain ⟨xs, hs, _⟩ := rg.sq h
    exact .inl ⟨h1, xs, hs⟩
  | _ => exact h.elim
def dBM (T : String) (r : DRM) (to : DTE) (t : DTA) : DTE := fun e g Q => to e g fun x g1 => rcv T x g1 ∧ t e g1 fun ys g2 => r x ys g2 Q
def dBM0 (T : String) (r : DRM) (to : DTE) : DTE := fun e g Q => to e g fun x g1 => rcv T x g1 ∧ r x [] g1 Q
variable {o : Expr} {to : DTE} {name : Str} {apos cpos : Pos} {rm : DRM}
theorem de_bm0 (pa : PlainAttrs T) (slot : Slot T name id) (hty : typeOf (.builtin id) = pure (.type "method_descriptor")) (hm : MtR X id (lRM X.K rm)) (ho : DE X o to)
    (hbase : attributeBase o name X.env (eval o X.env) = eval o X.env := by rfl) (hline : (apos.endLine == cpos.line) = true := by rfl) : DE X (.Call (.Attribute o name apos) [] [] cpos) (dBM0 T rm to) :=
  ⟨peW (pe_bm0 pa slot hty hm ho.pe hbase hline) fun σ H Q ⟨e, g, Qd, re, rg, q, k⟩ => ⟨e, g, _, re, rg, q, fun x d H1 g1 x1 rg1 r1 q1 =>
    ⟨rcv_ty rg1 r1 q1.1, d, [], g1, Qd, r1, .nil, rg1, q1.2, k.mono x1⟩⟩⟩
theorem de_bm (pa : PlainAttrs T) (slot : Slot T name id) (hty : typeOf (.builtin id) = pure (.type "method_descriptor")) (hm : MtR X id (lRM X.K rm)) (ho : DE X o to) (ha : DA X (e :: es) t)
    (hbase : attributeBase o name X.env (eval o X.env) = eval o X.env := by rfl)
    (hfew : ((backTo cpos (starEach (e :: es) X.env)).all (fun x => !x.1) && (backToKw cpos (keywordEach [] X.env)).all (fun x => x.1.isSome)
      && decide ((e :: es).length + ([] : List Keyword).length + (if ([] : List Keyword).isEmpty then 0 else 1) < 30)) = true := by rfl)
    (hline : (apos.endLine == cpos.line) = true := by rfl) (hs : starEach (e :: es) X.env = (false, eval e X.env) :: starEach es X.env := by rfl) (hplain : (backTo cpos (starEach es X.env)).any (·.1) = false := by rfl) :
    DE X (.Call (.Attribute o name apos) (e :: es) [] cpos) (dBM T rm to t) :=
  ⟨peW (pe_bm pa slot hty hm ho.pe ha.pa hbase hfew hline hs hplain) fun σ H Q ⟨e, g, Qd, re, rg, q, k⟩ => ⟨e, g, _, re, rg, q, fun x d H1 g1 x1 rg1 r1 q1 =>
    ⟨rcv_ty rg1 r1 q1.1, e, g1, _, re.mono x1, rg1, q1.2, fun vs ds H2 g2 x2 rg2 l2 q2 => ⟨d, ds, g2, Qd, r1.mono x2, l2, rg2, q2, k.mono (x1.trans x2)⟩⟩⟩⟩
def appD : DRM := fun x ys g Q => match x, ys with
  | .ref p, [y] => ∃ ds, g p = some (.lst ds) ∧ ds.length < sizeLine ∧ Q .non (gup g p (.lst (ds ++ [y])))
  | _, _ => False
theorem mt_appD : MtR X "list.append" (lRM X.K appD) := fun pins s σ H x xs v us Q I rx rs ⟨d, ds, g, Qd, r, l, rg, q, k⟩ => by
  cases r with
  | ref p => rcases l with _ | ⟨r1, _ | ⟨r2, l⟩⟩
             · exact q.elim
             · obtain ⟨ds, h, hz, q⟩ := q
               obtain ⟨xs, e, l⟩ := rg.lst h
               exact mt_append pins s σ H _ _ v us Q I rx rs ⟨p, xs, _, rfl, rfl, e, by rw [l.length]; exact hz, k _ _ _ _ (.lst e) (rg.setL e (l.app (.cons r1 .nil))) .non q⟩
             · exact q.elim
  | _ => cases l <;> exact q.elim
def extD : DRM := fun x ys g Q => match x, ys with
  | .ref p, [.ref b] => ∃ ds es, g p = some (.lst ds) ∧ g b = some (.lst es) ∧ ds.length + es.length ≤ sizeLine ∧ Q .non (gup g p (.lst (ds ++ es)))
  | _, _ => False
theorem mt_extD : MtR X "list.extend" (lRM X.K extD) := fun pins s σ H x xs v us Q I rx rs ⟨d, ds, g, Qd, r, l, rg, q, k⟩ => by
  cases r with
  | ref p => rcases l with _ | ⟨r1, _ | ⟨r2, l⟩⟩
             · exact q.elim
             · cases r1 with
               | ref b =>
                 obtain ⟨ds, es, h, h2, hz, q⟩ := q
                 obtain ⟨xs, e, l⟩ := rg.lst h
                 obtain ⟨ys, e2, l2⟩ := rg.lst h2
                 exact mt_extend pins s σ H _ _ v us Q I rx rs ⟨p, b, xs, ys, rfl, rfl, e, e2, by rw [l.length, l2.length]; exact hz, k _ _ _ _ (.lst e) (rg.setL e (l.app l2)) .non q⟩
               | _ => exact q.elim
             · cases r1 <;> exact q.elim
  | _ => exact q.elim
theorem RepL.dropLast {vs : List V} {ds : List D} (r : RepL K H vs ds) : RepL K H vs.dropLast ds.dropLast := by
  rw [List.dropLast_eq_take, List.dropLast_eq_take, r.length]
  exact r.take _
def popD : DRM := fun x ys g Q => match x, ys with
  | .ref p, [] => ∃ ds y, g p = some (.lst ds) ∧ ds[ds.length - 1]? = some y ∧ Q y (gup g p (.lst ds.dropLast))
  | .ref p, [.int i] => ∃ ds k y, g p = some (.lst ds) ∧ -(2 ^ 63) ≤ i ∧ i < 2 ^ 63 ∧ seqIndex? i ds.length = some k ∧ ds[k]? = some y ∧ Q y (gup g p (.lst (ds.eraseIdx k)))
  | _, _ => False
theorem mt_popD : MtR X "list.pop" (lRM X.K popD) := fun pins s σ H x xs v us Q I rx rs ⟨d, ds, g, Qd, r, l, rg, q, k⟩ => by
  cases r with
  | ref p => rcases l with _ | ⟨r1, _ | ⟨r2, l⟩⟩
             · obtain ⟨ds, y, h, h1, q⟩ := q
               obtain ⟨xs, e, l⟩ := rg.lst h
               obtain ⟨w, e1, r1⟩ := l.get h1
               exact mt_pop pins s σ H _ _ v us Q I rx rs ⟨p, xs, w, rfl, rfl, e, by rw [l.length]; exact e1, k _ _ _ _ (.lst e) (rg.setL e l.dropLast) (r1.mono (.lst e)) q⟩
             · cases r1 with
               | int i =>
                 obtain ⟨ds, j, y, h, b1, b2, hj, h1, q⟩ := q
                 obtain ⟨xs, e, l⟩ := rg.lst h
                 obtain ⟨w, e1, r1⟩ := l.get h1
                 exact mt_popAt pins s σ H _ _ v us Q I rx rs ⟨p, xs, i, j, w, rfl, rfl, e, b1, b2, by rw [l.length]; exact hj, e1, k _ _ _ _ (.lst e) (rg.setL e (l.erase j)) (r1.mono (.lst e)) q⟩
               | _ => exact q.elim
             · cases r1 <;> exact q.elim
  | _ => exact q.elim
def revD : DRM := fun x ys g Q => match x, ys with
  | .ref p, [] => ∃ ds, g p = some (.lst ds) ∧ Q .non (gup g p (.lst ds.reverse))
  | _, _ => False
theorem mt_revD : MtR X "list.reverse" (lRM X.K revD) := fun pins s σ H x xs v us Q I rx rs ⟨d, ds, g, Qd, r, l, rg, q, k⟩ => by
  cases r with
  | ref p => cases l with
    | nil =>
      obtain ⟨ds, h, q⟩ := q
      obtain ⟨xs, e, l⟩ := rg.lst h
      exact mt_reverse pins s σ H _ _ v us Q I rx rs ⟨p, xs, rfl, rfl, e, k _ _ _ _ (.lst e) (rg.setL e l.rev) .non q⟩
    | cons _ _ => exact q.elim
  | _ => exact q.elim
def joinD : DRM := fun x ys g Q => match x, ys with
  | .str a, [.tup ds] => ∃ zs : List Str, ds = zs.map D.str ∧ (zs.map (·.length)).sum + zs.length * a.length ≤ 16777216 ∧ Q (.str (Txt.join a zs)) g
  | .str a, [.ref p] => ∃ zs : List Str, rdL g p (zs.map D.str) ∧ (zs.map (·.length)).sum + zs.length * a.length ≤ 16777216 ∧ Q (.str (Txt.join a zs)) g
  | _, _ => False
theorem mt_joinD : MtR X "str.join" (lRM X.K joinD) := fun pins s σ H x xs v us Q I rx rs ⟨d, ds, g, Qd, r, l, rg, q, k⟩ => by
  cases r with
  | str a => rcases l with _ | ⟨r1, _ | ⟨r2, l⟩⟩
             · exact q.elim
             · cases r1 with
               | @tup b xs ds hs l =>
                 obtain ⟨zs, rfl, hz, q⟩ := q
                 have := l.strs zs
                 subst this
                 exact mt_join pins s σ H _ _ v us Q I rx rs ⟨a, b, zs, rfl, rfl, .inr hs, hz, rg.fin k (.str _) q⟩
               | ref p =>
                 obtain ⟨zs, h, hz, q⟩ := q
                 obtain ⟨xs, hs, l⟩ := rg.sq h
                 have := l.strs zs
                 subst this
                 exact mt_join pins s σ H _ _ v us Q I rx rs ⟨a, p, zs, rfl, rfl, .inl hs, hz, rg.fin k (.str _) q⟩
               | _ => exact q.elim
             · cases r1 <;> exact q.elim
  | _ => exact q.elim
/-- a text's method without arguments -/
def str0D (C : Str → Prop) (f : Str → D) : DRM := fun x ys g Q => match x, ys with
  | .str a, [] => C a ∧ Q (f a) g
  | _, _ => False
theorem mt_str0 {C : Str → Prop} {f : Str → V} {f' : Str → D} (h : MtR X id (fun x xs H Q => ∃ a, x = .str a ∧ xs = [] ∧ C a ∧ Q (f a) H)) (r : ∀ H a, RepD X.K H (f a) (f' a)) : MtR X id (lRM X.K (str0D C f')) := fun pins s σ H x xs v us Q I rx rs ⟨d, ds, g, Qd, r1, l, rg, q, k⟩ => by
  cases r1 with
  | str a => cases l with
    | nil => exact h pins s σ H _ _ v us Q I rx rs ⟨a, rfl, rfl, q.1, rg.fin k (r _ _) q.2⟩
    | cons _ _ => exact q.elim
  | _ => exact q.elim
abbrev lowerD : DRM := str0D (fun a => a.length ≤ 5592405) fun a => .str (Txt.lower a)
theorem mt_lowerD : MtR X "str.lower" (lRM X.K lowerD) := mt_str0 mt_lower fun _ _ => .str _
abbrev upperD : DRM := str0D (fun a => a.length ≤ 5592405) fun a => .str (Txt.upper a)
theorem mt_upperD : MtR X "str.upper" (lRM X.K upperD) := mt_str0 mt_upper fun _ _ => .str _
/-- a text's method with one text -/
def str1D (f : Str → Str → D) : DRM := fun x ys g Q => match x, ys with
  | .str a, [.str b] => Q (f a b) g
  | _, _ => False
theorem mt_str1 {f : Str → Str → V} {f' : Str → Str → D} (h : MtR X id (fun x xs H Q => ∃ a b, x = .str a ∧ xs = [.str b] ∧ Q (f a b) H)) (r : ∀ H a b, RepD X.K H (f a b) (f' a b)) : MtR X id (lRM X.K (str1D f')) := fun pins s σ H x xs v us Q I rx rs ⟨d, ds, g, Qd, r1, l, rg, q, k⟩ => by
  cases r1 with
  | str a => rcases l with _ | ⟨r1, _ | ⟨r2, l⟩⟩
             · exact q.elim
             · cases r1 with
               | str b => exact h pins s σ H _ _ v us Q I rx rs ⟨a, b, rfl, rfl, rg.fin k (r _ _ _) q⟩
               | _ => exact q.elim
             · cases r1 <;> exact q.elim
  | _ => exact q.elim
abbrev startsD : DRM := str1D fun a b => .bl (Txt.startswith a b)
theorem mt_startsD : MtR X "str.startswith" (lRM X.K startsD) := mt_str1 mt_startswith fun _ _ _ => .bl _
abbrev endsD : DRM := str1D fun a b => .bl (Txt.endswith a b)
theorem mt_endsD : MtR X "str.endswith" (lRM X.K endsD) := mt_str1 mt_endswith fun _ _ _ => .bl _
abbrev findD : DRM := str1D fun a b => .int (Txt.find a b)
theorem mt_findD : MtR X "str.find" (lRM X.K findD) := mt_str1 mt_find fun _ _ _ => .int _
def splitD : DRM := fun x ys g Q => match x, ys with
  | .str a, [.str b] => (b.length == 0) = false ∧ a.length + 2 ≤ sizeLine ∧ ∀ p, g p = none → Q (.ref p) (gup g p (.lst ((Txt.split a b).map D.str)))
  | _, _ => False
theorem mt_splitD : MtR X "str.split" (lRM X.K splitD) := fun pins s σ H x xs v us Q I rx rs ⟨d, ds, g, Qd, r1, l, rg, q, k⟩ => by
  cases r1 with
  | str a => rcases l with _ | ⟨r1, _ | ⟨r2, l⟩⟩
             · exact q.elim
             · cases r1 with
               | str b => exact mt_split pins s σ H _ _ v us Q I rx rs ⟨a, b, rfl, rfl, q.1, q.2.1, fun n hn => rg.finL k hn (.ofStrs _) q.2.2⟩
               | _ => exact q.elim
             · cases r1 <;> exact q.elim
  | _ => exact q.elim
end
end DL

namespace DL
open PySem L2
section
variable {X : Cx} {K : PySem.W.Frag} {H H' : Hp} {σ : L2.St}
variable {a b c e : Expr} {es rest : List Expr} {ta tb tc te : DTE} {tA tB : DTT} {t : DTA} {pos : Pos}
/-! ### tests -/
def dAnd (t u : DTT) : DTT := fun e g Q => t e g fun c g1 => if c = true then u e g1 Q else Q false g1
def dOr (t u : DTT) : DTT := fun e g Q => t e g fun c g1 => if c = true then Q true g1 else u e g1 Q
def dNot (t : DTT) : DTT := fun e g Q => t e g fun c g1 => Q (!c) g1
theorem dw_and1 (ha : DT X a tA) : DW X (.BoolOp .And [a] pos) tA := ⟨pw_and1 ha.pt⟩
theorem dw_or1 (ha : DT X a tA) : DW X (.BoolOp .Or [a] pos) tA := ⟨pw_or1 ha.pt⟩
theorem DW.dt (h : DW X a tA) : DT X a tA := ⟨h.pw.pt⟩
theorem dw_and (ha : DT X a tA) (hb : DW X (.BoolOp .And (b :: rest) pos) tB) : DW X (.BoolOp .And (a :: b :: rest) pos) (dAnd tA tB) := ⟨pwW (pw_and ha.pt hb.pw) fun σ H Q ⟨e, g, Qd, re, rg, q, k⟩ =>
  ⟨e, g, _, re, rg, q, fun c H1 g1 x1 rg1 q1 => by
    cases c with
    | true => exact ⟨e, g1, Qd, re.mono x1, rg1, q1, fun b H2 g2 x2 => k b H2 g2 (x1.trans x2)⟩
    | false => exact k _ _ _ x1 rg1 q1⟩⟩
theorem dw_or (ha : DT X a tA) (hb : DW X (.BoolOp .Or (b :: rest) pos) tB) : DW X (.BoolOp .Or (a :: b :: rest) pos) (dOr tA tB) := ⟨pwW (pw_or ha.pt hb.pw) fun σ H Q ⟨e, g, Qd, re, rg, q, k⟩ =>
  ⟨e, g, _, re, rg, q, fun c H1 g1 x1 rg1 q1 => by
    cases c with
    | false => exact ⟨e, g1, Qd, re.mono x1, rg1, q1, fun b H2 g2 x2 => k b H2 g2 (x1.trans x2)⟩
    | true => exact k _ _ _ x1 rg1 q1⟩⟩
theorem dt_not (ha : DT X a tA) : DT X (.UnaryOp .Not a pos) (dNot tA) := ⟨ptW (pt_not ha.pt) fun σ H Q ⟨e, g, Qd, re, rg, q, k⟩ => ⟨e, g, _, re, rg, q, fun c H1 g1 x1 rg1 q1 => k _ _ _ x1 rg1 q1⟩⟩
/-- truth of a value -/
def truD (g : GS) (k : Bool) : D → Prop
  | .non => k = false
  | .bl b => k = b
  | .int i => k = (i != 0)
  | .str y => y.length ≤ sizeLine ∧ k = ((y.length : Int) != 0)
  | .tup ds => k = !ds.isEmpty
  | .klst ds => k = !ds.isEmpty
  | .ref p => ∃ ds, rdL g p ds ∧ k = !ds.isEmpty
def dTru (t : DTE) : DTT := fun e g Q => t e g fun d g1 => ∃ k, truD g1 k d ∧ Q k g1
theorem RepL.empty {vs : List V} {ds : List D} (r : RepL K H vs ds) : vs.isEmpty = ds.isEmpty := by cases r <;> rfl
theorem dt_tru (ha : DE X a ta) (he : ∀ whole, isTrue a X.env whole = (do let v ← whole; standAt a.pos; holding [v] (truthy v)) := by intro _; rfl) : DT X a (dTru ta) := ⟨ptW (pt_truth ha.pe he) fun σ H Q ⟨e, g, Qd, re, rg, q, k⟩ =>
  ⟨e, g, _, re, rg, q, fun v d H1 g1 x1 rg1 r1 q1 => by
    obtain ⟨b, h, q1⟩ := q1
    refine ⟨b, ?_, k _ _ _ x1 rg1 q1⟩
    cases r1 with
    | ref p =>
      obtain ⟨ds, h, e⟩ := h
      obtain ⟨xs, hs, l⟩ := rg1.sq h
      exact .inl ⟨xs, hs, by rw [l.empty]; exact e⟩
    | tup hs l => exact .inr (.inl ⟨_, hs, by rw [l.empty]; exact h⟩)
    | kl hs l => exact .inl ⟨_, hs.sq, by rw [l.empty]; exact h⟩
    | _ => exact h⟩⟩
/-- and, or, not as values (bools) -/
def dAndV (ta tb : DTE) : DTE := fun e g Q => ta e g fun x g1 => ∃ c, x = .bl c ∧ if c = true then tb e g1 Q else Q (.bl false) g1
def dOrV (ta tb : DTE) : DTE := fun e g Q => ta e g fun x g1 => ∃ c, x = .bl c ∧ if c = true then Q (.bl true) g1 else tb e g1 Q
def dNotV (ta : DTE) : DTE := fun e g Q => ta e g fun x g1 => ∃ c, x = .bl c ∧ Q (.bl (!c)) g1
theorem de_one {op} (h : DE X a ta) : DE X (.BoolOp op [a] pos) ta := ⟨pe_one h.pe⟩
theorem de_and (ha : DE X a ta) (hb : DE X (.BoolOp .And (b :: rest) pos) tb) : DE X (.BoolOp .And (a :: b :: rest) pos) (dAndV ta tb) := ⟨peW (pe_and ha.pe hb.pe) fun σ H Q ⟨e, g, Qd, re, rg, q, k⟩ =>
  ⟨e, g, _, re, rg, q, fun x d H1 g1 x1 rg1 r1 q1 => by
    obtain ⟨c, rfl, q1⟩ := q1
    cases r1
    refine ⟨c, rfl, ?_⟩
    cases c with
    | true => exact ⟨e, g1, Qd, re.mono x1, rg1, q1, k.mono x1⟩
    | false => exact k _ _ _ _ x1 rg1 (.bl _) q1⟩⟩
theorem de_or (ha : DE X a ta) (hb : DE X (.BoolOp .Or (b :: rest) pos) tb) : DE X (.BoolOp .Or (a :: b :: rest) pos) (dOrV ta tb) := ⟨peW (pe_or ha.pe hb.pe) fun σ H Q ⟨e, g, Qd, re, rg, q, k⟩ =>
  ⟨e, g, _, re, rg, q, fun x d H1 g1 x1 rg1 r1 q1 => by
    obtain ⟨c, rfl, q1⟩ := q1
    cases r1
    refine ⟨c, rfl, ?_⟩
    cases c with
    | false => exact ⟨e, g1, Qd, re.mono x1, rg1, q1, k.mono x1⟩
    | true => exact k _ _ _ _ x1 rg1 (.bl _) q1⟩⟩
theorem de_not (ha : DE X a ta) : DE X (.UnaryOp .Not a pos) (dNotV ta) := ⟨peW (pe_not ha.pe) fun σ H Q ⟨e, g, Qd, re, rg, q, k⟩ =>
  ⟨e, g, _, re, rg, q, fun x d H1 g1 x1 rg1 r1 q1 => by
    obtain ⟨c, rfl, q1⟩ := q1
    cases r1
    exact ⟨c, rfl, k _ _ _ _ x1 rg1 (.bl _) q1⟩⟩⟩
def dIfE (t : DTT) (ta tb : DTE) : DTE := fun e g Q => t e g fun c g1 => if c = true then ta e g1 Q else tb e g1 Q
theorem de_ifExp (hc : DT X c tA) (ha : DE X a ta) (hb : DE X b tb) : DE X (.IfExp c a b pos) (dIfE tA ta tb) := ⟨peW (pe_ifExp hc.pt ha.pe hb.pe) fun σ H Q ⟨e, g, Qd, re, rg, q, k⟩ =>
  ⟨e, g, _, re, rg, q, fun c H1 g1 x1 rg1 q1 => by
    cases c with
    | true => exact ⟨e, g1, Qd, re.mono x1, rg1, q1, k.mono x1⟩
    | false => exact ⟨e, g1, Qd, re.mono x1, rg1, q1, k.mono x1⟩⟩⟩
/-! ### calls of own defs -/
def dCall (sp : DSp) (dds : List D) (t : DTA) : DTE := fun e g Q => t e g fun ds g1 => sp (ds ++ dds) g1 Q
variable {x : Str} {p : Pos} {k : Nat} {f : Addr} {fd : FuncData} {ps : List Str} {sp : DSp} {dvs : List V} {dus : List Value} {dds : List D}
theorem lcall {σ : L2.St} {Q : VK} {E : XK} (hdd : ∀ H, RepL K H dvs dds) (h : lE K (dCall sp dds t) σ H Q) : tCall (lSp K sp) dvs E (lA K t) σ H Q := by
  obtain ⟨e, g, Qd, re, rg, q, k⟩ := h
  exact ⟨e, g, _, re, rg, q, fun vs ds H1 g1 x1 rg1 l1 q1 => ⟨_, g1, Qd, l1.app (hdd H1), rg1, q1, k.mono x1⟩⟩
theorem de_call (F : FnOk X.prog X.w X.K X.mg X.base CX0 k f fd ps (lSp X.K sp)) (hr : Room k X.A) (hg : Gl X x) (hm : X.mg x = some (.ref f)) (hk : PySem.W.keepIn X.K (.ref f) = true) (hb : Binds X.K fd ps dus) (hd : Vals dvs dus) (hdd : ∀ H, RepL X.K H dvs dds)
    (ha : DA X (e :: es) t) (hdb : (x == ("__debug__" : Str)) = false := by decide) (he : starEach (e :: es) X.env = (false, eval e X.env) :: starEach es X.env := by rfl) (hpl : (backTo pos (starEach es X.env)).any (·.1) = false := by rfl) :
    DE X (.Call (.Name x p) (e :: es) [] pos) (dCall sp dds t) := ⟨peW (pe_call F hr hg hm hk hb hd pass0 ha.pa hdb he hpl) fun _ _ _ h => lcall hdd h⟩
theorem de_call0 (F : FnOk X.prog X.w X.K X.mg X.base CX0 k f fd ps (lSp X.K sp)) (hr : Room k X.A) (hg : Gl X x) (hm : X.mg x = some (.ref f)) (hk : PySem.W.keepIn X.K (.ref f) = true) (hb : Binds X.K fd ps dus) (hd : Vals dvs dus) (hdd : ∀ H, RepL X.K H dvs dds)
    (hdb : (x == ("__debug__" : Str)) = false := by decide) : DE X (.Call (.Name x p) [] [] pos) (dCall sp dds dNil) := ⟨peW (pe_call0 F hr hg hm hk hb hd pass0 hdb) fun σ H Q h => by
  obtain ⟨e, g, Qd, re, rg, q, k⟩ := h
  exact ⟨_, g, Qd, RepL.app .nil (hdd H), rg, q, k⟩⟩
/-! ### statements -/
variable {st : Stmt} {sts : List Stmt} {T U : DTS}
/-- one after the other, some word between them -/
def dSeq (t u : DTS) : DTS := fun D e g => ∃ M : EV → GS → Prop, t { D with nx := M } e g ∧ ∀ e' g', M e' g' → u D e' g'
def dNext : DTS := fun D e g => D.nx e g
theorem dss_cons (h1 : DS X st T) (h2 : DSs X sts U) : DSs X (st :: sts) (dSeq T U) := ⟨pssW (pss_cons h1.ps h2.pss) fun D σ H ⟨e, g, Dd, re, rg, ⟨M, q, qm⟩, k1, k2, k3, k4⟩ =>
  ⟨e, g, _, re, rg, q, fun σ' H' e' g' x1 re1 rg1 q1 => ⟨e', g', Dd, re1, rg1, qm e' g' q1, k1.mono x1, k2.mono x1, k3.mono x1, k4.mono x1⟩, k2, k3, k4⟩⟩
theorem dss_one (h1 : DS X st T) : DSs X [st] T := ⟨pss_one h1.ps⟩
theorem KS.fin {Q : EV → GS → Prop} {Q' : L2.St → Hp → Prop} (k : KS K H Q Q') {e : EV} {g : GS} (re : RepE K H σ e) (rg : RepG K H g) (q : Q e g) : Q' σ H := k _ _ _ _ (.refl H) re rg q
theorem dss_nil : DSs X [] dNext := ⟨pssW pss_nil fun D σ H ⟨e, g, Dd, re, rg, q, k1, _⟩ => k1.fin re rg q⟩
theorem ds_pass : DS X (.Pass pos) dNext := ⟨psW ps_pass fun D σ H ⟨e, g, Dd, re, rg, q, k1, _⟩ => k1.fin re rg q⟩
def dBreak : DTS := fun D e g => D.bk e g
def dCont : DTS := fun D e g => D.ct e g
theorem ds_break : DS X (.Break pos) dBreak := ⟨psW ps_break fun D σ H ⟨e, g, Dd, re, rg, q, _, _, k3, _⟩ => k3.fin re rg q⟩
theorem ds_cont : DS X (.Continue pos) dCont := ⟨psW ps_continue fun D σ H ⟨e, g, Dd, re, rg, q, _, _, _, k4⟩ => k4.fin re rg q⟩
def dDrop (te : DTE) : DTS := fun D e g => te e g fun _ g1 => D.nx e g1
theorem ds_expr (he : DE X a te) (hs : swapsWith a none pos.line X.env = pure false := by rfl) : DS X (.Expr a pos) (dDrop te) := ⟨psW (ps_expr he.pe hs) fun D σ H ⟨e, g, Dd, re, rg, q, k1, _⟩ =>
  ⟨e, g, _, re, rg, q, fun v d H1 g1 x1 rg1 _ q1 => (k1.mono x1).fin (re.mono x1) rg1 q1⟩⟩
def dRet (te : DTE) : DTS := fun D e g => te e g D.rt
theorem ds_ret (he : DE X a te) : DS X (.Return (some a) pos) (dRet te) := ⟨psW (ps_ret he.pe) fun D σ H ⟨e, g, Dd, re, rg, q, _, k2, _⟩ => ⟨e, g, _, re, rg, q, k2⟩⟩
def dRetN : DTS := fun D _ g => D.rt .non g
theorem ds_retN : DS X (.Return none pos) dRetN := ⟨psW ps_retN fun D σ H ⟨e, g, Dd, re, rg, q, _, k2, _⟩ => rg.fin k2 .non q⟩
def dIf (c : DTT) (t u : DTS) : DTS := fun D e g => c e g fun b g1 => if b = true then t D e g1 else u D e g1
theorem ds_if {c : Expr} {s1 s2 : List Stmt} {tc : DTT} (hc : DT X c tc) (ha : DSs X s1 T) (hb : DSs X s2 U) : DS X (.If c s1 s2 pos) (dIf tc T U) := ⟨psW (ps_if hc.pt ha.pss hb.pss) fun D σ H ⟨e, g, Dd, re, rg, q, k1, k2, k3, k4⟩ =>
  ⟨e, g, _, re, rg, q, fun b H1 g1 x1 rg1 q1 => by
    cases b with
    | true => exact ⟨e, g1, Dd, re.mono x1, rg1, q1, k1.mono x1, k2.mono x1, k3.mono x1, k4.mono x1⟩
    | false => exact ⟨e, g1, Dd, re.mono x1, rg1, q1, k1.mono x1, k2.mono x1, k3.mono x1, k4.mono x1⟩⟩⟩
theorem ds_never : DS X st (fun _ _ _ => False) := ⟨psW ps_never fun D σ H ⟨_, _, _, _, _, q, _⟩ => q⟩
/-! ### targets -/
abbrev DTG := D → EV → GS → (EV → GS → Prop) → Prop
abbrev DTGs := List D → EV → GS → (EV → GS → Prop) → Prop
def lG (K : PySem.W.Frag) (T : DTG) : TG := fun v σ H Q => ∃ d e g Qd, RepD K H v d ∧ RepE K H σ e ∧ RepG K H g ∧ T d e g Qd ∧ KS K H Qd Q
def lGs (K : PySem.W.Frag) (T : DTGs) : TGs := fun vs σ H Q => ∃ ds e g Qd, RepL K H vs ds ∧ RepE K H σ e ∧ RepG K H g ∧ T ds e g Qd ∧ KS K H Qd Q
structure DG (X : Cx) (tg : Expr) (T : DTG) : Prop where
  pg : PG X tg (lG X.K T)
structure DGs (X : Cx) (tgs : List Expr) (T : DTGs) : Prop where
  pgs : PGs X tgs (lGs X.K T)
theorem pgW {e : Expr} {t t' : TG} (h : PG X e t) (w : ∀ v σ H Q, t' v σ H Q → t v σ H Q) : PG X e t' := ⟨fun pins s σ H v u Q I r q => h.run pins s σ H v u Q I r (w v σ H Q q)⟩
theorem pgsW {e : List Expr} {t t' : TGs} (h : PGs X e t) (w : ∀ v σ H Q, t' v σ H Q → t v σ H Q) : PGs X e t' := ⟨fun pins s σ H v u Q I r q => h.run pins s σ H v u Q I r (w v σ H Q q)⟩
def gNm (i : Nat) : DTG := fun d e g Q => Q (e.set i (some d)) g
theorem dg_name {i : Nat} (h : PG X a (gName i)) : DG X a (gNm i) := ⟨pgW h fun v σ H Q ⟨d, e, g, Qd, r, re, rg, q, k⟩ => k.fin (re.set r i) rg q⟩
def gsNil : DTGs := fun ds e g Q => ds = [] ∧ Q e g
def gsCons (t : DTG) (u : DTGs) : DTGs := fun ds e g Q => ∃ d r, ds = d :: r ∧ t d e g fun e1 g1 => u r e1 g1 Q
theorem dgs_nil : DGs X [] gsNil := ⟨pgsW pgs_nil fun vs σ H Q ⟨ds, e, g, Qd, l, re, rg, q, k⟩ => by
  obtain ⟨rfl, q⟩ := q
  cases l
  exact ⟨rfl, k.fin re rg q⟩⟩
theorem dgs_cons {tg : DTG} {tgs : DTGs} (h1 : DG X a tg) (h2 : DGs X es tgs) (hs : (assignEach (a :: es) X.env).map (·.2) = assign a X.env :: (assignEach es X.env).map (·.2) := by rfl) : DGs X (a :: es) (gsCons tg tgs) := ⟨pgsW (pgs_cons h1.pg h2.pgs hs) fun vs σ H Q ⟨ds, e, g, Qd, l, re, rg, q, k⟩ => by
  obtain ⟨d, r, rfl, q⟩ := q
  cases l with
  | cons r1 l => exact ⟨_, _, rfl, d, e, g, _, r1, re, rg, q, fun σ1 H1 e1 g1 x1 re1 rg1 q1 => ⟨_, e1, g1, _, l.mono x1, re1, rg1, q1, k.mono x1⟩⟩⟩
def gTp (n : Nat) (t : DTGs) : DTG := fun d e g Q => ∃ ds, d = .tup ds ∧ ds.length = n ∧ t ds e g Q
theorem dg_tup {j : Nat} {n : Nat} {tgs : DTGs} (hc : X.calm = true) (h : DGs X es tgs) (hn : (assignEach es X.env).length = n := by rfl) (hst : (assignEach es X.env).findIdx? (·.1) = none := by rfl) : DG X (.Tuple es j pos) (gTp n tgs) :=
  ⟨pgW (pg_tup hc h.pgs hn hst) fun v σ H Q ⟨d, e, g, Qd, r, re, rg, q, k⟩ => by
    obtain ⟨ds, rfl, hl, q⟩ := q
    cases r with
    | tup hs l => exact ⟨_, _, rfl, hs, by rw [l.length]; exact hl, ds, e, g, Qd, l, re, rg, q, k⟩⟩
/-- o[i] = v, o a list -/
def setD (o i v : D) (g : GS) (Q : GS → Prop) : Prop := match o, i with
  | .ref p, .int k => ∃ ds j, g p = some (.lst ds) ∧ ixN ds.length k = some j ∧ Q (gup g p (.lst (ds.set j v)))
  | _, _ => False
def gSb (to ti : DTE) : DTG := fun v e g Q => to e g fun o g1 => ti e g1 fun i g2 => setD o i v g2 fun g3 => Q e g3
theorem dg_sub {o i : Expr} {to ti : DTE} (ho : DE X o to) (hi : DE X i ti)
    (hs : ∀ v, assign (.Subscript o i pos) X.env v = (do
      let ov ← holding [v] (eval o X.env)
      let iv ← holding [v, ov] (eval i X.env)
      standAt pos
      holding [v, ov, iv] (setItem ov iv v)
      release [v, ov, iv] []) := by intro _; rfl) : DG X (.Subscript o i pos) (gSb to ti) := ⟨pgW (pg_sub ho.pe hi.pe set_list hs) fun v σ H Q ⟨d, e, g, Qd, r, re, rg, q, k⟩ =>
  ⟨e, g, _, re, rg, q, fun ov od H1 g1 x1 rg1 r1 q1 => ⟨e, g1, _, re.mono x1, rg1, q1, fun iv id H2 g2 x2 rg2 r2 q2 => by
    cases r1 with
    | ref p => cases r2 with
      | int m =>
        obtain ⟨ds, j, h, hj, q2⟩ := q2
        obtain ⟨xs, e1, l⟩ := rg2.lst h
        exact ⟨p, xs, m, j, rfl, rfl, e1, by rw [l.length]; exact hj, k _ _ _ _ ((x1.trans x2).trans (.lst e1)) ((re.mono (x1.trans x2)).mono (.lst e1)) (rg2.setL e1 (l.set (r.mono (x1.trans x2)) j)) q2⟩
      | _ => exact q2.elim
    | _ => exact q2.elim⟩⟩⟩
def dAsg (te : DTE) (tg : DTG) : DTS := fun D e g => te e g fun d g1 => tg d e g1 D.nx
theorem ds_asg {tg : Expr} {G : DTG} (he : DE X a te) (hg : DG X tg G) (hs : swapsWithSole [tg] a pos.line X.env = pure false := by rfl) (hw : swappedStores [tg] a X.env = pure none := by rfl)
    (h1 : (assignEach [tg] X.env).map (·.2) = [assign tg X.env] := by rfl) : DS X (.Assign [tg] a pos) (dAsg te G) := ⟨psW (ps_asg he.pe hg.pg hs hw h1) fun D σ H ⟨e, g, Dd, re, rg, q, k1, _⟩ =>
  ⟨e, g, _, re, rg, q, fun v d H1 g1 x1 rg1 r1 q1 => ⟨d, e, g1, _, r1, re.mono x1, rg1, q1, k1.mono x1⟩⟩⟩
theorem ds_set {i : Nat} {pos' : Pos} (h : ∀ t : TE, PE X a t → PS X (.Assign [.Name x pos'] a pos) (tAsg t (gName i))) (he : DE X a te) : DS X (.Assign [.Name x pos'] a pos) (dAsg te (gNm i)) := ⟨psW (h _ he.pe) fun D σ H ⟨e, g, Dd, re, rg, q, k1, _⟩ =>
  ⟨e, g, _, re, rg, q, fun v d H1 g1 x1 rg1 r1 q1 => (k1.mono x1).fin ((re.mono x1).set r1 i) rg1 q1⟩⟩
/-- x += e -/
def dAug (i : Nat) (te : DTE) (r : DR2) : DTS := fun D e g => ∃ d, look e i = some d ∧ te e g fun y g1 => r d y g1 fun z g2 => D.nx (e.set i (some z)) g2
/-! ### while -/
def dWhile (c : DTT) (tb : DTS) : DTS := fun D e g => ∃ W : Nat → EV → GS → Prop, (∃ m, W m e g) ∧ ∀ m e g, W m e g →
  c e g fun b g1 => if b = true then ∃ N : EV → GS → Prop, (∀ e' g', N e' g' → ∃ m', m' < m ∧ W m' e' g') ∧ tb { D with nx := N, ct := N, bk := D.nx } e g1 else D.nx e g1
theorem ds_while {c : Expr} {body : List Stmt} {tc : DTT} (hp : PassesOwn (model X.prog X.w) X.A X.env X.xe) (hc : DT X c tc) (hb : DSs X body T) : DS X (.While c body [] pos) (dWhile tc T) := ⟨psW (ps_while hp hc.pt hb.pss) fun D σ H ⟨e, g, Dd, re, rg, q, k1, k2, k3, k4⟩ => by
  obtain ⟨W, ⟨m, w⟩, turn⟩ := q
  refine ⟨fun m σ' H' => ∃ e' g', Ext H H' ∧ RepE X.K H' σ' e' ∧ RepG X.K H' g' ∧ W m e' g', ⟨m, e, g, .refl H, re, rg, w⟩, fun m σ' H' ⟨e', g', x1, re1, rg1, w1⟩ => ?_⟩
  refine ⟨e', g', _, re1, rg1, turn m e' g' w1, fun b H2 g2 x2 rg2 q2 => ?_⟩
  cases b with
  | true =>
    obtain ⟨N, hN, q2⟩ := q2
    rw [if_pos rfl]
    have kn : KS X.K H2 N (fun σ' H' => ∃ e' g', Ext H H' ∧ RepE X.K H' σ' e' ∧ RepG X.K H' g' ∧ N e' g') := fun σ3 H3 e3 g3 x3 re3 rg3 n3 => ⟨e3, g3, (x1.trans x2).trans x3, re3, rg3, n3⟩
    refine ⟨fun σ' H' => ∃ e' g', Ext H H' ∧ RepE X.K H' σ' e' ∧ RepG X.K H' g' ∧ N e' g', fun σ3 H3 ⟨e3, g3, x3, re3, rg3, n3⟩ => ?_, e', g2, _, re1.mono x2, rg2, q2, kn, k2.mono (x1.trans x2), k1.mono (x1.trans x2), kn⟩
    obtain ⟨m', hm, w3⟩ := hN e3 g3 n3
    exact ⟨m', hm, e3, g3, x3, re3, rg3, w3⟩
  | false => exact (k1.mono (x1.trans x2)).fin (re1.mono x2) rg2 q2⟩
end
end DL

namespace DL
open PySem PySem.Spec PyProof.Rows L2
/-! ### what is walked -/
def ItOk (K : PySem.W.Frag) (H0 : Hp) (J : It) (ds : List D) (keep : GS → Prop) : Prop := ∀ (i : Nat) (H : Hp) (g : GS), Ext H0 H → RepG K H g → keep g → (i = ds.length → J.stop i H) ∧
  ∀ d, ds[i]? = some d → J.go i H ∧ ∀ x H', J.yld i H x H' → Ext H H' ∧ RepG K H' g ∧ RepD K H' x d
abbrev DTI := EV → GS → (List D → (GS → Prop) → GS → Prop) → Prop
def lI (K : PySem.W.Frag) (T : DTI) : TI := fun σ H R => ∃ e g Rd, RepE K H σ e ∧ RepG K H g ∧ T e g Rd ∧ ∀ ds keep J H' g', Ext H H' → RepG K H' g' → ItOk K H' J ds keep → Rd ds keep g' → R J H'
structure DI (X : Cx) (tg iter : Expr) (T : DTI) : Prop where
  pi : PI X tg iter (lI X.K T)
section
variable {X : Cx} {K : PySem.W.Frag} {H H' : Hp} {σ : L2.St}
variable {a b c e tg iter elt : Expr} {es rest : List Expr} {ta tb tc te : DTE} {tA tB : DTT} {t : DTA} {pos : Pos}
theorem piW {w w' : TI} (h : PI X tg iter w) (k : ∀ σ H R, w' σ H R → w σ H R) : PI X tg iter w' := ⟨fun pins s σ H R I q => h.run pins s σ H R I (k σ H R q)⟩
/-- over a list, a tuple, a text, by what comes: the generator picks -/
def iLs (ta : DTE) : DTI := fun e g R => ta e g fun x g1 => ∃ p ds, x = .ref p ∧ rdL g1 p ds ∧ R ds (fun g => rdL g p ds) g1
def iTp (ta : DTE) : DTI := fun e g R => ta e g fun x g1 => ∃ ds, x = .tup ds ∧ R ds (fun _ => True) g1
def iSt (ta : DTE) : DTI := fun e g R => ta e g fun x g1 => ∃ z, x = .str z ∧ R (z.cps.toList.map fun c => .str ⟨#[c]⟩) (fun _ => True) g1
theorem RepG.sq_inj {g : GS} (r : RepG K H g) {p : Addr} {ds : List D} (h : rdL g p ds) : ∃ xs, SqL K H p xs ∧ RepL K H xs ds := r.sq h
theorem itok_list {p : Addr} {ds : List D} : ItOk K H (Itl K p) ds fun g => rdL g p ds := fun i H1 g x rg hk => by
  obtain ⟨xs, hs, l⟩ := rg.sq hk
  refine ⟨fun e => ⟨xs, hs, by rw [l.length]; omega⟩, fun d hd => ?_⟩
  obtain ⟨v, hv, r⟩ := l.get hd
  refine ⟨⟨xs, v, hs, hv⟩, fun y H2 ⟨e, f⟩ => ?_⟩
  subst e
  have e2 := f xs hs
  rw [hv] at e2
  cases e2
  exact ⟨.refl _, rg, r⟩
theorem itok_tup {p : Addr} {xs : List V} {ds : List D} (hs : SqT K H p xs) (l : RepL K H xs ds) : ItOk K H (Itt K p) ds fun _ => True := fun i H1 g x rg _ => by
  refine ⟨fun e => ⟨xs, x.sqT hs, by rw [l.length]; omega⟩, fun d hd => ?_⟩
  obtain ⟨v, hv, r⟩ := l.get hd
  refine ⟨⟨xs, v, x.sqT hs, hv⟩, fun y H2 ⟨e, f⟩ => ?_⟩
  subst e
  have e2 := f xs (x.sqT hs)
  rw [hv] at e2
  cases e2
  exact ⟨.refl _, rg, r.mono x⟩
theorem itok_str {z : Str} : ItOk K H (Its z) (z.cps.toList.map fun c => .str ⟨#[c]⟩) fun _ => True := fun i H1 g x rg _ => by
  refine ⟨fun e => ?_, fun d hd => ?_⟩
  · rw [List.length_map, Array.length_toList] at e
    exact Nat.le_of_eq e.symm
  · rw [List.getElem?_map] at hd
    cases hc : z.cps.toList[i]? with
    | none => rw [hc] at hd; cases hd
    | some c =>
      rw [hc] at hd
      cases hd
      have hc' : z.cps[i]? = some c := by rw [← Array.getElem?_toList]; exact hc
      refine ⟨(Array.getElem?_eq_some_iff.mp hc').1, fun y H2 ⟨e, c', h1, h2⟩ => ?_⟩
      subst e
      subst h2
      rw [hc'] at h1
      cases h1
      exact ⟨.refl _, rg, .str _⟩
def ran (lo : Int) (n : Nat) : List D := (List.range n).map fun (i : Nat) => .int (lo + i)
theorem ran_len (lo : Int) (n : Nat) : (ran lo n).length = n := by rw [ran, List.length_map, List.length_range]
theorem ran_get {lo : Int} {n i : Nat} {d : D} (h : (ran lo n)[i]? = some d) : i < n ∧ d = .int (lo + i) := by
  have hi : i < n := by
    have := (List.getElem?_eq_some_iff.mp h).1
    rwa [ran_len] at this
  rw [ran, List.getElem?_map, List.getElem?_range hi] at h
  cases h
  exact ⟨hi, rfl⟩
theorem itok_ran {lo : Int} {n : Nat} : ItOk K H (Itr lo n) (ran lo n) fun _ => True := fun i H1 g x rg _ => by
  refine ⟨fun e => ?_, fun d hd => ?_⟩
  · rw [ran_len] at e
    exact Nat.le_of_eq e.symm
  · obtain ⟨hi, rfl⟩ := ran_get hd
    refine ⟨hi, fun y H2 ⟨e, f⟩ => ?_⟩
    subst e f
    exact ⟨.refl _, rg, .int _⟩
theorem di_list (h : DE X a ta) : DI X tg a (iLs ta) := ⟨piW (pi_list h.pe) fun σ H R ⟨e, g, Rd, re, rg, q, k⟩ => ⟨e, g, _, re, rg, q, fun v d H1 g1 x1 rg1 r1 q1 => by
  obtain ⟨p, ds, rfl, h1, q1⟩ := q1
  cases r1
  obtain ⟨xs, hs, l⟩ := rg1.sq h1
  exact ⟨p, rfl, ⟨xs, hs⟩, k _ _ _ _ _ x1 rg1 itok_list q1⟩⟩⟩
theorem di_tup (h : DE X a ta) : DI X tg a (iTp ta) := ⟨piW (pi_tup h.pe) fun σ H R ⟨e, g, Rd, re, rg, q, k⟩ => ⟨e, g, _, re, rg, q, fun v d H1 g1 x1 rg1 r1 q1 => by
  obtain ⟨ds, rfl, q1⟩ := q1
  cases r1 with
  | tup hs l => exact ⟨_, rfl, ⟨_, hs⟩, k _ _ _ _ _ x1 rg1 (itok_tup hs l) q1⟩⟩⟩
theorem di_str (h : DE X a ta) : DI X tg a (iSt ta) := ⟨piW (pi_str h.pe) fun σ H R ⟨e, g, Rd, re, rg, q, k⟩ => ⟨e, g, _, re, rg, q, fun v d H1 g1 x1 rg1 r1 q1 => by
  obtain ⟨z, rfl, q1⟩ := q1
  cases r1
  exact ⟨z, rfl, k _ _ _ _ _ x1 rg1 itok_str q1⟩⟩⟩
theorem PI.or {w w' : TI} (h : PI X tg a w) (h' : PI X tg a w') : PI X tg a (fun σ H R => w σ H R ∨ w' σ H R) := ⟨fun pins s σ H R I q => q.elim (h.run pins s σ H R I) (h'.run pins s σ H R I)⟩
theorem DI.or {w w' : DTI} (h : DI X tg a w) (h' : DI X tg a w') : DI X tg a (fun e g R => w e g R ∨ w' e g R) := ⟨piW (PI.or h.pi h'.pi) fun σ H R ⟨e, g, Rd, re, rg, q, k⟩ =>
  q.elim (fun q => .inl ⟨e, g, Rd, re, rg, q, k⟩) fun q => .inr ⟨e, g, Rd, re, rg, q, k⟩⟩
/-- any of the three -/
def iAny (ta : DTE) : DTI := fun e g R => iLs ta e g R ∨ iTp ta e g R ∨ iSt ta e g R
theorem di_any (h : DE X a ta) : DI X tg a (iAny ta) := (di_list h).or ((di_tup h).or (di_str h))
theorem PE.or {t t' : TE} (h : PE X a t) (h' : PE X a t') : PE X a (fun σ H R => t σ H R ∨ t' σ H R) := ⟨fun pins s σ H R I q => q.elim (h.run pins s σ H R I) (h'.run pins s σ H R I)⟩
theorem DE.or (h : DE X a ta) (h' : DE X a tb) : DE X a (fun e g R => ta e g R ∨ tb e g R) := ⟨peW (PE.or h.pe h'.pe) fun σ H R ⟨e, g, Rd, re, rg, q, k⟩ =>
  q.elim (fun q => .inl ⟨e, g, Rd, re, rg, q, k⟩) fun q => .inr ⟨e, g, Rd, re, rg, q, k⟩⟩
def iRa1 (ta : DTE) : DTI := fun e g R => ta e g fun x g1 => ∃ j : Int, x = .int j ∧ -(2 ^ 62) ≤ j ∧ j < 2 ^ 62 ∧ R (ran 0 j.toNat) (fun _ => True) g1
def iRa2 (ta tb : DTE) : DTI := fun e g R => ta e g fun x g1 => tb e g1 fun y g2 => ∃ i j : Int, x = .int i ∧ y = .int j ∧ (-(2 ^ 62) ≤ i ∧ i < 2 ^ 62 ∧ -(2 ^ 62) ≤ j ∧ j < 2 ^ 62) ∧ R (ran i (j - i).toNat) (fun _ => True) g2
theorem di_range1 {p : Pos} (hg : Gl X "range") (hm : X.mg "range" = none) (ha : DE X a ta) (hs : starEach [a] X.env = [(false, eval a X.env)] := by rfl) : DI X tg (.Call (.Name "range" p) [a] [] pos) (iRa1 ta) :=
  ⟨piW (pi_range1 hg hm (pa_cons ha.pe pa_nil hs) hs) fun σ H R ⟨e, g, Rd, re, rg, q, k⟩ => ⟨e, g, _, re, rg, q, fun v d H1 g1 x1 rg1 r1 q1 => by
    obtain ⟨j, rfl, b1, b2, q1⟩ := q1
    cases r1
    exact ⟨j, rfl, b1, b2, k _ _ _ _ _ x1 rg1 itok_ran q1⟩⟩⟩
theorem di_range2 {p : Pos} (hg : Gl X "range") (hm : X.mg "range" = none) (ha : DE X a ta) (hb : DE X b tb) (hs : starEach [a, b] X.env = [(false, eval a X.env), (false, eval b X.env)] := by rfl) (hs2 : starEach [b] X.env = [(false, eval b X.env)] := by rfl) : DI X tg (.Call (.Name "range" p) [a, b] [] pos) (iRa2 ta tb) :=
  ⟨piW (pi_range2 hg hm (pa_cons ha.pe (pa_cons hb.pe pa_nil hs2) (by rw [hs, hs2])) hs hs2) fun σ H R ⟨e, g, Rd, re, rg, q, k⟩ => ⟨e, g, _, re, rg, q, fun v d H1 g1 x1 rg1 r1 q1 => ⟨e, g1, _, re.mono x1, rg1, q1, fun v2 d2 H2 g2 x2 rg2 r2 q2 => by
    obtain ⟨i, j, rfl, rfl, hb, q2⟩ := q2
    cases r1
    cases r2
    exact ⟨i, j, rfl, hb, k _ _ _ _ _ (x1.trans x2) rg2 itok_ran q2⟩⟩⟩⟩
/-- reversed(list) -/
def iRev (ta : DTE) : DTI := fun e g R => ta e g fun x g1 => ∃ p ds, x = .ref p ∧ rdL g1 p ds ∧ R ds.reverse (fun g => rdL g p ds) g1
theorem itok_rev {p : Addr} {ds : List D} : ItOk K H (Itv K p ds.length) ds.reverse fun g => rdL g p ds := fun i H1 g x rg hk => by
  obtain ⟨xs, hs, l⟩ := rg.sq hk
  refine ⟨fun e => ?_, fun d hd => ?_⟩
  · rw [List.length_reverse] at e
    exact Nat.le_of_eq e.symm
  · have hi : i < ds.length := by
      have := (List.getElem?_eq_some_iff.mp hd).1
      rwa [List.length_reverse] at this
    rw [List.getElem?_reverse hi] at hd
    obtain ⟨v, hv, r⟩ := l.get hd
    refine ⟨⟨hi, xs, v, hs, hv⟩, fun y H2 ⟨e, f⟩ => ?_⟩
    subst e
    have e2 := f xs hs
    rw [hv] at e2
    cases e2
    exact ⟨.refl _, rg, r⟩
theorem di_rev {p : Pos} (hg : Gl X "reversed") (hm : X.mg "reversed" = none) (ha : DE X a ta) (hs : starEach [a] X.env = [(false, eval a X.env)] := by rfl) : DI X tg (.Call (.Name "reversed" p) [a] [] pos) (DL.iRev ta) :=
  ⟨piW (pi_reversed hg hm (pa_cons ha.pe pa_nil hs) hs) fun σ H R ⟨e, g, Rd, re, rg, q, k⟩ => ⟨e, g, _, re, rg, q, fun v d H1 g1 x1 rg1 r1 q1 => by
    obtain ⟨p, ds, rfl, h1, q1⟩ := q1
    cases r1
    obtain ⟨xs, hs, l⟩ := rg1.sq h1
    have := k _ _ _ _ _ x1 rg1 itok_rev q1
    rw [← l.length] at this
    exact ⟨p, xs, rfl, hs, this⟩⟩⟩
/-! ### for -/
def dFor (it : DTI) (tg : DTG) (tb : DTS) : DTS := fun D e g => it e g fun ds keep g1 => ∃ Iv : Nat → EV → GS → Prop, Iv 0 e g1 ∧ (∀ i e' g', i ≤ ds.length → Iv i e' g' → keep g') ∧
  (∀ i d e' g', ds[i]? = some d → Iv i e' g' → tg d e' g' fun e2 g2 => tb { D with nx := Iv (i + 1), ct := Iv (i + 1), bk := D.nx } e2 g2) ∧ ∀ e' g', Iv ds.length e' g' → D.nx e' g'
theorem ds_for {T : DTS} {I : DTI} {G : DTG} {body : List Stmt} (hp : PassesOwn (model X.prog X.w) X.A X.env X.xe) (hc : X.calm = true) (hi : DI X tg iter I) (hg : DG X tg G) (hb : DSs X body T)
    (hs : ∀ x, foldedSetIterable iter X.env x = pure x := by intro _; rfl) : DS X (.For tg iter body [] pos) (dFor I G T) := ⟨psW (ps_for hp hc hi.pi hg.pg hb.pss hs) fun D σ H ⟨e, g, Dd, re, rg, q, k1, k2, k3, k4⟩ => by
  refine ⟨e, g, _, re, rg, q, fun ds keep J H1 g1 x1 rg1 ok ⟨Iv, i0, hk, step, done⟩ => ?_⟩
  refine ⟨fun i m σ' H' => m = ds.length - i ∧ i ≤ ds.length ∧ ∃ e' g', Ext H1 H' ∧ RepE X.K H' σ' e' ∧ RepG X.K H' g' ∧ Iv i e' g', ⟨ds.length, by omega, Nat.zero_le _, e, g1, .refl _, re.mono x1, rg1, i0⟩, ?_⟩
  rintro i m σ' H' ⟨rfl, hi, e', g', x2, re2, rg2, iv⟩
  have o := ok i H' g' x2 rg2 (hk i e' g' hi iv)
  by_cases hlt : i < ds.length
  · refine .inr ?_
    have hd : ds[i]? = some ds[i] := List.getElem?_eq_getElem hlt
    obtain ⟨go, yl⟩ := o.2 _ hd
    refine ⟨go, fun σ' H' => ∃ e' g', Ext H1 H' ∧ RepE X.K H' σ' e' ∧ RepG X.K H' g' ∧ Iv (i + 1) e' g', fun σ3 H3 ⟨e3, g3, a1, a2, a3, a4⟩ => ⟨ds.length - (i + 1), by omega, rfl, hlt, e3, g3, a1, a2, a3, a4⟩, fun x H2 y => ?_⟩
    obtain ⟨x3, rg3, r3⟩ := yl x H2 y
    refine ⟨ds[i], e', g', _, r3, re2.mono x3, rg3, step i ds[i] e' g' hd iv, fun σ4 H4 e4 g4 x4 re4 rg4 q4 => ?_⟩
    have xx : Ext H H4 := ((x1.trans x2).trans x3).trans x4
    have kn : KS X.K H4 (Iv (i + 1)) (fun σ' H' => ∃ e' g', Ext H1 H' ∧ RepE X.K H' σ' e' ∧ RepG X.K H' g' ∧ Iv (i + 1) e' g') := fun σ5 H5 e5 g5 x5 re5 rg5 q5 => ⟨e5, g5, ((x2.trans x3).trans x4).trans x5, re5, rg5, q5⟩
    exact ⟨e4, g4, _, re4, rg4, q4, kn, k2.mono xx, k1.mono xx, kn⟩
  · have e0 : i = ds.length := by omega
    subst e0
    exact .inl ⟨o.1 rfl, (k1.mono (x1.trans x2)).fin re2 rg2 (done e' g' iv)⟩⟩
/-! ### list comprehensions: one name, one clause -/
structure DTs (X : Cx) (ifs : List Expr) (T : DTT) : Prop where
  pts : PTs X ifs (lT X.K T)
theorem ptsW {ifs : List Expr} {t t' : TT} (h : PTs X ifs t) (w : ∀ σ H Q, t' σ H Q → t σ H Q) : PTs X ifs t' := ⟨fun pins s σ H Q I q => h.run pins s σ H Q I (w σ H Q q)⟩
def dYes : DTT := fun _ g Q => Q true g
theorem dts_nil : DTs X [] dYes := ⟨ptsW pts_nil fun σ H Q ⟨e, g, Qd, re, rg, q, k⟩ => k _ _ _ (.refl H) rg q⟩
theorem dts_one {c : Expr} (h : DT X c tA) : DTs X [c] tA := ⟨pts_one h.pt⟩
def dLc (it : DTI) (j : Nat) (tt : DTT) (te : DTE) : DTE := fun e g Q => it e g fun ds keep g1 => ∀ p, g1 p = none → ∃ Iv : Nat → List D → GS → Prop, Iv 0 [] (gup g1 p (.lst [])) ∧ (∀ i acc g', i ≤ ds.length → Iv i acc g' → keep g') ∧
  (∀ i d acc g', ds[i]? = some d → Iv i acc g' → tt (e.set j (some d)) g' fun b g3 => if b = true then te (e.set j (some d)) g3 fun y g4 => g4 p = some (.lst acc) ∧ acc.length < sizeLine ∧ Iv (i + 1) (acc ++ [y]) (gup g4 p (.lst (acc ++ [y]))) else Iv (i + 1) acc g3) ∧
  ∀ acc g', Iv ds.length acc g' → Q (.ref p) g'
theorem lc_lift {I : DTI} {j : Nat} {σ : L2.St} {H : Hp} {Q : VK} (h : lE K (dLc I j tA te) σ H Q) : tLc (lI K I) (gName j) (lT K tA) (lE K te) [j] σ H Q := by
  obtain ⟨e, g, Qd, re, rg, q, k⟩ := h
  refine ⟨e, g, _, re, rg, q, fun ds keep J H1 g1 x1 rg1 ok f n hn => ?_⟩
  obtain ⟨Iv, i0, hk, step, done⟩ := f n (rg1.free hn)
  refine ⟨fun i m H' => m = ds.length - i ∧ i ≤ ds.length ∧ ∃ acc g', Ext H1 H' ∧ RepG K H' g' ∧ Iv i acc g', ⟨ds.length, by omega, Nat.zero_le _, [], _, .new hn, rg1.laidL hn .nil, i0⟩, ?_⟩
  rintro i m H' ⟨rfl, hi, acc, g', x2, rg2, iv⟩
  have o := ok i H' g' x2 rg2 (hk i acc g' hi iv)
  by_cases hlt : i < ds.length
  · refine .inr ?_
    have hd : ds[i]? = some ds[i] := List.getElem?_eq_getElem hlt
    obtain ⟨go, yl⟩ := o.2 _ hd
    refine ⟨go, fun H' => ∃ acc g', Ext H1 H' ∧ RepG K H' g' ∧ Iv (i + 1) acc g', fun H3 ⟨e3, g3, a1, a2, a3⟩ => ⟨ds.length - (i + 1), by omega, rfl, hlt, e3, g3, a1, a2, a3⟩, fun x H2 y => ?_⟩
    obtain ⟨x3, rg3, r3⟩ := yl x H2 y
    have re3 : RepE K H2 ((wipe σ [j]).set j (some x)) (e.set j (some ds[i])) := by
      have e0 : (wipe σ [j]).set j (some x) = σ.set j (some x) := by
        show (σ.set j none).set j (some x) = _
        rw [List.set_set]
      rw [e0]
      exact (re.mono ((x1.trans x2).trans x3)).set r3 j
    refine ⟨?_, _, _, _, re3, rg3, step i ds[i] acc g' hd iv, fun b H4 g4 x4 rg4 q4 => ?_⟩
    · show ((σ.set j none).set j (some x)).set j none = σ.set j none
      rw [List.set_set, List.set_set]
    · have xx : Ext H1 H4 := (x2.trans x3).trans x4
      cases b with
      | false => exact ⟨acc, g4, xx, rg4, q4⟩
      | true =>
        rw [if_pos rfl] at q4
        show lE K te _ H4 _
        refine ⟨_, _, _, re3.mono x4, rg4, q4, fun v d H5 g5 x5 rg5 r5 ⟨h1, h2, h3⟩ => ?_⟩
        obtain ⟨ys, e1, l⟩ := rg5.lst h1
        exact ⟨ys, e1, by rw [l.length]; exact h2, acc ++ [d], _, (xx.trans x5).trans (.lst e1), rg5.setL e1 (l.app (.cons r5 .nil)), h3⟩
  · have e0 : i = ds.length := by omega
    subst e0
    exact .inl ⟨o.1 rfl, k _ _ _ _ (x1.trans x2) rg2 (.ref n) (done acc g' iv)⟩
theorem de_lc {x : Str} {j : Nat} {ifs : List Expr} {scope : Scope} {I : DTI} (hc : X.calm = true) (hN : X.N.Nodup) (hi : DI X tg iter I) (ok : BlkOk X.N X.env.scope scope [(x, j)])
    (hg : ∀ (s : Shared) (H : Hp) (C : Addr) (cl : List (Str × Addr)) (fp : List Addr), PG (X.blk s H scope (compEnvC scope cl C X.env) fp) tg (gName j)) (ht : ∀ (s : Shared) (H : Hp) (C : Addr) (cl : List (Str × Addr)) (fp : List Addr), DTs (X.blk s H scope (compEnvC scope cl C X.env) fp) ifs tA)
    (he : ∀ (s : Shared) (H : Hp) (C : Addr) (cl : List (Str × Addr)) (fp : List Addr), DE (X.blk s H scope (compEnvC scope cl C X.env) fp) elt te) (hs : ∀ x, foldedSetIterable iter X.env x = pure x := by intro _; rfl) :
    DE X (.ListComp elt [⟨tg, iter, ifs, 0⟩] scope pos) (dLc I j tA te) :=
  ⟨peW (pe_lc (own := [(x, j)]) hc hN hi.pi ok hg (fun s H C cl fp => (ht s H C cl fp).pts) (fun s H C cl fp => (he s H C cl fp).pe) hs) fun _ _ _ h => lc_lift h⟩
theorem ds_setLc {x : Str} {j i : Nat} {y : Str} {py spos : Pos} {ifs : List Expr} {scope : Scope} {I : DTI} (hc : X.calm = true) (hN : X.N.Nodup) (hy : X.N[i]? = some y) (hyl : X.env.scope.names.lookup y = some .local)
    (hsw : swapsWith (.ListComp elt [⟨tg, iter, ifs, 0⟩] scope pos) (some (.Name y py)) spos.line X.env = pure true) (hi : DI X tg iter I) (ok : BlkOk X.N X.env.scope scope [(x, j)])
    (hg : ∀ (s : Shared) (H : Hp) (C : Addr) (cl : List (Str × Addr)) (fp : List Addr), PG (X.blk s H scope (compEnvC scope cl C X.env) fp) tg (gName j)) (ht : ∀ (s : Shared) (H : Hp) (C : Addr) (cl : List (Str × Addr)) (fp : List Addr), DTs (X.blk s H scope (compEnvC scope cl C X.env) fp) ifs tA)
    (he : ∀ (s : Shared) (H : Hp) (C : Addr) (cl : List (Str × Addr)) (fp : List Addr), DE (X.blk s H scope (compEnvC scope cl C X.env) fp) elt te) (hs : ∀ x, foldedSetIterable iter X.env x = pure x := by intro _; rfl) :
    DS X (.Assign [.Name y py] (.ListComp elt [⟨tg, iter, ifs, 0⟩] scope pos) spos) (dAsg (dLc I j tA te) (gNm i)) :=
  ⟨psW (ps_setLc (own := [(x, j)]) hc hN hy hyl hsw hi.pi ok hg (fun s H C cl fp => (ht s H C cl fp).pts) (fun s H C cl fp => (he s H C cl fp).pe) hs) fun D σ H ⟨e, g, Dd, re, rg, q, k1, _⟩ => by
    show tLc _ _ _ _ _ σ H fun v H1 => D.nx (σ.set i (some v)) H1
    exact lc_lift ⟨e, g, _, re, rg, q, fun v d H1 g1 x1 rg1 r1 q1 => (k1.mono x1).fin ((re.mono x1).set r1 i) rg1 q1⟩⟩
end
/-! ### a def -/
def dstart (N : List Str) (ds : List D) : EV := ds.map some ++ List.replicate (N.length - ds.length) none
theorem rep_start {K : PySem.W.Frag} {H : Hp} {N : List Str} {vs : List V} {ds : List D} (l : RepL K H vs ds) : RepE K H (L2.start N vs) (dstart N ds) := by
  refine ⟨?_, fun i d h => ?_⟩
  · unfold L2.start dstart
    rw [List.length_append, List.length_append, List.length_map, List.length_map, List.length_replicate, List.length_replicate, l.length]
  · unfold L2.start
    unfold dstart at h
    by_cases hi : i < ds.length
    · rw [List.getElem?_append_left (by rw [List.length_map]; exact hi), List.getElem?_map] at h
      rw [List.getElem?_append_left (by rw [List.length_map, l.length]; exact hi), List.getElem?_map]
      cases hd : ds[i]? with
      | none => rw [hd] at h; cases h
      | some x =>
        rw [hd] at h
        cases h
        obtain ⟨v, hv, r⟩ := l.get hd
        exact ⟨v, by rw [hv]; rfl, r⟩
    · rw [List.getElem?_append_right (by rw [List.length_map]; omega), List.getElem?_replicate] at h
      split at h <;> cases h
section
variable {P : Program} {w : World} {K : PySem.W.Frag} {mg : Str → Option Value} {base : Heap}
theorem okD {x qual : Str} {st : Stmt} {f : Addr} {fd : FuncData} {N ps : List Str} {k : Nat} {sp : DSp} (F : Fun K x qual st f fd) (S : FnScope N ps (defScope st)) (hl : ∀ ds g Q, sp ds g Q → ds.length = ps.length)
    {T : DTS} (hrd : ∀ ds g Q, sp ds g Q → T { nx := fun _ g => Q .non g, rt := Q } (dstart N ds) g)
    (hbody : ∀ (cdv : Value) (A : Around) (outer : List Env) (s : Shared) (H : Hp) (E : XK), Room k (A.deeper (envOfC qual (defScope st) s.heap.objs.size f cdv)) →
      DSs (cxOf CX0 P w K mg base N qual (defScope st) f cdv A outer s H E).nox (defBody st) T) : FnOk P w K mg base CX0 (k + 1) f fd ps (lSp K sp) := by
  refine F.ok S (fun vs H Q E h => ?_) (fun cdv A outer s H vs Q E hr h => ?_)
  · obtain ⟨ds, g, Qd, l, _, q, _⟩ := h
    rw [l.length]
    exact hl ds g Qd q
  · obtain ⟨ds, g, Qd, l, rg, q, kk⟩ := h
    refine ⟨_, (hbody cdv A outer s H E hr).pss, dstart N ds, g, _, rep_start l, rg, hrd ds g Qd q, fun σ' H' e' g' x1 _ rg1 q1 => kk _ _ H' g' x1 rg1 .non q1, kk, fun _ _ _ _ _ _ _ z => z.elim, fun _ _ _ _ _ _ _ z => z.elim⟩
end
end DL

namespace DL
open PySem PySem.Spec PyProof.Rows L2
theorem u65 {k : Nat} {A : Around} (r : Room k A) : A.units + 65 < cLine := by have := r.un; omega
/-! ### steps of a reading -/
section
variable {e : EV} {g : GS} {Q : DK} {D : DEnds} {T U : DTS} {ta tb tc te : DTE} {tA tB : DTT} {t : DTA} {i j : Nat} {d x y : DL.D} {QA : List DL.D → GS → Prop} {QB : Bool → GS → Prop} {QS : EV → GS → Prop} {QO : Option Int → GS → Prop}
theorem s_seq (h : T { D with nx := U D } e g) : dSeq T U D e g := ⟨U D, h, fun _ _ q => q⟩
theorem s_cut (M : EV → GS → Prop) (h : T { D with nx := M } e g) (k : ∀ e' g', M e' g' → U D e' g') : dSeq T U D e g := ⟨M, h, k⟩
theorem s_next (h : D.nx e g) : dNext D e g := h
theorem s_asg {tg : DTG} (h : te e g fun d g1 => tg d e g1 D.nx) : dAsg te tg D e g := h
theorem s_nm (h : QS (e.set i (some d)) g) : gNm i d e g QS := h
theorem s_var (h : ∃ d, look e i = some d ∧ Q d g) : dVar i e g Q := h
theorem s_c (h : Q d g) : dC d e g Q := h
theorem s_op {r : DR2} (h : ta e g fun x g1 => tb e g1 fun y g2 => r x y g2 Q) : dOp r ta tb e g Q := h
theorem s_un {r : DL.D → GS → DK → Prop} (h : ta e g fun x g1 => r x g1 Q) : dUn r ta e g Q := h
theorem s_nil (h : QA [] g) : dNil e g QA := h
theorem s_cons (h : ta e g fun x g1 => t e g1 fun xs g2 => QA (x :: xs) g2) : dCons ta t e g QA := h
theorem s_cb {r : DRC} (h : t e g fun xs g1 => r xs g1 Q) : dCB r t e g Q := h
theorem s_call {sp : DSp} {dds : List DL.D} (h : t e g fun ds g1 => sp (ds ++ dds) g1 Q) : dCall sp dds t e g Q := h
theorem s_tup (h : t e g fun xs g1 => xs.length ≤ sizeLine ∧ Q (.tup xs) g1) : dTup t e g Q := h
theorem s_lst (h : t e g fun xs g1 => xs.length ≤ sizeLine ∧ ∀ p, g1 p = none → Q (.ref p) (gup g1 p (.lst xs))) : dLst t e g Q := h
theorem s_bm {T : String} {r : DRM} (h : ta e g fun x g1 => rcv T x g1 ∧ t e g1 fun ys g2 => r x ys g2 Q) : dBM T r ta t e g Q := h
theorem s_bm0 {T : String} {r : DRM} (h : ta e g fun x g1 => rcv T x g1 ∧ r x [] g1 Q) : dBM0 T r ta e g Q := h
theorem s_drop (h : te e g fun _ g1 => D.nx e g1) : dDrop te D e g := h
theorem s_ret (h : te e g D.rt) : dRet te D e g := h
theorem s_retN (h : D.rt .non g) : dRetN D e g := h
theorem s_brk (h : D.bk e g) : dBreak D e g := h
theorem s_ct (h : D.ct e g) : dCont D e g := h
theorem s_if {c : DTT} (h : c e g fun b g1 => if b = true then T D e g1 else U D e g1) : dIf c T U D e g := h
theorem s_test (h : ta e g fun d g' => ∃ k, d = .bl k ∧ QB k g') : dTest ta e g QB := h
theorem s_and (h : tA e g fun c g1 => if c = true then tB e g1 QB else QB false g1) : dAnd tA tB e g QB := h
theorem s_or (h : tA e g fun c g1 => if c = true then QB true g1 else tB e g1 QB) : dOr tA tB e g QB := h
theorem s_not (h : tA e g fun c g1 => QB (!c) g1) : dNot tA e g QB := h
theorem s_tru (h : ta e g fun d g1 => ∃ k, truD g1 k d ∧ QB k g1) : dTru ta e g QB := h
theorem s_yes (h : QB true g) : dYes e g QB := h
theorem s_andV (h : ta e g fun x g1 => ∃ c, x = .bl c ∧ if c = true then tb e g1 Q else Q (.bl false) g1) : dAndV ta tb e g Q := h
theorem s_orV (h : ta e g fun x g1 => ∃ c, x = .bl c ∧ if c = true then Q (.bl true) g1 else tb e g1 Q) : dOrV ta tb e g Q := h
theorem s_notV (h : ta e g fun x g1 => ∃ c, x = .bl c ∧ Q (.bl (!c)) g1) : dNotV ta e g Q := h
theorem s_ifE (h : tA e g fun c g1 => if c = true then ta e g1 Q else tb e g1 Q) : dIfE tA ta tb e g Q := h
theorem s_isi {T : String} (h : ta e g fun x g1 => ∃ n b, tyD g1 x n ∧ kitB n T = some b ∧ Q (.bl b) g1) : dIsi T ta e g Q := h
theorem s_sl {l h' : DTO} (h : ta e g fun x g1 => l e g1 fun lo g2 => h' e g2 fun hi g3 => slD x lo hi g3 Q) : dSl ta l h' e g Q := h
theorem s_no (h : QO none g) : dNo e g QO := h
theorem s_part (h : ta e g fun x g1 => ∃ i, x = .int i ∧ QO (some i) g1) : dPart ta e g QO := h
theorem s_sb {v : DL.D} {to ti : DTE} (h : to e g fun o g1 => ti e g1 fun i g2 => setD o i v g2 fun g3 => QS e g3) : gSb to ti v e g QS := h
theorem s_gtp {n : Nat} {ds : List DL.D} {tgs : DTGs} (hn : ds.length = n) (h : tgs ds e g QS) : gTp n tgs (.tup ds) e g QS := ⟨ds, rfl, hn, h⟩
theorem s_gcons {r : List DL.D} {tg : DTG} {u : DTGs} (h : tg d e g fun e1 g1 => u r e1 g1 QS) : gsCons tg u (d :: r) e g QS := ⟨d, r, rfl, h⟩
theorem s_gnil (h : QS e g) : gsNil [] e g QS := ⟨rfl, h⟩
theorem s_chain {r r' : DR2} (h : ta e g fun x g1 => tb e g1 fun y g2 => r x y g2 fun z g3 => ∃ k, z = .bl k ∧ (if k = true then tc e g3 fun w g4 => r' y w g4 Q else Q (.bl false) g3)) : dChain r r' ta tb tc e g Q := h
theorem s_for {it : DTI} {tg : DTG} {tb : DTS} (h : it e g fun ds keep g1 => ∃ Iv : Nat → EV → GS → Prop, Iv 0 e g1 ∧ (∀ i e' g', i ≤ ds.length → Iv i e' g' → keep g') ∧
  (∀ i d e' g', ds[i]? = some d → Iv i e' g' → tg d e' g' fun e2 g2 => tb { D with nx := Iv (i + 1), ct := Iv (i + 1), bk := D.nx } e2 g2) ∧ ∀ e' g', Iv ds.length e' g' → D.nx e' g') : dFor it tg tb D e g := h
theorem s_lc {it : DTI} (h : it e g fun ds keep g1 => ∀ p, g1 p = none → ∃ Iv : Nat → List DL.D → GS → Prop, Iv 0 [] (gup g1 p (.lst [])) ∧ (∀ i acc g', i ≤ ds.length → Iv i acc g' → keep g') ∧
  (∀ i d acc g', ds[i]? = some d → Iv i acc g' → tA (e.set j (some d)) g' fun b g3 => if b = true then te (e.set j (some d)) g3 fun y g4 => g4 p = some (.lst acc) ∧ acc.length < sizeLine ∧ Iv (i + 1) (acc ++ [y]) (gup g4 p (.lst (acc ++ [y]))) else Iv (i + 1) acc g3) ∧
  ∀ acc g', Iv ds.length acc g' → Q (.ref p) g') : dLc it j tA te e g Q := h
theorem s_while {c : DTT} {tb : DTS} (W : Nat → EV → GS → Prop) (m : Nat) (h0 : W m e g) (h : ∀ m e g, W m e g →
  c e g fun b g1 => if b = true then ∃ N : EV → GS → Prop, (∀ e' g', N e' g' → ∃ m', m' < m ∧ W m' e' g') ∧ tb { D with nx := N, ct := N, bk := D.nx } e g1 else D.nx e g1) : dWhile c tb D e g := ⟨W, ⟨m, h0⟩, h⟩
section
variable {R : List DL.D → (GS → Prop) → GS → Prop}
theorem s_ra1 (h : ta e g fun x g1 => ∃ j : Int, x = .int j ∧ -(2 ^ 62) ≤ j ∧ j < 2 ^ 62 ∧ R (ran 0 j.toNat) (fun _ => True) g1) : iRa1 ta e g R := h
theorem s_ra2 (h : ta e g fun x g1 => tb e g1 fun y g2 => ∃ i j : Int, x = .int i ∧ y = .int j ∧ (-(2 ^ 62) ≤ i ∧ i < 2 ^ 62 ∧ -(2 ^ 62) ≤ j ∧ j < 2 ^ 62) ∧ R (ran i (j - i).toNat) (fun _ => True) g2) : iRa2 ta tb e g R := h
theorem s_rev (h : ta e g fun x g1 => ∃ p ds, x = .ref p ∧ rdL g1 p ds ∧ R ds.reverse (fun g => rdL g p ds) g1) : DL.iRev ta e g R := h
theorem s_anyL (h : ta e g fun x g1 => ∃ p ds, x = .ref p ∧ rdL g1 p ds ∧ R ds (fun g => rdL g p ds) g1) : iAny ta e g R := .inl h
theorem s_anyT (h : ta e g fun x g1 => ∃ ds, x = .tup ds ∧ R ds (fun _ => True) g1) : iAny ta e g R := .inr (.inl h)
theorem s_anyS (h : ta e g fun x g1 => ∃ z, x = .str z ∧ R (z.cps.toList.map fun c => .str ⟨#[c]⟩) (fun _ => True) g1) : iAny ta e g R := .inr (.inr h)
theorem x_ra1 {P : Int → Prop} {j : Int} (h1 : -4611686018427387904 ≤ j) (h2 : j < 4611686018427387904) (h : P j) : ∃ j' : Int, (DL.D.int j) = .int j' ∧ -(2 ^ 62) ≤ j' ∧ j' < 2 ^ 62 ∧ P j' := ⟨j, rfl, h1, h2, h⟩
theorem x_ra2 {P : Int → Int → Prop} {i j : Int} (h1 : -4611686018427387904 ≤ i) (h2 : i < 4611686018427387904) (h3 : -4611686018427387904 ≤ j) (h4 : j < 4611686018427387904) (h : P i j) : ∃ i' j' : Int, (DL.D.int i) = .int i' ∧ (DL.D.int j) = .int j' ∧ (-(2 ^ 62) ≤ i' ∧ i' < 2 ^ 62 ∧ -(2 ^ 62) ≤ j' ∧ j' < 2 ^ 62) ∧ P i' j' := ⟨i, j, rfl, rfl, ⟨h1, h2, h3, h4⟩, h⟩
theorem x_lst {P : Addr → List DL.D → Prop} {p : Addr} {ds : List DL.D} (hp : g p = some (.lst ds)) (h : P p ds) : ∃ p' ds', (DL.D.ref p) = .ref p' ∧ rdL g p' ds' ∧ P p' ds' := ⟨p, ds, rfl, .inl hp, h⟩
theorem x_lst' {P : Addr → List DL.D → Prop} {p : Addr} (h : ∃ ds, g p = some (.lst ds) ∧ P p ds) : ∃ p' ds', (DL.D.ref p) = .ref p' ∧ rdL g p' ds' ∧ P p' ds' := by
  obtain ⟨ds, a, c⟩ := h
  exact ⟨p, ds, rfl, .inl a, c⟩
theorem x_tp {P : List DL.D → Prop} {ds : List DL.D} (h : P ds) : ∃ ds', (DL.D.tup ds) = .tup ds' ∧ P ds' := ⟨ds, rfl, h⟩
theorem x_st {P : Str → Prop} {z : Str} (h : P z) : ∃ z', (DL.D.str z) = .str z' ∧ P z' := ⟨z, rfl, h⟩
end
/-! ### values -/
theorem x_bl {P : Bool → Prop} {b : Bool} (h : P b) : ∃ k, (DL.D.bl b) = .bl k ∧ P k := ⟨b, rfl, h⟩
theorem x_int {P : Int → Prop} {b : Int} (h : P b) : ∃ k, (DL.D.int b) = .int k ∧ P k := ⟨b, rfl, h⟩
theorem x_part {b : Int} (h : QO (some b) g) : ∃ i, (DL.D.int b) = .int i ∧ QO (some i) g := ⟨b, rfl, h⟩
theorem x_tru {P : Bool → Prop} {b : Bool} (h : P b) : ∃ k, truD g k (.bl b) ∧ P k := ⟨b, rfl, h⟩
theorem v_addI {a b : Int} (h : Q (.int (a + b)) g) : addD (.int a) (.int b) g Q := h
theorem v_addS {a b : Str} (hz : a.length + b.length ≤ sizeLine) (h : Q (.str (a ++ b)) g) : addD (.str a) (.str b) g Q := ⟨hz, h⟩
theorem v_addT {a b : List DL.D} (hz : a.length + b.length ≤ sizeLine) (h : Q (.tup (a ++ b)) g) : addD (.tup a) (.tup b) g Q := ⟨hz, h⟩
theorem v_addL {p q : Addr} {a b : List DL.D} (h1 : g p = some (.lst a)) (h2 : g q = some (.lst b)) (hz : a.length + b.length ≤ sizeLine) (h : ∀ r, g r = none → Q (.ref r) (gup g r (.lst (a ++ b)))) : addD (.ref p) (.ref q) g Q := ⟨a, b, h1, h2, hz, h⟩
theorem v_sub {a b : Int} (h : Q (.int (a - b)) g) : subD (.int a) (.int b) g Q := ⟨trivial, h⟩
theorem v_mul {a b : Int} (hc : CMul a b) (h : Q (.int (a * b)) g) : mulD (.int a) (.int b) g Q := ⟨hc, h⟩
theorem v_mulR {a b : Int} (h1 : -18446744073709551616 < b) (h2 : b < 18446744073709551616) (h : Q (.int (a * b)) g) : mulD (.int a) (.int b) g Q := ⟨.inr ⟨h1, h2⟩, h⟩
theorem v_mulL {a b : Int} (h1 : -18446744073709551616 < a) (h2 : a < 18446744073709551616) (h : Q (.int (a * b)) g) : mulD (.int a) (.int b) g Q := ⟨.inl ⟨h1, h2⟩, h⟩
theorem v_mod {a b : Int} (hb : 0 < b) (h : Q (.int (a % b)) g) : modD (.int a) (.int b) g Q := ⟨by omega, by
  show Q (.int (a.fmod b)) g
  rw [Int.fmod_eq_emod_of_nonneg _ (by omega)]
  exact h⟩
theorem v_div {a b : Int} (hb : 0 < b) (hb2 : b < 1073741824) (h : Q (.int (a / b)) g) : fdivD (.int a) (.int b) g Q := ⟨⟨by omega, by omega⟩, by
  show Q (.int (a.fdiv b)) g
  rw [Int.fdiv_eq_ediv_of_nonneg _ (by omega)]
  exact h⟩
theorem v_and {a b : Int} (h : Q (.int (Builtin.bitAnd a b)) g) : andD (.int a) (.int b) g Q := ⟨trivial, h⟩
theorem v_pow {a b : Int} (hc : CPow a b) (h : Q (.int (a ^ b.toNat)) g) : powD (.int a) (.int b) g Q := ⟨hc, h⟩
theorem v_shl {a b : Int} (hc : CPow a b) (h : Q (.int (a * 2 ^ b.toNat)) g) : shlD (.int a) (.int b) g Q := ⟨hc, h⟩
theorem v_neg {a : Int} (h : Q (.int (-a)) g) : negD (.int a) g Q := h
theorem v_ltI {a b : Int} (h : Q (.bl (decide (a < b))) g) : ltD (.int a) (.int b) g Q := h
theorem v_leI {a b : Int} (h : Q (.bl (decide (a ≤ b))) g) : leD (.int a) (.int b) g Q := h
theorem v_gtI {a b : Int} (h : Q (.bl (decide (b < a))) g) : gtD (.int a) (.int b) g Q := h
theorem v_geI {a b : Int} (h : Q (.bl (decide (b ≤ a))) g) : geD (.int a) (.int b) g Q := h
theorem v_eqI {a b : Int} (h : Q (.bl (decide (a = b))) g) : eqD (.int a) (.int b) g Q := h
theorem v_eqS {a b : Str} (h : Q (.bl (decide (a = b))) g) : eqD (.str a) (.str b) g Q := h
theorem v_eqB {a b : Bool} (h : Q (.bl (decide (a = b))) g) : eqD (.bl a) (.bl b) g Q := h
theorem v_neI {a b : Int} (h : Q (.bl (!decide (a = b))) g) : neD (.int a) (.int b) g Q := h
theorem v_neS {a b : Str} (h : Q (.bl (!decide (a = b))) g) : neD (.str a) (.str b) g Q := h
theorem v_inS {a b : Str} (h : Q (.bl (inStr a b)) g) : inD (.str a) (.str b) g Q := h
theorem v_in1 {c : Nat} {b : Str} (h : Q (.bl (decide (c ∈ b.cps.toList))) g) : inD (.str ⟨#[c]⟩) (.str b) g Q := by
  show Q (.bl (inStr ⟨#[c]⟩ b)) g
  rw [inStr_one]
  exact h
theorem v_ixT {ds : List DL.D} {i : Int} (ha : atI ds i = some d) (h : Q d g) : ixD (.tup ds) (.int i) g Q := ⟨d, ha, h⟩
theorem v_ixL {ds : List DL.D} {p : Addr} {i : Int} (hp : g p = some (.lst ds)) (ha : atI ds i = some d) (h : Q d g) : ixD (.ref p) (.int i) g Q := ⟨ds, d, .inl hp, ha, h⟩
theorem v_ixR {ds : List DL.D} {p : Addr} {i : Int} (hp : g p = some (.ro ds)) (ha : atI ds i = some d) (h : Q d g) : ixD (.ref p) (.int i) g Q := ⟨ds, d, .inr hp, ha, h⟩
theorem v_ixS {z : Str} {i : Int} {c : Nat} (hz : z.length ≤ sizeLine) (ha : atI z.cps.toList i = some c) (h : Q (.str ⟨#[c]⟩) g) : ixD (.str z) (.int i) g Q := ⟨hz, c, ha, h⟩
theorem v_ixL' {p : Addr} {i : Int} (h : ∃ ds, g p = some (.lst ds) ∧ ∃ d, atI ds i = some d ∧ Q d g) : ixD (.ref p) (.int i) g Q := by
  obtain ⟨ds, a, d, b, c⟩ := h
  exact v_ixL a b c
theorem v_ixT' {ds : List DL.D} {i : Int} (h : ∃ d, atI ds i = some d ∧ Q d g) : ixD (.tup ds) (.int i) g Q := h
theorem v_lenL' {p : Addr} (h : ∃ ds, g p = some (.lst ds) ∧ Q (.int (ds.length : Nat)) g) : lenD [.ref p] g Q := by
  obtain ⟨ds, a, c⟩ := h
  exact ⟨ds, .inl a, c⟩
theorem v_tupL' {p : Addr} (h : ∃ ds, g p = some (.lst ds) ∧ Q (.tup ds) g) : tupF [.ref p] g Q := by
  obtain ⟨ds, a, c⟩ := h
  exact ⟨ds, .inl a, c⟩
theorem v_int {i : Int} (h : Q (.int i) g) : intF [.int i] g Q := h
theorem v_intB {b : Bool} (h : Q (.int (if b then 1 else 0)) g) : intF [.bl b] g Q := h
theorem v_abs {i : Int} (h : Q (.int (if i < 0 then -i else i)) g) : absD [.int i] g Q := ⟨trivial, h⟩
theorem v_str {i : Int} (hz : i.natAbs.log2 < 1920) (h : Q (.str (toString i)) g) : strF [.int i] g Q := ⟨hz, h⟩
theorem v_lenS {z : Str} (hz : z.length ≤ sizeLine) (h : Q (.int (z.length : Nat)) g) : lenD [.str z] g Q := ⟨hz, h⟩
theorem v_lenT {ds : List DL.D} (h : Q (.int (ds.length : Nat)) g) : lenD [.tup ds] g Q := h
theorem v_lenL {ds : List DL.D} {p : Addr} (hp : g p = some (.lst ds)) (h : Q (.int (ds.length : Nat)) g) : lenD [.ref p] g Q := ⟨ds, .inl hp, h⟩
theorem v_lenR {ds : List DL.D} {p : Addr} (hp : g p = some (.ro ds)) (h : Q (.int (ds.length : Nat)) g) : lenD [.ref p] g Q := ⟨ds, .inr hp, h⟩
theorem v_ixK {ds : List DL.D} {i : Int} (ha : atI ds i = some d) (h : Q d g) : ixD (.klst ds) (.int i) g Q := ⟨d, ha, h⟩
theorem v_lenK {ds : List DL.D} (h : Q (.int (ds.length : Nat)) g) : lenD [.klst ds] g Q := h
theorem v_lstK {ds : List DL.D} (h : ∀ p, g p = none → Q (.ref p) (gup g p (.lst ds))) : lstF [.klst ds] g Q := h
theorem v_tupT {ds : List DL.D} (h : Q (.tup ds) g) : tupF [.tup ds] g Q := h
theorem v_tupL {ds : List DL.D} {p : Addr} (hp : g p = some (.lst ds)) (h : Q (.tup ds) g) : tupF [.ref p] g Q := ⟨ds, .inl hp, h⟩
theorem v_lstT {ds : List DL.D} (h : ∀ p, g p = none → Q (.ref p) (gup g p (.lst ds))) : lstF [.tup ds] g Q := h
theorem v_lstL {ds : List DL.D} {p : Addr} (hp : g p = some (.lst ds)) (h : ∀ p, g p = none → Q (.ref p) (gup g p (.lst ds))) : lstF [.ref p] g Q := ⟨ds, .inl hp, h⟩
theorem v_lstR {ds : List DL.D} {p : Addr} (hp : g p = some (.ro ds)) (h : ∀ p, g p = none → Q (.ref p) (gup g p (.lst ds))) : lstF [.ref p] g Q := ⟨ds, .inr hp, h⟩
theorem v_app {p : Addr} {ds : List DL.D} (hp : g p = some (.lst ds)) (hz : ds.length < sizeLine) (h : Q .non (gup g p (.lst (ds ++ [y])))) : rcv "list" (.ref p) g ∧ appD (.ref p) [y] g Q := ⟨⟨rfl, ds, .inl hp⟩, ds, hp, hz, h⟩
theorem v_app' {p : Addr} {ds : List DL.D} (hp : g p = some (.lst ds)) (hz : ds.length < sizeLine) (h : Q .non (gup g p (.lst (ds ++ [y])))) : appD (.ref p) [y] g Q := ⟨ds, hp, hz, h⟩
theorem v_rcvL {p : Addr} {ds : List DL.D} {P : Prop} (hp : g p = some (.lst ds)) (h : P) : rcv "list" (.ref p) g ∧ P := ⟨⟨rfl, ds, .inl hp⟩, h⟩
theorem v_rcvS {z : Str} {P : Prop} (h : P) : rcv "str" (.str z) g ∧ P := ⟨rfl, h⟩
theorem v_set {p : Addr} {k : Int} {ds : List DL.D} {j : Nat} {v : DL.D} {R : GS → Prop} (hp : g p = some (.lst ds)) (hj : ixN ds.length k = some j) (h : R (gup g p (.lst (ds.set j v)))) : setD (.ref p) (.int k) v g R := ⟨ds, j, hp, hj, h⟩
theorem v_isN (h : Q (.bl true) g) : isND .non .non g Q := ⟨rfl, h⟩
theorem iteD {P A B : Prop} [Decidable P] (h1 : P → A) (h2 : ¬ P → B) : if decide P = true then A else B := by
  by_cases h : P
  · rw [if_pos (decide_eq_true h)]; exact h1 h
  · rw [if_neg (by simpa using h)]; exact h2 h
theorem iteN {P A B : Prop} [Decidable P] (h1 : ¬ P → A) (h2 : P → B) : if (!decide P) = true then A else B := by
  by_cases h : P
  · rw [if_neg (by simpa using h)]; exact h2 h
  · rw [if_pos (by simpa using h)]; exact h1 h
theorem iteB {b : Bool} {A B : Prop} (h1 : b = true → A) (h2 : b = false → B) : if b = true then A else B := by
  cases b with
  | true => exact h1 rfl
  | false => exact h2 rfl
theorem iteNB {b : Bool} {A B : Prop} (h1 : b = false → A) (h2 : b = true → B) : if (!b) = true then A else B := by
  cases b with
  | true => exact h2 rfl
  | false => exact h1 rfl
end
theorem atI_ex {α : Type} {xs : List α} {i : Int} (h0 : 0 ≤ i) (h : i < xs.length) : ∃ x, x ∈ xs ∧ atI xs i = some x := by
  have hl : i.toNat < xs.length := by omega
  refine ⟨xs[i.toNat], List.getElem_mem hl, ?_⟩
  have e := L2.atI_nat (xs := xs) (j := i.toNat) (List.getElem?_eq_getElem hl)
  have e0 : ((i.toNat : Nat) : Int) = i := by omega
  rw [e0] at e
  exact e
theorem atI_map {α β : Type} {f : α → β} {xs : List α} {i : Int} {x : α} (h : atI xs i = some x) : atI (xs.map f) i = some (f x) := by
  unfold atI at h ⊢
  rw [List.length_map]
  cases q : ixN xs.length i with
  | none => rw [q] at h; cases h
  | some j =>
    rw [q] at h
    have h' : xs[j]? = some x := h
    show (xs.map f)[j]? = some (f x)
    rw [List.getElem?_map, h']
    rfl
theorem atI_at {α : Type} {xs : List α} {i : Nat} {x : α} (h : xs[i]? = some x) : atI xs ((0 : Int) + (i : Int)) = some x := by
  rw [Int.zero_add]
  exact L2.atI_nat h
/-! ### what a reading may change -/
def Up (S : List Addr) (g g' : GS) : Prop := (∀ l o, l ∉ S → g l = some o → g' l = some o) ∧ ∀ l, g l ≠ none → g' l ≠ none
section
variable {S : List Addr} {g g' g'' : GS} {p l : Addr} {o : MO}
theorem Up.refl : Up S g g := ⟨fun _ _ _ h => h, fun _ h => h⟩
theorem Up.trans (a : Up S g g') (b : Up S g' g'') : Up S g g'' := ⟨fun l o n h => b.1 l o n (a.1 l o n h), fun l h => b.2 l (a.2 l h)⟩
theorem gup_some {m : MO} (h : g p ≠ none) (l : Addr) : gup g l m p ≠ none := by
  unfold gup
  split
  · exact fun z => by cases z
  · exact h
theorem Up.new (h : g p = none) : Up S g (gup g p o) := ⟨fun l m n e => by rw [gup_ne (fun z => by rw [z, h] at e; cases e)]; exact e, fun l e => gup_some e p⟩
theorem Up.mut (a : Up S g g') (h : g p = none) : Up S g (gup g' p o) := ⟨fun l m n e => by rw [gup_ne (fun z => by rw [z, h] at e; cases e)]; exact a.1 l m n e, fun l e => gup_some (a.2 l e) p⟩
theorem Up.ins (a : Up S g g') (h : p ∈ S) : Up S g (gup g' p o) := ⟨fun l m n e => by rw [gup_ne (fun z => n (by rw [z]; exact h))]; exact a.1 l m n e, fun l e => gup_some (a.2 l e) p⟩
theorem Up.sub {S' : List Addr} (a : Up S g g') (h : ∀ x ∈ S, x ∈ S') : Up S' g g' := ⟨fun l o n e => a.1 l o (fun z => n (h l z)) e, a.2⟩
theorem Up.of0 (a : Up [] g g') : Up S g g' := a.sub fun _ z => nomatch z
theorem Up.fresh (a : Up S g g') (h : g' p = none) : g p = none := by
  cases q : g p with
  | none => rfl
  | some o => exact absurd h (a.2 p (by rw [q]; exact fun z => by cases z))
theorem ne_fresh {q : Addr} (h : g p = none) (h' : g q = some o) : p ≠ q := fun z => by rw [z, h'] at h; cases h
theorem Up.get0 (a : Up [] g g') (h : g l = some o) : g' l = some o := a.1 l o (fun z => nomatch z) h
theorem Up.get1 {q : Addr} (a : Up [q] g g') (n : l ≠ q) (h : g l = some o) : g' l = some o := a.1 l o (fun z => n (List.mem_singleton.mp z)) h
end
theorem bAnd_nn {x y : Int} (hx : 0 ≤ x) (hy : 0 ≤ y) : 0 ≤ Builtin.bitAnd x y := by
  rw [PyProof.Rows.bitAnd_pp hx hy]
  exact Int.natCast_nonneg _
theorem mask_nn (k : Nat) : (0 : Int) ≤ 1 * 2 ^ k - 1 := by
  have h : ∀ k : Nat, (0 : Int) < 2 ^ k := fun k => by
    induction k with
    | zero => decide
    | succ k ih => rw [Int.pow_succ]; omega
  have := h k
  omega
/-! ### the laws' source of draws -/
structure SI where
  L : Addr
  L0 : Addr
  ns : List Int
def Src (s : SI) (g : GS) (m : Nat) : Prop := g s.L0 = some (.lst (s.ns.map D.int)) ∧ (s.L0 ≠ s.L ∧ s.ns.length ≤ 63) ∧ ∃ c big seed n : Int, g s.L = some (.lst [.ref s.L0, .int c, .int big, .int seed, .int n]) ∧ 0 ≤ c ∧ 0 ≤ big ∧ 0 ≤ seed ∧ seed < 2147483647 ∧ 0 ≤ n ∧ n ≤ m
def Go (s : SI) (g g' : GS) (m : Nat) : Prop := Up [s.L] g g' ∧ Src s g' m
section
variable {s : SI} {g g' g'' : GS} {m m' : Nat} {p l : Addr} {o : MO}
theorem Src.up (h : Src s g m) (u : Up [] g g') : Src s g' m := by
  obtain ⟨h1, h2, c, big, seed, n, h3, h4⟩ := h
  exact ⟨u.get0 h1, h2, c, big, seed, n, u.get0 h3, h4⟩
theorem Src.mut (h : Src s g m) (n1 : p ≠ s.L) (n2 : p ≠ s.L0) : Src s (gup g p o) m := by
  obtain ⟨h1, h2, c, big, seed, n, h3, h4⟩ := h
  exact ⟨by rw [gup_ne n2.symm]; exact h1, h2, c, big, seed, n, by rw [gup_ne n1.symm]; exact h3, h4⟩
theorem Src.neL (h : Src s g m) (f : g p = none) : p ≠ s.L := by
  obtain ⟨_, _, _, _, _, _, h3, _⟩ := h
  exact ne_fresh f h3
theorem Src.neL0 (h : Src s g m) (f : g p = none) : p ≠ s.L0 := ne_fresh f h.1
theorem Src.le (h : Src s g m) (k : m ≤ m') : Src s g m' := by
  obtain ⟨h1, h2, c, big, seed, n, h3, h4, h5, h6, h7, h8, h9⟩ := h
  exact ⟨h1, h2, c, big, seed, n, h3, h4, h5, h6, h7, h8, by omega⟩
theorem Go.start (h : Src s g m) : Go s g g m := ⟨.refl, h⟩
theorem Go.new (h : Go s g g' m) (f : g' p = none) : Go s g (gup g' p o) m := ⟨h.1.trans (.new f), h.2.up (.new f)⟩
theorem Go.mut (h : Go s g g' m) (f : g p = none) (h0 : Src s g m') : Go s g (gup g' p o) m := ⟨h.1.mut f, h.2.mut (h0.neL f) (h0.neL0 f)⟩
theorem Go.trans (h : Go s g g' m) (k : Go s g' g'' m') : Go s g g'' m' := ⟨h.1.trans k.1, k.2⟩
theorem Go.get (h : Go s g g' m) (n : l ≠ s.L) (e : g l = some o) : g' l = some o := h.1.get1 n e
theorem Go.le (h : Go s g g' m) (k : m ≤ m') : Go s g g' m' := ⟨h.1, h.2.le k⟩
theorem Go.up (h : Go s g g' m) (u : Up [] g' g'') : Go s g g'' m := ⟨h.1.trans u.of0, h.2.up u⟩
end
end DL

namespace DL
open PySem PySem.Spec PyProof.Rows L2
open TL (tl)
/-! ### texts -/
theorem lenS_le {s : Str} {n : Nat} (h : (tl s).length ≤ n) (hn : n ≤ 16777216) : s.length ≤ sizeLine := by
  rw [szl, TL.len_tl]; omega
theorem len2_le {s t : Str} {n : Nat} (h : (tl s).length + (tl t).length ≤ n) (hn : n ≤ 16777216) : s.length + t.length ≤ sizeLine := by
  rw [szl, TL.len_tl, TL.len_tl]; omega
theorem tl_one (c : Nat) : tl ⟨#[c]⟩ = [c] := rfl
theorem eqP_str (a b : Str) : eqP (.str a) (.str b) = decide (a = b) := by
  unfold eqP
  rw [pd, pd, PyData.eqv, Bool.beq_eq_decide_eq]
theorem eqP_int (a b : Int) : eqP (.int a) (.int b) = decide (a = b) := by
  unfold eqP
  rw [pd, pd, PyData.eqv, Bool.beq_eq_decide_eq]
theorem any_strs (t : Str) : ∀ us : List Str, ((us.map D.str).any fun z => eqP z (.str t)) = decide (t ∈ us)
  | [] => by simp
  | u :: us => by
    rw [List.map_cons, List.any_cons, any_strs t us, eqP_str]
    by_cases h : u = t
    · subst h; simp
    · have h' : ¬ t = u := fun z => h z.symm
      simp [h, h']
theorem any_ints (t : Int) : ∀ us : List Int, ((us.map D.int).any fun z => eqP z (.int t)) = decide (t ∈ us)
  | [] => by simp
  | u :: us => by
    rw [List.map_cons, List.any_cons, any_ints t us, eqP_int]
    by_cases h : u = t
    · subst h; simp
    · have h' : ¬ t = u := fun z => h z.symm
      simp [h, h']
theorem scal_strs (us : List Str) : (us.map D.str).all scalD = true := by simp [scalD]
theorem scal_ints (us : List Int) : (us.map D.int).all scalD = true := by simp [scalD]
section
variable {g : GS} {Q : DK} {p : Addr}
theorem v_inLS {t : Str} {us : List Str} (hp : g p = some (.lst (us.map D.str))) (h : Q (.bl (decide (t ∈ us))) g) : inD (.str t) (.ref p) g Q :=
  ⟨_, .inl hp, .inl ⟨rfl, scal_strs us⟩, by rw [any_strs]; exact h⟩
theorem v_notInLS {t : Str} {us : List Str} (hp : g p = some (.lst (us.map D.str))) (h : Q (.bl (!decide (t ∈ us))) g) : notInD (.str t) (.ref p) g Q := v_inLS hp h
theorem v_inTS {t : Str} {us : List Str} (h : Q (.bl (decide (t ∈ us))) g) : inD (.str t) (.tup (us.map D.str)) g Q := ⟨rfl, scal_strs us, by rw [any_strs]; exact h⟩
theorem v_notInTS {t : Str} {us : List Str} (h : Q (.bl (!decide (t ∈ us))) g) : notInD (.str t) (.tup (us.map D.str)) g Q := v_inTS h
theorem v_inLI {t : Int} {us : List Int} (hp : g p = some (.lst (us.map D.int))) (h : Q (.bl (decide (t ∈ us))) g) : inD (.int t) (.ref p) g Q :=
  ⟨_, .inl hp, .inl ⟨rfl, scal_ints us⟩, by rw [any_ints]; exact h⟩
theorem v_notInLI {t : Int} {us : List Int} (hp : g p = some (.lst (us.map D.int))) (h : Q (.bl (!decide (t ∈ us))) g) : notInD (.int t) (.ref p) g Q := v_inLI hp h
theorem v_inTI {t : Int} {us : List Int} (h : Q (.bl (decide (t ∈ us))) g) : inD (.int t) (.tup (us.map D.int)) g Q := ⟨rfl, scal_ints us, by rw [any_ints]; exact h⟩
end
theorem logOk {i : Int} (h : -18446744073709551616 < i ∧ i < 18446744073709551616) : i.natAbs.log2 < 1920 := by
  by_cases e : i.natAbs = 0
  · rw [e]; decide
  · rw [Nat.log2_lt e]
    exact Nat.lt_of_lt_of_le (show i.natAbs < 2 ^ 64 by omega) (Nat.pow_le_pow_right (by decide) (by decide))
theorem tl_toString (k : Nat) : tl (Str.ofString (toString ((k : Nat) : Int))) = TL.numL k := TL.tl_num k
/-- distinct ones within a list -/
theorem nodup_len {α : Type} [DecidableEq α] : ∀ (l m : List α), l.Nodup → (∀ x ∈ l, x ∈ m) → l.length ≤ m.length
  | [], m, _, _ => Nat.zero_le _
  | x :: l, m, h, hs => by
    have hx : x ∈ m := hs x List.mem_cons_self
    rw [List.nodup_cons] at h
    have := nodup_len l (m.erase x) h.2 fun y hy => by
      have ne : y ≠ x := fun e => h.1 (e ▸ hy)
      exact (List.mem_erase_of_ne ne).mpr (hs y (List.mem_cons_of_mem _ hy))
    rw [List.length_erase_of_mem hx] at this
    have pos := List.length_pos_of_mem hx
    rw [List.length_cons]
    omega
theorem nodup_map_on {α β : Type} (f : α → β) : ∀ (l : List α), l.Nodup → (∀ x ∈ l, ∀ y ∈ l, f x = f y → x = y) → (l.map f).Nodup
  | [], _, _ => List.nodup_nil
  | x :: l, h, hi => by
    rw [List.nodup_cons] at h
    rw [List.map_cons, List.nodup_cons]
    refine ⟨fun hm => ?_, nodup_map_on f l h.2 fun a ha b hb => hi a (List.mem_cons_of_mem _ ha) b (List.mem_cons_of_mem _ hb)⟩
    obtain ⟨y, hy, e⟩ := List.mem_map.mp hm
    exact h.1 (hi x List.mem_cons_self y (List.mem_cons_of_mem _ hy) e.symm ▸ hy)
theorem Src.neStr {s : SI} {g : GS} {m : Nat} {U : Addr} {us : List Str} (h : Src s g m) (hU : g U = some (.lst (us.map D.str))) : U ≠ s.L := by
  obtain ⟨_, _, c, big, seed, n, h3, _⟩ := h
  rintro rfl
  rw [h3] at hU
  cases us with
  | nil => cases hU
  | cons u us => cases hU
/-! ### names -/
def low (c : Nat) : Prop := 97 ≤ c ∧ c ≤ 122
def dig (c : Nat) : Prop := 48 ≤ c ∧ c ≤ 57
instance (c : Nat) : Decidable (low c) := inferInstanceAs (Decidable (_ ∧ _))
instance (c : Nat) : Decidable (dig c) := inferInstanceAs (Decidable (_ ∧ _))
/-- a letter, then letters and digits, at most 1 + n of them -/
def NameL (n : Nat) (l : List Nat) : Prop := ∃ c r, l = c :: r ∧ low c ∧ (∀ x ∈ r, low x ∨ dig x) ∧ r.length ≤ n
abbrev NameOk (s : Str) : Prop := NameL 6 (tl s)
theorem NameL.app {n m : Nat} {l l2 : List Nat} (h : NameL n l) (h2 : ∀ x ∈ l2, low x ∨ dig x) (hl : l2.length ≤ m) : NameL (n + m) (l ++ l2) := by
  obtain ⟨c, r, rfl, hc, hr, hn⟩ := h
  refine ⟨c, r ++ l2, rfl, hc, fun x hx => ?_, by rw [List.length_append]; omega⟩
  rcases List.mem_append.mp hx with hx | hx
  · exact hr x hx
  · exact h2 x hx
theorem NameL.mono {n m : Nat} {l : List Nat} (h : NameL n l) (hm : n ≤ m) : NameL m l := by
  obtain ⟨c, r, rfl, hc, hr, hn⟩ := h
  exact ⟨c, r, rfl, hc, hr, by omega⟩
theorem NameL.len {n : Nat} {l : List Nat} (h : NameL n l) : l.length ≤ n + 1 := by
  obtain ⟨c, r, rfl, hc, hr, hn⟩ := h
  rw [List.length_cons]; omega
theorem NameL.all {n : Nat} {l : List Nat} (h : NameL n l) : ∀ x ∈ l, low x ∨ dig x := by
  obtain ⟨c, r, rfl, hc, hr, hn⟩ := h
  intro x hx
  rcases List.mem_cons.mp hx with rfl | hx
  · exact .inl hc
  · exact hr x hx
theorem NameL.ne {n : Nat} {l : List Nat} (h : NameL n l) : l ≠ [] := by
  obtain ⟨c, r, rfl, _⟩ := h
  simp
theorem numL_dig {k : Nat} : ∀ x ∈ TL.numL k, low x ∨ dig x := fun x hx => .inr (TL.numL_digits k x hx)
end DL

namespace DL
open PySem PySem.Spec PyProof.Rows L2
open TL (tl)
section
variable {X : Cx} {id : String}
/-- s.index(t), t stands in s -/
def indexD : DRM := fun x ys g Q => match x, ys with
  | .str a, [.str b] => ∃ (i : Nat) (rest : List Nat), Builtin.Str.occurrences a b 0 a.length 1 = i :: rest ∧ Q (.int (i : Nat)) g
  | _, _ => False
theorem mt_indexD : MtR X "str.index" (lRM X.K indexD) := fun pins s σ H x xs v us Q I rx rs ⟨d, ds, g, Qd, r1, l, rg, q, k⟩ => by
  cases r1 with
  | str a => rcases l with _ | ⟨r1, _ | ⟨r2, l⟩⟩
             · exact q.elim
             · cases r1 with
               | str b =>
                 obtain ⟨i, rest, h, q⟩ := q
                 exact mt_sindex pins s σ H _ _ v us Q I rx rs ⟨a, b, i, rest, rfl, rfl, h, rg.fin k (.int _) q⟩
               | _ => exact q.elim
             · cases r1 <;> exact q.elim
  | _ => exact q.elim
end
/-! ### texts made of signs -/
def mk (l : List Nat) : Str := ⟨l.toArray⟩
theorem tl_mk (l : List Nat) : tl (mk l) = l := rfl
theorem mk_tl (s : Str) : mk (tl s) = s := TL.mk_tl s
theorem mk_inj {a b : List Nat} (h : mk a = mk b) : a = b := by
  have := congrArg tl h
  rwa [tl_mk, tl_mk] at this
theorem mk_app (a b : List Nat) : mk a ++ mk b = mk (a ++ b) := TL.ext_tl (by rw [TL.tl_append, tl_mk, tl_mk, tl_mk])
theorem app_mk (s : Str) (b : List Nat) : s ++ mk b = mk (tl s ++ b) := TL.ext_tl (by rw [TL.tl_append, tl_mk, tl_mk])
theorem mk_one (c : Nat) : (⟨#[c]⟩ : Str) = mk [c] := rfl
theorem joinL_nil : ∀ ps : List (List Nat), TL.joinL [] ps = ps.flatten
  | [] => rfl
  | [p] => by simp [TL.joinL]
  | p :: q :: r => by
    show p ++ ([] ++ TL.joinL [] (q :: r)) = _
    rw [List.nil_append, joinL_nil (q :: r), List.flatten_cons (l := p)]
theorem tl_empty : tl (("" : Str)) = [] := by decide +kernel
theorem join_empty (zs : List Str) : tl (Txt.join "" zs) = (zs.map tl).flatten := by
  rw [TL.join_eq, TL.tl_join, tl_empty, joinL_nil]
/-- signs, each a text -/
def ones (cs : List Nat) : List Str := cs.map fun c => mk [c]
theorem ones_len (cs : List Nat) : ((ones cs).map (·.length)).sum = cs.length := by
  induction cs with
  | nil => rfl
  | cons c cs ih =>
    show (mk [c]).length + ((ones cs).map (·.length)).sum = _
    rw [ih, List.length_cons]
    show 1 + cs.length = _
    omega
theorem ones_join (cs : List Nat) : Txt.join "" (ones cs) = mk cs := TL.ext_tl (by
  rw [join_empty, tl_mk]
  induction cs with
  | nil => rfl
  | cons c cs ih =>
    show (tl (mk [c]) :: (ones cs).map tl).flatten = _
    rw [List.flatten_cons, ih]
    rfl)
theorem ones_get {cs : List Nat} {i : Nat} {c : Nat} (h : cs[i]? = some c) : ((ones cs).map D.str)[i]? = some (.str (mk [c])) := by
  rw [ones, List.getElem?_map, List.getElem?_map, h]
  rfl
/-- the signs of a text, walked -/
theorem walk_get {z : Str} {i : Nat} {d : D} (h : (z.cps.toList.map fun c => D.str ⟨#[c]⟩)[i]? = some d) : ∃ c, (tl z)[i]? = some c ∧ d = .str (mk [c]) := by
  rw [List.getElem?_map] at h
  show ∃ c, z.cps.toList[i]? = some c ∧ _
  cases hc : z.cps.toList[i]? with
  | none => rw [hc] at h; cases h
  | some c =>
    rw [hc] at h
    cases h
    exact ⟨c, rfl, rfl⟩
section
variable {g : GS} {Q : DK} {p : Addr}
theorem v_in1' {c : Nat} {b : Str} (h : Q (.bl (decide (c ∈ tl b))) g) : inD (.str (mk [c])) (.str b) g Q := v_in1 h
theorem v_joinOnes {cs : List Nat} (hp : g p = some (.lst ((ones cs).map D.str))) (hz : cs.length ≤ 16777216) (h : Q (.str (mk cs)) g) : joinD (.str "") [.ref p] g Q :=
  ⟨ones cs, .inl hp, by
    rw [ones_len]
    have : (("" : Str)).length = 0 := by decide +kernel
    rw [this]; omega, by rw [ones_join]; exact h⟩
end
theorem lower_mk {l : List Nat} (h : ∀ c ∈ l, c < 128) : Txt.lower (mk l) = mk (l.map lo1) := by
  rw [lower_ascii (x := mk l) h]
  exact TL.ext_tl (by simp [mk])
theorem upper_mk {l : List Nat} (h : ∀ c ∈ l, c < 128) : Txt.upper (mk l) = mk (l.map up1) := by
  rw [upper_ascii (x := mk l) h]
  exact TL.ext_tl (by simp [mk])
section
variable {g : GS} {Q : DK}
theorem v_lowerM {l : List Nat} (h1 : ∀ c ∈ l, c < 128) (hz : l.length ≤ 5000000) (h : Q (.str (mk (l.map lo1))) g) : lowerD (.str (mk l)) [] g Q := by
  refine ⟨by show (mk l).length ≤ _; rw [TL.len_tl, tl_mk]; omega, ?_⟩
  show Q (.str (Txt.lower (mk l))) g
  rw [lower_mk h1]
  exact h
theorem v_upperM {l : List Nat} (h1 : ∀ c ∈ l, c < 128) (hz : l.length ≤ 5000000) (h : Q (.str (mk (l.map up1))) g) : upperD (.str (mk l)) [] g Q := by
  refine ⟨by show (mk l).length ≤ _; rw [TL.len_tl, tl_mk]; omega, ?_⟩
  show Q (.str (Txt.upper (mk l))) g
  rw [upper_mk h1]
  exact h
theorem v_addM {a b : List Nat} (hz : a.length + b.length ≤ 16777216) (h : Q (.str (mk (a ++ b))) g) : addD (.str (mk a)) (.str (mk b)) g Q := by
  refine v_addS (by rw [szl, TL.len_tl, TL.len_tl, tl_mk, tl_mk]; exact hz) ?_
  rw [mk_app]; exact h
theorem v_lenM {a : List Nat} (hz : a.length ≤ 16777216) (h : Q (.int (a.length : Nat)) g) : lenD [.str (mk a)] g Q := by
  refine v_lenS (by rw [szl, TL.len_tl, tl_mk]; exact hz) ?_
  rw [TL.len_tl, tl_mk]; exact h
theorem v_eqM {a b : List Nat} (h : Q (.bl (decide (a = b))) g) : eqD (.str (mk a)) (.str (mk b)) g Q := by
  refine v_eqS ?_
  have : decide (mk a = mk b) = decide (a = b) := by
    by_cases h : a = b
    · subst h; simp
    · simp only [h, decide_false, decide_eq_false_iff_not]; exact fun z => h (mk_inj z)
  rw [this]; exact h
theorem v_neM {a b : List Nat} (h : Q (.bl (!decide (a = b))) g) : neD (.str (mk a)) (.str (mk b)) g Q := v_eqM (Q := notV Q) h
end
/-- a loop that folds -/
theorem fold_iv {α S : Type} {ds : List DL.D} {keep : GS → Prop} {tg : DTG} {tb : DTS} {D : DEnds} {e : EV} {g1 : GS} (l : List α) (td : α → DL.D) (hl : ds = l.map td) (emb : S → EV → GS → Prop) (f : S → α → S) (s0 : S) (h0 : emb s0 e g1) (hk : ∀ s e g, emb s e g → keep g)
    (step : ∀ done a rest s e' g', l = done ++ a :: rest → s = done.foldl f s0 → emb s e' g' → tg (td a) e' g' fun e2 g2 => tb { D with nx := emb (f s a), ct := emb (f s a), bk := D.nx } e2 g2) (hd : ∀ e' g', emb (l.foldl f s0) e' g' → D.nx e' g') :
    ∃ Iv : Nat → EV → GS → Prop, Iv 0 e g1 ∧ (∀ i e' g', i ≤ ds.length → Iv i e' g' → keep g') ∧ (∀ i d e' g', ds[i]? = some d → Iv i e' g' → tg d e' g' fun e2 g2 => tb { D with nx := Iv (i + 1), ct := Iv (i + 1), bk := D.nx } e2 g2) ∧ ∀ e' g', Iv ds.length e' g' → D.nx e' g' := by
  subst hl
  refine ⟨fun i e g => emb ((l.take i).foldl f s0) e g, h0, fun _ _ _ _ h => hk _ _ _ h, fun i d e' g' hd' h => ?_, fun e' g' h => hd e' g' ?_⟩
  · rw [List.getElem?_map] at hd'
    cases hc : l[i]? with
    | none => rw [hc] at hd'; cases hd'
    | some a =>
      rw [hc] at hd'
      cases hd'
      have hi := (List.getElem?_eq_some_iff.mp hc).1
      have e1 : l = l.take i ++ a :: l.drop (i + 1) := by
        have := List.take_append_drop i l
        rw [List.drop_eq_getElem_cons hi] at this
        rw [(List.getElem?_eq_some_iff.mp hc).2] at this
        exact this.symm
      have := step (l.take i) a _ _ e' g' e1 rfl h
      have e2 : (l.take (i + 1)).foldl f s0 = f ((l.take i).foldl f s0) a := by
        rw [List.take_add_one, hc, List.foldl_append]; rfl
      simp only [e2]
      exact this
  · rw [List.length_map, List.take_of_length_le (Nat.le_refl _)] at h
    exact h
theorem empty_mk : ("" : Str) = mk [] := by decide +kernel
theorem foldl_snoc {α β : Type} (f : β → α → β) (b : β) (l : List α) {i : Nat} {x : α} (h : l[i]? = some x) : (l.take (i + 1)).foldl f b = f ((l.take i).foldl f b) x := by
  rw [List.take_add_one, h, List.foldl_append]
  rfl
/-- the end: the law's promise at the script -/
theorem fin_of {sp : DSp} (h : ∀ (ns : List Int) (g : GS), ns.length ≤ 63 → (∀ a, g a = none) → sp [.klst (ns.map D.int)] g fun d _ => d = .bl true) (K : PySem.W.Frag) (H : Hp) (a : Addr) (ns : List Int) (hn : ns.length ≤ 63) (hO : Only H) (hS : SqL K H a (ns.map V.int)) :
    lSp K sp [.ref a] H (fun v _ => v = .bl true) fun _ _ _ => False := by
  have hF : SqF K H a (ns.map V.int) := by
    rcases hS with (h | h) | h
    · rcases hO a with z | ⟨o, xs, z⟩ <;> rw [z] at h <;> cases h
    · exact .inl h
    · exact .inr h
  refine ⟨[.klst (ns.map D.int)], fun _ => none, fun d _ => d = .bl true, .cons (.kl hF (.ofInts ns)) .nil, (fun _ _ z => nomatch z), h ns _ hn fun _ => rfl, fun v d H' g' _ _ r e => ?_⟩
  subst e
  cases r
  rfl
theorem tl_lit (s : String) : tl (Str.ofString s) = s.toList.map Char.toNat := TL.tl_ofString s
end DL

/-- the automatic steps -/
local macro_rules | `(tactic| walk_at "go1") => `(tactic| with_reducible first
  | refine DL.s_seq ?_ | refine DL.s_asg ?_ | refine DL.s_nm ?_ | refine DL.s_c ?_ | refine DL.s_op ?_ | refine DL.s_cb ?_ | refine DL.s_cons ?_ | refine DL.s_nil ?_ | refine DL.s_call ?_ | refine DL.s_tup ?_ | refine DL.s_lst ?_
  | refine DL.s_bm ?_ | refine DL.s_bm0 ?_ | refine DL.s_drop ?_ | refine DL.s_ret ?_ | refine DL.s_retN ?_ | refine DL.s_next ?_ | refine DL.s_brk ?_ | refine DL.s_ct ?_ | refine DL.s_if ?_ | refine DL.s_test ?_ | refine DL.s_and ?_ | refine DL.s_or ?_ | refine DL.s_not ?_
  | refine DL.s_tru ?_ | refine DL.s_yes ?_ | refine DL.s_andV ?_ | refine DL.s_orV ?_ | refine DL.s_notV ?_ | refine DL.s_ifE ?_ | refine DL.s_isi ?_ | refine DL.s_sl ?_ | refine DL.s_no ?_ | refine DL.s_part ?_ | refine DL.s_sb ?_ | refine DL.s_chain ?_ | refine DL.s_un ?_
  | refine DL.s_for ?_ | refine DL.s_lc ?_ | refine DL.s_ra1 ?_ | refine DL.s_ra2 ?_ | refine DL.s_rev ?_ | refine DL.x_tp ?_ | refine DL.x_st ?_ | refine DL.x_bl ?_ | refine DL.x_part ?_ | refine DL.x_tru ?_
  | refine DL.v_addI ?_ | refine DL.v_sub ?_ | refine DL.v_and ?_ | refine DL.v_neg ?_ | refine DL.v_ltI ?_ | refine DL.v_leI ?_ | refine DL.v_gtI ?_ | refine DL.v_geI ?_ | refine DL.v_eqI ?_ | refine DL.v_eqS ?_ | refine DL.v_eqB ?_ | refine DL.v_neI ?_ | refine DL.v_neS ?_ | refine DL.v_in1 ?_
  | refine DL.v_int ?_ | refine DL.v_intB ?_ | refine DL.v_abs ?_ | refine DL.v_lenT ?_ | refine DL.v_tupT ?_ | refine DL.v_rcvS ?_ | refine DL.v_lstT ?_ | refine DL.s_gcons ?_ | refine DL.s_gnil ?_ | refine DL.v_isN ?_)
local macro_rules | `(tactic| walk_at "go") => `(tactic| repeat (first
  | walk_at "go1"
  | ((with_reducible refine DL.s_var ?_); refine ⟨_, rfl, ?_⟩)
  | ((with_reducible refine DL.x_ra1 ?_ ?_ ?_); omega; omega)
  | ((with_reducible refine DL.x_ra2 ?_ ?_ ?_ ?_ ?_); omega; omega; omega; omega)
  | ((with_reducible refine DL.x_lst' ?_); refine ⟨_, by assumption, ?_⟩)
  | ((with_reducible refine DL.v_mod ?_ ?_); omega)
  | ((with_reducible refine DL.v_div ?_ ?_ ?_); omega; omega)
  | ((with_reducible refine DL.v_mulR ?_ ?_ ?_); omega; omega)
  | ((with_reducible refine DL.v_mulL ?_ ?_ ?_); omega; omega)
  | ((with_reducible refine DL.v_ixL' ?_); refine ⟨_, by assumption, _, rfl, ?_⟩)
  | ((with_reducible refine DL.v_ixT' ?_); refine ⟨_, rfl, ?_⟩)
  | ((with_reducible refine DL.s_gtp ?_ ?_); rfl)
  | ((with_reducible refine DL.v_lenL' ?_); refine ⟨_, by assumption, ?_⟩)
  | ((with_reducible refine DL.v_tupL' ?_); refine ⟨_, by assumption, ?_⟩)))

namespace DL
open PySem PySem.Spec PyProof.Rows L2
def wst (st : List (List Nat) × List Nat) (c : Nat) : List (List Nat) × List Nat :=
  if low c ∨ dig c then (st.1, st.2 ++ [c]) else if st.2 = [] then (st.1, []) else (st.1 ++ [st.2], [])
def dst (st : List (List Nat) × List Nat) (c : Nat) : List (List Nat) × List Nat :=
  if low c ∨ dig c then (st.1, st.2 ++ [c]) else if 65 ≤ c ∧ c ≤ 90 then (st.1, st.2 ++ [c + 32]) else if st.2 = [] then (st.1, []) else (st.1 ++ [st.2], [])
def wordsL (l : List Nat) : List (List Nat) := ((l.map lo1 ++ [32]).foldl wst ([], [])).1
def dueL (l : List Nat) : List (List Nat) := ((l ++ [46]).foldl dst ([], [])).1
theorem wst_dst (st : List (List Nat) × List Nat) (c : Nat) : wst st (lo1 c) = dst st c := by
  unfold wst dst lo1
  by_cases h : 65 ≤ c ∧ c ≤ 90
  · have h1 : low (c + 32) ∨ dig (c + 32) := .inl (by unfold low; omega)
    have h2 : ¬ (low c ∨ dig c) := by unfold low dig; omega
    rw [if_pos h, if_pos h1, if_neg h2, if_pos h]
  · rw [if_neg h]
    by_cases h1 : low c ∨ dig c
    · rw [if_pos h1, if_pos h1]
    · rw [if_neg h1, if_neg h1, if_neg h]
theorem words_due (l : List Nat) : wordsL l = dueL l := by
  unfold wordsL dueL
  rw [List.foldl_append, List.foldl_append, List.foldl_map]
  have e : (fun (st : List (List Nat) × List Nat) c => wst st (lo1 c)) = dst := by
    funext st c; exact wst_dst st c
  rw [e]
  generalize List.foldl dst ([], []) l = st
  show (wst st 32).1 = (dst st 46).1
  unfold wst dst
  rfl
theorem fold_len (f : List (List Nat) × List Nat → Nat → List (List Nat) × List Nat) (hf : ∀ st c, (f st c).1.length + (f st c).2.length ≤ st.1.length + st.2.length + 1) : ∀ (l : List Nat) st, (l.foldl f st).1.length + (l.foldl f st).2.length ≤ st.1.length + st.2.length + l.length
  | [], st => by simp
  | c :: l, st => by
    have := fold_len f hf l (f st c)
    have := hf st c
    rw [List.foldl_cons, List.length_cons]
    omega
theorem wst_len (st : List (List Nat) × List Nat) (c : Nat) : (wst st c).1.length + (wst st c).2.length ≤ st.1.length + st.2.length + 1 := by
  unfold wst
  split
  · simp; omega
  · split <;> (simp; try omega)
theorem dst_len (st : List (List Nat) × List Nat) (c : Nat) : (dst st c).1.length + (dst st c).2.length ≤ st.1.length + st.2.length + 1 := by
  unfold dst
  split
  · simp; omega
  · split
    · simp; omega
    · split <;> (simp; try omega)
theorem lower_c {c : Nat} : (c ∈ (("abcdefghijklmnopqrstuvwxyz" : Str)).cps.toList) ↔ low c := by
  constructor
  · revert c; decide +kernel
  · rintro ⟨h1, h2⟩
    have : ∀ c, c < 123 → 97 ≤ c → c ∈ (("abcdefghijklmnopqrstuvwxyz" : Str)).cps.toList := by decide +kernel
    exact this c (by omega) h1
theorem digit_c {c : Nat} : (c ∈ (("0123456789" : Str)).cps.toList) ↔ dig c := by
  constructor
  · revert c; decide +kernel
  · rintro ⟨h1, h2⟩
    have : ∀ c, c < 58 → 48 ≤ c → c ∈ (("0123456789" : Str)).cps.toList := by decide +kernel
    exact this c (by omega) h1
theorem alnum_c {c : Nat} : (c ∈ (("abcdefghijklmnopqrstuvwxyz0123456789" : Str)).cps.toList) ↔ low c ∨ dig c := by
  constructor
  · revert c; decide +kernel
  · rintro (⟨h1, h2⟩ | ⟨h1, h2⟩)
    · have : ∀ c, c < 123 → 97 ≤ c → c ∈ (("abcdefghijklmnopqrstuvwxyz0123456789" : Str)).cps.toList := by decide +kernel
      exact this c (by omega) h1
    · have : ∀ c, c < 58 → 48 ≤ c → c ∈ (("abcdefghijklmnopqrstuvwxyz0123456789" : Str)).cps.toList := by decide +kernel
      exact this c (by omega) h1
theorem upper_c {c : Nat} : (c ∈ (("ABCDEFGHIJKLMNOPQRSTUVWXYZ" : Str)).cps.toList) ↔ 65 ≤ c ∧ c ≤ 90 := by
  constructor
  · revert c; decide +kernel
  · rintro ⟨h1, h2⟩
    have : ∀ c, c < 91 → 65 ≤ c → c ∈ (("ABCDEFGHIJKLMNOPQRSTUVWXYZ" : Str)).cps.toList := by decide +kernel
    exact this c (by omega) h1
theorem upper_occ : ∀ c, c < 91 → 65 ≤ c → Builtin.Str.occurrences ("ABCDEFGHIJKLMNOPQRSTUVWXYZ" : Str) ⟨#[c]⟩ 0 (("ABCDEFGHIJKLMNOPQRSTUVWXYZ" : Str)).length 1 = [c - 65] := by decide +kernel
theorem lower_at : ∀ c, c < 91 → 65 ≤ c → L2.atI (("abcdefghijklmnopqrstuvwxyz" : Str)).cps.toList ((c - 65 : Nat) : Int) = some (c + 32) := by decide +kernel
end DL


namespace CK02
open PySem DL
/-- .law.mix(seed, turn): 0 seed, 1 turn, 2 number -/
abbrev N_Lmix : List Str := ["seed", "turn", "number"]
theorem st0_Lmix (a0 a1 : D) : dstart N_Lmix [a0, a1] = [some a0, some a1, none] := rfl
def w_Lmix : DTS := (dSeq (dAsg (dOp modD (dCB intF (dCons (dOp addD (dOp addD (dOp mulD (dVar 0) (dC (.int 48271))) (dOp mulD (dVar 1) (dC (.int 69621)))) (dC (.int 11))) dNil)) (dC (.int 2147483647))) (gNm 2))
  (dSeq (dAsg (dOp modD (dCB intF (dCons (dOp addD (dOp addD (dOp mulD (dVar 2) (dVar 2)) (dOp mulD (dVar 1) (dC (.int 16807)))) (dC (.int 7))) dNil)) (dC (.int 2147483629))) (gNm 2))
  (dSeq (dAsg (dOp modD (dCB intF (dCons (dOp addD (dOp addD (dOp mulD (dVar 2) (dC (.int 40692))) (dOp mulD (dOp mulD (dVar 1) (dVar 1)) (dC (.int 30269)))) (dC (.int 5))) dNil)) (dC (.int 2147483399))) (gNm 2))
  (dRet (dVar 2)))))
def sp_Lmix : DSp := fun ds g Q => match ds with
  | [.int seed, .int turn] => 0 ≤ seed ∧ seed < 8589934592 ∧ 0 ≤ turn ∧ turn < 2199023255552 ∧ ∀ v : Int, 0 ≤ v → v < 2147483399 → Q (.int v) g
  | _ => False
theorem len_Lmix : ∀ ds g Q, sp_Lmix ds g Q → ds.length = 2 := fun ds g Q h => by
  unfold sp_Lmix at h; split at h <;> first | rfl | exact h.elim
theorem rd_Lmix : ∀ ds g Q, sp_Lmix ds g Q → w_Lmix { nx := fun _ g => Q .non g, rt := Q } (dstart N_Lmix ds) g := fun ds g Q h => by
  unfold sp_Lmix at h; split at h
  case h_2 => exact h.elim
  obtain ⟨h1, h2, h3, h4, q⟩ := h
  rename_i seed turn
  rw [st0_Lmix]
  unfold w_Lmix
  walk_at "go"
  refine q _ ?_ ?_
  · omega
  · omega

/-- .law.source(script): 0 script, 1 seed, 2 k -/
abbrev N_Lsource : List Str := ["script", "seed", "k"]
theorem st0_Lsource (a0 : D) : dstart N_Lsource [a0] = [some a0, none, none] := rfl
def w_Lsource : DTS := (dSeq (dAsg (dC (.int 17)) (gNm 1))
  (dSeq (dFor (iRa1 (dCB lenD (dCons (dVar 0) dNil))) (gNm 2) (dAsg (dCall sp_Lmix [] (dCons (dOp addD (dVar 1) (dOp modD (dCB intF (dCons (dOp ixD (dVar 0) (dVar 2)) dNil)) (dC (.int 2147483647)))) (dCons (dVar 2) dNil))) (gNm 1)))
  (dRet (dLst (dCons (dCB lstF (dCons (dVar 0) dNil)) (dCons (dC (.int 0)) (dCons (dC (.int 0)) (dCons (dVar 1) (dCons (dC (.int 0)) dNil)))))))))
def sp_Lsource : DSp := fun ds g Q => match ds with
  | [.klst xs] => ∃ ns : List Int, xs = ns.map D.int ∧ ns.length ≤ 63 ∧ ∀ s g', s.ns = ns → Up [] g g' → Src s g' 0 → g s.L = none → g s.L0 = none → Q (.ref s.L) g'
  | _ => False
theorem len_Lsource : ∀ ds g Q, sp_Lsource ds g Q → ds.length = 1 := fun ds g Q h => by
  unfold sp_Lsource at h; split at h <;> first | rfl | exact h.elim
theorem rd_Lsource : ∀ ds g Q, sp_Lsource ds g Q → w_Lsource { nx := fun _ g => Q .non g, rt := Q } (dstart N_Lsource ds) g := fun ds g Q h => by
  unfold sp_Lsource at h; split at h
  case h_2 => exact h.elim
  obtain ⟨ns, rfl, hn, q⟩ := h
  rw [st0_Lsource]
  unfold w_Lsource
  walk_at "go"
  refine v_lenK ?_
  refine ⟨_, rfl, by omega, by rw [List.length_map]; omega, ?_⟩
  refine ⟨fun i e g' => g' = g ∧ ∃ sd x, e = [some (.klst (ns.map D.int)), some (.int sd), x] ∧ 0 ≤ sd ∧ sd < 2147483647, ⟨rfl, 17, none, rfl, by omega, by omega⟩, fun _ _ _ _ _ => trivial, ?_, ?_⟩
  · rintro i d e g' hd ⟨rfl, sd, x, rfl, b1, b2⟩
    obtain ⟨hi, rfl⟩ := ran_get hd
    have hi2 : i < ns.length := by rw [List.length_map] at hi; omega
    walk_at "go"
    refine v_ixK (atI_map (atI_at (List.getElem?_eq_getElem hi2))) ?_
    · walk_at "go"
      refine ⟨by omega, by omega, by omega, by omega, fun v v1 v2 => ?_⟩
      walk_at "go"
      exact ⟨rfl, v, _, rfl, v1, by omega⟩
  · rintro e g' ⟨rfl, sd, x, rfl, b1, b2⟩
    walk_at "go"
    refine v_lstK fun p hp => ?_
    walk_at "go"
    refine ⟨by rw [szl]; simp, fun p2 hp2 => ?_⟩
    have n12 : p ≠ p2 := fun z => by rw [← z, gup_same] at hp2; cases hp2
    have f2 : g' p2 = none := (Up.new (S := []) (o := .lst (ns.map D.int)) hp).fresh hp2
    exact q ⟨p2, p, ns⟩ _ rfl ((Up.new hp).trans (.new hp2)) ⟨by rw [gup_ne n12, gup_same], ⟨n12, hn⟩, 0, 0, sd, 0, by rw [gup_same], by omega, by omega, b1, b2, by omega, by omega⟩ f2 hp

/-- .law.draw(source, many): 0 source, 1 many, 2 cell, 3 value -/
abbrev N_Ldraw : List Str := ["source", "many", "cell", "value"]
theorem st0_Ldraw (a0 a1 : D) : dstart N_Ldraw [a0, a1] = [some a0, some a1, none, none] := rfl
def w_Ldraw : DTS := (dSeq (dIf (dAnd (dTest (dOp eqD (dOp ixD (dVar 0) (dC (.int 2))) (dC (.int 0)))) (dAnd (dTest (dOp ltD (dOp ixD (dVar 0) (dC (.int 1))) (dCB lenD (dCons (dOp ixD (dVar 0) (dC (.int 0))) dNil)))) (dTest (dOp eqD (dOp modD (dCB intF (dCons (dOp ixD (dVar 0) (dC (.int 4))) dNil)) (dC (.int 6))) (dC (.int 0)))))) (dSeq (dAsg (dOp ixD (dOp ixD (dVar 0) (dC (.int 0))) (dOp ixD (dVar 0) (dC (.int 1)))) (gNm 2))
  (dSeq (dAsg (dOp addD (dOp ixD (dVar 0) (dC (.int 1))) (dC (.int 1))) (gSb (dVar 0) (dC (.int 1))))
  (dIf (dTest (dOp geD (dCB absD (dCons (dVar 2) dNil)) (dOp powD (dC (.int 10)) (dC (.int 18))))) (dAsg (dOp andD (dCB absD (dCons (dVar 2) dNil)) (dOp subD (dOp shlD (dC (.int 1)) (dC (.int 12800))) (dC (.int 1)))) (gSb (dVar 0) (dC (.int 2)))) (dAsg (dCall sp_Lmix [] (dCons (dOp addD (dOp ixD (dVar 0) (dC (.int 3))) (dOp modD (dCB intF (dCons (dVar 2) dNil)) (dC (.int 2147483647)))) (dCons (dOp ixD (dVar 0) (dC (.int 1))) dNil))) (gSb (dVar 0) (dC (.int 3))))))) dNext)
  (dSeq (dIf (dTest (dOp gtD (dOp ixD (dVar 0) (dC (.int 2))) (dC (.int 0)))) (dSeq (dAsg (dOp modD (dCB intF (dCons (dOp ixD (dVar 0) (dC (.int 2))) dNil)) (dVar 1)) (gNm 3))
  (dSeq (dAsg (dOp fdivD (dCB intF (dCons (dOp ixD (dVar 0) (dC (.int 2))) dNil)) (dVar 1)) (gSb (dVar 0) (dC (.int 2))))
  (dRet (dVar 3)))) dNext)
  (dSeq (dAsg (dOp addD (dOp ixD (dVar 0) (dC (.int 4))) (dC (.int 1))) (gSb (dVar 0) (dC (.int 4))))
  (dRet (dOp modD (dCB intF (dCons (dOp fdivD (dCall sp_Lmix [] (dCons (dOp ixD (dVar 0) (dC (.int 3))) (dCons (dOp ixD (dVar 0) (dC (.int 4))) dNil))) (dC (.int 5))) dNil)) (dVar 1))))))
def sp_Ldraw : DSp := fun ds g Q => match ds with
  | [.ref L, .int k] => ∃ s m, s.L = L ∧ Src s g m ∧ m < 1099511627776 ∧ 0 < k ∧ k < 1073741824 ∧ ∀ (v : Int) g', 0 ≤ v → v < k → Go s g g' (m + 1) → Q (.int v) g'
  | _ => False
theorem len_Ldraw : ∀ ds g Q, sp_Ldraw ds g Q → ds.length = 2 := fun ds g Q h => by
  unfold sp_Ldraw at h; split at h <;> first | rfl | exact h.elim
theorem Ldraw_end {L : Addr} {k : Int} {s : SI} {g g' : GS} {Q : DK} {m : Nat} {c : Int} {cl : Option D} (L0 : Addr) (big seed n : Int) (hL0 : s.L0 = L0) (hL : s.L = L) (hu : Up [L] g g') (n0 : L0 ≠ L) (n63 : s.ns.length ≤ 63) (h0 : g' L0 = some (.lst (s.ns.map D.int)))
    (h : g' L = some (.lst [.ref L0, .int c, .int big, .int seed, .int n])) (b1 : 0 ≤ c) (b2 : 0 ≤ big) (b3 : 0 ≤ seed) (b4 : seed < 2147483647) (b5 : 0 ≤ n) (b6 : n ≤ m) (hm : m < 1099511627776) (hk : 0 < k) (hk2 : k < 1073741824)
    (q : ∀ (v : Int) g', 0 ≤ v → v < k → Go s g g' (m + 1) → Q (.int v) g') :
    dSeq (dIf (dTest (dOp gtD (dOp ixD (dVar 0) (dC (.int 2))) (dC (.int 0)))) (dSeq (dAsg (dOp modD (dCB intF (dCons (dOp ixD (dVar 0) (dC (.int 2))) dNil)) (dVar 1)) (gNm 3))
      (dSeq (dAsg (dOp fdivD (dCB intF (dCons (dOp ixD (dVar 0) (dC (.int 2))) dNil)) (dVar 1)) (gSb (dVar 0) (dC (.int 2)))) (dRet (dVar 3)))) dNext)
      (dSeq (dAsg (dOp addD (dOp ixD (dVar 0) (dC (.int 4))) (dC (.int 1))) (gSb (dVar 0) (dC (.int 4))))
        (dRet (dOp modD (dCB intF (dCons (dOp fdivD (dCall sp_Lmix [] (dCons (dOp ixD (dVar 0) (dC (.int 3))) (dCons (dOp ixD (dVar 0) (dC (.int 4))) dNil))) (dC (.int 5))) dNil)) (dVar 1)))) { nx := fun _ g => Q .non g, rt := Q } [some (.ref L), some (.int k), cl, none] g' := by
  subst hL0 hL
  walk_at "go"
  refine iteD (fun hb => ?_) (fun hb => ?_)
  · walk_at "go"
    refine v_set h rfl ?_
    walk_at "go"
    refine q _ _ (Int.emod_nonneg _ (by omega)) (Int.emod_lt_of_pos _ hk) ⟨hu.ins (List.mem_singleton.mpr rfl), by rw [gup_ne n0]; exact h0, ⟨n0, n63⟩, c, big / k, seed, n, by rw [gup_same]; rfl, b1, Int.ediv_nonneg b2 (by omega), b3, b4, b5, by omega⟩
  · walk_at "go"
    refine v_set h rfl ?_
    walk_at "go"
    have h2 : gup g' s.L (.lst ([.ref s.L0, .int c, .int big, .int seed, .int n].set 4 (.int (n + 1)))) s.L = some (.lst [.ref s.L0, .int c, .int big, .int seed, .int (n + 1)]) := by rw [gup_same]; rfl
    walk_at "go"
    refine ⟨b3, by omega, by omega, by omega, fun v v1 v2 => ?_⟩
    walk_at "go"
    refine q _ _ (Int.emod_nonneg _ (by omega)) (Int.emod_lt_of_pos _ hk) ⟨hu.ins (List.mem_singleton.mpr rfl), by rw [gup_ne n0]; exact h0, ⟨n0, n63⟩, c, big, seed, n + 1, h2, b1, b2, b3, b4, by omega, by omega⟩
theorem rd_Ldraw : ∀ ds g Q, sp_Ldraw ds g Q → w_Ldraw { nx := fun _ g => Q .non g, rt := Q } (dstart N_Ldraw ds) g := fun ds g Q h => by
  unfold sp_Ldraw at h; split at h
  case h_2 => exact h.elim
  obtain ⟨s, m, hL, hS, hm, hk, hk2, q⟩ := h
  rename_i L k
  subst hL
  obtain ⟨h0, ⟨n0, n63⟩, c, big, seed, n, h, b1, b2, b3, b4, b5, b6⟩ := hS
  rw [st0_Ldraw]
  unfold w_Ldraw
  have fin : ∀ g' c big seed cl, Up [s.L] g g' → g' s.L0 = some (.lst (s.ns.map D.int)) → g' s.L = some (.lst [.ref s.L0, .int c, .int big, .int seed, .int n]) → 0 ≤ c → 0 ≤ big → 0 ≤ seed → seed < 2147483647 → _ :=
    fun g' c big seed cl hu h0 h b1 b2 b3 b4 => Ldraw_end (cl := cl) (k := k) s.L0 big seed n rfl rfl hu n0 n63 h0 h b1 b2 b3 b4 b5 b6 hm hk hk2 q
  walk_at "go"
  refine iteD (fun e1 => ?_) (fun _ => ?_)
  · walk_at "go"
    refine iteD (fun e2 => ?_) (fun _ => ?_)
    · walk_at "go"
      refine iteD (fun e3 => ?_) (fun _ => ?_)
      · walk_at "go"
        rw [List.length_map] at e2
        obtain ⟨cell, _, hcell⟩ := atI_ex (xs := s.ns) b1 e2
        refine v_ixL h0 (atI_map hcell) ?_
        walk_at "go"
        refine v_set h rfl ?_
        walk_at "go"
        have h1 : gup g s.L (.lst ([.ref s.L0, .int c, .int big, .int seed, .int n].set 1 (.int (c + 1)))) s.L = some (.lst [.ref s.L0, .int (c + 1), .int big, .int seed, .int n]) := by rw [gup_same]; rfl
        have h10 : gup g s.L (.lst ([.ref s.L0, .int c, .int big, .int seed, .int n].set 1 (.int (c + 1)))) s.L0 = some (.lst (s.ns.map D.int)) := by rw [gup_ne n0]; exact h0
        refine v_pow ⟨by omega, by omega, by decide⟩ ?_
        walk_at "go"
        refine iteD (fun e4 => ?_) (fun _ => ?_)
        · walk_at "go"
          refine v_shl ⟨by omega, by omega, by decide⟩ ?_
          walk_at "go"
          refine v_set h1 rfl ?_
          refine fin _ (c + 1) (Builtin.bitAnd (if cell < 0 then -cell else cell) (1 * 2 ^ (12800 : Int).toNat - 1)) seed _ ((Up.refl.ins (List.mem_singleton.mpr rfl)).ins (List.mem_singleton.mpr rfl)) ?_ (by rw [gup_same]; rfl) (by omega) ?_ b3 b4
          · rw [gup_ne n0]; exact h10
          · exact bAnd_nn (by split <;> omega) (mask_nn _)
        · walk_at "go"
          refine ⟨by omega, by omega, by omega, by omega, fun v v1 v2 => ?_⟩
          walk_at "go"
          refine v_set h1 rfl ?_
          refine fin _ (c + 1) big v _ ((Up.refl.ins (List.mem_singleton.mpr rfl)).ins (List.mem_singleton.mpr rfl)) ?_ (by rw [gup_same]; rfl) (by omega) b2 v1 (by omega)
          rw [gup_ne n0]; exact h10
      · refine DL.s_next ?_
        exact fin g c big seed none .refl h0 h b1 b2 b3 b4
    · refine iteB (fun z => by cases z) (fun _ => ?_)
      refine DL.s_next ?_
      exact fin g c big seed none .refl h0 h b1 b2 b3 b4
  · refine iteB (fun z => by cases z) (fun _ => ?_)
    refine DL.s_next ?_
    exact fin g c big seed none .refl h0 h b1 b2 b3 b4

/-- .law.new.name(source, used): 0 source, 1 used, 2 letters, 3 size, 4 name, 5 k, 6 tried -/
abbrev N_Lnew_name : List Str := ["source", "used", "letters", "size", "name", "k", "tried"]
theorem st0_Lnew_name (a0 a1 : D) : dstart N_Lnew_name [a0, a1] = [some a0, some a1, none, none, none, none, none] := rfl
def w_Lnew_name : DTS := (dSeq (dAsg (dC (.str "abcdefghijklmnopqrstuvwxyz")) (gNm 2))
  (dSeq (dAsg (dOp addD (dC (.int 1)) (dCall sp_Ldraw [] (dCons (dVar 0) (dCons (dC (.int 5)) dNil)))) (gNm 3))
  (dSeq (dAsg (dOp ixD (dVar 2) (dCall sp_Ldraw [] (dCons (dVar 0) (dCons (dC (.int 26)) dNil)))) (gNm 4))
  (dSeq (dFor (iRa1 (dOp subD (dVar 3) (dC (.int 1)))) (gNm 5) (dAsg (dOp addD (dVar 4) (dOp ixD (dOp addD (dVar 2) (dC (.str "0123456789"))) (dCall sp_Ldraw [] (dCons (dVar 0) (dCons (dC (.int 36)) dNil))))) (gNm 4)))
  (dSeq (dFor (iRa1 (dOp addD (dCB lenD (dCons (dVar 1) dNil)) (dC (.int 1)))) (gNm 5) (dSeq (dAsg (dOp addD (dVar 4) (dOp ixD (dLst (dCons (dC (.str "")) (dCons (dCB strF (dCons (dVar 5) dNil)) dNil))) (dCB intF (dCons (dOp gtD (dVar 5) (dC (.int 0))) dNil)))) (gNm 6))
  (dIf (dTest (dOp notInD (dVar 6) (dVar 1))) (dRet (dVar 6)) dNext)))
  (dRet (dVar 4)))))))
def sp_Lnew_name : DSp := fun ds g Q => match ds with
  | [.ref L, .ref U] => ∃ s m, ∃ us : List Str, s.L = L ∧ Src s g m ∧ m < 1000000000000 ∧ g U = some (.lst (us.map D.str)) ∧ us.length < 100 ∧ ∀ (nm : Str) g', NameOk nm → nm ∉ us → Go s g g' (m + 10) → Q (.str nm) g'
  | _ => False
theorem len_Lnew_name : ∀ ds g Q, sp_Lnew_name ds g Q → ds.length = 2 := fun ds g Q h => by
  unfold sp_Lnew_name at h; split at h <;> first | rfl | exact h.elim
def suf (k : Nat) : Str := if k = 0 then "" else Str.ofString (toString (k : Int))
theorem suf_inj {j k : Nat} {a : Str} (h : a ++ suf j = a ++ suf k) : j = k := by
  have h' := congrArg TL.tl h
  rw [TL.tl_append, TL.tl_append] at h'
  have h2 := List.append_cancel_left h'
  unfold suf at h2
  by_cases hj : j = 0
  · by_cases hk : k = 0
    · rw [hj, hk]
    · rw [if_pos hj, if_neg hk, TL.tl_num] at h2
      exact absurd h2.symm (TL.numL_ne k)
  · by_cases hk : k = 0
    · rw [if_neg hj, if_pos hk, TL.tl_num] at h2
      exact absurd h2 (TL.numL_ne j)
    · rw [if_neg hj, if_neg hk, TL.tl_num, TL.tl_num] at h2
      exact TL.numL_inj h2
theorem suf_some {nm : Str} {us : List Str} (h : ∀ j, j < us.length + 1 → nm ++ suf j ∈ us) : False := by
  have h1 : ((List.range (us.length + 1)).map fun j => nm ++ suf j).Nodup := nodup_map_on _ _ List.nodup_range fun x _ y _ e => suf_inj e
  have h2 := nodup_len _ us h1 fun x hx => by
    obtain ⟨j, hj, rfl⟩ := List.mem_map.mp hx
    exact h j (List.mem_range.mp hj)
  rw [List.length_map, List.length_range] at h2
  omega
theorem suf_name {nm : Str} {k : Nat} (h : NameL 4 (TL.tl nm)) (hk : k < 100) : NameOk (nm ++ suf k) := by
  unfold NameOk
  rw [TL.tl_append]
  refine h.app (m := 2) (fun x hx => ?_) ?_
  · unfold suf at hx
    split at hx
    · cases hx
    · rw [TL.tl_num] at hx; exact numL_dig x hx
  · unfold suf
    split
    · exact Nat.zero_le _
    · rw [TL.tl_num]; exact TL.numL_len (by decide) (by omega)
theorem letters_low : ∀ c ∈ (("abcdefghijklmnopqrstuvwxyz" : Str)).cps.toList, low c := by decide +kernel
theorem letters_len : (("abcdefghijklmnopqrstuvwxyz" : Str)).cps.toList.length = 26 := by decide +kernel
theorem alnum_ok : ∀ c ∈ (("abcdefghijklmnopqrstuvwxyz" : Str) ++ ("0123456789" : Str)).cps.toList, low c ∨ dig c := by decide +kernel
theorem alnum_len : (("abcdefghijklmnopqrstuvwxyz" : Str) ++ ("0123456789" : Str)).cps.toList.length = 36 := by decide +kernel
theorem rd_Lnew_name : ∀ ds g Q, sp_Lnew_name ds g Q → w_Lnew_name { nx := fun _ g => Q .non g, rt := Q } (dstart N_Lnew_name ds) g := fun ds g Q h => by
  unfold sp_Lnew_name at h; split at h
  case h_2 => exact h.elim
  obtain ⟨s, m, us, rfl, hS, hm, hU, hus, q⟩ := h
  rename_i U
  have nU : U ≠ s.L := hS.neStr hU
  rw [st0_Lnew_name]
  unfold w_Lnew_name
  walk_at "go"
  refine ⟨s, m, rfl, hS, by omega, by omega, by omega, fun v g1 a1 a2 G1 => ?_⟩
  walk_at "go"
  refine ⟨s, _, rfl, G1.2, by omega, by omega, by omega, fun v2 g2 b1 b2 G2 => ?_⟩
  have G2' := G1.trans G2
  walk_at "go"
  obtain ⟨c, hc, hat⟩ := atI_ex (xs := (("abcdefghijklmnopqrstuvwxyz" : Str)).cps.toList) b1 (by rw [letters_len]; omega)
  refine v_ixS (by rw [szl]; decide +kernel) hat ?_
  walk_at "go"
  refine ⟨fun i e g' => ∃ nm x, e = [some (.ref s.L), some (.ref U), some (.str "abcdefghijklmnopqrstuvwxyz"), some (.int (1 + v)), some (.str nm), x, none] ∧ NameL i (TL.tl nm) ∧ Go s g g' (m + 2 + i),
    ⟨_, _, rfl, ⟨c, [], rfl, letters_low c hc, (fun x hx => nomatch hx), Nat.zero_le _⟩, G2'⟩, fun _ _ _ _ _ => trivial, ?_, ?_⟩
  · rintro i d e g' hd ⟨nm, x, rfl, hn, G⟩
    obtain ⟨hi, rfl⟩ := ran_get hd
    walk_at "go"
    refine v_addS (by rw [szl]; decide +kernel) ?_
    walk_at "go"
    refine ⟨s, _, rfl, G.2, by omega, by omega, by omega, fun v3 g3 c1 c2 G3 => ?_⟩
    walk_at "go"
    obtain ⟨c3, hc3, hat3⟩ := atI_ex (xs := (("abcdefghijklmnopqrstuvwxyz" : Str) ++ ("0123456789" : Str)).cps.toList) c1 (by rw [alnum_len]; omega)
    refine v_ixS (by rw [szl]; decide +kernel) hat3 ?_
    refine v_addS (len2_le (n := 100) (by have := hn.len; rw [tl_one, List.length_singleton]; omega) (by omega)) ?_
    walk_at "go"
    refine ⟨_, _, rfl, ?_, (G.trans G3).le (by omega)⟩
    rw [TL.tl_append]
    exact hn.app (m := 1) (fun x hx => by rw [List.mem_singleton.mp hx]; exact alnum_ok c3 hc3) (Nat.le_refl _)
  · rintro e g3 ⟨nm, x, rfl, hn, G3⟩
    rw [ran_len] at hn G3
    have hn4 : NameL 4 (TL.tl nm) := hn.mono (by omega)
    walk_at "go"
    refine v_lenL (G3.get nU hU) ?_
    walk_at "go"
    rw [List.length_map]
    refine x_ra1 (by omega) (by omega) ?_
    refine ⟨fun i e g' => ∃ x y, e = [some (.ref s.L), some (.ref U), some (.str "abcdefghijklmnopqrstuvwxyz"), some (.int (1 + v)), some (.str nm), x, y] ∧ (∀ j, j < i → nm ++ suf j ∈ us) ∧ Go s g g' (m + 8),
      ⟨_, _, rfl, fun j hj => absurd hj (Nat.not_lt_zero j), G3.le (by omega)⟩, fun _ _ _ _ _ => trivial, ?_, ?_⟩
    · rintro i d e g' hd ⟨x, y, rfl, hin, G⟩
      obtain ⟨hi, rfl⟩ := ran_get hd
      walk_at "go"
      refine v_str (logOk (by omega)) ?_
      walk_at "go"
      refine ⟨by rw [szl]; simp, fun p hp => ?_⟩
      walk_at "go"
      have e0 : (0 : Int) + (i : Int) = (i : Int) := Int.zero_add _
      rw [e0]
      refine v_ixL gup_same (d := .str (suf i)) ?_ ?_
      · by_cases h0 : i = 0
        · subst h0; rfl
        · have hp : (0 : Int) < (i : Int) := by omega
          rw [decide_eq_true hp]
          unfold suf
          rw [if_neg h0]
          rfl
      have hok := suf_name (nm := nm) (k := i) hn4 (by omega)
      have hz := hok.len
      rw [TL.tl_append, List.length_append] at hz
      refine v_addS (len2_le (n := 100) (by omega) (by omega)) ?_
      walk_at "go"
      have G' : Go s g (gup g' p _) (m + 8) := G.new (o := .lst [.str "", .str (Str.ofString (toString (i : Int)))]) hp
      refine v_notInLS (G'.get nU hU) ?_
      walk_at "go"
      refine iteN (fun hni => ?_) (fun hni => ?_)
      · walk_at "go"
        exact q _ _ hok hni (G'.le (by omega))
      · walk_at "go"
        refine ⟨_, _, rfl, fun j hj => ?_, G'⟩
        by_cases hji : j = i
        · subst hji; exact hni
        · exact hin j (by omega)
    · rintro e g' ⟨x, y, rfl, hin, G⟩
      rw [ran_len] at hin
      exact (suf_some (nm := nm) (us := us) fun j hj => hin j (by omega)).elim

/-- .law.names(source, many): 0 source, 1 many, 2 used, 3 k -/
abbrev N_Lnames : List Str := ["source", "many", "used", "k"]
theorem st0_Lnames (a0 a1 : D) : dstart N_Lnames [a0, a1] = [some a0, some a1, none, none] := rfl
def w_Lnames : DTS := (dSeq (dAsg (dLst dNil) (gNm 2))
  (dSeq (dFor (iRa1 (dVar 1)) (gNm 3) (dDrop (dBM "list" appD (dVar 2) (dCons (dCall sp_Lnew_name [] (dCons (dVar 0) (dCons (dVar 2) dNil))) dNil))))
  (dRet (dVar 2))))
def sp_Lnames : DSp := fun ds g Q => match ds with
  | [.ref L, .int k] => ∃ s m, s.L = L ∧ Src s g m ∧ m < 900000000000 ∧ 0 ≤ k ∧ k < 100 ∧ ∀ (us : List Str) p g', (us.length : Int) = k → us.Nodup → (∀ x ∈ us, NameOk x) → g p = none → Go s g g' (m + 1000) → g' p = some (.lst (us.map D.str)) → Q (.ref p) g'
  | _ => False
theorem len_Lnames : ∀ ds g Q, sp_Lnames ds g Q → ds.length = 2 := fun ds g Q h => by
  unfold sp_Lnames at h; split at h <;> first | rfl | exact h.elim
theorem rd_Lnames : ∀ ds g Q, sp_Lnames ds g Q → w_Lnames { nx := fun _ g => Q .non g, rt := Q } (dstart N_Lnames ds) g := fun ds g Q h => by
  unfold sp_Lnames at h; split at h
  case h_2 => exact h.elim
  obtain ⟨s, m, rfl, hS, hm, hk, hk2, q⟩ := h
  rename_i k
  rw [st0_Lnames]
  unfold w_Lnames
  walk_at "go"
  refine ⟨by rw [szl]; simp, fun p hp => ?_⟩
  walk_at "go"
  refine ⟨fun i e g' => ∃ (us : List Str) (x : Option D), e = [some (.ref s.L), some (.int k), some (.ref p), x] ∧ us.length = i ∧ us.Nodup ∧ (∀ x ∈ us, NameOk x) ∧ Go s g g' (m + 10 * i) ∧ g' p = some (.lst (us.map D.str)),
    ⟨[], _, rfl, rfl, List.nodup_nil, (fun x hx => nomatch hx), (Go.start hS).new hp, gup_same⟩, fun _ _ _ _ _ => trivial, ?_, ?_⟩
  · rintro i d e g' hd ⟨us, x, rfl, hl, hn, ho, G, hg⟩
    obtain ⟨hi, rfl⟩ := ran_get hd
    walk_at "go"
    refine v_rcvL hg ?_
    walk_at "go"
    refine ⟨s, _, us, rfl, G.2, by omega, hg, by omega, fun nm g2 h1 h2 G2 => ?_⟩
    have np : p ≠ s.L := hS.neL hp
    walk_at "go"
    refine v_app' (G2.get np hg) (by rw [szl, List.length_map]; omega) ?_
    refine ⟨us ++ [nm], _, rfl, by rw [List.length_append, hl]; rfl, ?_, fun x hx => ?_, ((G.trans G2).mut hp hS).le (by omega), ?_⟩
    · rw [List.nodup_append]
      exact ⟨hn, by simp, fun a ha b hb e => h2 (by rw [List.mem_singleton] at hb; rw [← hb, ← e]; exact ha)⟩
    · rcases List.mem_append.mp hx with hx | hx
      · exact ho x hx
      · rw [List.mem_singleton.mp hx]; exact h1
    · rw [gup_same, List.map_append]; rfl
  · rintro e g' ⟨us, x, rfl, hl, hn, ho, G, hg⟩
    rw [ran_len] at hl G
    walk_at "go"
    exact q us p g' (by omega) hn ho hp (G.le (by omega)) hg

/-- .law.row(source, size): 0 source, 1 size, 2 signs, 3 k -/
abbrev N_Lrow : List Str := ["source", "size", "signs", "k"]
theorem st0_Lrow (a0 a1 : D) : dstart N_Lrow [a0, a1] = [some a0, some a1, none, none] := rfl
def w_Lrow : DTS := (dSeq (dAsg (dC (.str "abcdefghijklmnopqrstuvwxyzABCDEFGHIJKLMNOPQRSTUVWXYZ0123456789 .,-=:;!?()'+*/")) (gNm 2))
  (dRet (dBM "str" joinD (dC (.str "")) (dCons (dLc (iRa1 (dVar 1)) 3 dYes (dOp ixD (dVar 2) (dCall sp_Ldraw [] (dCons (dVar 0) (dCons (dCB lenD (dCons (dVar 2) dNil)) dNil))))) dNil))))
def rowSigns : Str := "abcdefghijklmnopqrstuvwxyzABCDEFGHIJKLMNOPQRSTUVWXYZ0123456789 .,-=:;!?()'+*/"
theorem rowSigns_len : rowSigns.cps.toList.length = 77 := by decide +kernel
theorem rowSigns_asc : ∀ c ∈ rowSigns.cps.toList, 32 ≤ c ∧ c < 127 ∧ c ≠ 37 := by decide +kernel
def sp_Lrow : DSp := fun ds g Q => match ds with
  | [.ref L, .int k] => ∃ s m, s.L = L ∧ Src s g m ∧ m < 900000000000 ∧ 0 ≤ k ∧ k < 10000 ∧ ∀ (cs : List Nat) g', (cs.length : Int) = k → (∀ c ∈ cs, c ∈ rowSigns.cps.toList) → Go s g g' (m + 10000) → Q (.str (mk cs)) g'
  | _ => False
theorem len_Lrow : ∀ ds g Q, sp_Lrow ds g Q → ds.length = 2 := fun ds g Q h => by
  unfold sp_Lrow at h; split at h <;> first | rfl | exact h.elim
theorem rd_Lrow : ∀ ds g Q, sp_Lrow ds g Q → w_Lrow { nx := fun _ g => Q .non g, rt := Q } (dstart N_Lrow ds) g := fun ds g Q h => by
  unfold sp_Lrow at h; split at h
  case h_2 => exact h.elim
  obtain ⟨s, m, rfl, hS, hm, hk, hk2, q⟩ := h
  rename_i k
  rw [st0_Lrow]
  unfold w_Lrow
  walk_at "go"
  intro p hp
  refine ⟨fun i acc g' => ∃ cs : List Nat, acc = (ones cs).map D.str ∧ cs.length = i ∧ (∀ c ∈ cs, c ∈ rowSigns.cps.toList) ∧ Go s g g' (m + i) ∧ g' p = some (.lst acc),
    ⟨[], rfl, rfl, (fun c hc => nomatch hc), (Go.start hS).new hp, gup_same⟩, fun _ _ _ _ _ => trivial, ?_, ?_⟩
  · rintro i d acc g' hd ⟨cs, rfl, hl, hc, G, hg⟩
    obtain ⟨hi, rfl⟩ := ran_get hd
    walk_at "go"
    refine iteB (fun _ => ?_) (fun z => by cases z)
    walk_at "go"
    refine v_lenS (by rw [szl]; decide +kernel) ?_
    walk_at "go"
    refine ⟨s, _, rfl, G.2, by omega, by decide +kernel, by decide +kernel, fun v g2 a1 a2 G2 => ?_⟩
    obtain ⟨c, hcm, hat⟩ := atI_ex (xs := rowSigns.cps.toList) a1 (by rw [rowSigns_len]; exact a2)
    refine v_ixS (by rw [szl]; decide +kernel) hat ?_
    refine ⟨G2.get (hS.neL hp) hg, by rw [szl, List.length_map]; simp only [ones, List.length_map]; omega, cs ++ [c], ?_, by rw [List.length_append, hl]; rfl, fun x hx => ?_, ((G.trans G2).mut hp hS).le (by omega), gup_same⟩
    · simp [ones, mk_one]
    · rcases List.mem_append.mp hx with hx | hx
      · exact hc x hx
      · rw [List.mem_singleton.mp hx]; exact hcm
  · rintro acc g' ⟨cs, rfl, hl, hc, G, hg⟩
    rw [ran_len] at hl G
    walk_at "go"
    refine v_joinOnes hg (by omega) ?_
    exact q cs g' (by omega) hc (G.le (by omega))

/-- .law.is.int(value): 0 value -/
abbrev N_Lis_int : List Str := ["value"]
theorem st0_Lis_int (a0 : D) : dstart N_Lis_int [a0] = [some a0] := rfl
def w_Lis_int : DTS := (dRet (dAndV (dIsi "int" (dVar 0)) (dNotV (dIsi "bool" (dVar 0)))))
def isIntD : D → Bool
  | .int _ => true
  | _ => false
def norf : D → Prop
  | .ref _ => False
  | .klst _ => False
  | _ => True
def sp_Lis_int : DSp := fun ds g Q => match ds with
  | [a] => norf a ∧ Q (.bl (isIntD a)) g
  | _ => False
theorem len_Lis_int : ∀ ds g Q, sp_Lis_int ds g Q → ds.length = 1 := fun ds g Q h => by
  unfold sp_Lis_int at h; split at h <;> first | rfl | exact h.elim
theorem rd_Lis_int : ∀ ds g Q, sp_Lis_int ds g Q → w_Lis_int { nx := fun _ g => Q .non g, rt := Q } (dstart N_Lis_int ds) g := fun ds g Q h => by
  unfold sp_Lis_int at h; split at h
  case h_2 => exact h.elim
  obtain ⟨hn, q⟩ := h
  rename_i a
  rw [st0_Lis_int]
  unfold w_Lis_int
  walk_at "go"
  cases a with
  | ref _ => exact hn.elim
  | klst _ => exact hn.elim
  | int i =>
    refine ⟨_, true, rfl, by decide +kernel, ?_⟩
    walk_at "go"
    refine iteB (fun _ => ?_) (fun z => by cases z)
    walk_at "go"
    refine ⟨_, false, rfl, by decide +kernel, ?_⟩
    walk_at "go"
    exact q
  | bl b =>
    refine ⟨_, true, rfl, by decide +kernel, ?_⟩
    walk_at "go"
    refine iteB (fun _ => ?_) (fun z => by cases z)
    walk_at "go"
    refine ⟨_, true, rfl, by decide +kernel, ?_⟩
    walk_at "go"
    exact q
  | _ =>
    refine ⟨_, false, rfl, by decide +kernel, ?_⟩
    walk_at "go"
    refine iteB (fun z => by cases z) (fun _ => ?_)
    exact q

/-- .law.same(actual, due): 0 actual, 1 due, 2 k -/
abbrev N_Lsame : List Str := ["actual", "due", "k"]
theorem st0_Lsame (a0 a1 : D) : dstart N_Lsame [a0, a1] = [some a0, some a1, none] := rfl
def w_Lsame (sp : DSp) : DTS := (dSeq (dIf (dTru (dIsi "tuple" (dVar 1))) (dSeq (dIf (dOr (dNot (dTru (dIsi "tuple" (dVar 0)))) (dTest (dOp neD (dCB lenD (dCons (dVar 0) dNil)) (dCB lenD (dCons (dVar 1) dNil))))) (dRet (dC (.bl false))) dNext)
  (dSeq (dFor (iRa1 (dCB lenD (dCons (dVar 1) dNil))) (gNm 2) (dIf (dNot (dTru (dCall sp [] (dCons (dOp ixD (dVar 0) (dVar 2)) (dCons (dOp ixD (dVar 1) (dVar 2)) dNil))))) (dRet (dC (.bl false))) dNext))
  (dRet (dC (.bl true))))) dNext)
  (dSeq (dIf (dTest (dOp isND (dVar 1) (dC .non))) (dRet (dOp isND (dVar 0) (dC .non))) dNext)
  (dSeq (dIf (dTru (dIsi "bool" (dVar 1))) (dRet (dAndV (dIsi "bool" (dVar 0)) (dOp eqD (dVar 0) (dVar 1)))) dNext)
  (dSeq (dIf (dTru (dIsi "int" (dVar 1))) (dRet (dAndV (dCall sp_Lis_int [] (dCons (dVar 0) dNil)) (dOp eqD (dVar 0) (dVar 1)))) dNext)
  (dRet (dAndV (dIsi "str" (dVar 0)) (dOp eqD (dVar 0) (dVar 1))))))))
/-- data without references, at most n deep, of bounded breadth -/
def okT : Nat → D → Prop
  | _, .ref _ => False
  | _, .klst _ => False
  | 0, .tup _ => False
  | n + 1, .tup ds => ds.length ≤ 16777216 ∧ ∀ x ∈ ds, okT n x
  | _, _ => True
theorem okT_norf {n : Nat} {d : D} (h : okT n d) : norf d := by
  cases d with
  | ref _ => cases n <;> exact h.elim
  | klst _ => cases n <;> exact h.elim
  | _ => trivial
def spS (n : Nat) : DSp := fun ds g Q => match ds with
  | [a, d] => (∃ k, okT k a) ∧ okT n d ∧ ∀ b : Bool, (b = true ↔ a = d) → Q (.bl b) g
  | _ => False
def sp_same : Nat → DSp
  | 0 => fun _ _ _ => False
  | n + 1 => spS n
abbrev sp_Lsame : DSp := sp_same 13
theorem len_same (n : Nat) : ∀ ds g Q, sp_same n ds g Q → ds.length = 2 := fun ds g Q h => by
  cases n with
  | zero => exact h.elim
  | succ n =>
    have h : spS n ds g Q := h
    unfold spS at h; split at h <;> first | rfl | exact h.elim
theorem D.str_eq {a b : Str} : (b = a) ↔ (D.str b = D.str a) := ⟨fun h => by rw [h], fun h => by injection h⟩
theorem rd_same (n : Nat) : ∀ ds g Q, sp_same (n + 1) ds g Q → w_Lsame (sp_same n) { nx := fun _ g => Q .non g, rt := Q } (dstart N_Lsame ds) g := fun ds g Q h => by
  have h : spS n ds g Q := h
  unfold spS at h; split at h
  case h_2 => exact h.elim
  obtain ⟨⟨k, ha⟩, hd, q⟩ := h
  rename_i a d
  rw [st0_Lsame]
  unfold w_Lsame
  have hna := okT_norf ha
  walk_at "go"
  cases d with
  | ref _ => cases n <;> exact hd.elim
  | klst _ => cases n <;> exact hd.elim
  | tup ds =>
    refine ⟨_, true, rfl, by decide +kernel, ?_⟩
    walk_at "go"
    refine iteB (fun _ => ?_) (fun z => by cases z)
    walk_at "go"
    cases a with
    | ref _ => exact hna.elim
    | klst _ => exact hna.elim
    | tup as =>
      refine ⟨_, true, rfl, by decide +kernel, ?_⟩
      walk_at "go"
      refine iteNB (fun z => by cases z) (fun _ => ?_)
      walk_at "go"
      refine iteN (fun hl => ?_) (fun hl => ?_)
      · walk_at "go"
        refine q false ⟨(fun z => by cases z), fun z => ?_⟩
        cases z
        exact (hl rfl).elim
      have hl' : as.length = ds.length := by omega
      cases k with
      | zero => exact ha.elim
      | succ k => cases n with
        | zero => exact hd.elim
        | succ n =>
          have hbd := hd.1
          walk_at "go"
          refine ⟨fun i e g' => g' = g ∧ ∃ x, e = [some (.tup as), some (.tup ds), x] ∧ as.take i = ds.take i, ⟨rfl, _, rfl, rfl⟩, fun _ _ _ _ _ => trivial, ?_, ?_⟩
          · rintro i x e g' hx ⟨rfl, y, rfl, ht⟩
            obtain ⟨hi, rfl⟩ := ran_get hx
            have hi2 : i < ds.length := by omega
            have hi1 : i < as.length := by omega
            walk_at "go"
            refine v_ixT (atI_at (List.getElem?_eq_getElem hi1)) ?_
            walk_at "go"
            refine v_ixT (atI_at (List.getElem?_eq_getElem hi2)) ?_
            walk_at "go"
            refine ⟨⟨k, ha.2 _ (List.getElem_mem hi1)⟩, hd.2 _ (List.getElem_mem hi2), fun b hb => ?_⟩
            walk_at "go"
            refine iteNB (fun e => ?_) (fun e => ?_)
            · walk_at "go"
              refine q false ⟨(fun z => by cases z), fun z => ?_⟩
              cases z
              rw [e] at hb
              exact hb.mpr rfl
            · walk_at "go"
              refine ⟨rfl, _, rfl, ?_⟩
              rw [List.take_add_one, List.take_add_one, ht, List.getElem?_eq_getElem hi1, List.getElem?_eq_getElem hi2, hb.mp e]
          · rintro e g' ⟨rfl, y, rfl, ht⟩
            rw [ran_len] at ht
            walk_at "go"
            refine q true ⟨fun _ => ?_, fun _ => rfl⟩
            have e1 : as.take (Int.toNat (ds.length : Int)) = as := List.take_of_length_le (by omega)
            have e2 : ds.take (Int.toNat (ds.length : Int)) = ds := List.take_of_length_le (by omega)
            rw [e1, e2] at ht
            rw [ht]
    | _ =>
      refine ⟨_, false, rfl, by decide +kernel, ?_⟩
      walk_at "go"
      refine iteNB (fun _ => ?_) (fun z => by cases z)
      walk_at "go"
      exact q false ⟨fun z => (by cases z), fun z => (by cases z)⟩
  | non =>
    refine ⟨_, false, rfl, by decide +kernel, ?_⟩
    walk_at "go"
    refine iteB (fun z => by cases z) (fun _ => ?_)
    walk_at "go"
    refine iteB (fun _ => ?_) (fun z => by cases z)
    walk_at "go"
    cases a with
    | ref _ => exact hna.elim
    | klst _ => exact hna.elim
    | non => exact ⟨rfl, q _ ⟨fun _ => rfl, fun _ => rfl⟩⟩
    | _ => exact ⟨rfl, q _ ⟨fun z => (by cases z), fun z => (by cases z)⟩⟩
  | bl b =>
    refine ⟨_, false, rfl, by decide +kernel, ?_⟩
    walk_at "go"
    refine iteB (fun z => by cases z) (fun _ => ?_)
    walk_at "go"
    refine ⟨rfl, ?_⟩
    walk_at "go"
    refine iteB (fun z => by cases z) (fun _ => ?_)
    walk_at "go"
    refine ⟨_, true, rfl, by decide +kernel, ?_⟩
    walk_at "go"
    refine iteB (fun _ => ?_) (fun z => by cases z)
    walk_at "go"
    cases a with
    | ref _ => exact hna.elim
    | klst _ => exact hna.elim
    | bl a =>
      refine ⟨_, true, rfl, by decide +kernel, ?_⟩
      walk_at "go"
      refine iteB (fun _ => ?_) (fun z => by cases z)
      walk_at "go"
      refine q _ ⟨fun z => ?_, fun z => ?_⟩
      · rw [of_decide_eq_true z]
      · cases z; exact decide_eq_true rfl
    | _ =>
      refine ⟨_, false, rfl, by decide +kernel, ?_⟩
      walk_at "go"
      refine iteB (fun z => by cases z) (fun _ => ?_)
      exact q false ⟨fun z => (by cases z), fun z => (by cases z)⟩
  | int b =>
    refine ⟨_, false, rfl, by decide +kernel, ?_⟩
    walk_at "go"
    refine iteB (fun z => by cases z) (fun _ => ?_)
    walk_at "go"
    refine ⟨rfl, ?_⟩
    walk_at "go"
    refine iteB (fun z => by cases z) (fun _ => ?_)
    walk_at "go"
    refine ⟨_, false, rfl, by decide +kernel, ?_⟩
    walk_at "go"
    refine iteB (fun z => by cases z) (fun _ => ?_)
    walk_at "go"
    refine ⟨_, true, rfl, by decide +kernel, ?_⟩
    walk_at "go"
    refine iteB (fun _ => ?_) (fun z => by cases z)
    walk_at "go"
    refine ⟨hna, ?_⟩
    walk_at "go"
    cases a with
    | ref _ => exact hna.elim
    | klst _ => exact hna.elim
    | int a =>
      refine iteB (fun _ => ?_) (fun z => by cases z)
      walk_at "go"
      refine q _ ⟨fun z => ?_, fun z => ?_⟩
      · rw [of_decide_eq_true z]
      · cases z; exact decide_eq_true rfl
    | _ =>
      refine iteB (fun z => by cases z) (fun _ => ?_)
      exact q false ⟨fun z => (by cases z), fun z => (by cases z)⟩
  | str b =>
    refine ⟨_, false, rfl, by decide +kernel, ?_⟩
    walk_at "go"
    refine iteB (fun z => by cases z) (fun _ => ?_)
    walk_at "go"
    refine ⟨rfl, ?_⟩
    walk_at "go"
    refine iteB (fun z => by cases z) (fun _ => ?_)
    walk_at "go"
    refine ⟨_, false, rfl, by decide +kernel, ?_⟩
    walk_at "go"
    refine iteB (fun z => by cases z) (fun _ => ?_)
    walk_at "go"
    refine ⟨_, false, rfl, by decide +kernel, ?_⟩
    walk_at "go"
    refine iteB (fun z => by cases z) (fun _ => ?_)
    walk_at "go"
    cases a with
    | ref _ => exact hna.elim
    | klst _ => exact hna.elim
    | str a =>
      refine ⟨_, true, rfl, by decide +kernel, ?_⟩
      walk_at "go"
      refine iteB (fun _ => ?_) (fun z => by cases z)
      walk_at "go"
      refine q _ ⟨fun z => ?_, fun z => ?_⟩
      · rw [of_decide_eq_true z]
      · cases z; exact decide_eq_true rfl
    | _ =>
      refine ⟨_, false, rfl, by decide +kernel, ?_⟩
      walk_at "go"
      refine iteB (fun z => by cases z) (fun _ => ?_)
      exact q false ⟨fun z => (by cases z), fun z => (by cases z)⟩

/-- words.of(row): 0 row, 1 found, 2 word, 3 sign -/
abbrev N_words_of : List Str := ["row", "found", "word", "sign"]
theorem st0_words_of (a0 : D) : dstart N_words_of [a0] = [some a0, none, none, none] := rfl
def w_words_of : DTS := (dSeq (dAsg (dLst dNil) (gNm 1))
  (dSeq (dAsg (dC (.str "")) (gNm 2))
  (dSeq (dFor (iAny (dOp addD (dBM0 "str" lowerD (dVar 0)) (dC (.str " ")))) (gNm 3) (dIf (dOr (dTest (dOp inD (dVar 3) (dC (.str "abcdefghijklmnopqrstuvwxyz")))) (dTest (dOp inD (dVar 3) (dC (.str "0123456789"))))) (dAsg (dOp addD (dVar 2) (dVar 3)) (gNm 2)) (dSeq (dIf (dTest (dOp neD (dVar 2) (dC (.str "")))) (dDrop (dBM "list" appD (dVar 1) (dCons (dVar 2) dNil))) dNext)
  (dAsg (dC (.str "")) (gNm 2)))))
  (dRet (dCB tupF (dCons (dVar 1) dNil))))))
def sp_words_of : DSp := fun ds g Q => match ds with
  | [.str row] => (∀ c ∈ TL.tl row, c < 128) ∧ (TL.tl row).length ≤ 10000 ∧ ∀ g', Up [] g g' → Q (.tup ((wordsL (TL.tl row)).map fun w => .str (mk w))) g'
  | _ => False
theorem len_words_of : ∀ ds g Q, sp_words_of ds g Q → ds.length = 1 := fun ds g Q h => by
  unfold sp_words_of at h; split at h <;> first | rfl | exact h.elim
theorem rd_words_of : ∀ ds g Q, sp_words_of ds g Q → w_words_of { nx := fun _ g => Q .non g, rt := Q } (dstart N_words_of ds) g := fun ds g Q h => by
  unfold sp_words_of at h; split at h
  case h_2 => exact h.elim
  obtain ⟨h1, h2, q⟩ := h
  rename_i row
  obtain ⟨l, rfl⟩ : ∃ l, row = mk l := ⟨_, (mk_tl row).symm⟩
  rw [tl_mk] at h1 h2
  rw [st0_words_of]
  unfold w_words_of
  walk_at "go"
  refine ⟨by rw [szl]; simp, fun p hp => ?_⟩
  walk_at "go"
  refine s_anyS ?_
  walk_at "go"
  refine v_lowerM h1 (by omega) ?_
  walk_at "go"
  refine v_addS (len2_le (n := 20000) (by rw [tl_mk, List.length_map]; have : (TL.tl (" " : Str)).length = 1 := by decide +kernel
                                          omega) (by omega)) ?_
  have e1 : (mk (l.map PyProof.Rows.lo1) ++ (" " : Str)) = mk (l.map PyProof.Rows.lo1 ++ [32]) := TL.ext_tl (by
    rw [TL.tl_append, tl_mk, tl_mk]
    have : TL.tl (" " : Str) = [32] := by decide +kernel
    rw [this])
  rw [e1]
  walk_at "go"
  have hlen : (l.map PyProof.Rows.lo1 ++ [32]).length ≤ 10001 := by simp; omega
  generalize hL : l.map PyProof.Rows.lo1 ++ [32] = L at hlen
  refine fold_iv L (fun c => .str (mk [c])) rfl (fun st e g' => ∃ x, e = [some (.str (mk l)), some (.ref p), some (.str (mk st.2)), x] ∧ Up [] g g' ∧ g' p = some (.lst (st.1.map fun w => .str (mk w)))) wst ([], [])
    ⟨_, rfl, .new hp, gup_same⟩ (fun _ _ _ _ => trivial) ?_ ?_
  · rintro done c rest st e g' hs hst ⟨x, rfl, U, hg⟩
    have hl2 : st.1.length + st.2.length ≤ 10001 := by
      have := fold_len wst wst_len done ([], [])
      have h2 := congrArg List.length hs
      rw [← hst] at this
      simp at this h2
      omega
    have add : (low c ∨ dig c) → dAsg (dOp addD (dVar 2) (dVar 3)) (gNm 2) { nx := fun e g' => ∃ x, e = [some (.str (mk l)), some (.ref p), some (.str (mk (wst st c).2)), x] ∧ Up [] g g' ∧ g' p = some (.lst ((wst st c).1.map fun w => .str (mk w))), rt := Q, bk := dRet (dCB tupF (dCons (dVar 1) dNil)) { nx := fun _ g => Q .non g, rt := Q }, ct := fun e g' => ∃ x, e = [some (.str (mk l)), some (.ref p), some (.str (mk (wst st c).2)), x] ∧ Up [] g g' ∧ g' p = some (.lst ((wst st c).1.map fun w => .str (mk w))) } [some (.str (mk l)), some (.ref p), some (.str (mk st.2)), some (.str (mk [c]))] g' := fun h => by
      walk_at "go"
      refine v_addM (by simp; omega) ?_
      walk_at "go"
      unfold wst
      rw [if_pos h]
      exact ⟨_, rfl, U, hg⟩
    walk_at "go"
    refine v_in1' ?_
    walk_at "go"
    refine iteD (fun h => ?_) (fun h => ?_)
    · refine iteB (fun _ => ?_) (fun z => (by cases z))
      exact add (.inl (lower_c.mp h))
    · walk_at "go"
      refine v_in1' ?_
      walk_at "go"
      refine iteD (fun h2 => ?_) (fun h2 => ?_)
      · exact add (.inr (digit_c.mp h2))
      · have hn : ¬ (low c ∨ dig c) := fun z => z.elim (fun z => h (lower_c.mpr z)) (fun z => h2 (digit_c.mpr z))
        walk_at "go"
        rw [empty_mk]
        refine iteN (fun h3 => ?_) (fun h3 => ?_)
        · walk_at "go"
          refine v_rcvL hg ?_
          walk_at "go"
          refine v_app' hg (by rw [szl, List.length_map]; omega) ?_
          walk_at "go"
          unfold wst
          rw [if_neg hn, if_neg (fun z => h3 (by rw [z]))]
          exact ⟨_, rfl, U.mut hp, by rw [gup_same, List.map_append]; rfl⟩
        · walk_at "go"
          unfold wst
          rw [if_neg hn, if_pos (mk_inj h3)]
          exact ⟨_, rfl, U, hg⟩
  · rintro e g' ⟨x, rfl, U, hg⟩
    walk_at "go"
    have := q g' U
    rw [tl_mk] at this
    unfold wordsL at this
    rw [hL] at this
    exact this

/-- .law.due(row): 0 row, 1 found, 2 word, 3 sign -/
abbrev N_Ldue : List Str := ["row", "found", "word", "sign"]
theorem st0_Ldue (a0 : D) : dstart N_Ldue [a0] = [some a0, none, none, none] := rfl
def w_Ldue : DTS := (dSeq (dAsg (dLst dNil) (gNm 1))
  (dSeq (dAsg (dC (.str "")) (gNm 2))
  (dSeq (dFor (iAny (dOp addD (dVar 0) (dC (.str ".")))) (gNm 3) (dIf (dTest (dOp inD (dVar 3) (dC (.str "abcdefghijklmnopqrstuvwxyz0123456789")))) (dAsg (dOp addD (dVar 2) (dVar 3)) (gNm 2)) (dIf (dTest (dOp inD (dVar 3) (dC (.str "ABCDEFGHIJKLMNOPQRSTUVWXYZ")))) (dAsg (dOp addD (dVar 2) (dOp ixD (dC (.str "abcdefghijklmnopqrstuvwxyz")) (dBM "str" indexD (dC (.str "ABCDEFGHIJKLMNOPQRSTUVWXYZ")) (dCons (dVar 3) dNil)))) (gNm 2)) (dSeq (dIf (dTest (dOp neD (dVar 2) (dC (.str "")))) (dDrop (dBM "list" appD (dVar 1) (dCons (dVar 2) dNil))) dNext)
  (dAsg (dC (.str "")) (gNm 2))))))
  (dRet (dCB tupF (dCons (dVar 1) dNil))))))
def sp_Ldue : DSp := fun ds g Q => match ds with
  | [.str row] => (TL.tl row).length ≤ 10000 ∧ ∀ g', Up [] g g' → Q (.tup ((dueL (TL.tl row)).map fun w => .str (mk w))) g'
  | _ => False
theorem len_Ldue : ∀ ds g Q, sp_Ldue ds g Q → ds.length = 1 := fun ds g Q h => by
  unfold sp_Ldue at h; split at h <;> first | rfl | exact h.elim
theorem rd_Ldue : ∀ ds g Q, sp_Ldue ds g Q → w_Ldue { nx := fun _ g => Q .non g, rt := Q } (dstart N_Ldue ds) g := fun ds g Q h => by
  unfold sp_Ldue at h; split at h
  case h_2 => exact h.elim
  obtain ⟨h2, q⟩ := h
  rename_i row
  obtain ⟨l, rfl⟩ : ∃ l, row = mk l := ⟨_, (mk_tl row).symm⟩
  rw [tl_mk] at h2
  rw [st0_Ldue]
  unfold w_Ldue
  walk_at "go"
  refine ⟨by rw [szl]; simp, fun p hp => ?_⟩
  walk_at "go"
  refine s_anyS ?_
  walk_at "go"
  have e0 : (("." : Str)) = mk [46] := by decide +kernel
  rw [e0]
  refine v_addM (by simp; omega) ?_
  walk_at "go"
  have hlen : (l ++ [46]).length ≤ 10001 := by simp; omega
  generalize hL : l ++ [46] = L at hlen
  refine fold_iv L (fun c => .str (mk [c])) rfl (fun st e g' => ∃ x, e = [some (.str (mk l)), some (.ref p), some (.str (mk st.2)), x] ∧ Up [] g g' ∧ g' p = some (.lst (st.1.map fun w => .str (mk w)))) dst ([], [])
    ⟨_, by rw [empty_mk]; rfl, .new hp, gup_same⟩ (fun _ _ _ _ => trivial) ?_ ?_
  · rintro done c rest st e g' hs hst ⟨x, rfl, U, hg⟩
    have hl2 : st.1.length + st.2.length ≤ 10001 := by
      have := fold_len dst dst_len done ([], [])
      have h2 := congrArg List.length hs
      rw [← hst] at this
      simp at this h2
      omega
    walk_at "go"
    refine v_in1' ?_
    walk_at "go"
    refine iteD (fun h => ?_) (fun h => ?_)
    · walk_at "go"
      refine v_addM (by simp; omega) ?_
      walk_at "go"
      unfold dst
      rw [if_pos (alnum_c.mp h)]
      exact ⟨_, rfl, U, hg⟩
    have hn : ¬ (low c ∨ dig c) := fun z => h (alnum_c.mpr z)
    walk_at "go"
    refine v_in1' ?_
    walk_at "go"
    refine iteD (fun h1 => ?_) (fun h1 => ?_)
    · have hu := upper_c.mp h1
      walk_at "go"
      refine ⟨_, _, upper_occ c (by omega) hu.1, ?_⟩
      refine v_ixS (by rw [szl]; decide +kernel) (lower_at c (by omega) hu.1) ?_
      refine v_addM (a := st.2) (b := [c + 32]) (by simp; omega) ?_
      walk_at "go"
      unfold dst
      rw [if_neg hn, if_pos hu]
      exact ⟨_, rfl, U, hg⟩
    · have hu : ¬ (65 ≤ c ∧ c ≤ 90) := fun z => h1 (upper_c.mpr z)
      walk_at "go"
      rw [empty_mk]
      refine iteN (fun h3 => ?_) (fun h3 => ?_)
      · walk_at "go"
        refine v_rcvL hg ?_
        walk_at "go"
        refine v_app' hg (by rw [szl, List.length_map]; omega) ?_
        walk_at "go"
        unfold dst
        rw [if_neg hn, if_neg hu, if_neg (fun z => h3 (by rw [z]))]
        exact ⟨_, rfl, U.mut hp, by rw [gup_same, List.map_append]; rfl⟩
      · walk_at "go"
        unfold dst
        rw [if_neg hn, if_neg hu, if_pos (mk_inj h3)]
        exact ⟨_, rfl, U, hg⟩
  · rintro e g' ⟨x, rfl, U, hg⟩
    walk_at "go"
    have := q g' U
    rw [tl_mk] at this
    unfold dueL at this
    rw [hL] at this
    exact this

/-- law(script): 0 script, 1 source, 2 rows, 3 names, 4 text, 5 k, 6 row, 7 word -/
abbrev N_law : List Str := ["script", "source", "rows", "names", "text", "k", "row", "word"]
theorem st0_law (a0 : D) : dstart N_law [a0] = [some a0, none, none, none, none, none, none, none] := rfl
def w_law : DTS := (dSeq (dAsg (dCall sp_Lsource [] (dCons (dVar 0) dNil)) (gNm 1))
  (dSeq (dAsg (dLst (dCons (dC (.str "")) (dCons (dC (.str " ")) (dCons (dCall sp_Lrow [] (dCons (dVar 1) (dCons (dCall sp_Ldraw [] (dCons (dVar 1) (dCons (dC (.int 40)) dNil))) dNil))) dNil)))) (gNm 2))
  (dSeq (dAsg (dCall sp_Lnames [] (dCons (dVar 1) (dCons (dC (.int 3)) dNil))) (gNm 3))
  (dSeq (dAsg (dC (.str "")) (gNm 4))
  (dSeq (dFor (iRa1 (dCall sp_Ldraw [] (dCons (dVar 1) (dCons (dC (.int 6)) dNil)))) (gNm 5) (dSeq (dAsg (dOp ixD (dVar 3) (dCall sp_Ldraw [] (dCons (dVar 1) (dCons (dC (.int 3)) dNil)))) (gNm 7))
  (dSeq (dIf (dTest (dOp eqD (dCall sp_Ldraw [] (dCons (dVar 1) (dCons (dC (.int 2)) dNil))) (dC (.int 1)))) (dAsg (dBM0 "str" upperD (dVar 7)) (gNm 7)) dNext)
  (dAsg (dOp addD (dOp addD (dVar 4) (dOp ixD (dLst (dCons (dC (.str "")) (dCons (dC (.str " ")) (dCons (dC (.str "  ")) (dCons (dC (.str "-")) (dCons (dC (.str ", ")) (dCons (dC (.str "'")) (dCons (dC (.str "A")) (dCons (dC (.str "7")) dNil))))))))) (dCall sp_Ldraw [] (dCons (dVar 1) (dCons (dC (.int 8)) dNil))))) (dVar 7)) (gNm 4)))))
  (dSeq (dDrop (dBM "list" appD (dVar 2) (dCons (dVar 4) dNil)))
  (dSeq (dDrop (dBM "list" appD (dVar 2) (dCons (dOp addD (dVar 4) (dOp ixD (dLst (dCons (dC (.str " ")) (dCons (dC (.str ".")) (dCons (dC (.str "")) (dCons (dC (.str "Z")) dNil))))) (dCall sp_Ldraw [] (dCons (dVar 1) (dCons (dC (.int 4)) dNil))))) dNil)))
  (dSeq (dFor (iAny (dVar 2)) (gNm 6) (dIf (dNot (dTru (dCall sp_Lsame [] (dCons (dCall sp_words_of [] (dCons (dVar 6) dNil)) (dCons (dCall sp_Ldue [] (dCons (dVar 6) dNil)) dNil))))) (dRet (dC (.bl false))) dNext))
  (dRet (dC (.bl true)))))))))))
def sp_law : DSp := fun ds g Q => match ds with
  | [.klst xs] => ∃ ns : List Int, xs = ns.map D.int ∧ ns.length ≤ 63 ∧ ∀ g', Q (.bl true) g'
  | _ => False
theorem len_law : ∀ ds g Q, sp_law ds g Q → ds.length = 1 := fun ds g Q h => by
  unfold sp_law at h; split at h <;> first | rfl | exact h.elim
theorem fin (K : PySem.W.Frag) (H : L2.Hp) (a : Addr) (ns : List Int) (hn : ns.length ≤ 63) (hO : L2.Only H) (hS : L2.SqL K H a (ns.map L2.V.int)) : lSp K sp_law [.ref a] H (fun v _ => v = .bl true) fun _ _ _ => False :=
  fin_of (sp := sp_law) (fun ns g hn _ => ⟨ns, rfl, hn, fun _ => rfl⟩) K H a ns hn hO hS
/-- a row that is told -/
def RowOk (s : Str) : Prop := (∀ c ∈ TL.tl s, c < 128) ∧ (TL.tl s).length ≤ 10000
theorem glue_ok : ∀ s ∈ ([("" : Str), " ", "  ", "-", ", ", "'", "A", "7"] : List Str), (∀ c ∈ TL.tl s, c < 128) ∧ (TL.tl s).length ≤ 10 := by decide +kernel
theorem tail_ok : ∀ s ∈ ([(" " : Str), ".", "", "Z"] : List Str), (∀ c ∈ TL.tl s, c < 128) ∧ (TL.tl s).length ≤ 10 := by decide +kernel
theorem rows_ok {cs t : List Nat} {e : Str} (h1 : ∀ c ∈ cs, c ∈ rowSigns.cps.toList) (h2 : cs.length ≤ 1000) (h3 : (∀ c ∈ t, c < 128) ∧ t.length ≤ 1000) (h4 : (∀ c ∈ TL.tl e, c < 128) ∧ (TL.tl e).length ≤ 10) :
    ∀ s ∈ ([("" : Str), " ", mk cs, mk t, mk t ++ e] : List Str), RowOk s := by
  intro s hs
  simp only [List.mem_cons, List.mem_nil_iff, or_false] at hs
  rcases hs with rfl | rfl | rfl | rfl | rfl
  · exact ⟨by decide +kernel, by decide +kernel⟩
  · exact ⟨by decide +kernel, by decide +kernel⟩
  · exact ⟨fun c hc => by have := rowSigns_asc c (h1 c hc); omega, by rw [tl_mk]; omega⟩
  · exact ⟨h3.1, by rw [tl_mk]; omega⟩
  · refine ⟨fun c hc => ?_, ?_⟩
    · rw [TL.tl_append] at hc
      rcases List.mem_append.mp hc with hc | hc
      · exact h3.1 c hc
      · exact h4.1 c hc
    · rw [TL.tl_append, List.length_append, tl_mk]; omega
theorem okT_strs (n : Nat) (ws : List (List Nat)) (h : ws.length ≤ 16777216) : okT (n + 1) (.tup (ws.map fun w => .str (mk w))) := by
  refine ⟨by rw [List.length_map]; exact h, fun x hx => ?_⟩
  obtain ⟨w, _, rfl⟩ := List.mem_map.mp hx
  cases n <;> trivial
theorem rd_law : ∀ ds g Q, sp_law ds g Q → w_law { nx := fun _ g => Q .non g, rt := Q } (dstart N_law ds) g := fun ds g Q h => by
  unfold sp_law at h; split at h
  case h_2 => exact h.elim
  obtain ⟨ns, rfl, hn, q⟩ := h
  rw [st0_law]
  unfold w_law
  walk_at "go"
  refine ⟨ns, rfl, hn, fun s g1 _ U1 S1 _ _ => ?_⟩
  walk_at "go"
  refine ⟨s, _, rfl, S1, by omega, by omega, by omega, fun v g2 a1 a2 G2 => ?_⟩
  walk_at "go"
  refine ⟨s, _, rfl, G2.2, by omega, by omega, by omega, fun cs g3 b1 b2 G3 => ?_⟩
  walk_at "go"
  refine ⟨by rw [szl]; simp, fun R hR => ?_⟩
  walk_at "go"
  have S4 : Src s (gup g3 R (.lst [.str "", .str " ", .str (mk cs)])) (0 + 1 + 10000) := G3.2.up (.new hR)
  have nR : R ≠ s.L := G3.2.neL hR
  refine ⟨s, _, rfl, S4, by omega, by omega, by omega, fun us N g5 c1 c2 c3 hN G5 h5 => ?_⟩
  have nN : N ≠ s.L := S4.neL hN
  have hR5 := G5.get nR gup_same
  have nRN : R ≠ N := fun z => by rw [← z, gup_same] at hN; cases hN
  walk_at "go"
  refine ⟨s, _, rfl, G5.2, by omega, by omega, by omega, fun v6 g6 d1 d2 G6 => ?_⟩
  have hR6 := G6.get nR hR5
  have hN6 := G6.get nN h5
  walk_at "go"
  refine ⟨fun i e g' => ∃ t : List Nat, ∃ x y z, e = [some (.klst (ns.map D.int)), some (.ref s.L), some (.ref R), some (.ref N), some (.str (mk t)), x, y, z] ∧ (∀ c ∈ t, c < 128) ∧ t.length ≤ 20 * i ∧ Go s g6 g' (20000 + 10 * i),
    ⟨[], _, _, _, by rw [empty_mk]; rfl, (fun c hc => (nomatch hc)), by simp, .start (G6.2.le (by omega))⟩, fun _ _ _ _ _ => trivial, ?_, ?_⟩
  · rintro i d e g' hd ⟨t, x, y, z, rfl, e1, e2, G⟩
    obtain ⟨hi, rfl⟩ := ran_get hd
    walk_at "go"
    refine ⟨s, _, rfl, G.2, by omega, by omega, by omega, fun v7 g7 f1 f2 G7 => ?_⟩
    have G7' := G.trans G7
    obtain ⟨nm, hnm, hat⟩ := atI_ex (xs := us) f1 (by omega)
    refine v_ixL (G7'.get nN hN6) (atI_map hat) ?_
    have hnm := c3 nm hnm
    refine s_nm ?_
    refine s_cut (fun e g' => ∃ w : List Nat, ∃ x y, e = [some (.klst (ns.map D.int)), some (.ref s.L), some (.ref R), some (.ref N), some (.str (mk t)), x, y, some (.str (mk w))] ∧ (∀ c ∈ w, c < 128) ∧ w.length ≤ 8 ∧ Go s g6 g' (20000 + 10 * i + 3)) ?_ ?_
    · have hw1 : ∀ c ∈ TL.tl nm, c < 128 := fun c hc => by rcases hnm.all c hc with ⟨h1, h2⟩ | ⟨h1, h2⟩ <;> omega
      have hw2 : (TL.tl nm).length ≤ 8 := by have := hnm.len; omega
      walk_at "go"
      refine ⟨s, _, rfl, G7.2, by omega, by omega, by omega, fun v8 g8 _ _ G8 => ?_⟩
      walk_at "go"
      refine iteD (fun _ => ?_) (fun _ => ?_)
      · walk_at "go"
        rw [← mk_tl nm]
        refine v_upperM hw1 (by omega) ?_
        walk_at "go"
        refine ⟨_, _, _, rfl, fun c hc => ?_, by rw [List.length_map]; exact hw2, (G7'.trans G8).le (by omega)⟩
        obtain ⟨c', hc', rfl⟩ := List.mem_map.mp hc
        have := hw1 c' hc'
        unfold PyProof.Rows.up1
        split <;> omega
      · walk_at "go"
        exact ⟨TL.tl nm, _, _, by rw [mk_tl]; rfl, hw1, hw2, (G7'.trans G8).le (by omega)⟩
    · rintro e g' ⟨w, x, y, rfl, w1, w2, G9⟩
      walk_at "go"
      refine ⟨by rw [szl]; simp, fun P hP => ?_⟩
      have SP : Src s (gup g' P (.lst ([("" : Str), " ", "  ", "-", ", ", "'", "A", "7"].map D.str))) _ := G9.2.up (.new hP)
      walk_at "go"
      refine ⟨s, _, rfl, SP, by omega, by omega, by omega, fun v10 g10 k1 k2 G10 => ?_⟩
      have nP : P ≠ s.L := G9.2.neL hP
      obtain ⟨gl, hgl, hat2⟩ := atI_ex (xs := ([("" : Str), " ", "  ", "-", ", ", "'", "A", "7"] : List Str)) k1 (by simp; omega)
      have hgl := glue_ok gl hgl
      refine v_ixL (G10.get nP gup_same) (atI_map hat2) ?_
      rw [← mk_tl gl]
      refine v_addM (by omega) ?_
      walk_at "go"
      refine v_addM (by rw [List.length_append]; omega) ?_
      walk_at "go"
      refine ⟨_, _, _, _, rfl, fun c hc => ?_, by rw [List.length_append, List.length_append]; omega, ((G9.new hP).trans G10).le (by omega)⟩
      rcases List.mem_append.mp hc with hc | hc
      · rcases List.mem_append.mp hc with hc | hc
        · exact e1 c hc
        · exact hgl.1 c hc
      · exact w1 c hc
  · rintro e g' ⟨t, x, y, z, rfl, e1, e2, G⟩
    rw [ran_len] at e2 G
    walk_at "go"
    have hR7 := G.get nR hR6
    refine v_rcvL hR7 ?_
    walk_at "go"
    refine v_app' hR7 (by rw [szl]; simp) ?_
    walk_at "go"
    refine v_rcvL gup_same ?_
    walk_at "go"
    refine ⟨by rw [szl]; simp, fun P hP => ?_⟩
    have nR0 : R ≠ s.L0 := G3.2.neL0 hR
    have SA : Src s (gup g' R (.lst ([.str "", .str " ", .str (mk cs)] ++ [.str (mk t)]))) _ := G.2.mut nR nR0
    have nP : P ≠ s.L := SA.neL hP
    have nPR : R ≠ P := fun z => by rw [← z, gup_same] at hP; cases hP
    have SP : Src s (gup (gup g' R (.lst ([.str "", .str " ", .str (mk cs)] ++ [.str (mk t)]))) P (.lst ([(" " : Str), ".", "", "Z"].map D.str))) _ := SA.up (.new hP)
    walk_at "go"
    refine ⟨s, _, rfl, SP, by omega, by omega, by omega, fun v11 g11 l1 l2 G11 => ?_⟩
    obtain ⟨en, hen, hat3⟩ := atI_ex (xs := ([(" " : Str), ".", "", "Z"] : List Str)) l1 (by simp; omega)
    have hen := tail_ok en hen
    refine v_ixL (G11.get nP gup_same) (atI_map hat3) ?_
    have hR11 : g11 R = some (.lst ([.str "", .str " ", .str (mk cs)] ++ [.str (mk t)])) := G11.get nR (by rw [gup_ne nPR]; exact gup_same)
    refine v_addS (len2_le (n := 2000) (by rw [tl_mk]; omega) (by omega)) ?_
    walk_at "go"
    refine v_app' hR11 (by rw [szl]; simp) ?_
    walk_at "go"
    refine s_anyL ?_
    walk_at "go"
    have hrows := rows_ok (e := en) b2 (by omega) ⟨e1, by omega⟩ hen
    have eR : ([D.str "", .str " ", .str (mk cs)] ++ [.str (mk t)]) ++ [.str (mk t ++ en)] = ([("" : Str), " ", mk cs, mk t, mk t ++ en] : List Str).map D.str := rfl
    rw [eR]
    generalize ([("" : Str), " ", mk cs, mk t, mk t ++ en] : List Str) = rows at hrows ⊢
    refine x_lst gup_same ?_
    refine ⟨fun i e g' => ∃ x y z, e = [some (.klst (ns.map D.int)), some (.ref s.L), some (.ref R), some (.ref N), some (.str (mk t)), x, y, z] ∧ g' R = some (.lst (rows.map D.str)),
      ⟨_, _, _, rfl, gup_same⟩, fun i e g' _ h => ?_, ?_, ?_⟩
    · obtain ⟨_, _, _, _, h⟩ := h
      exact .inl h
    · rintro i d e g' hd ⟨x, y, z, rfl, hg⟩
      rw [List.getElem?_map] at hd
      cases hrow : rows[i]? with
      | none => rw [hrow] at hd; cases hd
      | some row =>
        rw [hrow] at hd
        cases hd
        have hok := hrows row (List.mem_of_getElem? hrow)
        walk_at "go"
        refine ⟨hok.1, hok.2, fun g12 U12 => ?_⟩
        walk_at "go"
        refine ⟨hok.2, fun g13 U13 => ?_⟩
        have wl : (wordsL (TL.tl row)).length ≤ 16777216 := by
          have := fold_len wst wst_len ((TL.tl row).map PyProof.Rows.lo1 ++ [32]) ([], [])
          simp only [List.length_append, List.length_map, List.length_cons, List.length_nil] at this
          unfold wordsL
          have := hok.2
          omega
        refine ⟨⟨1, okT_strs 0 _ wl⟩, by rw [← words_due]; exact okT_strs 11 _ wl, fun b hb => ?_⟩
        have hb : b = true := hb.mpr (by rw [words_due])
        subst hb
        walk_at "go"
        refine iteNB (fun z => by cases z) (fun _ => ?_)
        walk_at "go"
        exact ⟨_, _, _, rfl, U13.get0 (U12.get0 hg)⟩
    · rintro e g' ⟨x, y, z, rfl, hg⟩
      walk_at "go"
      exact q _

open PySem PySem.Spec PyProof.Rows L2 DL
def topS (i : Nat) : Stmt := PySem.Challenge.pw_criermoot_k02_words.main.body.getD i (.Pass ⟨0, 0, 0, 0⟩)
abbrev s_Lmix : Stmt := topS 5
theorem sc_Lmix : FnScope N_Lmix ["seed", "turn"] (defScope s_Lmix) := ⟨rfl, rfl, rfl, by decide +kernel, rfl, by decide +kernel, by decide +kernel⟩
abbrev s_Lsource : Stmt := topS 6
theorem sc_Lsource : FnScope N_Lsource ["script"] (defScope s_Lsource) := ⟨rfl, rfl, rfl, by decide +kernel, rfl, by decide +kernel, by decide +kernel⟩
abbrev s_Ldraw : Stmt := topS 7
theorem sc_Ldraw : FnScope N_Ldraw ["source", "many"] (defScope s_Ldraw) := ⟨rfl, rfl, rfl, by decide +kernel, rfl, by decide +kernel, by decide +kernel⟩
abbrev s_Lnew_name : Stmt := topS 8
theorem sc_Lnew_name : FnScope N_Lnew_name ["source", "used"] (defScope s_Lnew_name) := ⟨rfl, rfl, rfl, by decide +kernel, rfl, by decide +kernel, by decide +kernel⟩
abbrev s_Lnames : Stmt := topS 9
theorem sc_Lnames : FnScope N_Lnames ["source", "many"] (defScope s_Lnames) := ⟨rfl, rfl, rfl, by decide +kernel, rfl, by decide +kernel, by decide +kernel⟩
abbrev s_Lrow : Stmt := topS 10
theorem sc_Lrow : FnScope N_Lrow ["source", "size"] (defScope s_Lrow) := ⟨rfl, rfl, rfl, by decide +kernel, rfl, by decide +kernel, by decide +kernel⟩
abbrev s_Lis_int : Stmt := topS 11
theorem sc_Lis_int : FnScope N_Lis_int ["value"] (defScope s_Lis_int) := ⟨rfl, rfl, rfl, by decide +kernel, rfl, by decide +kernel, by decide +kernel⟩
abbrev s_Lsame : Stmt := topS 12
theorem sc_Lsame : FnScope N_Lsame ["actual", "due"] (defScope s_Lsame) := ⟨rfl, rfl, rfl, by decide +kernel, rfl, by decide +kernel, by decide +kernel⟩
abbrev s_words_of : Stmt := topS 3
theorem sc_words_of : FnScope N_words_of ["row"] (defScope s_words_of) := ⟨rfl, rfl, rfl, by decide +kernel, rfl, by decide +kernel, by decide +kernel⟩
abbrev s_Ldue : Stmt := topS 13
theorem sc_Ldue : FnScope N_Ldue ["row"] (defScope s_Ldue) := ⟨rfl, rfl, rfl, by decide +kernel, rfl, by decide +kernel, by decide +kernel⟩
abbrev s_law : Stmt := topS 14
theorem sc_law : FnScope N_law ["script"] (defScope s_law) := ⟨rfl, rfl, rfl, by decide +kernel, rfl, by decide +kernel, by decide +kernel⟩
structure Fx (K : PySem.W.Frag) (mg : Str → Option Value) where
  a_Lmix : Addr
  d_Lmix : FuncData
  F_Lmix : Fun K "_law_mix" "_law_mix" s_Lmix a_Lmix d_Lmix
  g_Lmix : mg "_law_mix" = some (.ref a_Lmix)
  b_Lmix : Binds K d_Lmix ["seed", "turn"] []
  a_Lsource : Addr
  d_Lsource : FuncData
  F_Lsource : Fun K "_law_source" "_law_source" s_Lsource a_Lsource d_Lsource
  g_Lsource : mg "_law_source" = some (.ref a_Lsource)
  b_Lsource : Binds K d_Lsource ["script"] []
  a_Ldraw : Addr
  d_Ldraw : FuncData
  F_Ldraw : Fun K "_law_draw" "_law_draw" s_Ldraw a_Ldraw d_Ldraw
  g_Ldraw : mg "_law_draw" = some (.ref a_Ldraw)
  b_Ldraw : Binds K d_Ldraw ["source", "many"] []
  a_Lnew_name : Addr
  d_Lnew_name : FuncData
  F_Lnew_name : Fun K "_law_new_name" "_law_new_name" s_Lnew_name a_Lnew_name d_Lnew_name
  g_Lnew_name : mg "_law_new_name" = some (.ref a_Lnew_name)
  b_Lnew_name : Binds K d_Lnew_name ["source", "used"] []
  a_Lnames : Addr
  d_Lnames : FuncData
  F_Lnames : Fun K "_law_names" "_law_names" s_Lnames a_Lnames d_Lnames
  g_Lnames : mg "_law_names" = some (.ref a_Lnames)
  b_Lnames : Binds K d_Lnames ["source", "many"] []
  a_Lrow : Addr
  d_Lrow : FuncData
  F_Lrow : Fun K "_law_row" "_law_row" s_Lrow a_Lrow d_Lrow
  g_Lrow : mg "_law_row" = some (.ref a_Lrow)
  b_Lrow : Binds K d_Lrow ["source", "size"] []
  a_Lis_int : Addr
  d_Lis_int : FuncData
  F_Lis_int : Fun K "_law_is_int" "_law_is_int" s_Lis_int a_Lis_int d_Lis_int
  g_Lis_int : mg "_law_is_int" = some (.ref a_Lis_int)
  b_Lis_int : Binds K d_Lis_int ["value"] []
  a_Lsame : Addr
  d_Lsame : FuncData
  F_Lsame : Fun K "_law_same" "_law_same" s_Lsame a_Lsame d_Lsame
  g_Lsame : mg "_law_same" = some (.ref a_Lsame)
  b_Lsame : Binds K d_Lsame ["actual", "due"] []
  a_words_of : Addr
  d_words_of : FuncData
  F_words_of : Fun K "words_of" "words_of" s_words_of a_words_of d_words_of
  g_words_of : mg "words_of" = some (.ref a_words_of)
  b_words_of : Binds K d_words_of ["row"] []
  a_Ldue : Addr
  d_Ldue : FuncData
  F_Ldue : Fun K "_law_due" "_law_due" s_Ldue a_Ldue d_Ldue
  g_Ldue : mg "_law_due" = some (.ref a_Ldue)
  b_Ldue : Binds K d_Ldue ["row"] []
  a_law : Addr
  d_law : FuncData
  F_law : Fun K "law" "law" s_law a_law d_law
  g_law : mg "law" = some (.ref a_law)
  b_law : Binds K d_law ["script"] []
  m_abs : mg "abs" = none
  m_bool : mg "bool" = none
  m_int : mg "int" = none
  m_isinstance : mg "isinstance" = none
  m_len : mg "len" = none
  m_list : mg "list" = none
  m_range : mg "range" = none
  m_str : mg "str" = none
  m_tuple : mg "tuple" = none
  t_DIGITS : Tok
  c_DIGITS : mg "DIGITS" = some (.str "0123456789" t_DIGITS)
  t_LETTERS : Tok
  c_LETTERS : mg "LETTERS" = some (.str "abcdefghijklmnopqrstuvwxyz" t_LETTERS)
section
variable {P : Program} {w : World} {K : PySem.W.Frag} {mg : Str → Option Value} {base : Heap}
theorem ok_Lmix (T : Fx K mg) : FnOk P w K mg base CX0 1 T.a_Lmix T.d_Lmix ["seed", "turn"] (lSp K sp_Lmix) :=
  okD T.F_Lmix sc_Lmix len_Lmix rd_Lmix fun cdv A outer s H E hr =>
    (dss_cons (ds_set (i := 2) (fun _ h => ps_set sc_Lmix.nd rfl (by first | exact .inl rfl | exact .inr rfl) h) (de_op op_modD (de_callTy call_intF (by rfl) T.m_int (by decide +kernel) (da_cons (de_op op_addD (de_op op_addD (de_op op_mulD (de_var (pv 0)) de_int) (de_op op_mulD (de_var (pv 1)) de_int)) de_int) da_nil)) de_int))
    (dss_cons (ds_set (i := 2) (fun _ h => ps_set sc_Lmix.nd rfl (by first | exact .inl rfl | exact .inr rfl) h) (de_op op_modD (de_callTy call_intF (by rfl) T.m_int (by decide +kernel) (da_cons (de_op op_addD (de_op op_addD (de_op op_mulD (de_var (pv 2)) (de_var (pv 2))) (de_op op_mulD (de_var (pv 1)) de_int)) de_int) da_nil)) de_int))
    (dss_cons (ds_set (i := 2) (fun _ h => ps_set sc_Lmix.nd rfl (by first | exact .inl rfl | exact .inr rfl) h) (de_op op_modD (de_callTy call_intF (by rfl) T.m_int (by decide +kernel) (da_cons (de_op op_addD (de_op op_addD (de_op op_mulD (de_var (pv 2)) de_int) (de_op op_mulD (de_op op_mulD (de_var (pv 1)) (de_var (pv 1))) de_int)) de_int) da_nil)) de_int))
    (dss_one (ds_ret (de_var (pv 2)))))))
theorem ok_Lsource (T : Fx K mg) : FnOk P w K mg base CX0 2 T.a_Lsource T.d_Lsource ["script"] (lSp K sp_Lsource) :=
  okD T.F_Lsource sc_Lsource len_Lsource rd_Lsource fun cdv A outer s H E hr =>
    (dss_cons (ds_set (i := 1) (fun _ h => ps_set sc_Lsource.nd rfl (by first | exact .inl rfl | exact .inr rfl) h) de_int)
    (dss_cons (ds_for PassesOwn.never rfl (di_range1 (by rfl) T.m_range (de_callB call_lenD (by rfl) T.m_len (by decide +kernel) (da_cons (de_var (pv 0)) da_nil))) (dg_name (pg_name (i := 2) sc_Lsource.nd rfl (by first | exact .inl rfl | exact .inr rfl))) (dss_one (ds_set (i := 1) (fun _ h => ps_set sc_Lsource.nd rfl (by first | exact .inl rfl | exact .inr rfl) h) (de_call ((ok_Lmix T).mono (by decide)) hr (by rfl) T.g_Lmix T.F_Lmix.kp T.b_Lmix .nil (fun _ => .nil) (da_cons (de_op op_addD (de_var (pv 1)) (de_op op_modD (de_callTy call_intF (by rfl) T.m_int (by decide +kernel) (da_cons (de_ix (de_var (pv 0)) (de_var (pv 2)) (fun _ _ => rfl)) da_nil)) de_int)) (da_cons (de_var (pv 2)) da_nil))))))
    (dss_one (ds_ret (de_lst (da_cons (de_callTy call_lstF (by rfl) T.m_list (by decide +kernel) (da_cons (de_var (pv 0)) da_nil)) (da_cons de_int (da_cons de_int (da_cons (de_var (pv 1)) (da_cons de_int da_nil))))))))))
theorem ok_Ldraw (T : Fx K mg) : FnOk P w K mg base CX0 2 T.a_Ldraw T.d_Ldraw ["source", "many"] (lSp K sp_Ldraw) :=
  okD T.F_Ldraw sc_Ldraw len_Ldraw rd_Ldraw fun cdv A outer s H E hr =>
    (dss_cons (ds_if (DW.dt (dw_and (dt_cmp (op_eqDD hr.units) (de_ix (de_var (pv 0)) de_int (fun _ _ => rfl)) de_int (nomark _)) (dw_and (dt_cmp op_ltD (de_ix (de_var (pv 0)) de_int (fun _ _ => rfl)) (de_callB call_lenD (by rfl) T.m_len (by decide +kernel) (da_cons (de_ix (de_var (pv 0)) de_int (fun _ _ => rfl)) da_nil)) (nomark _)) (dw_and1 (dt_cmp (op_eqDD hr.units) (de_op op_modD (de_callTy call_intF (by rfl) T.m_int (by decide +kernel) (da_cons (de_ix (de_var (pv 0)) de_int (fun _ _ => rfl)) da_nil)) de_int) de_int (nomark _)))))) (dss_cons (ds_set (i := 2) (fun _ h => ps_set sc_Ldraw.nd rfl (by first | exact .inl rfl | exact .inr rfl) h) (de_ix (de_ix (de_var (pv 0)) de_int (fun _ _ => rfl)) (de_ix (de_var (pv 0)) de_int (fun _ _ => rfl)) (fun _ _ => rfl)))
    (dss_cons (ds_asg (de_op op_addD (de_ix (de_var (pv 0)) de_int (fun _ _ => rfl)) de_int) (dg_sub (de_var (pv 0)) de_int))
    (dss_one (ds_if (dt_cmp op_geD (de_callB call_absD (by rfl) T.m_abs (by decide +kernel) (da_cons (de_var (pv 2)) da_nil)) (de_op op_powD de_int de_int) (nomark _)) (dss_one (ds_asg (de_op op_andD (de_callB call_absD (by rfl) T.m_abs (by decide +kernel) (da_cons (de_var (pv 2)) da_nil)) (de_op op_subD (de_op op_shlD de_int de_int) de_int)) (dg_sub (de_var (pv 0)) de_int))) (dss_one (ds_asg (de_call ((ok_Lmix T).mono (by decide)) hr (by rfl) T.g_Lmix T.F_Lmix.kp T.b_Lmix .nil (fun _ => .nil) (da_cons (de_op op_addD (de_ix (de_var (pv 0)) de_int (fun _ _ => rfl)) (de_op op_modD (de_callTy call_intF (by rfl) T.m_int (by decide +kernel) (da_cons (de_var (pv 2)) da_nil)) de_int)) (da_cons (de_ix (de_var (pv 0)) de_int (fun _ _ => rfl)) da_nil))) (dg_sub (de_var (pv 0)) de_int))))))) dss_nil)
    (dss_cons (ds_if (dt_cmp op_gtD (de_ix (de_var (pv 0)) de_int (fun _ _ => rfl)) de_int (nomark _)) (dss_cons (ds_set (i := 3) (fun _ h => ps_set sc_Ldraw.nd rfl (by first | exact .inl rfl | exact .inr rfl) h) (de_op op_modD (de_callTy call_intF (by rfl) T.m_int (by decide +kernel) (da_cons (de_ix (de_var (pv 0)) de_int (fun _ _ => rfl)) da_nil)) (de_var (pv 1))))
    (dss_cons (ds_asg (de_op op_fdivD (de_callTy call_intF (by rfl) T.m_int (by decide +kernel) (da_cons (de_ix (de_var (pv 0)) de_int (fun _ _ => rfl)) da_nil)) (de_var (pv 1))) (dg_sub (de_var (pv 0)) de_int))
    (dss_one (ds_ret (de_var (pv 3)))))) dss_nil)
    (dss_cons (ds_asg (de_op op_addD (de_ix (de_var (pv 0)) de_int (fun _ _ => rfl)) de_int) (dg_sub (de_var (pv 0)) de_int))
    (dss_one (ds_ret (de_op op_modD (de_callTy call_intF (by rfl) T.m_int (by decide +kernel) (da_cons (de_op op_fdivD (de_call ((ok_Lmix T).mono (by decide)) hr (by rfl) T.g_Lmix T.F_Lmix.kp T.b_Lmix .nil (fun _ => .nil) (da_cons (de_ix (de_var (pv 0)) de_int (fun _ _ => rfl)) (da_cons (de_ix (de_var (pv 0)) de_int (fun _ _ => rfl)) da_nil))) de_int) da_nil)) (de_var (pv 1))))))))
theorem ok_Lnew_name (T : Fx K mg) : FnOk P w K mg base CX0 3 T.a_Lnew_name T.d_Lnew_name ["source", "used"] (lSp K sp_Lnew_name) :=
  okD T.F_Lnew_name sc_Lnew_name len_Lnew_name rd_Lnew_name fun cdv A outer s H E hr =>
    (dss_cons (ds_set (i := 2) (fun _ h => ps_set sc_Lnew_name.nd rfl (by first | exact .inl rfl | exact .inr rfl) h) de_str)
    (dss_cons (ds_set (i := 3) (fun _ h => ps_set sc_Lnew_name.nd rfl (by first | exact .inl rfl | exact .inr rfl) h) (de_op op_addD de_int (de_call ((ok_Ldraw T).mono (by decide)) hr (by rfl) T.g_Ldraw T.F_Ldraw.kp T.b_Ldraw .nil (fun _ => .nil) (da_cons (de_var (pv 0)) (da_cons de_int da_nil)))))
    (dss_cons (ds_set (i := 4) (fun _ h => ps_set sc_Lnew_name.nd rfl (by first | exact .inl rfl | exact .inr rfl) h) (de_ix (de_var (pv 2)) (de_call ((ok_Ldraw T).mono (by decide)) hr (by rfl) T.g_Ldraw T.F_Ldraw.kp T.b_Ldraw .nil (fun _ => .nil) (da_cons (de_var (pv 0)) (da_cons de_int da_nil))) (fun _ _ => rfl)))
    (dss_cons (ds_for PassesOwn.never rfl (di_range1 (by rfl) T.m_range (de_op op_subD (de_var (pv 3)) de_int)) (dg_name (pg_name (i := 5) sc_Lnew_name.nd rfl (by first | exact .inl rfl | exact .inr rfl))) (dss_one (ds_set (i := 4) (fun _ h => ps_set sc_Lnew_name.nd rfl (by first | exact .inl rfl | exact .inr rfl) h) (de_op op_addD (de_var (pv 4)) (de_ix (de_op op_addD (de_var (pv 2)) de_str) (de_call ((ok_Ldraw T).mono (by decide)) hr (by rfl) T.g_Ldraw T.F_Ldraw.kp T.b_Ldraw .nil (fun _ => .nil) (da_cons (de_var (pv 0)) (da_cons de_int da_nil))) (fun _ _ => rfl))))))
    (dss_cons (ds_for PassesOwn.never rfl (di_range1 (by rfl) T.m_range (de_op op_addD (de_callB call_lenD (by rfl) T.m_len (by decide +kernel) (da_cons (de_var (pv 1)) da_nil)) de_int)) (dg_name (pg_name (i := 5) sc_Lnew_name.nd rfl (by first | exact .inl rfl | exact .inr rfl))) (dss_cons (ds_set (i := 6) (fun _ h => ps_set sc_Lnew_name.nd rfl (by first | exact .inl rfl | exact .inr rfl) h) (de_op op_addD (de_var (pv 4)) (de_ix (de_lst (da_cons de_str (da_cons (de_callTy call_strF (by rfl) T.m_str (by decide +kernel) (da_cons (de_var (pv 5)) da_nil)) da_nil))) (de_callTy call_intF (by rfl) T.m_int (by decide +kernel) (da_cons (de_cmp op_gtD (de_var (pv 5)) de_int (nomark _)) da_nil)) (fun _ _ => rfl))))
    (dss_one (ds_if (dt_cmp (op_notInDD (u65 hr)) (de_var (pv 6)) (de_var (pv 1)) (by rfl)) (dss_one (ds_ret (de_var (pv 6)))) dss_nil))))
    (dss_one (ds_ret (de_var (pv 4)))))))))
theorem ok_Lnames (T : Fx K mg) : FnOk P w K mg base CX0 4 T.a_Lnames T.d_Lnames ["source", "many"] (lSp K sp_Lnames) :=
  okD T.F_Lnames sc_Lnames len_Lnames rd_Lnames fun cdv A outer s H E hr =>
    (dss_cons (ds_set (i := 2) (fun _ h => ps_set sc_Lnames.nd rfl (by first | exact .inl rfl | exact .inr rfl) h) (de_lst da_nil))
    (dss_cons (ds_for PassesOwn.never rfl (di_range1 (by rfl) T.m_range (de_var (pv 1))) (dg_name (pg_name (i := 3) sc_Lnames.nd rfl (by first | exact .inl rfl | exact .inr rfl))) (dss_one (ds_expr (de_bm PySem.F.plainAttrs_list PySem.F.slot_list_append PySem.F.type_list_append mt_appD (de_var (pv 2)) (da_cons (de_call ((ok_Lnew_name T).mono (by decide)) hr (by rfl) T.g_Lnew_name T.F_Lnew_name.kp T.b_Lnew_name .nil (fun _ => .nil) (da_cons (de_var (pv 0)) (da_cons (de_var (pv 2)) da_nil))) da_nil)))))
    (dss_one (ds_ret (de_var (pv 2))))))
theorem ok_Lrow (T : Fx K mg) : FnOk P w K mg base CX0 3 T.a_Lrow T.d_Lrow ["source", "size"] (lSp K sp_Lrow) :=
  okD T.F_Lrow sc_Lrow len_Lrow rd_Lrow fun cdv A outer s H E hr =>
    (dss_cons (ds_set (i := 2) (fun _ h => ps_set sc_Lrow.nd rfl (by first | exact .inl rfl | exact .inr rfl) h) de_str)
    (dss_one (ds_ret (de_bm PySem.F.plainAttrs_str PySem.F.slot_str_join PySem.F.type_str_join mt_joinD de_str (da_cons (de_lc (x := "k") (j := 3) rfl sc_Lrow.nd (di_range1 (by rfl) T.m_range (de_var (pv 1))) (blkOk_by (own := [("k", 3)]) (N := N_Lrow) (sc := defScope s_Lrow) (by decide +kernel)) (fun _ _ _ _ _ => pg_name (i := 3) sc_Lrow.nd rfl (Or.inl rfl)) (fun _ _ _ _ _ => dts_nil) (fun _ _ _ _ _ => (de_ix (de_var (pv 2)) (de_call ((ok_Ldraw T).mono (by decide)) hr (by rfl) T.g_Ldraw T.F_Ldraw.kp T.b_Ldraw .nil (fun _ => .nil) (da_cons (de_var (pv 0)) (da_cons (de_callB call_lenD (by rfl) T.m_len (by decide +kernel) (da_cons (de_var (pv 2)) da_nil)) da_nil))) (fun _ _ => rfl)))) da_nil)))))
theorem ok_Lis_int (T : Fx K mg) : FnOk P w K mg base CX0 1 T.a_Lis_int T.d_Lis_int ["value"] (lSp K sp_Lis_int) :=
  okD T.F_Lis_int sc_Lis_int len_Lis_int rd_Lis_int fun cdv A outer s H E hr =>
    (dss_one (ds_ret (de_and (de_isi (T := "int") (by rfl) T.m_isinstance (de_var (pv 0)) (by rfl) T.m_int (by decide +kernel)) (de_one (de_not (de_isi (T := "bool") (by rfl) T.m_isinstance (de_var (pv 0)) (by rfl) T.m_bool (by decide +kernel)))))))
theorem st_Lsame (T : Fx K mg) {k : Nat} {sp sp2 : DSp} (G_Lsame : FnOk P w K mg base CX0 k T.a_Lsame T.d_Lsame ["actual", "due"] (lSp K sp)) (hl : ∀ ds g Q, sp2 ds g Q → ds.length = 2) (hrd : ∀ ds g Q, sp2 ds g Q → w_Lsame sp { nx := fun _ g => Q .non g, rt := Q } (dstart N_Lsame ds) g) (hk : 1 ≤ k) : FnOk P w K mg base CX0 (k + 1) T.a_Lsame T.d_Lsame ["actual", "due"] (lSp K sp2) :=
  okD T.F_Lsame sc_Lsame hl hrd fun cdv A outer s H E hr =>
    (dss_cons (ds_if (dt_tru (de_isi (T := "tuple") (by rfl) T.m_isinstance (de_var (pv 1)) (by rfl) T.m_tuple (by decide +kernel))) (dss_cons (ds_if (DW.dt (dw_or (dt_not (dt_tru (de_isi (T := "tuple") (by rfl) T.m_isinstance (de_var (pv 0)) (by rfl) T.m_tuple (by decide +kernel)))) (dw_or1 (dt_cmp (op_neDD hr.units) (de_callB call_lenD (by rfl) T.m_len (by decide +kernel) (da_cons (de_var (pv 0)) da_nil)) (de_callB call_lenD (by rfl) T.m_len (by decide +kernel) (da_cons (de_var (pv 1)) da_nil)) (nomark _))))) (dss_one (ds_ret de_bl)) dss_nil)
    (dss_cons (ds_for PassesOwn.never rfl (di_range1 (by rfl) T.m_range (de_callB call_lenD (by rfl) T.m_len (by decide +kernel) (da_cons (de_var (pv 1)) da_nil))) (dg_name (pg_name (i := 2) sc_Lsame.nd rfl (by first | exact .inl rfl | exact .inr rfl))) (dss_one (ds_if (dt_not (dt_tru (de_call G_Lsame hr (by rfl) T.g_Lsame T.F_Lsame.kp T.b_Lsame .nil (fun _ => .nil) (da_cons (de_ix (de_var (pv 0)) (de_var (pv 2)) (fun _ _ => rfl)) (da_cons (de_ix (de_var (pv 1)) (de_var (pv 2)) (fun _ _ => rfl)) da_nil))))) (dss_one (ds_ret de_bl)) dss_nil)))
    (dss_one (ds_ret de_bl)))) dss_nil)
    (dss_cons (ds_if (dt_cmp op_isND (de_var (pv 1)) de_non (nomark _)) (dss_one (ds_ret (de_cmp op_isND (de_var (pv 0)) de_non (nomark _)))) dss_nil)
    (dss_cons (ds_if (dt_tru (de_isi (T := "bool") (by rfl) T.m_isinstance (de_var (pv 1)) (by rfl) T.m_bool (by decide +kernel))) (dss_one (ds_ret (de_and (de_isi (T := "bool") (by rfl) T.m_isinstance (de_var (pv 0)) (by rfl) T.m_bool (by decide +kernel)) (de_one (de_cmp (op_eqDD hr.units) (de_var (pv 0)) (de_var (pv 1)) (nomark _)))))) dss_nil)
    (dss_cons (ds_if (dt_tru (de_isi (T := "int") (by rfl) T.m_isinstance (de_var (pv 1)) (by rfl) T.m_int (by decide +kernel))) (dss_one (ds_ret (de_and (de_call ((ok_Lis_int T).mono (Nat.le_trans (by decide) hk)) hr (by rfl) T.g_Lis_int T.F_Lis_int.kp T.b_Lis_int .nil (fun _ => .nil) (da_cons (de_var (pv 0)) da_nil)) (de_one (de_cmp (op_eqDD hr.units) (de_var (pv 0)) (de_var (pv 1)) (nomark _)))))) dss_nil)
    (dss_one (ds_ret (de_and (de_isi (T := "str") (by rfl) T.m_isinstance (de_var (pv 0)) (by rfl) T.m_str (by decide +kernel)) (de_one (de_cmp (op_eqDD hr.units) (de_var (pv 0)) (de_var (pv 1)) (nomark _))))))))))
theorem fl_Lsame (T : Fx K mg) : ∀ n, FnOk P w K mg base CX0 (n + 1) T.a_Lsame T.d_Lsame ["actual", "due"] (lSp K (sp_same n))
  | 0 => ⟨fun vs H Q E h => (by obtain ⟨_, _, _, _, _, z, _⟩ := h; exact z.elim), fun A outer s H args us vs Q E _ _ _ _ h => (by obtain ⟨_, _, _, _, _, z, _⟩ := h; exact z.elim)⟩
  | n + 1 => st_Lsame T (fl_Lsame T n) (len_same _) (rd_same n) (by omega)
theorem ok_Lsame (T : Fx K mg) : FnOk P w K mg base CX0 14 T.a_Lsame T.d_Lsame ["actual", "due"] (lSp K sp_Lsame) := fl_Lsame T 13
theorem ok_words_of (T : Fx K mg) : FnOk P w K mg base CX0 1 T.a_words_of T.d_words_of ["row"] (lSp K sp_words_of) :=
  okD T.F_words_of sc_words_of len_words_of rd_words_of fun cdv A outer s H E hr =>
    (dss_cons (ds_set (i := 1) (fun _ h => ps_set sc_words_of.nd rfl (by first | exact .inl rfl | exact .inr rfl) h) (de_lst da_nil))
    (dss_cons (ds_set (i := 2) (fun _ h => ps_set sc_words_of.nd rfl (by first | exact .inl rfl | exact .inr rfl) h) de_str)
    (dss_cons (ds_for PassesOwn.never rfl (di_any (de_op op_addD (de_bm0 PySem.F.plainAttrs_str PySem.F.slot_str_lower PySem.F.type_str_lower mt_lowerD (de_var (pv 0))) de_str)) (dg_name (pg_name (i := 3) sc_words_of.nd rfl (by first | exact .inl rfl | exact .inr rfl))) (dss_one (ds_if (DW.dt (dw_or (dt_cmp (op_inDD (u65 hr)) (de_var (pv 3)) (de_globS (by rfl) T.c_LETTERS ⟨_, rfl⟩) (by rfl)) (dw_or1 (dt_cmp (op_inDD (u65 hr)) (de_var (pv 3)) (de_globS (by rfl) T.c_DIGITS ⟨_, rfl⟩) (by rfl))))) (dss_one (ds_set (i := 2) (fun _ h => ps_set sc_words_of.nd rfl (by first | exact .inl rfl | exact .inr rfl) h) (de_op op_addD (de_var (pv 2)) (de_var (pv 3))))) (dss_cons (ds_if (dt_cmp (op_neDD hr.units) (de_var (pv 2)) de_str (nomark _)) (dss_one (ds_expr (de_bm PySem.F.plainAttrs_list PySem.F.slot_list_append PySem.F.type_list_append mt_appD (de_var (pv 1)) (da_cons (de_var (pv 2)) da_nil)))) dss_nil)
    (dss_one (ds_set (i := 2) (fun _ h => ps_set sc_words_of.nd rfl (by first | exact .inl rfl | exact .inr rfl) h) de_str))))))
    (dss_one (ds_ret (de_callTy call_tupF (by rfl) T.m_tuple (by decide +kernel) (da_cons (de_var (pv 1)) da_nil)))))))
theorem ok_Ldue (T : Fx K mg) : FnOk P w K mg base CX0 1 T.a_Ldue T.d_Ldue ["row"] (lSp K sp_Ldue) :=
  okD T.F_Ldue sc_Ldue len_Ldue rd_Ldue fun cdv A outer s H E hr =>
    (dss_cons (ds_set (i := 1) (fun _ h => ps_set sc_Ldue.nd rfl (by first | exact .inl rfl | exact .inr rfl) h) (de_lst da_nil))
    (dss_cons (ds_set (i := 2) (fun _ h => ps_set sc_Ldue.nd rfl (by first | exact .inl rfl | exact .inr rfl) h) de_str)
    (dss_cons (ds_for PassesOwn.never rfl (di_any (de_op op_addD (de_var (pv 0)) de_str)) (dg_name (pg_name (i := 3) sc_Ldue.nd rfl (by first | exact .inl rfl | exact .inr rfl))) (dss_one (ds_if (dt_cmp (op_inDD (u65 hr)) (de_var (pv 3)) de_str (by rfl)) (dss_one (ds_set (i := 2) (fun _ h => ps_set sc_Ldue.nd rfl (by first | exact .inl rfl | exact .inr rfl) h) (de_op op_addD (de_var (pv 2)) (de_var (pv 3))))) (dss_one (ds_if (dt_cmp (op_inDD (u65 hr)) (de_var (pv 3)) de_str (by rfl)) (dss_one (ds_set (i := 2) (fun _ h => ps_set sc_Ldue.nd rfl (by first | exact .inl rfl | exact .inr rfl) h) (de_op op_addD (de_var (pv 2)) (de_ix de_str (de_bm PySem.F.plainAttrs_str PySem.F.slot_str_index PySem.F.type_str_index mt_indexD de_str (da_cons (de_var (pv 3)) da_nil)) (fun _ _ => rfl))))) (dss_cons (ds_if (dt_cmp (op_neDD hr.units) (de_var (pv 2)) de_str (nomark _)) (dss_one (ds_expr (de_bm PySem.F.plainAttrs_list PySem.F.slot_list_append PySem.F.type_list_append mt_appD (de_var (pv 1)) (da_cons (de_var (pv 2)) da_nil)))) dss_nil)
    (dss_one (ds_set (i := 2) (fun _ h => ps_set sc_Ldue.nd rfl (by first | exact .inl rfl | exact .inr rfl) h) de_str))))))))
    (dss_one (ds_ret (de_callTy call_tupF (by rfl) T.m_tuple (by decide +kernel) (da_cons (de_var (pv 1)) da_nil)))))))
theorem ok_law (T : Fx K mg) : FnOk P w K mg base CX0 15 T.a_law T.d_law ["script"] (lSp K sp_law) :=
  okD T.F_law sc_law len_law rd_law fun cdv A outer s H E hr =>
    (dss_cons (ds_set (i := 1) (fun _ h => ps_set sc_law.nd rfl (by first | exact .inl rfl | exact .inr rfl) h) (de_call ((ok_Lsource T).mono (by decide)) hr (by rfl) T.g_Lsource T.F_Lsource.kp T.b_Lsource .nil (fun _ => .nil) (da_cons (de_var (pv 0)) da_nil)))
    (dss_cons (ds_set (i := 2) (fun _ h => ps_set sc_law.nd rfl (by first | exact .inl rfl | exact .inr rfl) h) (de_lst (da_cons de_str (da_cons de_str (da_cons (de_call ((ok_Lrow T).mono (by decide)) hr (by rfl) T.g_Lrow T.F_Lrow.kp T.b_Lrow .nil (fun _ => .nil) (da_cons (de_var (pv 1)) (da_cons (de_call ((ok_Ldraw T).mono (by decide)) hr (by rfl) T.g_Ldraw T.F_Ldraw.kp T.b_Ldraw .nil (fun _ => .nil) (da_cons (de_var (pv 1)) (da_cons de_int da_nil))) da_nil))) da_nil)))))
    (dss_cons (ds_set (i := 3) (fun _ h => ps_set sc_law.nd rfl (by first | exact .inl rfl | exact .inr rfl) h) (de_call ((ok_Lnames T).mono (by decide)) hr (by rfl) T.g_Lnames T.F_Lnames.kp T.b_Lnames .nil (fun _ => .nil) (da_cons (de_var (pv 1)) (da_cons de_int da_nil))))
    (dss_cons (ds_set (i := 4) (fun _ h => ps_set sc_law.nd rfl (by first | exact .inl rfl | exact .inr rfl) h) de_str)
    (dss_cons (ds_for PassesOwn.never rfl (di_range1 (by rfl) T.m_range (de_call ((ok_Ldraw T).mono (by decide)) hr (by rfl) T.g_Ldraw T.F_Ldraw.kp T.b_Ldraw .nil (fun _ => .nil) (da_cons (de_var (pv 1)) (da_cons de_int da_nil)))) (dg_name (pg_name (i := 5) sc_law.nd rfl (by first | exact .inl rfl | exact .inr rfl))) (dss_cons (ds_set (i := 7) (fun _ h => ps_set sc_law.nd rfl (by first | exact .inl rfl | exact .inr rfl) h) (de_ix (de_var (pv 3)) (de_call ((ok_Ldraw T).mono (by decide)) hr (by rfl) T.g_Ldraw T.F_Ldraw.kp T.b_Ldraw .nil (fun _ => .nil) (da_cons (de_var (pv 1)) (da_cons de_int da_nil))) (fun _ _ => rfl)))
    (dss_cons (ds_if (dt_cmp (op_eqDD hr.units) (de_call ((ok_Ldraw T).mono (by decide)) hr (by rfl) T.g_Ldraw T.F_Ldraw.kp T.b_Ldraw .nil (fun _ => .nil) (da_cons (de_var (pv 1)) (da_cons de_int da_nil))) de_int (nomark _)) (dss_one (ds_set (i := 7) (fun _ h => ps_set sc_law.nd rfl (by first | exact .inl rfl | exact .inr rfl) h) (de_bm0 PySem.F.plainAttrs_str PySem.F.slot_str_upper PySem.F.type_str_upper mt_upperD (de_var (pv 7))))) dss_nil)
    (dss_one (ds_set (i := 4) (fun _ h => ps_set sc_law.nd rfl (by first | exact .inl rfl | exact .inr rfl) h) (de_op op_addD (de_op op_addD (de_var (pv 4)) (de_ix (de_lst (da_cons de_str (da_cons de_str (da_cons de_str (da_cons de_str (da_cons de_str (da_cons de_str (da_cons de_str (da_cons de_str da_nil))))))))) (de_call ((ok_Ldraw T).mono (by decide)) hr (by rfl) T.g_Ldraw T.F_Ldraw.kp T.b_Ldraw .nil (fun _ => .nil) (da_cons (de_var (pv 1)) (da_cons de_int da_nil))) (fun _ _ => rfl))) (de_var (pv 7))))))))
    (dss_cons (ds_expr (de_bm PySem.F.plainAttrs_list PySem.F.slot_list_append PySem.F.type_list_append mt_appD (de_var (pv 2)) (da_cons (de_var (pv 4)) da_nil)))
    (dss_cons (ds_expr (de_bm PySem.F.plainAttrs_list PySem.F.slot_list_append PySem.F.type_list_append mt_appD (de_var (pv 2)) (da_cons (de_op op_addD (de_var (pv 4)) (de_ix (de_lst (da_cons de_str (da_cons de_str (da_cons de_str (da_cons de_str da_nil))))) (de_call ((ok_Ldraw T).mono (by decide)) hr (by rfl) T.g_Ldraw T.F_Ldraw.kp T.b_Ldraw .nil (fun _ => .nil) (da_cons (de_var (pv 1)) (da_cons de_int da_nil))) (fun _ _ => rfl))) da_nil)))
    (dss_cons (ds_for PassesOwn.never rfl (di_any (de_var (pv 2))) (dg_name (pg_name (i := 6) sc_law.nd rfl (by first | exact .inl rfl | exact .inr rfl))) (dss_one (ds_if (dt_not (dt_tru (de_call ((ok_Lsame T).mono (by decide)) hr (by rfl) T.g_Lsame T.F_Lsame.kp T.b_Lsame .nil (fun _ => .nil) (da_cons (de_call ((ok_words_of T).mono (by decide)) hr (by rfl) T.g_words_of T.F_words_of.kp T.b_words_of .nil (fun _ => .nil) (da_cons (de_var (pv 6)) da_nil)) (da_cons (de_call ((ok_Ldue T).mono (by decide)) hr (by rfl) T.g_Ldue T.F_Ldue.kp T.b_Ldue .nil (fun _ => .nil) (da_cons (de_var (pv 6)) da_nil)) da_nil))))) (dss_one (ds_ret de_bl)) dss_nil)))
    (dss_one (ds_ret de_bl))))))))))
end
theorem all_mk {l : PySem.W.OpenLaw} {w : World} {K : PySem.W.Frag} {h : Heap} {mg : Str → Option Value} {fa : Addr} (X : K.In h) (G : h.Ns mainGlobals mg) (hfa : mg "law" = some (.ref fa))
    {od_Lmix an_Lmix : Option Addr} {sl_Lmix : Array (Option Value)} {oc_Lmix kV_Lmix dc_Lmix pm_Lmix cd_Lmix ct_Lmix : Value} {f_Lmix : Addr}
    (a_Lmix : PySem.W.nsIn K mainGlobals "_law_mix" = some (some (.ref f_Lmix))) (l_Lmix : K.lookup f_Lmix = some ⟨oc_Lmix, od_Lmix, .func (PySem.W.fnOf "_law_mix" "_law_mix" (defArgs s_Lmix) (defBody s_Lmix) (defScope s_Lmix) .none kV_Lmix dc_Lmix pm_Lmix an_Lmix cd_Lmix ct_Lmix), sl_Lmix⟩) (c_Lmix : PySem.W.codeIn K cd_Lmix "_law_mix" = true) (k_Lmix : PySem.W.keepIn K (.ref f_Lmix) = true)
    {od_Lsource an_Lsource : Option Addr} {sl_Lsource : Array (Option Value)} {oc_Lsource kV_Lsource dc_Lsource pm_Lsource cd_Lsource ct_Lsource : Value} {f_Lsource : Addr}
    (a_Lsource : PySem.W.nsIn K mainGlobals "_law_source" = some (some (.ref f_Lsource))) (l_Lsource : K.lookup f_Lsource = some ⟨oc_Lsource, od_Lsource, .func (PySem.W.fnOf "_law_source" "_law_source" (defArgs s_Lsource) (defBody s_Lsource) (defScope s_Lsource) .none kV_Lsource dc_Lsource pm_Lsource an_Lsource cd_Lsource ct_Lsource), sl_Lsource⟩) (c_Lsource : PySem.W.codeIn K cd_Lsource "_law_source" = true) (k_Lsource : PySem.W.keepIn K (.ref f_Lsource) = true)
    {od_Ldraw an_Ldraw : Option Addr} {sl_Ldraw : Array (Option Value)} {oc_Ldraw kV_Ldraw dc_Ldraw pm_Ldraw cd_Ldraw ct_Ldraw : Value} {f_Ldraw : Addr}
    (a_Ldraw : PySem.W.nsIn K mainGlobals "_law_draw" = some (some (.ref f_Ldraw))) (l_Ldraw : K.lookup f_Ldraw = some ⟨oc_Ldraw, od_Ldraw, .func (PySem.W.fnOf "_law_draw" "_law_draw" (defArgs s_Ldraw) (defBody s_Ldraw) (defScope s_Ldraw) .none kV_Ldraw dc_Ldraw pm_Ldraw an_Ldraw cd_Ldraw ct_Ldraw), sl_Ldraw⟩) (c_Ldraw : PySem.W.codeIn K cd_Ldraw "_law_draw" = true) (k_Ldraw : PySem.W.keepIn K (.ref f_Ldraw) = true)
    {od_Lnew_name an_Lnew_name : Option Addr} {sl_Lnew_name : Array (Option Value)} {oc_Lnew_name kV_Lnew_name dc_Lnew_name pm_Lnew_name cd_Lnew_name ct_Lnew_name : Value} {f_Lnew_name : Addr}
    (a_Lnew_name : PySem.W.nsIn K mainGlobals "_law_new_name" = some (some (.ref f_Lnew_name))) (l_Lnew_name : K.lookup f_Lnew_name = some ⟨oc_Lnew_name, od_Lnew_name, .func (PySem.W.fnOf "_law_new_name" "_law_new_name" (defArgs s_Lnew_name) (defBody s_Lnew_name) (defScope s_Lnew_name) .none kV_Lnew_name dc_Lnew_name pm_Lnew_name an_Lnew_name cd_Lnew_name ct_Lnew_name), sl_Lnew_name⟩) (c_Lnew_name : PySem.W.codeIn K cd_Lnew_name "_law_new_name" = true) (k_Lnew_name : PySem.W.keepIn K (.ref f_Lnew_name) = true)
    {od_Lnames an_Lnames : Option Addr} {sl_Lnames : Array (Option Value)} {oc_Lnames kV_Lnames dc_Lnames pm_Lnames cd_Lnames ct_Lnames : Value} {f_Lnames : Addr}
    (a_Lnames : PySem.W.nsIn K mainGlobals "_law_names" = some (some (.ref f_Lnames))) (l_Lnames : K.lookup f_Lnames = some ⟨oc_Lnames, od_Lnames, .func (PySem.W.fnOf "_law_names" "_law_names" (defArgs s_Lnames) (defBody s_Lnames) (defScope s_Lnames) .none kV_Lnames dc_Lnames pm_Lnames an_Lnames cd_Lnames ct_Lnames), sl_Lnames⟩) (c_Lnames : PySem.W.codeIn K cd_Lnames "_law_names" = true) (k_Lnames : PySem.W.keepIn K (.ref f_Lnames) = true)
    {od_Lrow an_Lrow : Option Addr} {sl_Lrow : Array (Option Value)} {oc_Lrow kV_Lrow dc_Lrow pm_Lrow cd_Lrow ct_Lrow : Value} {f_Lrow : Addr}
    (a_Lrow : PySem.W.nsIn K mainGlobals "_law_row" = some (some (.ref f_Lrow))) (l_Lrow : K.lookup f_Lrow = some ⟨oc_Lrow, od_Lrow, .func (PySem.W.fnOf "_law_row" "_law_row" (defArgs s_Lrow) (defBody s_Lrow) (defScope s_Lrow) .none kV_Lrow dc_Lrow pm_Lrow an_Lrow cd_Lrow ct_Lrow), sl_Lrow⟩) (c_Lrow : PySem.W.codeIn K cd_Lrow "_law_row" = true) (k_Lrow : PySem.W.keepIn K (.ref f_Lrow) = true)
    {od_Lis_int an_Lis_int : Option Addr} {sl_Lis_int : Array (Option Value)} {oc_Lis_int kV_Lis_int dc_Lis_int pm_Lis_int cd_Lis_int ct_Lis_int : Value} {f_Lis_int : Addr}
    (a_Lis_int : PySem.W.nsIn K mainGlobals "_law_is_int" = some (some (.ref f_Lis_int))) (l_Lis_int : K.lookup f_Lis_int = some ⟨oc_Lis_int, od_Lis_int, .func (PySem.W.fnOf "_law_is_int" "_law_is_int" (defArgs s_Lis_int) (defBody s_Lis_int) (defScope s_Lis_int) .none kV_Lis_int dc_Lis_int pm_Lis_int an_Lis_int cd_Lis_int ct_Lis_int), sl_Lis_int⟩) (c_Lis_int : PySem.W.codeIn K cd_Lis_int "_law_is_int" = true) (k_Lis_int : PySem.W.keepIn K (.ref f_Lis_int) = true)
    {od_Lsame an_Lsame : Option Addr} {sl_Lsame : Array (Option Value)} {oc_Lsame kV_Lsame dc_Lsame pm_Lsame cd_Lsame ct_Lsame : Value} {f_Lsame : Addr}
    (a_Lsame : PySem.W.nsIn K mainGlobals "_law_same" = some (some (.ref f_Lsame))) (l_Lsame : K.lookup f_Lsame = some ⟨oc_Lsame, od_Lsame, .func (PySem.W.fnOf "_law_same" "_law_same" (defArgs s_Lsame) (defBody s_Lsame) (defScope s_Lsame) .none kV_Lsame dc_Lsame pm_Lsame an_Lsame cd_Lsame ct_Lsame), sl_Lsame⟩) (c_Lsame : PySem.W.codeIn K cd_Lsame "_law_same" = true) (k_Lsame : PySem.W.keepIn K (.ref f_Lsame) = true)
    {od_words_of an_words_of : Option Addr} {sl_words_of : Array (Option Value)} {oc_words_of kV_words_of dc_words_of pm_words_of cd_words_of ct_words_of : Value} {f_words_of : Addr}
    (a_words_of : PySem.W.nsIn K mainGlobals "words_of" = some (some (.ref f_words_of))) (l_words_of : K.lookup f_words_of = some ⟨oc_words_of, od_words_of, .func (PySem.W.fnOf "words_of" "words_of" (defArgs s_words_of) (defBody s_words_of) (defScope s_words_of) .none kV_words_of dc_words_of pm_words_of an_words_of cd_words_of ct_words_of), sl_words_of⟩) (c_words_of : PySem.W.codeIn K cd_words_of "words_of" = true) (k_words_of : PySem.W.keepIn K (.ref f_words_of) = true)
    {od_Ldue an_Ldue : Option Addr} {sl_Ldue : Array (Option Value)} {oc_Ldue kV_Ldue dc_Ldue pm_Ldue cd_Ldue ct_Ldue : Value} {f_Ldue : Addr}
    (a_Ldue : PySem.W.nsIn K mainGlobals "_law_due" = some (some (.ref f_Ldue))) (l_Ldue : K.lookup f_Ldue = some ⟨oc_Ldue, od_Ldue, .func (PySem.W.fnOf "_law_due" "_law_due" (defArgs s_Ldue) (defBody s_Ldue) (defScope s_Ldue) .none kV_Ldue dc_Ldue pm_Ldue an_Ldue cd_Ldue ct_Ldue), sl_Ldue⟩) (c_Ldue : PySem.W.codeIn K cd_Ldue "_law_due" = true) (k_Ldue : PySem.W.keepIn K (.ref f_Ldue) = true)
    {od_law an_law : Option Addr} {sl_law : Array (Option Value)} {oc_law kV_law dc_law pm_law cd_law ct_law : Value} {f_law : Addr}
    (a_law : PySem.W.nsIn K mainGlobals "law" = some (some (.ref f_law))) (l_law : K.lookup f_law = some ⟨oc_law, od_law, .func (PySem.W.fnOf "law" "law" (defArgs s_law) (defBody s_law) (defScope s_law) .none kV_law dc_law pm_law an_law cd_law ct_law), sl_law⟩) (c_law : PySem.W.codeIn K cd_law "law" = true) (k_law : PySem.W.keepIn K (.ref f_law) = true)
    (z_abs : PySem.W.nsIn K mainGlobals "abs" = some none)
    (z_bool : PySem.W.nsIn K mainGlobals "bool" = some none)
    (z_int : PySem.W.nsIn K mainGlobals "int" = some none)
    (z_isinstance : PySem.W.nsIn K mainGlobals "isinstance" = some none)
    (z_len : PySem.W.nsIn K mainGlobals "len" = some none)
    (z_list : PySem.W.nsIn K mainGlobals "list" = some none)
    (z_range : PySem.W.nsIn K mainGlobals "range" = some none)
    (z_str : PySem.W.nsIn K mainGlobals "str" = some none)
    (z_tuple : PySem.W.nsIn K mainGlobals "tuple" = some none)
    {t_DIGITS : Tok} (y_DIGITS : PySem.W.nsIn K mainGlobals "DIGITS" = some (some (.str "0123456789" t_DIGITS)))
    {t_LETTERS : Tok} (y_LETTERS : PySem.W.nsIn K mainGlobals "LETTERS" = some (some (.str "abcdefghijklmnopqrstuvwxyz" t_LETTERS))) :
    ∃ fd : FuncData, (∀ (s : Shared) (v : Value), BindsTo s fd ⟨[v], []⟩ [("script", v)]) ∧ ∀ base : Heap, K.In base → base.Ns mainGlobals mg → FnOk l.prog w K mg base CX0 15 fa fd ["script"] (lSp K sp_law) := by
  have e : f_law = fa := by
    have e := (PySem.W.mg_of X G a_law).symm.trans hfa
    injection e with e
    injection e
  subst e
  have F_Lmix := fun_mk (st := s_Lmix) l_Lmix c_Lmix k_Lmix
  have b_Lmix := F_Lmix.binds (ps := ["seed", "turn"]) fun _ _ _ _ _ _ us hl => match us, hl with | [_, _], _ => rfl
  have F_Lsource := fun_mk (st := s_Lsource) l_Lsource c_Lsource k_Lsource
  have b_Lsource := F_Lsource.binds (ps := ["script"]) fun _ _ _ _ _ _ us hl => match us, hl with | [_], _ => rfl
  have F_Ldraw := fun_mk (st := s_Ldraw) l_Ldraw c_Ldraw k_Ldraw
  have b_Ldraw := F_Ldraw.binds (ps := ["source", "many"]) fun _ _ _ _ _ _ us hl => match us, hl with | [_, _], _ => rfl
  have F_Lnew_name := fun_mk (st := s_Lnew_name) l_Lnew_name c_Lnew_name k_Lnew_name
  have b_Lnew_name := F_Lnew_name.binds (ps := ["source", "used"]) fun _ _ _ _ _ _ us hl => match us, hl with | [_, _], _ => rfl
  have F_Lnames := fun_mk (st := s_Lnames) l_Lnames c_Lnames k_Lnames
  have b_Lnames := F_Lnames.binds (ps := ["source", "many"]) fun _ _ _ _ _ _ us hl => match us, hl with | [_, _], _ => rfl
  have F_Lrow := fun_mk (st := s_Lrow) l_Lrow c_Lrow k_Lrow
  have b_Lrow := F_Lrow.binds (ps := ["source", "size"]) fun _ _ _ _ _ _ us hl => match us, hl with | [_, _], _ => rfl
  have F_Lis_int := fun_mk (st := s_Lis_int) l_Lis_int c_Lis_int k_Lis_int
  have b_Lis_int := F_Lis_int.binds (ps := ["value"]) fun _ _ _ _ _ _ us hl => match us, hl with | [_], _ => rfl
  have F_Lsame := fun_mk (st := s_Lsame) l_Lsame c_Lsame k_Lsame
  have b_Lsame := F_Lsame.binds (ps := ["actual", "due"]) fun _ _ _ _ _ _ us hl => match us, hl with | [_, _], _ => rfl
  have F_words_of := fun_mk (st := s_words_of) l_words_of c_words_of k_words_of
  have b_words_of := F_words_of.binds (ps := ["row"]) fun _ _ _ _ _ _ us hl => match us, hl with | [_], _ => rfl
  have F_Ldue := fun_mk (st := s_Ldue) l_Ldue c_Ldue k_Ldue
  have b_Ldue := F_Ldue.binds (ps := ["row"]) fun _ _ _ _ _ _ us hl => match us, hl with | [_], _ => rfl
  have F_law := fun_mk (st := s_law) l_law c_law k_law
  have b_law := F_law.binds (ps := ["script"]) fun _ _ _ _ _ _ us hl => match us, hl with | [_], _ => rfl
  let T : Fx K mg := { a_Lmix := f_Lmix, d_Lmix := _, F_Lmix := F_Lmix, g_Lmix := PySem.W.mg_of X G a_Lmix, b_Lmix := b_Lmix, a_Lsource := f_Lsource, d_Lsource := _, F_Lsource := F_Lsource, g_Lsource := PySem.W.mg_of X G a_Lsource, b_Lsource := b_Lsource, a_Ldraw := f_Ldraw, d_Ldraw := _, F_Ldraw := F_Ldraw, g_Ldraw := PySem.W.mg_of X G a_Ldraw, b_Ldraw := b_Ldraw, a_Lnew_name := f_Lnew_name, d_Lnew_name := _, F_Lnew_name := F_Lnew_name, g_Lnew_name := PySem.W.mg_of X G a_Lnew_name, b_Lnew_name := b_Lnew_name, a_Lnames := f_Lnames, d_Lnames := _, F_Lnames := F_Lnames, g_Lnames := PySem.W.mg_of X G a_Lnames, b_Lnames := b_Lnames, a_Lrow := f_Lrow, d_Lrow := _, F_Lrow := F_Lrow, g_Lrow := PySem.W.mg_of X G a_Lrow, b_Lrow := b_Lrow, a_Lis_int := f_Lis_int, d_Lis_int := _, F_Lis_int := F_Lis_int, g_Lis_int := PySem.W.mg_of X G a_Lis_int, b_Lis_int := b_Lis_int, a_Lsame := f_Lsame, d_Lsame := _, F_Lsame := F_Lsame, g_Lsame := PySem.W.mg_of X G a_Lsame, b_Lsame := b_Lsame, a_words_of := f_words_of, d_words_of := _, F_words_of := F_words_of, g_words_of := PySem.W.mg_of X G a_words_of, b_words_of := b_words_of, a_Ldue := f_Ldue, d_Ldue := _, F_Ldue := F_Ldue, g_Ldue := PySem.W.mg_of X G a_Ldue, b_Ldue := b_Ldue, a_law := f_law, d_law := _, F_law := F_law, g_law := PySem.W.mg_of X G a_law, b_law := b_law, m_abs := PySem.W.mg_none_of X G z_abs, m_bool := PySem.W.mg_none_of X G z_bool, m_int := PySem.W.mg_none_of X G z_int, m_isinstance := PySem.W.mg_none_of X G z_isinstance, m_len := PySem.W.mg_none_of X G z_len, m_list := PySem.W.mg_none_of X G z_list, m_range := PySem.W.mg_none_of X G z_range, m_str := PySem.W.mg_none_of X G z_str, m_tuple := PySem.W.mg_none_of X G z_tuple, t_DIGITS := _, c_DIGITS := PySem.W.mg_of X G y_DIGITS, t_LETTERS := _, c_LETTERS := PySem.W.mg_of X G y_LETTERS }
  exact ⟨T.d_law, fun s v => .of_eq rfl, fun base _ _ => ok_law (P := l.prog) (w := w) (base := base) T⟩
end CK02
open PySem PySem.W PyProof.Rows
set_option maxHeartbeats 0 in
theorem PySem.Challenge.cw_criermoot_k02_words_holds : PySem.Challenge.rw_criermoot_k02_words.Holds := by
  w_on; o_law; k_head; (case hw => w_witness2)
  k_fill
  refine L2.walk_ofK (l := PySem.Challenge.rw_criermoot_k02_words) (n := 63) (k := 15) (x := "script") (CX := L2.CX0) (sp := fun K => DL.lSp K CK02.sp_law) rfl (by decide) rfl ⟨rfl, by decide, by decide⟩ (fun w h Y => PySem.W.kIn_of Y) ?F CK02.fin (fun _ _ _ _ h => h)
  case F =>
    intro w mg fa h KX G hmg
    refine' CK02.all_mk KX G hmg ?a_Lmix ?l_Lmix ?c_Lmix ?k_Lmix ?a_Lsource ?l_Lsource ?c_Lsource ?k_Lsource ?a_Ldraw ?l_Ldraw ?c_Ldraw ?k_Ldraw ?a_Lnew_name ?l_Lnew_name ?c_Lnew_name ?k_Lnew_name ?a_Lnames ?l_Lnames ?c_Lnames ?k_Lnames ?a_Lrow ?l_Lrow ?c_Lrow ?k_Lrow ?a_Lis_int ?l_Lis_int ?c_Lis_int ?k_Lis_int ?a_Lsame ?l_Lsame ?c_Lsame ?k_Lsame ?a_words_of ?l_words_of ?c_words_of ?k_words_of ?a_Ldue ?l_Ldue ?c_Ldue ?k_Ldue ?a_law ?l_law ?c_law ?k_law ?z_abs ?z_bool ?z_int ?z_isinstance ?z_len ?z_list ?z_range ?z_str ?z_tuple ?y_DIGITS ?y_LETTERS
    (case a_Lmix => k_is); (case l_Lmix => k_is); (case c_Lmix => k_is); (case k_Lmix => k_is); (case a_Lsource => k_is); (case l_Lsource => k_is); (case c_Lsource => k_is); (case k_Lsource => k_is); (case a_Ldraw => k_is); (case l_Ldraw => k_is); (case c_Ldraw => k_is); (case k_Ldraw => k_is); (case a_Lnew_name => k_is); (case l_Lnew_name => k_is); (case c_Lnew_name => k_is); (case k_Lnew_name => k_is); (case a_Lnames => k_is); (case l_Lnames => k_is); (case c_Lnames => k_is); (case k_Lnames => k_is); (case a_Lrow => k_is); (case l_Lrow => k_is); (case c_Lrow => k_is); (case k_Lrow => k_is); (case a_Lis_int => k_is); (case l_Lis_int => k_is); (case c_Lis_int => k_is); (case k_Lis_int => k_is); (case a_Lsame => k_is); (case l_Lsame => k_is); (case c_Lsame => k_is); (case k_Lsame => k_is); (case a_words_of => k_is); (case l_words_of => k_is); (case c_words_of => k_is); (case k_words_of => k_is); (case a_Ldue => k_is); (case l_Ldue => k_is); (case c_Ldue => k_is); (case k_Ldue => k_is); (case a_law => k_is); (case l_law => k_is); (case c_law => k_is); (case k_law => k_is); (case z_abs => k_is); (case z_bool => k_is); (case z_int => k_is); (case z_isinstance => k_is); (case z_len => k_is); (case z_list => k_is); (case z_range => k_is); (case z_str => k_is); (case z_tuple => k_is); (case y_DIGITS => k_is); (case y_LETTERS => k_is)
