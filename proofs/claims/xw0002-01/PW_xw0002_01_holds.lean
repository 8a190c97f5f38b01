import PyProof.Rows.All
import Wide.All
import OpenK.AllK
import Wide.FinOn
import KE.KIntText
import PySem.Challenge.RW_xw0002_01
set_option Elab.async false
set_option linter.unusedVariables false
section
open PySem PySem.W PyProof.Rows PySem.Calls PySem.Spec
namespace Mine
/-- values, without their tokens -/
inductive MV where
  | non | bool (b : Bool) | int (i : Int) | str (x : Str) | ref (a : Addr)
inductive MObj where
  | list (xs : List MV) | ro (xs : List MV) | tup (xs : List MV) | dict (es : List (Str × MV)) | inst (C d : Addr) | fld (fs : List (Nat × MV)) | exc (C : Addr) (d : Option Addr) | exd (n : Nat)
noncomputable def er : Value → Option MV
  | .none => some .non | .bool b => some (.bool b) | .int i _ => some (.int i) | .str x _ => some (.str x) | .ref a => some (.ref a) | _ => none
abbrev Hp := Addr → Option MObj
noncomputable def upd (H : Hp) (a : Addr) (o : MObj) : Hp := fun b => if b = a then some o else H b
theorem upd_same {H : Hp} {a : Addr} {o : MObj} : upd H a o a = some o := by simp [upd]
theorem upd_ne {H : Hp} {a b : Addr} {o : MObj} (h : b ≠ a) : upd H a o b = H b := by simp [upd, h]
/-- the attributes' names -/
noncomputable def anms : List String := ["kind", "name", "number", "parent", "low", "high", "literals", "modulus", "small", "index", "component", "is_constrained", "discriminants", "components", "variant", "designated",
  "is_tagged", "wide", "is_limited", "is_private", "is_abstract", "is_constant", "is_late", "operations", "type", "constraint"]
noncomputable def anm (k : Nat) : Str := Str.ofString (anms.getD k "")
/-- the classes whose instances may stand in the heap: Type, Subtype -/
noncomputable def okC (C : Addr) : Prop := C = 89 ∨ C = 110
noncomputable def ek (e : DictEntry) : Option (Str × MV) := match e.key, er e.val with
  | .str x _, some v => some (x, v)
  | _, _ => none
noncomputable def ers (vs : List Value) (xs : List MV) : Prop := vs.map er = xs.map some
section
variable (prog : Program) (w : World)
noncomputable def Has (h : Heap) (a : Addr) : MObj → Prop
  | .list xs => ∃ vs, h.PlainList a vs.toArray ∧ ers vs xs
  | .ro xs => ∃ vs, h.IsList a vs.toArray ∧ ers vs xs
  | .tup xs => ∃ vs, h.IsTuple a vs.toArray ∧ ers vs xs
  | .dict es => ∃ kvs, h.DictOf (strKind prog w) a kvs ∧ kvs.map (fun p => (p.1, er p.2)) = es.map (fun p => (p.1, some p.2))
  | .inst C d => okC C ∧ h.get? a = some (instObj C d)
  | .fld fs => (∀ p ∈ fs, p.1 < 26) ∧ ∃ des n, h.get? a = some (dictOf des n) ∧ des.map ek = fs.map (fun p => some (anm p.1, p.2))
  | .exc C d => ∃ oe vs a0, h.get? a = some oe ∧ oe.cls = .ref C ∧ oe.data = .fields vs ∧ vs[0]? = some a0 ∧ vs[1]? = some .none ∧ oe.dict = d
  | .exd n => ∃ m ns, h.Ns1 a m ∧ PySem.Within m ns ∧ ns.length ≤ n
/-- owned: what may be changed -/
noncomputable def Own (H : Hp) (b : Addr) : Prop := ∃ o, H b = some o ∧ ∀ xs, o ≠ .ro xs
structure St (B : Heap) (H : Hp) (h : Heap) : Prop where
  keep : ∀ b o, B.get? b = some o → h.get? b = some o
  obj : ∀ a o, H a = some o → Has prog w h a o
  new : ∀ b, Own H b → B.get? b = none
/-- what is not owned stays; but a frame's dict, which the base has not, may change its slots -/
def Sl (B : Heap) (h' : Heap) (b : Addr) (o : Obj) : Prop := h'.get? b = some o ∨ (B.get? b = none ∧ (∃ es n, o.data = .dict es n) ∧ ∃ sl, h'.get? b = some { o with slots := sl })
structure Tr (B : Heap) (H : Hp) (s : Shared) (H' : Hp) (s' : Shared) : Prop where
  ext : ∀ b o, ¬ Own H b → s.heap.get? b = some o → Sl B s'.heap b o
  grow : ∀ b, H' b ≠ none → H b = none → s.heap.get? b = none
  ro : ∀ b xs, H b = some (.ro xs) ↔ H' b = some (.ro xs)
  gens : s'.gens = s.gens
  drawn : s'.drawn = s.drawn
  os : s'.os = s.os
  stay : ∀ b, s'.heap.get? b = none → s.heap.get? b = none
end
section
variable {prog : Program} {w : World} {B : Heap} {H H' H'' : Hp} {s s' s'' : Shared} {h h' : Heap} {a b : Addr} {o o' : MObj}
theorem Has.keeps (x : Has prog w h a o) (k : ∀ ob, h.get? a = some ob → h'.get? a = some ob) : Has prog w h' a o := by
  cases o with
  | list xs => obtain ⟨vs, ⟨n, e⟩, y⟩ := x; exact ⟨vs, ⟨n, k _ e⟩, y⟩
  | ro xs => obtain ⟨vs, ⟨ob, e, r⟩, y⟩ := x; exact ⟨vs, ⟨ob, k _ e, r⟩, y⟩
  | tup xs => obtain ⟨vs, ⟨ob, e, r⟩, y⟩ := x; exact ⟨vs, ⟨ob, k _ e, r⟩, y⟩
  | dict es => obtain ⟨kvs, ⟨ob, z, ep, e, r⟩, y⟩ := x; exact ⟨kvs, ⟨ob, z, ep, k _ e, r⟩, y⟩
  | inst C d => exact ⟨x.1, k _ x.2⟩
  | fld fs => obtain ⟨z, des, n, e, y⟩ := x; exact ⟨z, des, n, k _ e, y⟩
  | exc C d => obtain ⟨oe, vs, a0, e, y⟩ := x; exact ⟨oe, vs, a0, k _ e, y⟩
  | exd n => obtain ⟨m, ns, ⟨o, es, ep, e, r⟩, y⟩ := x; exact ⟨m, ns, ⟨o, es, ep, k _ e, r⟩, y⟩
theorem Has.here (x : Has prog w h a o) : ∃ ob, h.get? a = some ob := by
  cases o with
  | list xs => obtain ⟨vs, ⟨n, e⟩, y⟩ := x; exact ⟨_, e⟩
  | ro xs => obtain ⟨vs, ⟨ob, e, r⟩, y⟩ := x; exact ⟨_, e⟩
  | tup xs => obtain ⟨vs, ⟨ob, e, r⟩, y⟩ := x; exact ⟨_, e⟩
  | dict es => obtain ⟨kvs, ⟨ob, z, ep, e, r⟩, y⟩ := x; exact ⟨_, e⟩
  | inst C d => exact ⟨_, x.2⟩
  | fld fs => obtain ⟨z, des, n, e, y⟩ := x; exact ⟨_, e⟩
  | exc C d => obtain ⟨oe, vs, a0, e, y⟩ := x; exact ⟨_, e⟩
  | exd n => obtain ⟨m, ns, ⟨o, es, ep, e, r⟩, y⟩ := x; exact ⟨_, e⟩
theorem St.fresh (S : St prog w B H h) (e : h.get? a = none) : H a = none := by
  cases q : H a with
  | none => rfl
  | some o => obtain ⟨ob, z⟩ := (S.obj a o q).here; rw [e] at z; cases z
theorem Sl.then {h' h'' : Heap} {b : Addr} {ob : Obj} (x : Sl B h' b ob) (k : ∀ o, h'.get? b = some o → Sl B h'' b o) : Sl B h'' b ob := by
  rcases x with x | ⟨h1, ⟨es, n, h2⟩, sl, h3⟩
  · exact k _ x
  · rcases k _ h3 with y | ⟨_, _, sl', y⟩
    · exact .inr ⟨h1, ⟨es, n, h2⟩, sl, y⟩
    · exact .inr ⟨h1, ⟨es, n, h2⟩, sl', y⟩
theorem Sl.here {h' : Heap} {b : Addr} {ob : Obj} (x : Sl B h' b ob) : ∃ o, h'.get? b = some o := by
  rcases x with x | ⟨_, _, sl, h3⟩
  · exact ⟨_, x⟩
  · exact ⟨_, h3⟩
theorem Sl.exact {h' : Heap} {b : Addr} {ob : Obj} (x : Sl B h' b ob) (n : ∀ es n, ob.data ≠ .dict es n) : h'.get? b = some ob := by
  rcases x with x | ⟨_, ⟨es, k, h2⟩, _⟩
  · exact x
  · exact absurd h2 (n es k)
theorem Sl.base {h' : Heap} {b : Addr} {ob ob' : Obj} (x : Sl B h' b ob) (e : B.get? b = some ob') : h'.get? b = some ob := by
  rcases x with x | ⟨h1, _⟩
  · exact x
  · rw [h1] at e; cases e
theorem Sl.but {h' h'' : Heap} {b : Addr} {ob : Obj} (x : Sl B h' b ob) (k : ∀ o, h'.get? b = some o → h''.get? b = some o) : Sl B h'' b ob := x.then fun o e => .inl (k o e)
theorem Sl.ns {h h' : Heap} {b : Addr} {m : Str → Option Value} (x : h.Ns b m) (k : ∀ o, h.get? b = some o → Sl B h' b o) : h'.Ns b m := by
  obtain ⟨o, es, ep, ho, hd, r⟩ := x
  rcases k o ho with y | ⟨_, _, sl, y⟩
  · exact ⟨o, es, ep, y, hd, r⟩
  · exact ⟨_, es, ep, y, hd, r⟩
theorem Tr.refl : Tr B H s H s := ⟨fun _ _ _ e => .inl e, fun _ a b => absurd b a, fun _ _ => Iff.rfl, rfl, rfl, rfl, fun _ h => h⟩
theorem Own.back (T : Tr B H s H' s') {ob : Obj} (ho : Own H' b) (hb : s.heap.get? b = some ob) : Own H b := by
  obtain ⟨m, hm, hr⟩ := ho
  cases hq : H b with
  | none =>
    have := T.grow b (by rw [hm]; exact Option.some_ne_none _) hq
    rw [this] at hb; cases hb
  | some o' =>
    refine ⟨o', hq, fun xs e => ?_⟩
    subst e
    have := (T.ro b xs).mp hq
    rw [hm] at this
    exact hr xs (Option.some.inj this)
theorem Tr.trans (S : Tr B H s H' s') (T : Tr B H' s' H'' s'') : Tr B H s H'' s'' := by
  refine ⟨fun b ob n e => (S.ext b ob n e).then fun o e' => T.ext b o (fun z => n (z.back S e)) e', fun b n e => ?_, fun b xs => (S.ro b xs).trans (T.ro b xs), T.gens.trans S.gens, T.drawn.trans S.drawn, T.os.trans S.os, fun b z => S.stay b (T.stay b z)⟩
  cases q : s.heap.get? b with
  | none => rfl
  | some ob =>
    obtain ⟨ob', e'⟩ := (S.ext b ob (fun ⟨m, hm, _⟩ => by rw [e] at hm; cases hm) q).here
    cases z : H' b with
    | none => have := T.grow b n z; rw [e'] at this; cases this
    | some m => have := S.grow b (by rw [z]; exact Option.some_ne_none _) e; rw [q] at this; cases this
theorem stay_of {h h' : Heap} (k : ∀ b o, h.get? b = some o → h'.get? b = some o) (b : Addr) (z : h'.get? b = none) : h.get? b = none := by
  cases q : h.get? b with
  | none => rfl
  | some o => have := k b o q; rw [z] at this; cases this
theorem St.go (S : St prog w B H s.heap) (T : Tr B H s H' s') (h : ∀ a o, H' a = some o → Has prog w s'.heap a o) : St prog w B H' s'.heap :=
  ⟨fun b o e => (T.ext b o (fun z => by have := S.new b z; rw [e] at this; cases this) (S.keep b o e)).base e, h, fun b z => by
    cases q : B.get? b with
    | none => rfl
    | some ob => have := S.new b (z.back T (S.keep b ob q)); rw [q] at this; cases this⟩
/-- nothing that is owned is changed -/
theorem St.same (S : St prog w B H s.heap) {h' : Heap} {tk : Nat} (k : ∀ b o, s.heap.get? b = some o → h'.get? b = some o) :
    St prog w B H h' ∧ Tr B H s H { s with heap := h', toks := tk } := by
  have T : Tr B H s H { s with heap := h', toks := tk } := ⟨fun b o _ e => .inl (k b o e), fun _ a b => absurd b a, fun _ _ => Iff.rfl, rfl, rfl, rfl, stay_of k⟩
  exact ⟨S.go T fun a o e => (S.obj a o e).keeps fun ob => k a ob, T⟩
theorem Tr.toks {tk : Nat} (T : Tr B H s H' s') : Tr B H s H' { s' with toks := tk } := ⟨T.ext, T.grow, T.ro, T.gens, T.drawn, T.os, T.stay⟩
theorem St.set (S : St prog w B H s.heap) {h' : Heap} {tk : Nat} (e : H a = some o) (n : ∀ xs, o ≠ .ro xs) (n' : ∀ xs, o' ≠ .ro xs) (k : ∀ b, b ≠ a → h'.get? b = s.heap.get? b) (x : Has prog w h' a o') :
    St prog w B (upd H a o') h' ∧ Tr B H s (upd H a o') { s with heap := h', toks := tk } := by
  have T : Tr B H s (upd H a o') { s with heap := h', toks := tk } := by
    refine ⟨fun b ob m q => .inl ((k b fun z => m ⟨o, z ▸ e, n⟩).trans q), fun b m q => ?_, fun b xs => ?_, rfl, rfl, rfl, fun b z => ?_⟩
    · by_cases z : b = a
      · subst z; rw [e] at q; cases q
      · rw [upd_ne z] at m; exact absurd q m
    · by_cases z : b = a
      · subst z; rw [e, upd_same]; constructor
        · intro y; exact absurd (Option.some.inj y) (n xs)
        · intro y; exact absurd (Option.some.inj y) (n' xs)
      · rw [upd_ne z]
    · by_cases q : b = a
      · subst q; obtain ⟨ob, e⟩ := x.here; rw [show h'.get? b = none from z] at e; cases e
      · exact (k b q).symm.trans z
  refine ⟨S.go T fun b ob q => ?_, T⟩
  by_cases z : b = a
  · subst z; rw [upd_same] at q; cases q; exact x
  · rw [upd_ne z] at q
    exact (S.obj b ob q).keeps fun _ y => (k b z).trans y
theorem St.add (S : St prog w B H s.heap) {h' : Heap} {tk : Nat} (e : s.heap.get? a = none) (n' : ∀ xs, o ≠ .ro xs) (k : ∀ b ob, s.heap.get? b = some ob → h'.get? b = some ob) (x : Has prog w h' a o) :
    St prog w B (upd H a o) h' ∧ Tr B H s (upd H a o) { s with heap := h', toks := tk } := by
  have hn := S.fresh e
  have T : Tr B H s (upd H a o) { s with heap := h', toks := tk } := by
    refine ⟨fun b ob m q => .inl (k b ob q), fun b m q => ?_, fun b xs => ?_, rfl, rfl, rfl, stay_of k⟩
    · by_cases z : b = a
      · subst z; exact e
      · rw [upd_ne z] at m; exact absurd q m
    · by_cases z : b = a
      · subst z; rw [hn, upd_same]; constructor
        · intro y; cases y
        · intro y; exact absurd (Option.some.inj y) (n' xs)
      · rw [upd_ne z]
  refine ⟨S.go T fun b ob q => ?_, T⟩
  by_cases z : b = a
  · subst z; rw [upd_same] at q; cases q; exact x
  · rw [upd_ne z] at q
    exact (S.obj b ob q).keeps (k b)
end
end Mine
end
section
open PySem PySem.W PyProof.Rows PySem.Calls PySem.Spec
open Classical
namespace Mine
inductive Fl where
  | nx | ct | rt (v : MV)
noncomputable def retOf : Fl → MV
  | .rt v => v
  | _ => .non
abbrev Loc := List (Option MV)
noncomputable abbrev Loc.at (l : Loc) (k : Nat) : Option MV := (l[k]?).join
noncomputable abbrev Loc.put (l : Loc) (k : Nat) (v : MV) : Loc := l.set k (some v)
abbrev Fn := List MV → (MV → Hp → Prop) → Hp → Prop
/-! pure readings -/
noncomputable def getIdx (xs : List MV) (k : Int) : Option MV := if 0 ≤ k then xs[k.toNat]? else if -(xs.length : Int) ≤ k then xs[(k + xs.length).toNat]? else none
/-- v.c is u -/
def AttrAt (H : Hp) (v : MV) (c : Nat) (u : MV) : Prop := ∃ x C d fs, v = .ref x ∧ H x = some (.inst C d) ∧ H d = some (.fld fs) ∧ fs.lookup c = some u
/-- a[b] is u -/
def IdxAt (H : Hp) (a b u : MV) : Prop :=
  (∃ p xs k, a = .ref p ∧ b = .int k ∧ (H p = some (.list xs) ∨ H p = some (.tup xs)) ∧ -(2 ^ 62) < k ∧ k < 2 ^ 62 ∧ getIdx xs k = some u) ∨
  (∃ p es x, a = .ref p ∧ b = .str x ∧ H p = some (.dict es) ∧ es.lookup x = some u)
def Flat (v : MV) : Prop := (∃ i, v = .int i) ∨ ∃ x, v = .str x
inductive EqR (H : Hp) : MV → MV → Bool → Prop
  | int (i j : Int) : EqR H (.int i) (.int j) (i == j)
  | str (x y : Str) : EqR H (.str x) (.str y) (x == y)
  | bool (x y : Bool) : EqR H (.bool x) (.bool y) (x == y)
  | ns (y : Str) : EqR H .non (.str y) false
  | sn (x : Str) : EqR H (.str x) .non false
  | tn {p xs} (h : H p = some (.tup xs)) : EqR H (.ref p) .non false
  | ll {p q xs ys} (h1 : H p = some (.list xs)) (h2 : H q = some (.list ys)) (hl : xs.length = ys.length) (f1 : ∀ v ∈ xs, Flat v) (f2 : ∀ v ∈ ys, Flat v) : EqR H (.ref p) (.ref q) (decide (xs = ys))
  | ln {p q xs ys} (h1 : H p = some (.list xs)) (h2 : H q = some (.list ys)) (hl : xs.length ≠ ys.length) : EqR H (.ref p) (.ref q) false
  | tt {p q xs ys} (h1 : H p = some (.tup xs)) (h2 : H q = some (.tup ys)) (f1 : ∀ v ∈ xs, Flat v) (f2 : ∀ v ∈ ys, Flat v) : EqR H (.ref p) (.ref q) (decide (xs = ys))
inductive CmpR (H : Hp) : CmpOp → MV → MV → Bool → Prop
  | lt (i j : Int) : CmpR H .Lt (.int i) (.int j) (decide (i < j))
  | le (i j : Int) : CmpR H .LtE (.int i) (.int j) (decide (i ≤ j))
  | gt (i j : Int) : CmpR H .Gt (.int i) (.int j) (decide (j < i))
  | ge (i j : Int) : CmpR H .GtE (.int i) (.int j) (decide (j ≤ i))
  | eq {a b c} (h : EqR H a b c) : CmpR H .Eq a b c
  | ne {a b c} (h : EqR H a b c) : CmpR H .NotEq a b (!c)
  | is (a : MV) : CmpR H .Is a .non (decide (a = .non))
  | isnt (a : MV) : CmpR H .IsNot a .non (!decide (a = .non))
  | ind {x p es} (h : H p = some (.dict es)) : CmpR H .In (.str x) (.ref p) (es.lookup x).isSome
  | nind {x p es} (h : H p = some (.dict es)) : CmpR H .NotIn (.str x) (.ref p) (!(es.lookup x).isSome)
  | inn {p xs} (h : H p = some (.list xs)) (f : ∀ v ∈ xs, v = .non ∨ ∃ x C d, v = .ref x ∧ H x = some (.inst C d)) : CmpR H .In .non (.ref p) (decide (MV.non ∈ xs))
  | ini {i p xs} (h : H p = some (.list xs)) (f : ∀ v ∈ xs, ∃ j, v = .int j) : CmpR H .In (.int i) (.ref p) (decide (MV.int i ∈ xs))
inductive IntR : Operator → Int → Int → Int → Prop
  | add (i j : Int) : IntR .Add i j (i + j)
  | sub (i j : Int) : IntR .Sub i j (i - j)
  | mod (i : Int) {j : Int} (h : 0 < j) : IntR .Mod i j (Int.fmod i j)
  | band (i j : Int) : IntR .BitAnd i j (Builtin.bitAnd i j)
  | shr (i : Int) {j : Int} (h : 0 ≤ j) : IntR .RShift i j (i.fdiv (2 ^ j.toNat))
noncomputable def alc (o : MObj) (Post : MV → Hp → Prop) (H : Hp) : Prop := ∀ a, H a = none → Post (.ref a) (upd H a o)
noncomputable def binP (o : Operator) (a b : MV) (Post : MV → Hp → Prop) (H : Hp) : Prop :=
  (∃ i j k, a = .int i ∧ b = .int j ∧ IntR o i j k ∧ Post (.int k) H) ∨
  (o = .Add ∧ ∃ x y, a = .str x ∧ b = .str y ∧ x.length ≤ 1000 ∧ y.length ≤ 1000 ∧ Post (.str (x ++ y)) H) ∨
  (o = .Add ∧ ∃ p q xs ys, a = .ref p ∧ b = .ref q ∧ H p = some (.list xs) ∧ H q = some (.list ys) ∧ xs.length ≤ 1000 ∧ ys.length ≤ 1000 ∧ alc (.list (xs ++ ys)) Post H)
noncomputable def digs (i : Int) : Str := Str.ofString (toString i)
noncomputable def putF (fs : List (Nat × MV)) (c : Nat) (u : MV) : List (Nat × MV) := match fs with
  | [] => [(c, u)]
  | p :: r => if p.1 = c then (c, u) :: r else p :: putF r c u
noncomputable def setAttrP (o : MV) (c : Nat) (u : MV) (Post : Hp → Prop) (H : Hp) : Prop :=
  ∃ x C d fs, o = .ref x ∧ H x = some (.inst C d) ∧ H d = some (.fld fs) ∧ fs.length ≤ 100 ∧ Post (upd H d (.fld (putF fs c u)))
noncomputable def putD (es : List (Str × MV)) (x : Str) (u : MV) : List (Str × MV) := if es.any (fun p => decide (p.1 = x)) then es.map (fun p => if p.1 = x then (p.1, u) else p) else es ++ [(x, u)]
noncomputable def setIdxP (o i u : MV) (Post : Hp → Prop) (H : Hp) : Prop :=
  (∃ p xs k, o = .ref p ∧ i = .int k ∧ H p = some (.list xs) ∧ 0 ≤ k ∧ k < xs.length ∧ xs.length ≤ 1000 ∧ Post (upd H p (.list (xs.set k.toNat u)))) ∨
  (∃ p es x, o = .ref p ∧ i = .str x ∧ H p = some (.dict es) ∧ es.length ≤ 1000 ∧ Post (upd H p (.dict (putD es x u))))
noncomputable def irange (n : Nat) : List MV := (List.range n).map fun (i : Nat) => MV.int (i : Int)
/-! what an expression, a test, a statement asks for -/
abbrev Den := Loc → (MV → Hp → Prop) → Hp → Prop
abbrev DenL := Loc → (List MV → Hp → Prop) → Hp → Prop
abbrev DenT := Loc → (Bool → Hp → Prop) → Hp → Prop
abbrev DenG := Loc → MV → (Loc → Hp → Prop) → Hp → Prop
abbrev DenGs := Loc → List MV → (Loc → Hp → Prop) → Hp → Prop
abbrev DenS := Loc → (Fl → Loc → Hp → Prop) → Hp → Prop
noncomputable abbrev dK (v : MV) : Den := fun _ P H => P v H
noncomputable abbrev dV (k : Nat) : Den := fun l P H => ∃ u, l.at k = some u ∧ P u H
noncomputable abbrev dAttr (d : Den) (c : Nat) : Den := fun l P H => d l (fun a H => ∃ u, AttrAt H a c u ∧ P u H) H
noncomputable abbrev dIdx (d i : Den) : Den := fun l P H => d l (fun a H => i l (fun b H => ∃ u, IdxAt H a b u ∧ P u H) H) H
noncomputable abbrev dSlTo (d : Den) (k : Int) : Den := fun l P H => d l (fun a H => ∃ p xs, a = .ref p ∧ H p = some (.ro xs) ∧ 0 ≤ k ∧ k < 1000 ∧ xs.length ≤ 1000 ∧ alc (.list (xs.take k.toNat)) P H) H
noncomputable abbrev dRev (d : Den) : Den := fun l P H => d l (fun a H => ∃ p xs, a = .ref p ∧ H p = some (.list xs) ∧ xs.length ≤ 1000 ∧ alc (.list xs.reverse) P H) H
noncomputable abbrev dRep (d n : Den) : Den := fun l P H => d l (fun x H => n l (fun b H => ∃ j : Int, b = .int j ∧ 0 ≤ j ∧ j ≤ 1000 ∧ alc (.list (List.replicate j.toNat x)) P H) H) H
noncomputable abbrev dBin (o : Operator) (x y : Den) : Den := fun l P H => x l (fun a H => y l (fun b H => binP o a b P H) H) H
noncomputable abbrev dCmp (o : CmpOp) (x y : Den) : Den := fun l P H => x l (fun a H => y l (fun b H => ∃ c, CmpR H o a b c ∧ P (.bool c) H) H) H
noncomputable abbrev dAnd (x y : Den) : Den := fun l P H => x l (fun a H => ∃ c, a = .bool c ∧ (if c = true then y l P H else P (.bool false) H)) H
noncomputable abbrev dIf (t : DenT) (x y : Den) : Den := fun l P H => t l (fun c H => if c = true then x l P H else y l P H) H
noncomputable abbrev lN : DenL := fun _ P H => P [] H
noncomputable abbrev lC (d : Den) (r : DenL) : DenL := fun l P H => d l (fun a H => r l (fun vs H => P (a :: vs) H) H) H
noncomputable abbrev dList (ds : DenL) : Den := fun l P H => ds l (fun vs H => vs.length ≤ 1000 ∧ alc (.list vs) P H) H
noncomputable abbrev dTup (ds : DenL) : Den := fun l P H => ds l (fun vs H => vs.length ≤ 1000 ∧ alc (.tup vs) P H) H
noncomputable abbrev dDct : Den := fun _ P H => alc (.dict []) P H
noncomputable abbrev dCall (F : Fn) (ds : DenL) : Den := fun l P H => ds l (fun vs H => F vs P H) H
noncomputable abbrev dLen (d : Den) : Den := fun l P H => d l (fun a H => ∃ p xs, a = .ref p ∧ (H p = some (.list xs) ∨ H p = some (.tup xs)) ∧ xs.length ≤ 1000 ∧ P (.int xs.length) H) H
noncomputable abbrev dLst (d : Den) : Den := fun l P H => d l (fun a H => ∃ p xs, a = .ref p ∧ H p = some (.list xs) ∧ xs.length ≤ 1000 ∧ alc (.list xs) P H) H
noncomputable abbrev dDic (d : Den) : Den := fun l P H => d l (fun a H => ∃ p es, a = .ref p ∧ H p = some (.dict es) ∧ es.length ≤ 1000 ∧ alc (.dict es) P H) H
noncomputable abbrev dStr (d : Den) : Den := fun l P H => d l (fun a H => ∃ i, a = .int i ∧ 0 ≤ i ∧ i < 10 ∧ P (.str (digs i)) H) H
noncomputable abbrev dApp (d x : Den) : Den := fun l P H => d l (fun a H => ∃ p, a = .ref p ∧ (∃ xs, H p = some (.list xs)) ∧ x l (fun u H => ∃ xs, H p = some (.list xs) ∧ xs.length ≤ 1000 ∧ P .non (upd H p (.list (xs ++ [u])))) H) H
noncomputable abbrev dPop (d : Den) : Den := fun l P H => d l (fun a H => ∃ p u, a = .ref p ∧ H p = some (.list [u]) ∧ P u (upd H p (.list []))) H
noncomputable abbrev dGet (d k : Den) : Den := fun l P H => d l (fun a H => ∃ p, a = .ref p ∧ (∃ es, H p = some (.dict es)) ∧ k l (fun b H => ∃ es x, H p = some (.dict es) ∧ b = .str x ∧ P ((es.lookup x).getD .non) H) H) H
noncomputable abbrev tCmp (o : CmpOp) (x y : Den) : DenT := fun l P H => x l (fun a H => y l (fun b H => ∃ c, CmpR H o a b c ∧ P c H) H) H
noncomputable abbrev tVal (d : Den) : DenT := fun l P H => d l (fun a H => ∃ c, a = .bool c ∧ P c H) H
noncomputable abbrev tNot (t : DenT) : DenT := fun l P H => t l (fun c H => P (!c) H) H
noncomputable abbrev tT : DenT := fun _ P H => P true H
noncomputable abbrev tF : DenT := fun _ P H => P false H
noncomputable abbrev tAnd (t r : DenT) : DenT := fun l P H => t l (fun c H => if c = true then r l P H else P false H) H
noncomputable abbrev tOr (t r : DenT) : DenT := fun l P H => t l (fun c H => if c = true then P true H else r l P H) H
/-- what is walked: 0 a list, 1 the numbers below n, 2 the numbers from 1 below n -/
noncomputable def srcP (r : Nat) (a : MV) (H : Hp) (items : List MV) (g : Hp → Prop) : Prop :=
  (r = 0 ∧ ∃ p, a = .ref p ∧ H p = some (.list items) ∧ items.length ≤ 1000 ∧ g = fun H => H p = some (.list items)) ∨
  (r = 1 ∧ ∃ n : Int, a = .int n ∧ 0 ≤ n ∧ n ≤ 1000 ∧ items = irange n.toNat ∧ g = fun _ => True) ∨
  (r = 2 ∧ ∃ n : Int, a = .int n ∧ 1 ≤ n ∧ n ≤ 1000 ∧ items = (List.range (n - 1).toNat).map (fun (i : Nat) => .int (1 + (i : Int))) ∧ g = fun _ => True)
noncomputable abbrev dComp (r : Nat) (src : Den) (cond : DenT) (elt : Den) : Den := fun l P H => src l (fun a H1 => ∃ items g, srcP r a H1 items g ∧
  ∃ I : Nat → List MV → Hp → Prop, I 0 [] H1 ∧
    (∀ i acc H2 v, I i acc H2 → items[i]? = some v → g H2 ∧ cond (l ++ [some v]) (fun b H3 => if b = true then elt (l ++ [some v]) (fun y H4 => I (i + 1) (acc ++ [y]) H4) H3 else I (i + 1) acc H3) H2) ∧
    (∀ acc H2, I items.length acc H2 → g H2 ∧ alc (.list acc) P H2)) H
/-- two fors: over a list, then over the numbers below n -/
noncomputable abbrev dComp2 (src n elt : Den) : Den := fun l P H => src l (fun a H1 => ∃ items g, srcP 0 a H1 items g ∧
  ∃ I : Nat → Nat → List MV → Hp → Prop, I 0 0 [] H1 ∧
    (∀ i acc H2 v, I i 0 acc H2 → items[i]? = some v → g H2 ∧ n (l ++ [some v, none]) (fun b H3 => ∃ m : Int, b = .int m ∧ 0 ≤ m ∧ m ≤ 1000 ∧ I i 0 acc H3 ∧
      (∀ j acc H4, I i j acc H4 → j < m.toNat → elt (l ++ [some v, some (.int (j : Int))]) (fun y H5 => I i (j + 1) (acc ++ [y]) H5) H4) ∧
      (∀ acc H4, I i m.toNat acc H4 → I (i + 1) 0 acc H4)) H2) ∧
    (∀ acc H2, I items.length 0 acc H2 → g H2 ∧ alc (.list acc) P H2)) H
noncomputable abbrev gV (k : Nat) : DenG := fun l u P H => P (l.put k u) H
noncomputable abbrev gAttr (d : Den) (c : Nat) : DenG := fun l u P H => d l (fun a H => setAttrP a c u (P l) H) H
noncomputable abbrev gIdx (d i : Den) : DenG := fun l u P H => d l (fun a H => i l (fun b H => setIdxP a b u (P l) H) H) H
noncomputable abbrev gN : DenGs := fun l us P H => us = [] ∧ P l H
noncomputable abbrev gC (g : DenG) (r : DenGs) : DenGs := fun l us P H => ∃ u vs, us = u :: vs ∧ g l u (fun l H => r l vs P H) H
noncomputable abbrev sAsg (t : DenG) (d : Den) : DenS := fun l P H => d l (fun u H => t l u (P .nx) H) H
noncomputable abbrev sAsgT (n : Nat) (ts : DenGs) (d : Den) : DenS := fun l P H => d l (fun u H => ∃ p us, u = .ref p ∧ H p = some (.tup us) ∧ us.length = n ∧ ts l us (P .nx) H) H
/-- names that the machine stores from the last to the first -/
noncomputable abbrev sAsgS (n : Nat) (ts : DenGs) (d : Den) : DenS := fun l P H => d l (fun u H => ∃ p us, u = .ref p ∧ H p = some (.tup us) ∧ us.length = n ∧ ts l us.reverse (P .nx) H) H
noncomputable abbrev sAug (o i d : Den) : DenS := fun l P H => o l (fun a H => i l (fun b H => ∃ u, IdxAt H a b u ∧ d l (fun y H => ∃ x z : Int, u = .int x ∧ y = .int z ∧ setIdxP a b (.int (x + z)) (P .nx l) H) H) H) H
noncomputable abbrev sExp (d : Den) : DenS := fun l P H => d l (fun _ H => P .nx l H) H
noncomputable abbrev sRet (d : Den) : DenS := fun l P H => d l (fun u H => P (.rt u) l H) H
noncomputable abbrev sIf (t : DenT) (b o : DenS) : DenS := fun l P H => t l (fun c H => if c = true then b l P H else o l P H) H
noncomputable abbrev sCont : DenS := fun l P H => P .ct l H
noncomputable abbrev sDead : DenS := fun _ _ _ => False
noncomputable abbrev sNil : DenS := fun l P H => P .nx l H
noncomputable abbrev sSeq (a b : DenS) : DenS := fun l P H => a l (fun f l H => match f with
  | .nx => b l P H
  | f => P f l H) H
/-- after a turn of a loop -/
noncomputable abbrev turnP (P : Fl → Loc → Hp → Prop) (I : Loc → Hp → Prop) (f : Fl) (l : Loc) (H : Hp) : Prop := match f with
  | .rt v => P (.rt v) l H
  | _ => I l H
noncomputable abbrev sWhl (t : DenT) (b : DenS) : DenS := fun l P H => ∃ (I : Nat → Loc → Hp → Prop) (n : Nat), I n l H ∧
  ∀ n l H, I n l H → t l (fun c H => if c = true then b l (turnP P fun l H => ∃ m, m < n ∧ I m l H) H else P .nx l H) H
noncomputable abbrev sFor (r : Nat) (t : DenG) (src : Den) (b : DenS) : DenS := fun l P H => src l (fun a H1 => ∃ items g, srcP r a H1 items g ∧
  ∃ I : Nat → Loc → Hp → Prop, I 0 l H1 ∧
    (∀ i l H v, I i l H → items[i]? = some v → g H ∧ t l v (fun l H => b l (turnP P (I (i + 1))) H) H) ∧
    (∀ l H, I items.length l H → g H ∧ P .nx l H)) H
end Mine
end
section
open PySem PySem.W PyProof.Rows PySem.Calls PySem.Spec
open Classical
namespace Mine
open PySem.SeqAt
structure ClsOK (K : Frag) (C : Addr) : Prop where
  ga : findIn K (.ref C) "__getattribute__" = some (some (.builtin "object.__getattribute__"))
  hd : hasDictIn K C = true
  at_ : ∀ c, c < 26 → findIn K (.ref C) (anm c) = some none
  sa : findIn K (.ref C) "__setattr__" = some (some (.builtin "object.__setattr__"))
  po : plainOver K C = true
  eq : findIn K (.ref C) "__eq__" = some (some (.builtin "object.__eq__"))
  ob : mroIn K C (.type "object") = some true
  nn : subIn K (.type "NoneType") (.ref C) = some false
structure Gnd (w : World) (K : Frag) (mg mb : Str → Option Value) (B : Heap) : Prop where
  g : B.Ns mainGlobals mg
  b : B.Ns builtinsNs mb
  lim : B.NoLimit
  blt : ∀ x : Str, x ≠ "__name__" → mb x = bootBuiltins x
  fr : ∀ x ∈ (["len", "range", "list", "dict", "str", "int"] : List Str), mg x = none
  X : K.In B
  cls : ∀ C, okC C → ClsOK K C
  sm : ∃ o, B.get? sysModules = some o
structure Amb (A : Around) (n : Nat) : Prop where
  hh : A.handled = none
  dp : A.depth + 8 * n < recursionLimit
  un : A.units + 100 * n + 100 < cLine
  fr : ∃ fs, A.frames = some fs
section
variable {prog : Program} {w : World} {K : Frag} {mg mb : Str → Option Value} {B : Heap} {A : Around} {E : Value → Shared → Prop} {s : Shared} {H : Hp} {a b u : MV} {ra rb ru : Value} {n : Nat}
  {Post : MV → Hp → Prop} {Q : Value → Shared → Prop}
abbrev Goes (prog : Program) (w : World) (B : Heap) (H : Hp) (s : Shared) (Post : MV → Hp → Prop) (Q : Value → Shared → Prop) : Prop :=
  ∀ rv v H' s', er rv = some v → Post v H' → St prog w B H' s'.heap → Tr B H s H' s' → Q rv s'
abbrev GoesU (prog : Program) (w : World) (B : Heap) (H : Hp) (s : Shared) (Post : Hp → Prop) (Q : Unit → Shared → Prop) : Prop :=
  ∀ H' s', Post H' → St prog w B H' s'.heap → Tr B H s H' s' → Q () s'
theorem Goes.val (S : St prog w B H s.heap) (G : Goes prog w B H s Post Q) {rv : Value} {v : MV} {tk : Nat} (e : er rv = some v) (p : Post v H) : Q rv { s with toks := tk } :=
  G rv v H _ e p S (Tr.toks Tr.refl)
theorem Goes.val' (S : St prog w B H s.heap) (G : Goes prog w B H s Post Q) {rv : Value} {v : MV} (e : er rv = some v) (p : Post v H) : Q rv s := G rv v H _ e p S Tr.refl
theorem Goes.new (S : St prog w B H s.heap) (G : Goes prog w B H s Post Q) {o : MObj} {h' : Heap} {ad : Addr} {tk : Nat} (p : alc o Post H) (f : s.heap.get? ad = none) (n' : ∀ xs, o ≠ .ro xs)
    (k : ∀ b ob, s.heap.get? b = some ob → h'.get? b = some ob) (x : Has prog w h' ad o) : Q (.ref ad) { s with heap := h', toks := tk } := by
  obtain ⟨S', T⟩ := S.add (tk := tk) f n' k x
  exact G _ _ _ _ rfl (p ad (S.fresh f)) S' T
theorem size_none (h : Heap) : h.get? h.objs.size = none := by
  cases q : h.get? h.objs.size with
  | none => rfl
  | some o => exact absurd (Heap.lt_size q) (Nat.lt_irrefl _)
theorem Goes.push (S : St prog w B H s.heap) (G : Goes prog w B H s Post Q) {o : MObj} {ob : Obj} {tk : Nat} (p : alc o Post H) (n' : ∀ xs, o ≠ .ro xs) (x : Has prog w (s.heap.push ob) s.heap.objs.size o) :
    Q (.ref s.heap.objs.size) { s with heap := s.heap.push ob, toks := tk } := G.new S p (size_none _) n' (fun _ _ e => Heap.get?_push_of_some _ e) x
theorem er_inv (e : er ra = some u) : (u = .non ∧ ra = .none) ∨ (∃ b, u = .bool b ∧ ra = .bool b) ∨ (∃ i t, u = .int i ∧ ra = .int i t) ∨ (∃ x t, u = .str x ∧ ra = .str x t) ∨ ∃ x, u = .ref x ∧ ra = .ref x := by
  cases ra <;> first | (cases e; done) | skip
  · cases e; exact .inl ⟨rfl, rfl⟩
  · cases e; exact .inr (.inl ⟨_, rfl, rfl⟩)
  · cases e; exact .inr (.inr (.inl ⟨_, _, rfl, rfl⟩))
  · cases e; exact .inr (.inr (.inr (.inl ⟨_, _, rfl, rfl⟩)))
  · cases e; exact .inr (.inr (.inr (.inr ⟨_, rfl, rfl⟩)))
theorem er_ref (e : er ra = some (.ref x)) : ra = .ref x := by
  rcases er_inv e with ⟨q, h⟩ | ⟨_, q, h⟩ | ⟨_, _, q, h⟩ | ⟨_, _, q, h⟩ | ⟨_, q, h⟩ <;> cases q
  exact h
theorem er_int {i : Int} (e : er ra = some (.int i)) : ∃ t, ra = .int i t := by
  rcases er_inv e with ⟨q, h⟩ | ⟨_, q, h⟩ | ⟨_, _, q, h⟩ | ⟨_, _, q, h⟩ | ⟨_, q, h⟩ <;> cases q
  exact ⟨_, h⟩
theorem er_str {x : Str} (e : er ra = some (.str x)) : ∃ t, ra = .str x t := by
  rcases er_inv e with ⟨q, h⟩ | ⟨_, q, h⟩ | ⟨_, _, q, h⟩ | ⟨_, _, q, h⟩ | ⟨_, q, h⟩ <;> cases q
  exact ⟨_, h⟩
theorem er_bool {x : Bool} (e : er ra = some (.bool x)) : ra = .bool x := by
  rcases er_inv e with ⟨q, h⟩ | ⟨_, q, h⟩ | ⟨_, _, q, h⟩ | ⟨_, _, q, h⟩ | ⟨_, q, h⟩ <;> cases q
  exact h
theorem er_non (e : er ra = some .non) : ra = .none := by
  rcases er_inv e with ⟨q, h⟩ | ⟨_, q, h⟩ | ⟨_, _, q, h⟩ | ⟨_, _, q, h⟩ | ⟨_, q, h⟩ <;> cases q
  exact h
theorem er_handed (e : er ra = some u) : handedIn ra = true := by
  rcases er_inv e with ⟨_, rfl⟩ | ⟨_, _, rfl⟩ | ⟨_, _, _, rfl⟩ | ⟨_, _, _, rfl⟩ | ⟨_, _, rfl⟩ <;> rfl
theorem Gnd.In (G : Gnd w K mg mb B) (S : St prog w B H s.heap) : K.In s.heap := fun a o e => S.keep _ _ (G.X _ _ e)
/-! attributes -/
theorem anm_inj : ∀ i, i < 26 → ∀ j, j < 26 → anm i = anm j → i = j := by decide +kernel
theorem ek_of {e : DictEntry} {x : Str} {v : MV} (h : ek e = some (x, v)) : (∃ t, e.key = .str x t) ∧ er e.val = some v := by
  unfold ek at h
  split at h
  · rename_i y t v' h1 h2
    cases h
    exact ⟨⟨t, h1⟩, h2⟩
  · cases h
theorem getL_cons {e : DictEntry} {r : List DictEntry} {x y : Str} {t : Tok} (h : e.key = .str y t) : getL x (e :: r) = if y = x then some (some e.val) else getL x r := by
  have h1 : e.key.isStr x = (y == x) := by rw [h]; rfl
  have h2 : e.refKey = false := by unfold DictEntry.refKey; rw [h]
  unfold getL
  rw [List.find?_cons, h1]
  by_cases q : y = x
  · subst q; simp
  · have : (y == x) = false := beq_eq_false_iff_ne.mpr q
    rw [this, if_neg q]
    dsimp only
    rw [List.any_cons, h2, Bool.false_or]
theorem fld_look {c : Nat} (hc : c < 26) : ∀ {fs : List (Nat × MV)} {des : List DictEntry}, des.map ek = fs.map (fun p => some (anm p.1, p.2)) → (∀ p ∈ fs, p.1 < 26) → 
    (∀ u, fs.lookup c = some u → ∃ rv, getL (anm c) des = some (some rv) ∧ er rv = some u) ∧ (getL (anm c) des).isSome = true
  | [], [], _, _ => ⟨fun _ h => (nomatch h), rfl⟩
  | [], _ :: _, h, _ => by simp at h
  | _ :: _, [], h, _ => by simp at h
  | p :: fs, e :: des, h, hp => by
    rw [List.map_cons, List.map_cons, List.cons.injEq] at h
    obtain ⟨⟨t, k⟩, v⟩ := ek_of h.1
    rw [getL_cons k, List.lookup_cons]
    by_cases q : p.1 = c
    · rw [show (c == p.1) = true by simp [q], if_pos (by rw [q])]
      exact ⟨fun u h => ⟨_, rfl, h ▸ v⟩, rfl⟩
    · rw [show (c == p.1) = false from beq_eq_false_iff_ne.mpr (Ne.symm q), if_neg (fun z => q (anm_inj _ (hp p (.head _)) _ hc z))]
      exact fld_look hc h.2 fun q hq => hp q (.tail _ hq)
theorem fld_put {c : Nat} (hc : c < 26) {hsh : Int} {t : Tok} (hu : er ru = some u) : ∀ {fs : List (Nat × MV)} {des : List DictEntry}, des.map ek = fs.map (fun p => some (anm p.1, p.2)) → (∀ p ∈ fs, p.1 < 26) → 
    (putL (anm c) hsh (.str (anm c) t) ru des).map ek = (putF fs c u).map (fun p => some (anm p.1, p.2))
  | [], [], _, _ => by simp [putL, putF, ek, hu]
  | [], _ :: _, h, _ => by simp at h
  | _ :: _, [], h, _ => by simp at h
  | p :: fs, e :: des, h, hp => by
    rw [List.map_cons, List.map_cons, List.cons.injEq] at h
    obtain ⟨⟨t', k⟩, v⟩ := ek_of h.1
    have ih := fld_put hc (hsh := hsh) (t := t) hu h.2 fun q hq => hp q (.tail _ hq)
    have h1 : e.key.isStr (anm c) = (anm p.1 == anm c) := by rw [k]; rfl
    unfold putL putF
    rw [h1]
    by_cases q : p.1 = c
    · rw [if_pos q, if_pos (by rw [q]; simp)]
      rw [List.map_cons, List.map_cons, h.2]
      congr 1
      unfold ek
      rw [k]
      dsimp only
      rw [hu]
      dsimp only
      rw [q]
    · rw [if_neg q, if_neg (by simp; exact fun z => q (anm_inj _ (hp p (.head _)) _ hc z)), List.map_cons, List.map_cons, ih, h.1]
theorem putF_lt {c : Nat} (hc : c < 26) : ∀ {fs : List (Nat × MV)}, (∀ p ∈ fs, p.1 < 26) → ∀ p ∈ putF fs c u, p.1 < 26
  | [], _, p, hp => by rw [List.mem_singleton.mp hp]; exact hc
  | q :: fs, h, p, hp => by
    unfold putF at hp
    split at hp
    · rcases List.mem_cons.mp hp with rfl | hp
      · exact hc
      · exact h p (.tail _ hp)
    · rcases List.mem_cons.mp hp with rfl | hp
      · exact h p (.head _)
      · exact putF_lt hc (fun p hp => h p (.tail _ hp)) p hp
theorem inst_at {x C d : Addr} {fs : List (Nat × MV)} (S : St prog w B H s.heap) (h1 : H x = some (.inst C d)) (h2 : H d = some (.fld fs)) :
    okC C ∧ ∃ des n, s.heap.get? d = some (dictOf des n) ∧ des.map ek = fs.map (fun p => some (anm p.1, p.2)) ∧ (∀ p ∈ fs, p.1 < 26) ∧ PySem.W.InstAt s.heap x (instObj C d) C (some (dictOf des n)) := by
  obtain ⟨hC, e1⟩ := S.obj _ _ h1
  obtain ⟨lt, des, n, e2, m⟩ := S.obj _ _ h2
  exact ⟨hC, des, n, e2, m, lt, e1, rfl, rfl, e2⟩
theorem attr_ok (G : Gnd w K mg mb B) (S : St prog w B H s.heap) {c : Nat} (hc : c < 26) (ea : er ra = some a) (h : AttrAt H a c u) (k : ∀ ru tk, er ru = some u → Q ru { s with toks := tk }) :
    wpAny (model prog w) A (getAttr ra (anm c) true) Q E s := by
  obtain ⟨x, C, d, fs, rfl, h1, h2, hu⟩ := h
  obtain rfl := er_ref ea
  obtain ⟨hC, des, nn, e2, m, lt, I⟩ := inst_at S h1 h2
  obtain ⟨rv, e3, e4⟩ := (fld_look hc m lt).1 u hu
  have C := G.cls _ hC
  exact get_value (G.In S) I C.ga (findObj_own C.hd (C.at_ c hc) rfl (by rw [lookIn_dict]; exact e3)) (er_handed e4) (k _ _ e4)
theorem sz_put (x : Str) (hsh : Int) (key v : Value) : ∀ es : List DictEntry, (putL x hsh key v es).length ≤ es.length + 1
  | [] => by simp [putL]
  | e :: r => by
    unfold putL
    split
    · simp
    · have := sz_put x hsh key v r
      simp only [List.length_cons]; omega
theorem setAttr_ok {P : Hp → Prop} {Q : Unit → Shared → Prop} (G : Gnd w K mg mb B) (S : St prog w B H s.heap) {c : Nat} (hc : c < 26) (ea : er ra = some a) (eu : er ru = some u) (h : setAttrP a c u P H) (k : GoesU prog w B H s P Q) :
    wpAny (model prog w) A (setAttr ra (anm c) ru) Q E s := by
  obtain ⟨x, C, d, fs, rfl, h1, h2, hz, hp⟩ := h
  obtain rfl := er_ref ea
  obtain ⟨hC, des, nn, e2, m, lt, I⟩ := inst_at S h1 h2
  have CO := G.cls _ hC
  have X := G.In S
  have gl := (fld_look hc m lt).2
  have hlen : des.length = fs.length := by have := congrArg List.length m; simpa using this
  refine set_plain X I CO.sa (osa_open (s := { s with toks := s.toks + 1 }) X I CO.po (r := none) (by unfold takerIn; rw [CO.at_ c hc]; rfl) fun b => ?_)
  obtain ⟨cd, hcd, hdd⟩ := any_some CO.hd
  refine wpAny_bind (wpAny_pure (wpAny_bind (wpAny_bind (wpAny_loadPart I.at_ (wpAny_bind ((looks_clsIn X hcd) _ _ _ _ (fun _ _ e => e) ?_))))))
  rw [hdd]
  refine wpAny_pure (a := some d) (wpAny_bind (wpAny_pure (wpAny_bind ?_)))
  unfold nsSet
  refine wpAny_bind (wpAny_bind (wpAny_askSetting (wpAny_pure (wpAny_bind (wpAny_mkText (wpAny_bind (wpAny_loadPart e2 ?_)))))))
  dsimp only
  have cc : (!(des.toArray.any (·.key.isStr (anm c))) && des.toArray.any (·.refKey)) = false := by
    have : des.toArray.any (·.refKey) = false := by
      rw [← Array.any_toList, List.any_eq_false]
      intro e he
      have : ek e ∈ fs.map (fun p => some (anm p.1, p.2)) := by rw [← m]; exact List.mem_map_of_mem he
      obtain ⟨p, _, hp⟩ := List.mem_map.mp this
      obtain ⟨⟨t, kk⟩, _⟩ := ek_of hp.symm
      unfold DictEntry.refKey; rw [kk]; simp
    rw [this, Bool.and_false]
  rw [aRefKeyMayBeTheName_at, cc]
  refine wpAny_updatePart e2 ?_
  have e3 := putName_dict (anm c) (PyData.keyHash w.params (anm c)) (.str (anm c) (s.toks + 1)) ru des nn
  have e4 := Heap.get?_update_self (Obj.putName (anm c) (PyData.keyHash w.params (anm c)) (.str (anm c) (s.toks + 1)) ru) e2 (by rw [e3]; rfl)
  rw [e3] at e4
  have hx : Has prog w (s.heap.update d (Obj.putName (anm c) (PyData.keyHash w.params (anm c)) (.str (anm c) (s.toks + 1)) ru)) d (.fld (putF fs c u)) :=
    ⟨putF_lt hc lt, _, _, e4, fld_put hc eu m lt⟩
  obtain ⟨S', T⟩ := S.set (tk := s.toks + 1 + 1) h2 (by intro xs; simp) (by intro xs; simp) (fun b hb => Heap.get?_update_other _ _ (Ne.symm hb)) hx
  refine wpAny_bind (wpAny_lookBehind e4 ?_ ?_)
  · exact pastItsLine_dict (by have := sz_put (anm c) (PyData.keyHash w.params (anm c)) (.str (anm c) (s.toks + 1)) ru des; rw [List.size_toArray, sizeLine_eq]; omega)
  · exact wpAny_pure (k _ _ hp S' T)
/-! items -/
theorem ers.len {vs : List Value} {xs : List MV} (h : ers vs xs) : vs.length = xs.length := by have := congrArg List.length h; simpa using this
theorem ers.get {vs : List Value} {xs : List MV} (h : ers vs xs) {i : Nat} {u : MV} (e : xs[i]? = some u) : ∃ rv, vs[i]? = some rv ∧ er rv = some u := by
  have := congrArg (·[i]?) h
  simp only [List.getElem?_map, e, Option.map_some] at this
  exact Option.map_eq_some_iff.mp this
theorem ers.get' {vs : List Value} {xs : List MV} (h : ers vs xs) {i : Nat} {rv : Value} (e : vs[i]? = some rv) : ∃ u, xs[i]? = some u ∧ er rv = some u := by
  have := congrArg (·[i]?) h
  simp only [List.getElem?_map, e, Option.map_some] at this
  obtain ⟨u, a, b⟩ := Option.map_eq_some_iff.mp this.symm
  exact ⟨u, a, b.symm⟩
theorem ers.mem {vs : List Value} {xs : List MV} (h : ers vs xs) {rv : Value} (e : rv ∈ vs) : ∃ u, u ∈ xs ∧ er rv = some u := by
  obtain ⟨i, hi⟩ := List.getElem?_of_mem e
  obtain ⟨u, a, b⟩ := h.get' hi
  exact ⟨u, List.mem_of_getElem? a, b⟩
theorem ers.nil : ers [] [] := rfl
theorem ers.cons {vs : List Value} {xs : List MV} (h : ers vs xs) {rv : Value} {u : MV} (e : er rv = some u) : ers (rv :: vs) (u :: xs) := by
  unfold ers; rw [List.map_cons, List.map_cons, e, h]
theorem ers.app {vs ws : List Value} {xs ys : List MV} (h : ers vs xs) (k : ers ws ys) : ers (vs ++ ws) (xs ++ ys) := by
  unfold ers; rw [List.map_append, List.map_append, h, k]
theorem kv_look {x : Str} : ∀ {es : List (Str × MV)} {kvs : List (Str × Value)}, kvs.map (fun p => (p.1, er p.2)) = es.map (fun p => (p.1, some p.2)) →
    (∀ u, es.lookup x = some u → ∃ rv, valueAt kvs x = some rv ∧ er rv = some u) ∧ (es.lookup x = none → valueAt kvs x = none)
  | [], [], _ => ⟨fun _ h => (nomatch h), fun _ => rfl⟩
  | [], _ :: _, h => by simp at h
  | _ :: _, [], h => by simp at h
  | p :: es, q :: kvs, h => by
    rw [List.map_cons, List.map_cons, List.cons.injEq] at h
    obtain ⟨h1, h2⟩ := Prod.mk.inj h.1
    have ih := kv_look (x := x) h.2
    rw [List.lookup_cons]
    unfold valueAt at ih ⊢
    rw [List.find?_cons]
    by_cases z : x = p.1
    · rw [show (x == p.1) = true by simp [z], show decide (q.1 = x) = true from by simp [h1, z]]
      exact ⟨fun u h => ⟨q.2, rfl, h ▸ h2⟩, fun h => (nomatch h)⟩
    · rw [show (x == p.1) = false from beq_eq_false_iff_ne.mpr z, show decide (q.1 = x) = false from by simp [h1, Ne.symm z]]
      exact ih
theorem strIs (x : Str) (t : Tok) : (strKind prog w).is x (.str x t) = true := by show Value.isStrOf x (.str x t) = true; simp [Value.isStrOf]
theorem get_pos {xs : List MV} {k : Int} (h : getIdx xs k = some u) : (0 ≤ k ∧ xs[k.toNat]? = some u) ∨ (k < 0 ∧ -(xs.length : Int) ≤ k ∧ xs[(k + xs.length).toNat]? = some u) := by
  unfold getIdx at h
  split at h
  · exact .inl ⟨by assumption, h⟩
  · split at h
    · exact .inr ⟨by omega, by assumption, h⟩
    · cases h
theorem idx_ok (G : Gnd w K mg mb B) (S : St prog w B H s.heap) (ea : er ra = some a) (eb : er rb = some b) (h : IdxAt H a b u) (k : ∀ ru tk, er ru = some u → Q ru { s with toks := tk }) :
    wpAny (model prog w) A (getItem ra rb) Q E s := by
  rcases h with ⟨p, xs, i, rfl, rfl, h1, l1, l2, hg⟩ | ⟨p, es, x, rfl, rfl, h1, hu⟩
  · obtain rfl := er_ref ea
    obtain ⟨t, rfl⟩ := er_int eb
    have m1 : -(2 ^ 63) ≤ i := by omega
    have m2 : i < 2 ^ 63 := by omega
    rcases h1 with h1 | h1
    · obtain ⟨vs, hl, hv⟩ := S.obj _ _ h1
      rcases get_pos hg with ⟨h0, hg⟩ | ⟨h0, hn, hg⟩
      · obtain ⟨rv, e1, e2⟩ := hv.get hg
        exact wpAny_getItem_list hl.isList h0 m2 (by rw [List.getElem?_toArray]; exact e1) (k _ _ e2)
      · obtain ⟨rv, e1, e2⟩ := hv.get hg
        have sz : vs.toArray.size = xs.length := by rw [List.size_toArray, hv.len]
        exact wpAny_getItem_list_neg hl.isList h0 (by rw [sz]; exact hn) m1 (by rw [sz, List.getElem?_toArray]; exact e1) (k _ _ e2)
    · obtain ⟨vs, hl, hv⟩ := S.obj _ _ h1
      have sz : vs.toArray.size = xs.length := by rw [List.size_toArray, hv.len]
      rcases get_pos hg with ⟨h0, hg⟩ | ⟨h0, hn, hg⟩
      · obtain ⟨rv, e1, e2⟩ := hv.get hg
        have ll : i.toNat < xs.length := (List.getElem?_eq_some_iff.mp hg).1
        refine PyProof.Rows.getItem_tuple (j := i.toNat) hl m1 m2 ?_ (by rw [List.getElem?_toArray]; exact e1) (k _ _ e2)
        unfold seqIndex?
        rw [sz, if_neg (Int.not_lt.mpr h0)]
        exact if_pos (Bool.and_eq_true_iff.mpr ⟨decide_eq_true h0, decide_eq_true (by omega)⟩)
      · obtain ⟨rv, e1, e2⟩ := hv.get hg
        refine PyProof.Rows.getItem_tuple (j := (i + xs.length).toNat) hl m1 m2 ?_ (by rw [List.getElem?_toArray]; exact e1) (k _ _ e2)
        unfold seqIndex?
        rw [sz, if_pos h0]
        exact if_pos (Bool.and_eq_true_iff.mpr ⟨decide_eq_true (by omega), decide_eq_true (by omega)⟩)
  · obtain rfl := er_ref ea
    obtain ⟨t, rfl⟩ := er_str eb
    obtain ⟨kvs, hd, hm⟩ := S.obj _ _ h1
    obtain ⟨rv, e1, e2⟩ := (kv_look (x := x) hm).1 u hu
    exact wpAny_getItem_of (strIs x t) hd.mapOf e1 (k _ _ e2)
end
end Mine
end
section
open PySem PySem.W PyProof.Rows PySem.Calls PySem.Spec
open Classical
namespace Mine
open PySem.SeqAt
section
variable {prog : Program} {w : World} {K : Frag} {mg mb : Str → Option Value} {B : Heap} {A : Around} {E : Value → Shared → Prop} {s : Shared} {H : Hp} {a b u : MV} {ra rb ru : Value} {n : Nat}
  {Post : MV → Hp → Prop} {Q : Value → Shared → Prop}
theorem set_plainList {l : Addr} {items : Array Value} {k : Int} {t : Tok} {v : Value} {Q : Unit → Shared → Prop} (hl : s.heap.PlainList l items) (h0 : 0 ≤ k) (hfit : k < 2 ^ 63) (hn : k < items.size)
    (hQ : ∀ h', h'.PlainList l (items.setIfInBounds k.toNat v) → Heap.SameBut l s.heap h' → Q () { s with heap := h' }) : wpAny (model prog w) A (setItem (.ref l) (.int k t) v) Q E s := by
  obtain ⟨m, ho⟩ := hl
  have hT : s.TypeIs (.ref l) "list" := ⟨_, ho, rfl⟩
  unfold setItem
  refine wpAny_holding (wpAny_bind (wpAny_sequenceKey hT (by decide) ?_))
  refine wpAny_bind (wpAny_callSpecial?_slot (name := Str.ofString "__setitem__") hT slot_list_setitem (wpAny_call_entry slot_list_setitem hT entry_list_setitem ?_ (args_list_setitem _ _ _)))
  show wpAny _ _ (Builtin.List.listSubscript? (.int k t) >>= _) _ _ s
  refine wpAny_bind (wpAny_listSubscript_int (fitsIndex_of h0 hfit) ?_)
  obtain ⟨j, rfl⟩ := Int.eq_ofNat_of_zero_le h0
  have hj : j < items.size := by omega
  show wpAny _ _ ((seqItemAt l j >>= fun r => pure (r.map (j, ·))) >>= _) _ _ s
  refine wpAny_bind (wpAny_bind (wpAny_seqItemAt ho rfl (wpAny_pure ?_)))
  rw [Array.getElem?_eq_getElem hj]
  show wpAny _ _ (setSeqItemAt l j v >>= _) _ _ s
  have e : Obj.mapSeq (·.setIfInBounds j v) { cls := .type "list", data := .seq items m } = { cls := .type "list", data := .seq (items.setIfInBounds j v) m } := by simp [Obj.mapSeq]
  have hf : (s.heap.update l (Obj.mapSeq (·.setIfInBounds j v))).PlainList l (items.setIfInBounds j v) := ⟨m, by rw [Heap.get?_update_self _ ho (by rw [e]; rfl), e]⟩
  refine wpAny_bind (wpAny_setSeqItemAt ho rfl ?_)
  exact wpAny_pure ⟨.none, rfl, wpAny_pure (hQ _ hf (Heap.SameBut.update ..))⟩
theorem ers.set {vs : List Value} {xs : List MV} (h : ers vs xs) {i : Nat} (e : er ru = some u) : ers (vs.set i ru) (xs.set i u) := by
  unfold ers; rw [List.map_set, List.map_set, h, e]
theorem kv_put {x : Str} (eu : er ru = some u) {es : List (Str × MV)} {kvs : List (Str × Value)} (h : kvs.map (fun p => (p.1, er p.2)) = es.map (fun p => (p.1, some p.2))) :
    (stored kvs x ru).map (fun p => (p.1, er p.2)) = (putD es x u).map (fun p => (p.1, some p.2)) := by
  have hk : kvs.map (·.1) = es.map (·.1) := by have := congrArg (List.map (·.1)) h; simpa [List.map_map, Function.comp_def] using this
  have ha : (kvs.any fun kv => decide (kv.1 = x)) = es.any fun p => decide (p.1 = x) := by
    have := congrArg (fun l : List Str => l.any fun y => decide (y = x)) hk
    simpa [List.any_map, Function.comp_def] using this
  unfold stored putD
  rw [ha]
  split
  · have : ∀ (kvs : List (Str × Value)) (es : List (Str × MV)), kvs.map (fun p => (p.1, er p.2)) = es.map (fun p => (p.1, some p.2)) →
        (kvs.map fun kv => if kv.1 = x then (kv.1, ru) else kv).map (fun p => (p.1, er p.2)) = (es.map fun p => if p.1 = x then (p.1, u) else p).map (fun p => (p.1, some p.2)) := by
      intro kvs
      induction kvs with
      | nil => intro es h; cases es with | nil => rfl | cons => simp at h
      | cons q kvs ih =>
        intro es h
        cases es with
        | nil => simp at h
        | cons p es =>
          simp only [List.map_cons, List.cons.injEq] at h ⊢
          refine ⟨?_, ih es h.2⟩
          obtain ⟨h1, h2⟩ := Prod.mk.inj h.1
          by_cases z : p.1 = x
          · rw [if_pos (h1.trans z), if_pos z]; simp [h1, eu]
          · rw [if_neg (fun y => z (h1.symm.trans y)), if_neg z]; simp [h1, h2]
    exact this kvs es h
  · rw [List.map_append, List.map_append, h]; simp [eu]
theorem setIdx_ok {P : Hp → Prop} {Q : Unit → Shared → Prop} (G : Gnd w K mg mb B) (S : St prog w B H s.heap) (ea : er ra = some a) (eb : er rb = some b) (eu : er ru = some u) (h : setIdxP a b u P H) (k : GoesU prog w B H s P Q) :
    wpAny (model prog w) A (setItem ra rb ru) Q E s := by
  rcases h with ⟨p, xs, i, rfl, rfl, h1, h0, hi, hz, hp⟩ | ⟨p, es, x, rfl, rfl, h1, hz, hp⟩
  · obtain rfl := er_ref ea
    obtain ⟨t, rfl⟩ := er_int eb
    obtain ⟨vs, hl, hv⟩ := S.obj _ _ h1
    have sz : vs.toArray.size = xs.length := by simp [hv.len]
    refine set_plainList hl h0 (by omega) (by rw [sz]; exact hi) fun h' hl' hs => ?_
    obtain ⟨S', T⟩ := S.set (tk := s.toks) (o' := .list (xs.set i.toNat u)) h1 (by intro xs; simp) (by intro xs; simp) (fun b hb => hs.2 b hb) ⟨vs.set i.toNat ru, by simpa using hl', hv.set eu⟩
    exact k _ _ hp S' T
  · obtain rfl := er_ref ea
    obtain ⟨t, rfl⟩ := er_str eb
    obtain ⟨kvs, hd, hm⟩ := S.obj _ _ h1
    have sz : kvs.length = es.length := by have := congrArg List.length hm; simpa using this
    refine wpAny_setItem_pairs (strIs x t) hd (fun h' hd' hs => ?_) (by rw [sz, sizeLine_eq]; omega)
    obtain ⟨S', T⟩ := S.set (tk := s.toks + 1) (o' := .dict (putD es x u)) h1 (by intro xs; simp) (by intro xs; simp) (fun b hb => hs.2 b hb) ⟨_, hd', kv_put eu hm⟩
    exact k _ _ hp S' T
/-! arithmetic and concatenation -/
theorem bin_ok (G : Gnd w K mg mb B) (S : St prog w B H s.heap) (o : Operator) (ea : er ra = some a) (eb : er rb = some b) (h : binP o a b Post H) (k : Goes prog w B H s Post Q) :
    wpAny (model prog w) A (binaryOp o ra rb) Q E s := by
  rcases h with ⟨i, j, l, rfl, rfl, h, hp⟩ | ⟨rfl, x, y, rfl, rfl, h1, h2, h⟩ | ⟨rfl, p, q, xs, ys, rfl, rfl, h1, h2, l1, l2, hp⟩
  · obtain ⟨t, rfl⟩ := er_int ea; obtain ⟨t', rfl⟩ := er_int eb
    cases h with
    | add => exact PyProof.Rows.add_int (k.val S rfl hp)
    | sub => exact PyProof.Rows.sub_int (k.val S rfl hp)
    | mod _ h => exact PyProof.Rows.mod_int (Int.ne_of_gt h) (k.val S rfl hp)
    | band => exact and_int (k.val S rfl hp)
    | shr _ h => exact rshift_int h (k.val S rfl hp)
  · obtain ⟨t, rfl⟩ := er_str ea; obtain ⟨t', rfl⟩ := er_str eb
    exact PyProof.Rows.add_str (fun t' tk => k.val S rfl h) (by rw [sizeLine_eq]; omega)
  · obtain rfl := er_ref ea; obtain rfl := er_ref eb
    obtain ⟨vs, ⟨m1, e1⟩, hv⟩ := S.obj _ _ h1
    obtain ⟨ws, ⟨m2, e2⟩, hw⟩ := S.obj _ _ h2
    have s1 := hv.len
    have s2 := hw.len
    refine concat_meets ⟨_, e1, rfl⟩ ⟨_, e2, rfl⟩ noFill_list_add seq_list_add PySem.F.slot_list_add PySem.F.entry_list_add (PySem.F.args_list_add_2 _ _) (list_addW p q vs.toArray ws.toArray m1 m2 none none #[] #[] (by simp [sizeLine_eq]; omega)) ⟨e1, e2, ?_⟩
    exact k.push (tk := s.toks) S hp (by intro xs; simp) ⟨vs ++ ws, ⟨0, by rw [Heap.get?_push_size _ rfl]; simp⟩, hv.app hw⟩
theorem rep_ok (S : St prog w B H s.heap) {l : Addr} {m : Nat} {i : Int} {t : Tok} {v : Value} {x : MV} (hl : s.heap.get? l = some { cls := .type "list", dict := none, data := .seq #[v] m, slots := #[] }) (ev : er v = some x)
    (h0 : 0 ≤ i) (h1 : i ≤ 1000) (hp : alc (.list (List.replicate i.toNat x)) Post H) (k : Goes prog w B H s Post Q) : wpAny (model prog w) A (binaryOp .Mult (.ref l) (.int i t)) Q E s := by
  refine wpAny_binaryOp_repeat_ref (T := "list") (U := "int") (by decide) ⟨_, hl, rfl⟩ (fun s' => typeIs_int s' i t) noFill_list_mul PySem.F.fills_int_mul PySem.F.slot_int_rmul repeat_list PySem.F.slot_int_index.lookup
    (call_meets PySem.F.slot_int_rmul (typeIs_int s i t) PySem.F.entry_int_rmul (PySem.F.args_int_rmul_2 _ _) (int___rmul___int_list i t l #[v] m)
      ⟨hl, rfl, ⟨_, hl, rfl⟩, call_meets PySem.F.slot_list_mul ⟨_, hl, rfl⟩ PySem.F.entry_list_mul (PySem.F.args_list_mul_2 _ _)
        (AutoListH.list___mul___list_int_3 l #[v] m i t (by simp [Builtin.List.listFitsIndex]; omega) (by simp; omega) (by simp [Builtin.List.listTooLong, sizeLine]; omega))
        ⟨hl, ?_⟩⟩)
  have e : List.foldl (fun x1 x2 => x1 ++ x2) #[] (List.replicate (if (#[v] : Array Value).isEmpty = true then 0 else i.toNat) #[v]) = (List.replicate i.toNat v).toArray := by
    have : ∀ (n : Nat) (acc : List Value), List.foldl (fun x1 x2 => x1 ++ x2) acc.toArray (List.replicate n #[v]) = (acc ++ List.replicate n v).toArray := by
      intro n
      induction n with
      | zero => intro acc; simp
      | succ n ih => intro acc; rw [List.replicate_succ, List.foldl_cons, show acc.toArray ++ #[v] = (acc ++ [v]).toArray by simp, ih, List.append_assoc]; rfl
    simpa using this i.toNat []
  have z := k.push (tk := s.toks) (ob := { cls := .type "list", data := .seq (List.replicate i.toNat v).toArray }) S hp (by intro xs; simp) ⟨List.replicate i.toNat v, ⟨0, Heap.get?_push_size _ rfl⟩, by unfold ers; simp [ev]⟩
  rw [← e] at z
  exact z
end
end Mine
end
section
open PySem PySem.W PyProof.Rows PySem.Calls PySem.Spec
open Classical
namespace Mine
open PySem.SeqAt
section
variable {prog : Program} {w : World} {K : Frag} {mg mb : Str → Option Value} {B : Heap} {A : Around} {E : Value → Shared → Prop} {s : Shared} {H : Hp} {a b u : MV} {ra rb ru : Value} {n : Nat}
  {Post : MV → Hp → Prop} {Q : Value → Shared → Prop}
theorem rc_inst {M : Model} {x C d : Addr} (X : K.In s.heap) (e1 : s.heap.get? x = some (instObj C d)) (CO : ClsOK K C) (hu : A.units < cLine) {prog : Program} {w : World} (h : Q (.bool false) s) :
    wpAny (model prog w) A (richCompare .Eq (.ref x) .none) Q E s := by
  have LT : Looks (model prog w) s.heap (typeOf (.ref x)) (.ref C) := (Looks.ld e1).andThen .now
  unfold richCompare
  simp only [oneThing_ref]
  refine wpAny_holding (wpAny_bind (wpAny_cRoomFor hu (wpAny_bind (LT.here (wpAny_bind (wpAny_pure ?_))))))
  refine wpAny_bind ((looks_subIn X CO.nn).here ?_)
  simp only [Bool.false_eq_true, if_false, Bool.not_false, if_true]
  have t1 : ∀ {Q : Option Value → Shared → Prop}, Q none s → wpAny (model prog w) A (tryCompare (.ref x) "__eq__" .none) Q E s := by
    intro Q q
    unfold tryCompare
    refine wpAny_bind ?_
    simp only [callSpecialIfBound?, bindSpecialIfBound?]
    refine wpAny_holding (wpAny_bind (wpAny_bind (wpAny_bind (LT.here ((looks_findIn X CO.eq).here ?_)))))
    have hb : bindSpecial (.builtin "object.__eq__") (.ref x) = pure (.builtin "object.__eq__", [.ref x]) := PySem.F.cmp_object.eq.bind (.ref x)
    dsimp only
    rw [hb]
    have fin : wpAny (model prog w) A (call (.builtin "object.__eq__") ([.ref x] ++ [.none]) >>= fun v => pure (some v)) (fun r s' => wpAny (model prog w) A (match r with | some .notImplemented => pure none | none => pure none | some v => pure (some v)) Q E s') E s := by
      refine wpAny_bind (wpAny_call (codeAny_call_builtin PySem.F.cmp_object.eq.plain PySem.F.cmpEntry_eq (@check_slot (model prog w) _ _ s "object.__eq__" "object" "__eq__" (.ref x) [.none] [] _ PySem.F.cmpKind_eq PySem.F.cmpSplit_eq (LT.andThen (looks_mroIn X CO.ob)) (PySem.F.cmpArgs_eq _ _) ?_)))
      refine wpAny_mono (TypeEq.object_eq_other (a := .ref x) (b := .none) rfl rfl prog w A (fun r s' => r = .ok (.ret .notImplemented) ∧ s' = s) s ⟨rfl, rfl⟩) (fun fin s' z => ?_) (fun e s' z => nomatch z.1)
      rcases fin with (_ | _ | _ | v) | c
      · exact nomatch z.1
      · exact nomatch z.1
      · exact nomatch z.1
      · obtain ⟨z1, rfl⟩ := z
        cases z1
        exact wpAny_pure (wpAny_pure q)
      · exact ⟨z.1, codeAny_mono z.2 fun r s' h => by obtain ⟨rfl, rfl⟩ := h; exact wpAny_pure (wpAny_pure q)⟩
    refine wpAny_bind (wpAny_askSetting (wpAny_ite ?_))
    split
    · exact wpAny_bind (wpAny_pure (wpAny_pure fin))
    · exact wpAny_tryCatch (wpAny_bind (wpAny_pure (wpAny_pure fin)))
  refine wpAny_bind (t1 (wpAny_bind (m := tryCompare .none "__eq__" (.ref x)) (wpAny_tryCompare_declines (T := "NoneType") rfl PySem.F.slot_NoneType_eq_refl (call_gives PySem.F.slot_NoneType_eq_refl rfl PySem.F.entry_NoneType_eq (PySem.F.args_NoneType_eq_2 _ _) (NoneType___eq___none_ref_0 x) ⟨rfl, ?_⟩))))
  exact wpAny_bind (wpAny_rule (wpAny_bind (wpAny_of_eq (rfl : isSame (.ref x) .none = pure false) (wpAny_pure h))))
theorem eq_inst {x C d : Addr} (X : K.In s.heap) (e1 : s.heap.get? x = some (instObj C d)) (CO : ClsOK K C) (hu : A.units < cLine) : EqAt A s (.ref x) .none false := fun prog w E Q h => by
  unfold eqBool
  refine wpAny_holding ?_
  refine wpAny_ite_split (fun hab => absurd (eq_of_beq hab) nofun) (fun _ => ?_)
  exact wpAny_bind (rc_inst (M := model prog w) X e1 CO hu (wpAny_truthy_bool h))
theorem eq_nn : EqAt A s .none .none true := fun prog w E Q h => by
  unfold eqBool
  refine wpAny_holding ?_
  refine wpAny_ite_split (fun _ => ?_) (fun hab => absurd rfl hab)
  exact wpAny_bind (wpAny_rule (wpAny_pure h))
theorem eq_flat {x y : MV} (ea : er ra = some x) (eb : er rb = some y) (h1 : Flat x) (h2 : Flat y) : EqAt A s ra rb (decide (x = y)) := by
  rcases h1 with ⟨i, rfl⟩ | ⟨i, rfl⟩ <;> rcases h2 with ⟨j, rfl⟩ | ⟨j, rfl⟩
  · obtain ⟨t, rfl⟩ := er_int ea; obtain ⟨t', rfl⟩ := er_int eb
    have e : (i == j) = decide (MV.int i = MV.int j) := by by_cases q : i = j <;> simp [q]
    rw [← e]; exact EqAt.int_int _ t _ t'
  · obtain ⟨t, rfl⟩ := er_int ea; obtain ⟨t', rfl⟩ := er_str eb
    rw [decide_eq_false (fun z => nomatch z)]; exact EqAt.int_str _ t _ t'
  · obtain ⟨t, rfl⟩ := er_str ea; obtain ⟨t', rfl⟩ := er_int eb
    rw [decide_eq_false (fun z => nomatch z)]; exact EqAt.str_int _ t _ t'
  · obtain ⟨t, rfl⟩ := er_str ea; obtain ⟨t', rfl⟩ := er_str eb
    have e : (i == j) = decide (MV.str i = MV.str j) := by by_cases q : i = j <;> simp [q]
    rw [← e]; exact EqAt.str_str _ t _ t'
theorem ers.flat {vs ws : List Value} {xs ys : List MV} (hv : ers vs xs) (hw : ers ws ys) (h1 : ∀ v ∈ xs, Flat v) (h2 : ∀ v ∈ ys, Flat v) (j : Nat) (l1 : j < vs.toArray.size) (l2 : j < ws.toArray.size) :
    EqAt A s vs.toArray[j] ws.toArray[j] (decide (xs[j]? = ys[j]?)) := by
  have l1' : j < vs.length := l1
  have l2' : j < ws.length := l2
  obtain ⟨x, e1, e2⟩ := hv.get' (List.getElem?_eq_getElem l1')
  obtain ⟨y, e3, e4⟩ := hw.get' (List.getElem?_eq_getElem l2')
  have := eq_flat (A := A) (s := s) e2 e4 (h1 _ (List.mem_of_getElem? e1)) (h2 _ (List.mem_of_getElem? e3))
  rw [e1, e3]
  simpa using this
theorem all_getq {xs ys : List MV} (h : xs.length = ys.length) : ((List.range xs.length).all fun j => decide (xs[j]? = ys[j]?)) = decide (xs = ys) := by
  rw [Bool.eq_iff_iff, List.all_eq_true, decide_eq_true_iff]
  constructor
  · intro z
    refine List.ext_getElem? fun i => ?_
    by_cases q : i < xs.length
    · exact of_decide_eq_true (z i (List.mem_range.mpr q))
    · rw [List.getElem?_eq_none (Nat.le_of_not_lt q), List.getElem?_eq_none (h ▸ Nat.le_of_not_lt q)]
  · rintro rfl j _
    exact decide_eq_true rfl
theorem eq_rc (G : Gnd w K mg mb B) (S : St prog w B H s.heap) (hu : A.units < cLine) (ea : er ra = some a) (eb : er rb = some b) {c : Bool} (h : EqR H a b c) : RcAt A s ra rb c ∧ RcNeAt A s ra rb (!c) := by
  cases h with
  | int i j =>
    obtain ⟨t, rfl⟩ := er_int ea; obtain ⟨t', rfl⟩ := er_int eb
    exact ⟨RcAt.int_int _ t _ t', RcNeAt.int_int _ t _ t'⟩
  | str x y =>
    obtain ⟨t, rfl⟩ := er_str ea; obtain ⟨t', rfl⟩ := er_str eb
    exact ⟨RcAt.str_str _ t _ t', RcNeAt.str_str _ t _ t'⟩
  | bool x y =>
    obtain rfl := er_bool ea; obtain rfl := er_bool eb
    exact ⟨RcAt.bool_bool _ _, RcNeAt.bool_bool _ _⟩
  | ns y =>
    obtain rfl := er_non ea; obtain ⟨t', rfl⟩ := er_str eb
    exact ⟨RcAt.none_str _ t', RcNeAt.none_str _ t'⟩
  | sn x =>
    obtain ⟨t', rfl⟩ := er_str ea; obtain rfl := er_non eb
    exact ⟨RcAt.str_none _ t', RcNeAt.str_none _ t'⟩
  | tn h1 =>
    obtain rfl := er_ref ea; obtain rfl := er_non eb
    obtain ⟨vs, hl, hv⟩ := S.obj _ _ h1
    exact ⟨RcAt.tuple_none hl hu, RcNeAt.tuple_none hl hu⟩
  | ll h1 h2 hlen f1 f2 =>
    obtain rfl := er_ref ea; obtain rfl := er_ref eb
    obtain ⟨vs, hl, hv⟩ := S.obj _ _ h1
    obtain ⟨ws, hl', hw⟩ := S.obj _ _ h2
    rw [← all_getq hlen, ← hv.len]
    exact ⟨RcAt.lists hl.isList hl'.isList ((hv.len.trans hlen).trans hw.len.symm) hu fun j l1 l2 => hv.flat hw f1 f2 j l1 l2, RcNeAt.lists hl.isList hl'.isList ((hv.len.trans hlen).trans hw.len.symm) hu fun j l1 l2 => hv.flat hw f1 f2 j l1 l2⟩
  | ln h1 h2 hlen =>
    obtain rfl := er_ref ea; obtain rfl := er_ref eb
    obtain ⟨vs, hl, hv⟩ := S.obj _ _ h1
    obtain ⟨ws, hl', hw⟩ := S.obj _ _ h2
    have sz : (vs.toArray.size != ws.toArray.size) = true := bne_iff_ne.mpr fun z => hlen (hv.len.symm.trans (z.trans hw.len))
    exact ⟨RcAt.lists_lengths hl.isList hl'.isList sz hu, RcNeAt.lists_lengths hl.isList hl'.isList sz hu⟩
  | @tt p q xs ys h1 h2 f1 f2 =>
    obtain rfl := er_ref ea; obtain rfl := er_ref eb
    obtain ⟨vs, hl, hv⟩ := S.obj _ _ h1
    obtain ⟨ws, hl', hw⟩ := S.obj _ _ h2
    have e : ((List.range (min vs.toArray.size ws.toArray.size)).all (fun j => decide (xs[j]? = ys[j]?)) && vs.toArray.size == ws.toArray.size) = decide (xs = ys) := by
      rw [show vs.toArray.size = xs.length from hv.len, show ws.toArray.size = ys.length from hw.len]
      by_cases q : xs.length = ys.length
      · rw [← q, Nat.min_self, all_getq q, beq_self_eq_true, Bool.and_true]
      · rw [show (xs.length == ys.length) = false from beq_eq_false_iff_ne.mpr q, Bool.and_false]
        exact (decide_eq_false fun z => q (congrArg _ z)).symm
    rw [← e]
    exact ⟨RcAt.tuples hl hl' hu fun j l1 l2 => hv.flat hw f1 f2 j l1 l2, RcNeAt.tuples hl hl' hu fun j l1 l2 => hv.flat hw f1 f2 j l1 l2⟩
theorem any_ers {vs : List Value} {xs : List MV} (hv : ers vs xs) (m : MV) (h : ∀ x ∈ xs, ∀ rv, er rv = some x → EqAt A s rv ra (decide (x = m))) : ∃ e : Value → Bool, (∀ y, y ∈ vs.toArray → EqAt A s y ra (e y)) ∧ vs.toArray.any e = decide (m ∈ xs) := by
  refine ⟨fun y => decide (er y = some m), fun y hy => ?_, ?_⟩
  · obtain ⟨x, hx, e⟩ := hv.mem (List.mem_toArray.mp hy)
    have := h x hx y e
    show EqAt A s y ra (decide (er y = some m))
    rw [e, decide_eq_decide.mpr (Option.some_inj (a := x) (b := m))]
    exact this
  · rw [← Array.any_toList, Bool.eq_iff_iff, List.any_eq_true, decide_eq_true_iff]
    constructor
    · rintro ⟨y, hy, e⟩
      obtain ⟨x, hx, e'⟩ := hv.mem hy
      rw [e', decide_eq_true_iff] at e
      cases e; exact hx
    · intro hm
      obtain ⟨i, hi⟩ := List.getElem?_of_mem hm
      obtain ⟨rv, e1, e2⟩ := hv.get hi
      exact ⟨rv, List.mem_of_getElem? e1, decide_eq_true e2⟩
theorem lookup_isSome {es : List (Str × MV)} {kvs : List (Str × Value)} {x : Str} (h : kvs.map (fun p => (p.1, er p.2)) = es.map (fun p => (p.1, some p.2))) : (valueAt kvs x).isSome = (es.lookup x).isSome := by
  obtain ⟨l1, l2⟩ := kv_look (x := x) h
  cases q : es.lookup x with
  | none => rw [l2 q]; rfl
  | some u => obtain ⟨rv, e, _⟩ := l1 u q; rw [e]; rfl
theorem not_sys (G : Gnd w K mg mb B) (S : St prog w B H s.heap) {p : Addr} {o : MObj} (h : H p = some o) (n : ∀ xs, o ≠ .ro xs) : (p == sysModules) = false := by
  have := S.new p ⟨o, h, n⟩
  obtain ⟨ob, e⟩ := G.sm
  refine beq_eq_false_iff_ne.mpr fun q => ?_
  rw [q, e] at this; cases this
theorem is_non (ea : er ra = some a) : plainIs ra .none = true ∧ (ra == Value.none) = decide (a = .non) := by
  rcases er_inv ea with ⟨rfl, rfl⟩ | ⟨_, rfl, rfl⟩ | ⟨_, _, rfl, rfl⟩ | ⟨_, _, rfl, rfl⟩ | ⟨_, rfl, rfl⟩
  · exact ⟨rfl, (decide_eq_true rfl).symm⟩
  · exact ⟨rfl, (decide_eq_false (fun z => nomatch z)).symm⟩
  · exact ⟨rfl, (decide_eq_false (fun z => nomatch z)).symm⟩
  · exact ⟨rfl, (decide_eq_false (fun z => nomatch z)).symm⟩
  · exact ⟨rfl, (decide_eq_false (fun z => nomatch z)).symm⟩
theorem cmp_ok (G : Gnd w K mg mb B) (S : St prog w B H s.heap) (hu : A.units + 1 < cLine) (o : CmpOp) (ea : er ra = some a) (eb : er rb = some b) {c : Bool} (h : CmpR H o a b c)
    (k : ∀ tk, Q (.bool c) { s with toks := tk }) : wpAny (model prog w) A (compareOp o ra rb) Q E s := by
  have k0 : Q (.bool c) s := k s.toks
  cases h with
  | lt => obtain ⟨t, rfl⟩ := er_int ea; obtain ⟨t', rfl⟩ := er_int eb; exact PyProof.Rows.lt_int k0
  | le => obtain ⟨t, rfl⟩ := er_int ea; obtain ⟨t', rfl⟩ := er_int eb; exact PyProof.Rows.le_int k0
  | gt => obtain ⟨t, rfl⟩ := er_int ea; obtain ⟨t', rfl⟩ := er_int eb; exact PyProof.Rows.gt_int k0
  | ge => obtain ⟨t, rfl⟩ := er_int ea; obtain ⟨t', rfl⟩ := er_int eb; exact PyProof.Rows.ge_int k0
  | eq h => exact (eq_rc G S (Nat.lt_of_succ_lt hu) ea eb h).1 prog w E Q k0
  | ne h => exact (eq_rc G S (Nat.lt_of_succ_lt hu) ea eb h).2 prog w E Q k0
  | is =>
    obtain rfl := er_non eb
    obtain ⟨z1, z2⟩ := is_non ea
    exact wpAny_is_plain z1 (z2 ▸ k0)
  | isnt =>
    obtain rfl := er_non eb
    obtain ⟨z1, z2⟩ := is_non ea
    exact wpAny_isNot_plain z1 (z2 ▸ k0)
  | ind h1 =>
    obtain rfl := er_ref eb
    obtain ⟨kvs, hd, hm⟩ := S.obj _ _ h1
    obtain ⟨t, rfl⟩ := er_str ea
    exact wpAny_in_of (strIs _ t) (not_sys G S h1 (fun _ z => nomatch z)) hd.mapOf (lookup_isSome hm ▸ k _)
  | nind h1 =>
    obtain rfl := er_ref eb
    obtain ⟨kvs, hd, hm⟩ := S.obj _ _ h1
    obtain ⟨t, rfl⟩ := er_str ea
    exact wpAny_notIn_of (strIs _ t) (not_sys G S h1 (fun _ z => nomatch z)) hd.mapOf (lookup_isSome hm ▸ k _)
  | inn h1 f =>
    obtain rfl := er_ref eb
    obtain rfl := er_non ea
    obtain ⟨vs, hl, hv⟩ := S.obj _ _ h1
    obtain ⟨e, z1, z2⟩ := any_ers (A := A.in1) (s := s) (ra := .none) hv .non (fun x hx rv ex => by
      rcases f x hx with rfl | ⟨p, C, d, rfl, h2⟩
      · rw [er_non ex, decide_eq_true rfl]; exact eq_nn
      · rw [er_ref ex, decide_eq_false (fun z => nomatch z)]
        obtain ⟨hC, e1⟩ := S.obj _ _ h2
        exact eq_inst (G.In S) e1 (G.cls _ hC) hu)
    exact in_listAt e hl.isList z1 (z2 ▸ k0)
  | ini h1 f =>
    obtain rfl := er_ref eb
    obtain ⟨t, rfl⟩ := er_int ea
    obtain ⟨vs, hl, hv⟩ := S.obj _ _ h1
    obtain ⟨e, z1, z2⟩ := any_ers (A := A.in1) (s := s) hv _ (fun x hx rv ex => by
      obtain ⟨j, rfl⟩ := f x hx
      exact eq_flat ex ea (.inl ⟨_, rfl⟩) (.inl ⟨_, rfl⟩))
    exact in_listAt e hl.isList z1 (z2 ▸ k0)
end
end Mine
end
section
open PySem PySem.W PyProof.Rows PySem.Calls PySem.Spec
open Classical
namespace Mine
open PySem.SeqAt
section
variable {prog : Program} {w : World} {K : Frag} {mg mb : Str → Option Value} {B : Heap} {A : Around} {E : Value → Shared → Prop} {s : Shared} {H : Hp} {a b u : MV} {ra rb ru : Value} {n : Nat}
  {Post : MV → Hp → Prop} {Q : Value → Shared → Prop}
theorem len_ok {p : Addr} {xs : List MV} (S : St prog w B H s.heap) (h1 : H p = some (.list xs) ∨ H p = some (.tup xs)) (hz : xs.length ≤ 1000) (hp : Post (.int xs.length) H) (k : Goes prog w B H s Post Q) : wpAny (model prog w) A (call (.builtin "len") [.ref p]) Q E s := by
  rcases h1 with h1 | h1
  · obtain ⟨vs, hl, hv⟩ := S.obj _ _ h1
    have sz : vs.toArray.size = xs.length := hv.len
    refine PyProof.Rows.len_list hl.isList (by omega) ?_
    rw [sz]; exact k.val S rfl hp
  · obtain ⟨vs, hl, hv⟩ := S.obj _ _ h1
    have sz : vs.toArray.size = xs.length := hv.len
    refine PyProof.Rows.len_tuple hl (by omega) ?_
    rw [sz]; exact k.val S rfl hp
theorem lst_ok {p : Addr} {xs : List MV} (S : St prog w B H s.heap) (h1 : H p = some (.list xs)) (hz : xs.length ≤ 1000) (hp : alc (.list xs) Post H) (k : Goes prog w B H s Post Q) : wpAny (model prog w) A (call (.type "list") [.ref p]) Q E s := by
  obtain ⟨vs, ⟨m, hl⟩, hv⟩ := S.obj _ _ h1
  refine call_list_seq p (.inl rfl) hl rfl rfl (fun h' c' hk hl' => ?_) (by rw [show vs.toArray.size = xs.length from hv.len, sizeLine_eq]; omega)
  exact k.new (tk := s.toks) S hp (size_none _) (fun _ z => nomatch z) hk ⟨vs, ⟨c', hl'⟩, hv⟩
theorem dic_ok {p : Addr} {es : List (Str × MV)} (G : Gnd w K mg mb B) (S : St prog w B H s.heap) (h1 : H p = some (.dict es)) (hz : es.length ≤ 1000) (hp : alc (.dict es) Post H) (k : Goes prog w B H s Post Q) : wpAny (model prog w) A (call (.type "dict") [.ref p]) Q E s := by
  obtain ⟨kvs, hd, hm⟩ := S.obj _ _ h1
  have sz : kvs.length = es.length := by have := congrArg List.length hm; simpa using this
  refine kt_call_dict (not_sys G S h1 (fun _ z => nomatch z)) hd (by rw [sz, sizeLine_eq]; omega) fun h' hd' hs => ?_
  refine k.new (tk := s.toks) S hp (size_none _) (fun _ z => nomatch z) (fun b ob e => ?_) ⟨kvs, hd', hm⟩
  rw [hs.2 b (Nat.ne_of_lt (Heap.lt_size e))]
  exact Heap.get?_push_of_some _ e
theorem str_ok {i : Int} {t : Tok} (S : St prog w B H s.heap) (h0 : 0 ≤ i) (h1 : i < 10) (hp : Post (.str (digs i)) H) (k : Goes prog w B H s Post Q) : wpAny (model prog w) A (call (.type "str") [.int i t]) Q E s := by
  refine PySem.P.str_of_int ?_ (k.val S rfl hp)
  have := Nat.log2_le_self i.natAbs
  omega
theorem app_ok {p : Addr} {xs : List MV} (S : St prog w B H s.heap) (h1 : H p = some (.list xs)) (eu : er ru = some u) (hz : xs.length ≤ 2000000) (hp : Post .non (upd H p (.list (xs ++ [u])))) (k : Goes prog w B H s Post Q) :
    wpAny (model prog w) A (call (.builtin "list.append") [.ref p, ru]) Q E s := by
  obtain ⟨vs, hl, hv⟩ := S.obj _ _ h1
  have sz : vs.toArray.size = xs.length := by simp [hv.len]
  refine wpAny_list_append_plain hl (fun h' hl' hs => ?_) (by rw [sz, sizeLine_eq]; omega)
  obtain ⟨S', T⟩ := S.set (tk := s.toks) (o' := .list (xs ++ [u])) h1 (by intro xs; simp) (by intro xs; simp) (fun b hb => hs.2 b hb) ⟨vs ++ [ru], by simpa using hl', hv.app (ers.cons ers.nil eu)⟩
  exact k _ _ _ _ rfl hp S' T
theorem ers.one {vs : List Value} (h : ers vs [u]) : ∃ rv, vs = [rv] ∧ er rv = some u := by
  match vs, h with
  | [rv], h => exact ⟨rv, rfl, by simpa [ers] using h⟩
  | [], h => simp [ers] at h
  | _ :: _ :: _, h => simp [ers] at h
theorem pop_ok {p : Addr} {pos : Pos} (S : St prog w B H s.heap) (h1 : H p = some (.list [u])) (hp : Post u (upd H p (.list []))) (k : Goes prog w B H s Post Q) :
    wpAny (model prog w) A (callWith pos (.builtin "list.pop") [.ref p] [] []) Q E s := by
  obtain ⟨vs, ⟨m, hl⟩, hv⟩ := S.obj _ _ h1
  obtain ⟨rv, rfl, ev⟩ := hv.one
  refine PySem.P.pop_list (y := rv) (items := #[rv]) (n := m) hl rfl ?_ (by rw [sizeLine_eq]; show 1 ≤ _; omega)
  obtain ⟨m', e⟩ : ∃ m', Obj.mapSeq (fun xs => xs.eraseIdxIfInBounds ((#[rv] : Array Value).size - 1)) { cls := .type "list", data := .seq #[rv] m } = { cls := .type "list", data := .seq #[] m' } := ⟨_, by simp [Obj.mapSeq]; rfl⟩
  have hf := Heap.get?_update_self (Obj.mapSeq (fun xs => xs.eraseIdxIfInBounds ((#[rv] : Array Value).size - 1))) hl (by rw [show ({ cls := .type "list", data := .seq [rv].toArray m } : Obj) = { cls := .type "list", data := .seq #[rv] m } from rfl, e]; rfl)
  rw [show ({ cls := .type "list", data := .seq [rv].toArray m } : Obj) = { cls := .type "list", data := .seq #[rv] m } from rfl, e] at hf
  obtain ⟨S', T⟩ := S.set (tk := s.toks) (o' := .list []) h1 (by intro xs; simp) (by intro xs; simp) (fun b hb => Heap.get?_update_other _ _ (Ne.symm hb)) ⟨[], ⟨m', hf⟩, ers.nil⟩
  exact k _ _ _ _ ev hp S' T
theorem get_val {es : List (Str × MV)} {kvs : List (Str × Value)} {x : Str} (h : kvs.map (fun p => (p.1, er p.2)) = es.map (fun p => (p.1, some p.2))) : er ((valueAt kvs x).getD .none) = some ((es.lookup x).getD .non) := by
  obtain ⟨l1, l2⟩ := kv_look (x := x) h
  cases q : es.lookup x with
  | none => rw [l2 q]; rfl
  | some u => obtain ⟨rv, e, h⟩ := l1 u q; rw [e]; exact h
theorem slice_ok {p sl : Addr} {xs : List MV} {vl vu vs' : Value} {lo hi st : Option Int} {ys : List MV} (S : St prog w B H s.heap) {o : MObj} (h1 : H p = some o) (ho : o = .list xs ∨ o = .ro xs) (hs : s.heap.IsSliceOf sl vl vu vs') (pl : IsPart vl lo) (pu : IsPart vu hi) (ps : IsPart vs' st)
    (h0 : st ≠ some 0) (hz : xs.length ≤ 1000) (hy : ∀ vs, ers vs xs → ∃ ws, slicePick vs.toArray lo hi st = ws.toArray ∧ ers ws ys) (hp : alc (.list ys) Post H) (k : Goes prog w B H s Post Q) : wpAny (model prog w) A (getItem (.ref p) (.ref sl)) Q E s := by
  have : ∃ vs, s.heap.IsList p vs.toArray ∧ ers vs xs := by
    rcases ho with rfl | rfl
    · obtain ⟨vs, hl, hv⟩ := S.obj _ _ h1; exact ⟨vs, hl.isList, hv⟩
    · exact S.obj _ _ h1
  obtain ⟨vs, hl, hv⟩ := this
  have sz : vs.toArray.size = xs.length := by simp [hv.len]
  obtain ⟨ws, e, hw⟩ := hy vs hv
  refine wpAny_getItem_list_slice hl hs pl pu ps h0 ?_ (by rw [sz, sizeLine_eq]; omega)
  rw [e]
  exact k.push (tk := s.toks) S hp (by intro xs; simp) ⟨ws, ⟨0, Heap.get?_push_size _ rfl⟩, hw⟩
theorem pick_to {xs : List MV} {i : Int} (h0 : 0 ≤ i) (vs : List Value) (hv : ers vs xs) : ∃ ws, slicePick vs.toArray none (some i) none = ws.toArray ∧ ers ws (xs.take i.toNat) := by
  obtain ⟨j, rfl⟩ := Int.eq_ofNat_of_zero_le h0
  refine ⟨vs.take j, by rw [slicePick_upto'], ?_⟩
  unfold ers; rw [List.map_take, hv, List.map_take]; rfl
theorem pick_rev {xs : List MV} (vs : List Value) (hv : ers vs xs) : ∃ ws, slicePick vs.toArray none none (some (-1)) = ws.toArray ∧ ers ws xs.reverse := by
  refine ⟨vs.reverse, by rw [krv_pick], ?_⟩
  unfold ers; rw [List.map_reverse, hv, List.map_reverse]
/-! what is walked -/
structure Iter (prog : Program) (w : World) (B : Heap) (I : Addr) (items : List MV) (g : Hp → Prop) (T : Nat → Heap → Prop) : Prop where
  frame : ∀ i h h', T i h → (∀ o, h.get? I = some o → h'.get? I = some o) → T i h'
  has : ∀ i h, T i h → ∃ o, h.get? I = some o
  nd : ∀ i h o, T i h → h.get? I = some o → ∀ es n, o.data ≠ .dict es n
  item : ∀ (A : Around) i v (s : Shared) H Q (E : Value → Shared → Prop), items[i]? = some v → T i s.heap → g H → St prog w B H s.heap →
    (∀ rv h' tk, er rv = some v → T (i + 1) h' → Heap.SameBut I s.heap h' → Q (some rv) { s with heap := h', toks := tk }) → wpAny (model prog w) A (pyNext (.ref I)) Q E s
  done : ∀ (A : Around) (s : Shared) H (Q : Option Value → Shared → Prop) (E : Value → Shared → Prop), A.handled = none → T items.length s.heap → g H → St prog w B H s.heap →
    (∀ h', Heap.ExtBut I s.heap h' → Q none { s with heap := h' }) → wpAny (model prog w) A (pyNext (.ref I)) Q E s
  self : ∀ (A : Around) i (s : Shared) Q (E : Value → Shared → Prop), T i s.heap → Q (.ref I) s → wpAny (model prog w) A (pyIter (.ref I)) Q E s
theorem Iter.list {p : Addr} {I : Addr} {items : List MV} : Iter prog w B I items (fun H => H p = some (.list items)) (fun i h => h.IsListIter I p i) where
  frame := fun _ _ _ t k => let ⟨o, e, r⟩ := t; ⟨o, k _ e, r⟩
  has := fun _ _ t => let ⟨o, e, _⟩ := t; ⟨o, e⟩
  nd := fun _ _ o t e es n z => by obtain ⟨o', e', _, d⟩ := t; rw [e] at e'; cases e'; rw [d] at z; cases z
  item := fun A i v s H Q E hv t g S k => by
    obtain ⟨vs, hl, he⟩ := S.obj _ _ g
    obtain ⟨rv, e1, e2⟩ := he.get hv
    exact wpAny_pyNext_list_item t hl.isList (by simpa using e1) fun h' hi hs => k rv h' s.toks e2 hi hs
  done := fun A s H Q E hh t g S k => by
    obtain ⟨vs, hl, he⟩ := S.obj _ _ g
    exact wpAny_pyNext_list_end hh t hl.isList (by simp [he.len]) k
  self := fun A i s Q E t q => wpAny_pyIter_listiter t q
theorem irange_get {n i : Nat} {v : MV} (h : (irange n)[i]? = some v) : i < n ∧ v = .int i := by
  have hi : i < n := by
    have := (List.getElem?_eq_some_iff.mp h).1
    simpa [irange] using this
  unfold irange at h
  rw [List.getElem?_map, List.getElem?_range hi] at h
  cases h; exact ⟨hi, rfl⟩
theorem irange_len {n : Nat} : (irange n).length = n := by simp [irange]
theorem Iter.range {I : Addr} {n : Nat} {x : Int} (f : Nat → MV) (hf : ∀ i, i < n → f i = .int (x + i)) : Iter prog w B I ((List.range n).map f) (fun _ => True) (fun i h => IsRangeIter h I (x + i) ((n : Int) - i) 1) where
  frame := fun _ _ _ t k => k _ t
  has := fun _ _ t => ⟨_, t⟩
  nd := fun _ _ o t e es n z => by have e' : _ = _ := t; rw [e] at e'; cases e'; cases z
  item := fun A i v s H Q E hv t g S k => by
    have hi : i < n := by
      have := (List.getElem?_eq_some_iff.mp hv).1
      simpa using this
    rw [List.getElem?_map, List.getElem?_range hi, Option.map_some, hf i hi] at hv
    cases hv
    refine wpAny_pyNext_range_item t (by omega) fun h' hi' hs => ?_
    have e : x + (i : Int) + 1 = x + ((i + 1 : Nat) : Int) := by omega
    have e' : (n : Int) - i - 1 = (n : Int) - ((i + 1 : Nat) : Int) := by omega
    rw [e, e'] at hi'
    exact k _ h' _ rfl hi' hs
  done := fun A s H Q E hh t g S k => by
    have : ((List.range n).map f).length = n := by simp
    rw [this] at t
    exact wpAny_pyNext_range_end hh t (by omega) k
  self := fun A i s Q E t q => wpAny_pyIter_rangeiter t q
end
end Mine
end
section
open PySem PySem.W PyProof.Rows PySem.Calls PySem.Spec
open Classical
namespace Mine
open PySem.SeqAt
/-- of a scope: its names, the names of the numbered locals, the global names -/
structure Cx where
  nm : List (Str × NameKind)
  vis : List (Option Str)
  gs : List Str
noncomputable def Cx.ok (c : Cx) : Bool :=
  c.vis.all (fun o => match o with | none => true | some x => (c.nm.lookup x == some NameKind.local || c.nm.lookup x == some NameKind.cell) && !(x == ("__debug__" : Str))) &&
  (c.gs.all (fun x => c.nm.lookup x == some NameKind.globalImplicit && !(x == ("__debug__" : Str))) &&
  (List.range c.vis.length).all fun i => (List.range c.vis.length).all fun j => i == j || (c.vis[i]?).join == none || (c.vis[i]?).join != (c.vis[j]?).join)
/-- the frames on the stack: dicts of nobody's -/
def FrOK (B : Heap) (fs : List Env) (H : Hp) (h : Heap) : Prop := ∀ e ∈ fs, e.scope.kind = .function ∧ ∃ L o es n, e.frame = some L ∧ B.get? L = none ∧ h.get? L = some o ∧ o.data = .dict es n ∧ H L = none
def FrA (B : Heap) (A : Around) (H : Hp) (h : Heap) : Prop := ∀ fs, A.frames = some fs → FrOK B fs H h
theorem FrA.mv {B : Heap} {A : Around} {H H' : Hp} {h h' : Heap} (x : FrA B A H h) (k : ∀ fs e L, A.frames = some fs → e ∈ fs → e.frame = some L → ∀ o es n, h.get? L = some o → o.data = .dict es n → H L = none → H' L = none ∧ ∃ o' es' n', h'.get? L = some o' ∧ o'.data = .dict es' n') : FrA B A H' h' := fun fs hf e he => by
  obtain ⟨k1, L, o, es, n, h1, h2, h3, h4, h5⟩ := x fs hf e he
  obtain ⟨h6, o', es', n', h7, h8⟩ := k fs e L hf he h1 o es n h3 h4 h5
  exact ⟨k1, L, o', es', n', h1, h2, h7, h8, h6⟩
/-- away from the frame's own places, and from the frames on the stack -/
def Away (A : Around) (env : Env) (C : Addr) : Prop := C ≠ env.locals ∧ (∀ x p, env.cells.lookup x = some p → C ≠ p) ∧ ∀ fs e, A.frames = some fs → e ∈ fs → e.frame ≠ some C
structure EnvOK (B : Heap) (A : Around) (env : Env) (c : Cx) (l : Loc) (H : Hp) (h : Heap) : Prop where
  kd : env.scope.kind = .function
  nms : env.scope.names = c.nm
  gl : env.globals = mainGlobals
  bu : env.builtins = builtinsNs
  ok : c.ok = true
  loc : ∃ m, h.Ns env.locals m ∧ ∀ k x u, (c.vis[k]?).join = some x → c.nm.lookup x = some .local → l.at k = some u → ∃ rv, m x = some rv ∧ er rv = some u
  cell : ∀ x, c.nm.lookup x = some .cell → ∃ p v, env.cells.lookup x = some p ∧ h.IsCell p v ∧ ∀ k u, (c.vis[k]?).join = some x → l.at k = some u → ∃ rv, v = some rv ∧ er rv = some u
  nl : H env.locals = none
  nc : ∀ x p, env.cells.lookup x = some p → H p = none ∧ p ≠ env.locals ∧ ∃ v, h.IsCell p v
  bl : B.get? env.locals = none ∧ ∀ x p, env.cells.lookup x = some p → B.get? p = none
  len : l.length = c.vis.length
  ap : ∀ x y p, env.cells.lookup x = some p → env.cells.lookup y = some p → x = y
  fr : FrA B A H h
theorem join_mem {vis : List (Option Str)} {k : Nat} {x : Str} (h : (vis[k]?).join = some x) : some x ∈ vis := by
  cases q : vis[k]? with
  | none => rw [q] at h; cases h
  | some o => rw [q] at h; have : o = some x := h; subst this; exact List.mem_of_getElem? q
theorem Cx.vk {c : Cx} (h : c.ok = true) {k : Nat} {x : Str} (hx : (c.vis[k]?).join = some x) : (c.nm.lookup x = some .local ∨ c.nm.lookup x = some .cell) ∧ (x == ("__debug__" : Str)) = false := by
  have := List.all_eq_true.mp (Bool.and_eq_true_iff.mp h).1 _ (join_mem hx)
  obtain ⟨a, b⟩ := Bool.and_eq_true_iff.mp this
  refine ⟨?_, by simpa using b⟩
  rcases Bool.or_eq_true_iff.mp a with a | a
  · exact .inl (eq_of_beq a)
  · exact .inr (eq_of_beq a)
theorem Cx.gk {c : Cx} (h : c.ok = true) {k : Nat} {x : Str} (hx : c.gs[k]? = some x) : c.nm.lookup x = some .globalImplicit ∧ (x == ("__debug__" : Str)) = false := by
  have := List.all_eq_true.mp (Bool.and_eq_true_iff.mp (Bool.and_eq_true_iff.mp h).2).1 _ (List.mem_of_getElem? hx)
  obtain ⟨a, b⟩ := Bool.and_eq_true_iff.mp this
  exact ⟨eq_of_beq a, by simpa using b⟩
theorem Cx.un {c : Cx} (h : c.ok = true) {k j : Nat} {x : Str} (hx : (c.vis[k]?).join = some x) (hj : (c.vis[j]?).join = some x) : k = j := by
  have lt : ∀ k, (c.vis[k]?).join = some x → k ∈ List.range c.vis.length := fun k hk => by
    refine List.mem_range.mpr (Nat.lt_of_not_le fun q => ?_)
    rw [List.getElem?_eq_none q] at hk; cases hk
  have := List.all_eq_true.mp (List.all_eq_true.mp (Bool.and_eq_true_iff.mp (Bool.and_eq_true_iff.mp h).2).2 k (lt k hx)) j (lt j hj)
  rw [hx, hj] at this
  simpa using this
section
variable {prog : Program} {w : World} {K : Frag} {mg mb : Str → Option Value} {B : Heap} {A : Around} {E : Value → Shared → Prop} {s s' : Shared} {H H' : Hp} {a b u : MV} {ra rb ru : Value} {n m : Nat}
  {Post : MV → Hp → Prop} {Q : Value → Shared → Prop} {env : Env} {c : Cx} {l : Loc}
theorem Ns_here {h : Heap} {a : Addr} {m} (x : h.Ns a m) : ∃ o, h.get? a = some o := let ⟨o, _, _, e, _⟩ := x; ⟨o, e⟩
theorem none_own {p : Addr} (h : H p = none) : ¬ Own H p := fun ⟨o, e, _⟩ => by rw [h] at e; cases e
theorem Tr.nn {p : Addr} {o : Obj} (T : Tr B H s H' s') (h : H p = none) (e : s.heap.get? p = some o) : H' p = none := by
  cases q : H' p with
  | none => rfl
  | some m => have := T.grow p (by rw [q]; exact Option.some_ne_none _) h; rw [this] at e; cases e
theorem FrA.go (x : FrA B A H s.heap) (T : Tr B H s H' s') : FrA B A H' s'.heap := x.mv fun fs e L _ _ _ o es n ho hd hn => by
  refine ⟨T.nn hn ho, ?_⟩
  rcases T.ext L o (none_own hn) ho with y | ⟨_, _, sl, y⟩
  · exact ⟨o, es, n, y, hd⟩
  · exact ⟨_, es, n, y, hd⟩
theorem EnvOK.go (X : EnvOK B A env c l H s.heap) (T : Tr B H s H' s') : EnvOK B A env c l H' s'.heap := by
  obtain ⟨m, hn, hm⟩ := X.loc
  obtain ⟨o, ho⟩ := Ns_here hn
  refine ⟨X.kd, X.nms, X.gl, X.bu, X.ok, ⟨m, Sl.ns hn fun o e => T.ext _ o (none_own X.nl) e, hm⟩, fun x hx => ?_, T.nn X.nl ho, fun x p hp => ?_, X.bl, X.len, X.ap, X.fr.go T⟩
  · obtain ⟨p, v, h1, ⟨o, e, d⟩, h3⟩ := X.cell x hx
    exact ⟨p, v, h1, ⟨o, (T.ext _ o (none_own (X.nc _ _ h1).1) e).exact (fun es n z => by rw [d] at z; cases z), d⟩, h3⟩
  · obtain ⟨h1, h2, v, o, e, d⟩ := X.nc x p hp
    exact ⟨T.nn h1 e, h2, v, o, (T.ext _ o (none_own h1) e).exact (fun es n z => by rw [d] at z; cases z), d⟩
theorem EnvOK.tk (X : EnvOK B A env c l H s.heap) {tk : Nat} : EnvOK B A env c l H ({ s with toks := tk } : Shared).heap := X
theorem Goes.on (k : Goes prog w B H s Post Q) (T : Tr B H s H' s') : Goes prog w B H' s' Post Q := fun rv v H'' s'' e p S T' => k rv v H'' s'' e p S (T.trans T')
theorem Goes.tk (k : Goes prog w B H s Post Q) {t : Nat} : Goes prog w B H { s with toks := t } Post Q := k.on (Tr.toks Tr.refl)
theorem Amb.mono (x : Amb A n) (h : m ≤ n) : Amb A m := ⟨x.hh, by have := x.dp; omega, by have := x.un; omega, x.fr⟩
theorem Amb.room (x : Amb A n) : A.units + 1 < cLine := by have := x.un; omega
structure SimE (prog : Program) (w : World) (B : Heap) (n : Nat) (c : Cx) (e : Expr) (d : Den) : Prop where
  ev : ∀ (A : Around) (env : Env) (l : Loc) (s : Shared) (H : Hp) (Post : MV → Hp → Prop) (Q : Value → Shared → Prop) (E : Value → Shared → Prop), Amb A n → EnvOK B A env c l H s.heap → St prog w B H s.heap → d l Post H → Goes prog w B H s Post Q →
    wpAny (model prog w) A (eval e env) Q E s
structure SimT (prog : Program) (w : World) (B : Heap) (n : Nat) (c : Cx) (e : Expr) (d : DenT) : Prop where
  ev : ∀ (A : Around) (env : Env) (l : Loc) (s : Shared) (H : Hp) (Post : Bool → Hp → Prop) (Q : Bool → Shared → Prop) (E : Value → Shared → Prop), Amb A n → EnvOK B A env c l H s.heap → St prog w B H s.heap → d l Post H →
    (∀ b H' s', Post b H' → St prog w B H' s'.heap → Tr B H s H' s' → Q b s') → wpAny (model prog w) A (isTrue e env (eval e env)) Q E s
abbrev GoesL (prog : Program) (w : World) (B : Heap) (H : Hp) (s : Shared) (Post : List MV → Hp → Prop) (Q : List Value → Shared → Prop) : Prop :=
  ∀ rvs vs H' s', ers rvs vs → Post vs H' → St prog w B H' s'.heap → Tr B H s H' s' → Q rvs s'
structure SimL (prog : Program) (w : World) (B : Heap) (n : Nat) (c : Cx) (es : List Expr) (d : DenL) : Prop where
  plain : ∀ env pos, (backTo pos (starEach es env)).any (·.1) = false
  ev : ∀ (A : Around) (env : Env) (l : Loc) (s : Shared) (H : Hp) (pos : Pos) (Post : List MV → Hp → Prop) (Q : List Value → Shared → Prop) (E : Value → Shared → Prop), Amb A n → EnvOK B A env c l H s.heap → St prog w B H s.heap → d l Post H →
    GoesL prog w B H s Post Q → wpAny (model prog w) A (spliced (backTo pos (starEach es env))) Q E s
  ar : ∀ (A : Around) (env : Env) (l : Loc) (s : Shared) (H : Hp) (pos : Pos) (f : Value) (Post : List MV → Hp → Prop) (Q : List Value → Shared → Prop) (E : Value → Shared → Prop), Amb A n → EnvOK B A env c l H s.heap → St prog w B H s.heap → d l Post H →
    GoesL prog w B H s Post Q → wpAny (model prog w) A (evalArgs f true (backTo pos (starEach es env)) []) (fun a s' => ∃ rvs, a = ⟨rvs, []⟩ ∧ Q rvs s') E s
/-- what a global name is called with -/
structure FunG (prog : Program) (w : World) (mg : Str → Option Value) (B : Heap) (n : Nat) (x : Str) (φ : Fn) : Prop where
  fn : ∃ f, mg x = some (.ref f) ∧ (∀ h : Heap, (∀ b o, B.get? b = some o → h.get? b = some o) → ∃ k, (k = Keeper.frame ∨ k = Keeper.machine ∨ k = Keeper.boundFrame) ∧ Looks (model prog w) h (keeperOf (.ref f)) k) ∧
    ∀ (A : Around) (s : Shared) (H : Hp) (rvs : List Value) (vs : List MV) (Post : MV → Hp → Prop) (Q : Value → Shared → Prop) (E : Value → Shared → Prop), Amb A n → FrA B A H s.heap → St prog w B H s.heap → ers rvs vs → φ vs Post H → Goes prog w B H s Post Q →
      wpAny (model prog w) A (call (.ref f) rvs) Q E s
variable {e e1 e2 e3 : Expr} {d d1 d2 d3 : Den} {t t1 t2 : DenT} {pos : Pos} {x : Str} {es : List Expr} {ds : DenL}
theorem sim_int {i : Int} {k : Nat} : SimE prog w B n c (.Constant (.int i) k pos) (dK (.int i)) := .mk fun A env l s H Post Q E am X S h g => wpAny_Constant_int (g.val S rfl h)
theorem sim_str {k : Nat} : SimE prog w B n c (.Constant (.str x) k pos) (dK (.str x)) := .mk fun A env l s H Post Q E am X S h g => wpAny_Constant_str (g.val S rfl h)
theorem sim_non {k : Nat} : SimE prog w B n c (.Constant .none k pos) (dK .non) := .mk fun A env l s H Post Q E am X S h g => wpAny_Constant_none (g.val' S rfl h)
theorem sim_bool {v : Bool} {k : Nat} : SimE prog w B n c (.Constant (.bool v) k pos) (dK (.bool v)) := .mk fun A env l s H Post Q E am X S h g => wpAny_Constant_bool (g.val' S rfl h)
theorem sim_neg {i : Int} {k : Nat} {p : Pos} : SimE prog w B n c (.UnaryOp .USub (.Constant (.int i) k p) pos) (dK (.int (-i))) := .mk fun A env l s H Post Q E am X S h g =>
  wpAny_UnaryOp (wpAny_Constant_int (P.neg_int (g.val S rfl h)))
theorem sim_name (k : Nat) (hx : (c.vis[k]?).join = some x) : SimE prog w B n c (.Name x pos) (dV k) := .mk fun A env l s H Post Q E am X S ⟨u, hu, h⟩ g => by
  obtain ⟨hk, hd⟩ := Cx.vk X.ok hx
  refine wpAny_Name ?_ hd
  rcases hk with hk | hk
  · obtain ⟨m, hn, hm⟩ := X.loc
    obtain ⟨rv, e1, e2⟩ := hm k x u hx hk hu
    exact wpAny_loadName_local X.kd (by rw [Env.kindOf, X.nms]; exact hk) hn e1 (g.val' S e2 h)
  · obtain ⟨p, v, h1, h2, h3⟩ := X.cell x hk
    obtain ⟨rv, rfl, e2⟩ := h3 k u hx hu
    exact wpAny_loadName_cell X.kd (by rw [Env.kindOf, X.nms]; exact hk) h1 h2 (g.val' S e2 h)
theorem name_glob {E : Value → Shared → Prop} {Q : Value → Shared → Prop} (k : Nat) (hx : c.gs[k]? = some x) (X : EnvOK B A env c l H s.heap) (h : wpAny (model prog w) A (loadGlobal env x) Q E s) : wpAny (model prog w) A (eval (.Name x pos) env) Q E s := by
  obtain ⟨hk, hd⟩ := Cx.gk X.ok hx
  exact Name_function_global X.kd (by rw [Env.kindOf, X.nms]; exact hk) h hd
theorem sim_attr (G : Gnd w K mg mb B) (i : SimE prog w B n c e d) (k : Nat) (hk : k < 26) (hb : ∀ env, attributeBase e (anm k) env (eval e env) = eval e env) : SimE prog w B n c (.Attribute e (anm k) pos) (dAttr d k) := .mk fun A env l s H Post Q E am X S h g => by
  rw [arm_eval_Attribute, hb]
  refine wpAny_bind (i.ev A env l s H _ _ E am X S h fun ra a H1 s1 ea ⟨u, hu, hp⟩ S1 T1 => ?_)
  refine wpAny_bind (wpAny_standAt (wpAny_bind (wpAny_holding (attr_ok G S1 hk ea hu fun ru tk eu => ?_))))
  exact wpAny_bind (wpAny_letTemporaryGo (wpAny_pure ((g.on T1).val S1 eu hp)))
theorem idx_type (S : St prog w B H s.heap) (ea : er ra = some a) (h : IdxAt H a b u) : ∃ T id, typeLookup (.type T) "__getitem__" = pure (some (.builtin id)) ∧ s.TypeIs ra T := by
  rcases h with ⟨p, xs, i, rfl, rfl, h1 | h1, _⟩ | ⟨p, es, x, rfl, rfl, h1, hu⟩
  · obtain rfl := er_ref ea
    obtain ⟨vs, ⟨n, hl⟩, hv⟩ := S.obj _ _ h1
    exact ⟨"list", _, F.slot_list_getitem.lookup, _, hl, rfl⟩
  · obtain rfl := er_ref ea
    obtain ⟨vs, ⟨o, hl, hc, _⟩, hv⟩ := S.obj _ _ h1
    exact ⟨"tuple", _, F.slot_tuple_getitem.lookup, _, hl, hc⟩
  · obtain rfl := er_ref ea
    obtain ⟨vs, hd, hv⟩ := S.obj _ _ h1
    exact ⟨"dict", _, slot_dict_getitem.lookup, hd.typeIs⟩
theorem sim_idx (G : Gnd w K mg mb B) (i1 : SimE prog w B n c e1 d1) (i2 : SimE prog w B n c e2 d2) (hs : ∀ o i, subscripted e2 false o i = operate [o, i] (getItem o i)) : SimE prog w B n c (.Subscript e1 e2 pos) (dIdx d1 d2) := .mk fun A env l s H Post Q E am X S h g => by
  rw [arm_eval_Subscript]
  refine wpAny_bind (i1.ev A env l s H _ _ E am X S h fun ra a H1 s1 ea h S1 T1 => ?_)
  refine wpAny_bind (wpAny_holding (i2.ev A env l s1 H1 _ _ E am (X.go T1) S1 h fun rb b H2 s2 eb ⟨u, hu, hp⟩ S2 T2 => wpAny_bind (wpAny_standAt ?_)))
  obtain ⟨T, id, hl, hT⟩ := idx_type S2 ea hu
  refine wpAny_bind ?_
  rw [getitemInPython_of_ne hT.not_modules]
  refine wpAny_bind (wpAny_specialOf hT hl ?_)
  have fin : wpAny (model prog w) A (subscripted e2 false ra rb) (fun r s₃ => wpAny (model prog w) A (letTemporaryGo e1 ra r >>= fun _ => pure r) Q E s₃) E s2 := by
    rw [hs]
    exact wpAny_operating (idx_ok G S2 ea eb hu fun ru tk eu => wpAny_bind (wpAny_letTemporaryGo (wpAny_pure (((g.on T1).on T2).val S2 eu hp))))
  first
    | exact wpAny_pure (wpAny_bind fin)
    | exact wpAny_bind (wpAny_pure (wpAny_bind fin))
    | exact wpAny_bind fin
theorem wpAny_part {M : Model} {x : Option Expr} {Q : Value → Shared → Prop} (h : wpAny M A (evalPart x env) Q E s) : wpAny M A (evalPart x env) Q E s := h
theorem sim_slTo (i : SimE prog w B n c e d) {k : Int} {kd : Nat} {p p' : Pos} (ht : ∀ o r, letTemporaryGo e o r = pure ()) :
    SimE prog w B n c (.Subscript e (.Slice none (some (.Constant (.int k) kd p)) none p') pos) (dSlTo d k) := .mk fun A env l s H Post Q E am X S h g => by
  refine wpAny_Subscript_Slice F.slot_list_getitem.lookup (i.ev A env l s H _ _ E am X S h fun ra a H1 s1 ea h S1 T1 => ?_) ht
  obtain ⟨q, xs, rfl, h1, h0, h2, hz, hp⟩ := h
  obtain rfl := er_ref ea
  refine wpAny_Slice (wpAny_pure (wpAny_Constant_int (k := kd) (pos := p) (wpAny_pure ?_)))
  obtain ⟨S2, T2⟩ := S1.same (h' := s1.heap.push { cls := .type "slice", data := .fields #[.none, .int k s1.toks, .none] }) (tk := s1.toks + 1) (fun b o e => Heap.get?_push_of_some _ e)
  refine ⟨?_, slice_ok (s := { s1 with heap := s1.heap.push { cls := .type "slice", data := .fields #[.none, .int k s1.toks, .none] }, toks := s1.toks + 1 }) S2 h1 (.inr rfl) ⟨_, Heap.get?_push_size _ rfl, rfl, rfl⟩ .none (.int k _) .none (by simp) hz (fun vs hv => pick_to h0 vs hv) hp ((g.on T1).on T2)⟩
  obtain ⟨vs, ⟨o, e1, e2, _⟩, _⟩ := S1.obj _ _ h1
  exact ⟨o, Heap.get?_push_of_some _ e1, e2⟩
theorem sim_rev (i : SimE prog w B n c e d) {kd : Nat} {p p' p'' : Pos} (ht : ∀ o r, letTemporaryGo e o r = pure ()) :
    SimE prog w B n c (.Subscript e (.Slice none none (some (.UnaryOp .USub (.Constant (.int 1) kd p) p')) p'') pos) (dRev d) := .mk fun A env l s H Post Q E am X S h g => by
  refine wpAny_Subscript_Slice_step F.slot_list_getitem.lookup (i.ev A env l s H _ _ E am X S h fun ra a H1 s1 ea h S1 T1 => ?_) ht
  obtain ⟨q, xs, rfl, h1, hz, hp⟩ := h
  obtain rfl := er_ref ea
  refine wpAny_Slice (wpAny_pure (wpAny_pure (wpAny_UnaryOp (wpAny_Constant_int (P.neg_int ?_)))))
  obtain ⟨S2, T2⟩ := S1.same (h' := s1.heap.push { cls := .type "slice", data := .fields #[.none, .none, .int (-1) (s1.toks + 1)] }) (tk := s1.toks + 1 + 1) (fun b o e => Heap.get?_push_of_some _ e)
  refine ⟨?_, slice_ok (s := { s1 with heap := s1.heap.push { cls := .type "slice", data := .fields #[.none, .none, .int (-1) (s1.toks + 1)] }, toks := s1.toks + 1 + 1 }) S2 h1 (.inl rfl) ⟨_, Heap.get?_push_size _ rfl, rfl, rfl⟩ .none .none (.int (-1) _) (by simp) hz (fun vs hv => pick_rev vs hv) hp ((g.on T1).on T2)⟩
  obtain ⟨vs, ⟨m, e1⟩, _⟩ := S1.obj _ _ h1
  exact ⟨_, Heap.get?_push_of_some _ e1, rfl⟩
theorem sim_bin (G : Gnd w K mg mb B) (o : Operator) (i1 : SimE prog w B n c e1 d1) (i2 : SimE prog w B n c e2 d2) : SimE prog w B n c (.BinOp e1 o e2 pos) (dBin o d1 d2) := .mk fun A env l s H Post Q E am X S h g =>
  wpAny_BinOp (i1.ev A env l s H _ _ E am X S h fun ra a H1 s1 ea h S1 T1 => i2.ev A env l s1 H1 _ _ E am (X.go T1) S1 h fun rb b H2 s2 eb h S2 T2 => bin_ok G S2 o ea eb h ((g.on T1).on T2))
theorem sim_cmp (G : Gnd w K mg mb B) (o : CmpOp) (i1 : SimE prog w B n c e1 d1) (i2 : SimE prog w B n c e2 d2) (hm : behindInMarks o e2 = false) : SimE prog w B n c (.Compare e1 [o] [e2] pos) (dCmp o d1 d2) := .mk fun A env l s H Post Q E am X S h g =>
  wpAny_Compare1 (i1.ev A env l s H _ _ E am X S h fun ra a H1 s1 ea h S1 T1 => i2.ev A env l s1 H1 _ _ E am (X.go T1) S1 h fun rb b H2 s2 eb ⟨v, hv, hp⟩ S2 T2 => cmp_ok G S2 am.room o ea eb hv fun tk => ((g.on T1).on T2).val S2 rfl hp) hm
theorem simt_cmp (G : Gnd w K mg mb B) (o : CmpOp) (i1 : SimE prog w B n c e1 d1) (i2 : SimE prog w B n c e2 d2) (hm : behindInMarks o e2 = false) : SimT prog w B n c (.Compare e1 [o] [e2] pos) (tCmp o d1 d2) := .mk fun A env l s H Post Q E am X S h g =>
  wpAny_isTrue_Compare1 (i1.ev A env l s H _ _ E am X S h fun ra a H1 s1 ea h S1 T1 => i2.ev A env l s1 H1 _ _ E am (X.go T1) S1 h fun rb b H2 s2 eb ⟨v, hv, hp⟩ S2 T2 => cmp_ok G S2 am.room o ea eb hv fun tk =>
    wpAny_truthy_bool (g _ _ { s2 with toks := tk } hp S2 (T1.trans T2).toks)) hm
theorem simt_val (i : SimE prog w B n c e d) (he : ∀ env whole, isTrue e env whole = (do let v ← whole; standAt e.pos; holding [v] (truthy v))) : SimT prog w B n c e (tVal d) := .mk fun A env l s H Post Q E am X S h g =>
  wpAny_isTrue_value (i.ev A env l s H _ _ E am X S h fun ra a H1 s1 ea ⟨v, hv, hp⟩ S1 T1 => by subst hv; rw [er_bool ea]; exact wpAny_truthy_bool (g _ _ _ hp S1 T1)) (he _ _)
theorem simt_not (i : SimT prog w B n c e t) : SimT prog w B n c (.UnaryOp .Not e pos) (tNot t) := .mk fun A env l s H Post Q E am X S h g =>
  isTrue_not (i.ev A env l s H _ _ E am X S h fun b H1 s1 hp S1 T1 => g _ _ _ hp S1 T1)
theorem simt_and0 : SimT prog w B n c (.BoolOp .And [] pos) tT := .mk fun A env l s H Post Q E am X S h g => isTrue_and_nil (g _ _ _ h S Tr.refl)
theorem simt_or0 : SimT prog w B n c (.BoolOp .Or [] pos) tF := .mk fun A env l s H Post Q E am X S h g => isTrue_or_nil (g _ _ _ h S Tr.refl)
theorem simt_and (i1 : SimT prog w B n c e t1) (i2 : SimT prog w B n c (.BoolOp .And es pos) t2) : SimT prog w B n c (.BoolOp .And (e :: es) pos) (tAnd t1 t2) := .mk fun A env l s H Post Q E am X S h g =>
  isTrue_and (i1.ev A env l s H _ _ E am X S h fun b H1 s1 hp S1 T1 => by
    cases b with
    | true =>
      have z := i2.ev A env l s1 H1 Post Q E am (X.go T1) S1 hp fun b H2 s2 hp S2 T2 => g _ _ _ hp S2 (T1.trans T2)
      exact z
    | false => exact g _ _ _ hp S1 T1)
theorem simt_or (i1 : SimT prog w B n c e t1) (i2 : SimT prog w B n c (.BoolOp .Or es pos) t2) : SimT prog w B n c (.BoolOp .Or (e :: es) pos) (tOr t1 t2) := .mk fun A env l s H Post Q E am X S h g =>
  isTrue_or (i1.ev A env l s H _ _ E am X S h fun b H1 s1 hp S1 T1 => by
    cases b with
    | true => exact g _ _ _ hp S1 T1
    | false =>
      have z := i2.ev A env l s1 H1 Post Q E am (X.go T1) S1 hp fun b H2 s2 hp S2 T2 => g _ _ _ hp S2 (T1.trans T2)
      exact z)
theorem sim_and (i1 : SimE prog w B n c e1 d1) (i2 : SimE prog w B n c e2 d2) : SimE prog w B n c (.BoolOp .And [e1, e2] pos) (dAnd d1 d2) := .mk fun A env l s H Post Q E am X S h g =>
  wpAny_And2 (i1.ev A env l s H _ _ E am X S h fun ra a H1 s1 ea ⟨v, hv, hp⟩ S1 T1 => by
    subst hv; obtain rfl := er_bool ea
    refine wpAny_truthy_bool ?_
    cases v with
    | true => exact i2.ev A env l s1 H1 _ _ E am (X.go T1) S1 hp (g.on T1)
    | false => exact (g.on T1).val' S1 rfl hp)
theorem sim_if (i1 : SimT prog w B n c e t) (i2 : SimE prog w B n c e1 d1) (i3 : SimE prog w B n c e2 d2) : SimE prog w B n c (.IfExp e e1 e2 pos) (dIf t d1 d2) := .mk fun A env l s H Post Q E am X S h g =>
  wpAny_IfExp (i1.ev A env l s H _ _ E am X S h fun b H1 s1 hp S1 T1 => by
    cases b with
    | true => exact i2.ev A env l s1 H1 _ _ E am (X.go T1) S1 hp (g.on T1)
    | false => exact i3.ev A env l s1 H1 _ _ E am (X.go T1) S1 hp (g.on T1))
theorem sim_nil : SimL prog w B n c [] lN :=
  ⟨fun _ _ => rfl, fun A env l s H pos Post Q E am X S h g => Calls.spliced_nil (g _ _ _ _ ers.nil h S Tr.refl), fun A env l s H pos f Post Q E am X S h g => evalArgs_nil3 ⟨[], rfl, g _ _ _ _ ers.nil h S Tr.refl⟩⟩
noncomputable def noStar : Expr → Bool
  | .Starred .. => false
  | _ => true
theorem star_cons (e : Expr) (es : List Expr) (h : noStar e = true) (env : Env) : starEach (e :: es) env = (false, eval e env) :: starEach es env := by
  cases e <;> first | rfl | (cases h; done)
theorem sim_cons (i1 : SimE prog w B n c e d) (i2 : SimL prog w B n c es ds) (h : noStar e = true) : SimL prog w B n c (e :: es) (lC d ds) := by
  have he := star_cons e es h
  have key : ∀ (A : Around) (env : Env) (l : Loc) (s : Shared) (H : Hp) (pos : Pos) (Post : List MV → Hp → Prop) (Q : List Value → Shared → Prop) (E : Value → Shared → Prop), Amb A n → EnvOK B A env c l H s.heap → St prog w B H s.heap → (lC d ds) l Post H →
      GoesL prog w B H s Post Q → wpAny (model prog w) A (spliced ((false, eval e env) :: backTo pos (starEach es env))) Q E s := fun A env l s H pos Post Q E am X S h g =>
    Calls.spliced_cons (i1.ev A env l s H _ _ E am X S h fun ra a H1 s1 ea h S1 T1 => i2.ev A env l s1 H1 pos _ _ E am (X.go T1) S1 h fun rvs vs H2 s2 ev h S2 T2 => g _ _ _ _ (ers.cons ev ea) h S2 (T1.trans T2))
  refine ⟨fun env pos => ?_, fun A env l s H pos Post Q E am X S h g => ?_, fun A env l s H pos f Post Q E am X S h g => ?_⟩
  · rw [he]
    have := i2.plain env pos
    show (false || (backTo pos (starEach es env)).any (·.1)) = false
    rw [this]; rfl
  · rw [he]; exact key A env l s H pos Post Q E am X S h g
  · rw [he]; exact Calls.evalArgs_plain (key A env l s H pos Post _ E am X S h fun rvs vs H2 s2 ev h S2 T2 => ⟨rvs, rfl, g _ _ _ _ ev h S2 T2⟩)
theorem sim_list (i : SimL prog w B n c es ds) : SimE prog w B n c (.List es pos) (dList ds) := .mk fun A env l s H Post Q E am X S h g =>
  wpAny_List (i.ev A env l s H pos _ _ E am X S h fun rvs vs H1 s1 ev ⟨hz, hp⟩ S1 T1 => ⟨by rw [ev.len, sizeLine_eq]; omega,
    (g.on T1).push (tk := s1.toks) S1 hp (by intro xs; simp) ⟨rvs, ⟨0, Heap.get?_push_size _ rfl⟩, ev⟩⟩)
theorem sim_tup {k : Nat} (i : SimL prog w B n c es ds) : SimE prog w B n c (.Tuple es k pos) (dTup ds) := .mk fun A env l s H Post Q E am X S h g =>
  wpAny_Tuple (i.ev A env l s H pos _ _ E am X S h fun rvs vs H1 s1 ev ⟨hz, hp⟩ S1 T1 => ⟨by rw [ev.len, sizeLine_eq]; omega,
    (g.on T1).push (tk := s1.toks) S1 hp (by intro xs; simp) ⟨rvs, ⟨_, Heap.get?_push_size _ rfl, rfl, 0, rfl⟩, ev⟩⟩)
theorem sim_dct : SimE prog w B n c (.Dict [] [] pos) dDct := .mk fun A env l s H Post Q E am X S h g =>
  wpAny_Dict_empty (g.push (tk := s.toks) S h (by intro xs; simp) ⟨[], Heap.DictOf.new s.heap, rfl⟩)
theorem sim_rep (he : ∀ env, starEach [e1] env = [(false, eval e1 env)]) {p : Pos} (i1 : SimE prog w B n c e1 d1) (i2 : SimE prog w B n c e2 d2) : SimE prog w B n c (.BinOp (.List [e1] p) .Mult e2 pos) (dRep d1 d2) := .mk fun A env l s H Post Q E am X S h g => by
  refine wpAny_BinOp (wpAny_List ?_)
  rw [he]
  refine Calls.spliced_cons (i1.ev A env l s H _ _ E am X S h fun ra a H1 s1 ea h S1 T1 => Calls.spliced_nil ⟨by rw [sizeLine_eq]; show 1 ≤ _; omega, ?_⟩)
  obtain ⟨S2, T2⟩ := S1.same (h' := s1.heap.push { cls := .type "list", data := .seq [ra].toArray }) (tk := s1.toks) (fun b o e => Heap.get?_push_of_some _ e)
  refine i2.ev A env l { s1 with heap := s1.heap.push { cls := .type "list", data := .seq [ra].toArray } } H1 _ _ E am ((X.go T1).go T2) S2 h fun rb b H3 s3 eb h S3 T3 => ?_
  obtain ⟨j, rfl, h0, h1, hp⟩ := h
  obtain ⟨t, rfl⟩ := er_int eb
  have nO : ¬ Own H1 s1.heap.objs.size := fun ⟨o, ho, _⟩ => by rw [S1.fresh (size_none _)] at ho; cases ho
  exact rep_ok S3 ((T3.ext _ _ nO (Heap.get?_push_size _ rfl)).exact fun _ _ z => nomatch z) ea h0 h1 hp (((g.on T1).on T2).on T3)
theorem sim_call {φ : Fn} (k : Nat) (hx : c.gs[k]? = some x) (G : Gnd w K mg mb B) (f : FunG prog w mg B m x φ) (hm : m ≤ n) {p : Pos} (i : SimL prog w B n c es ds) : SimE prog w B n c (.Call (.Name x p) es [] pos) (dCall φ ds) := .mk fun A env l s H Post Q E am X S h g => by
  obtain ⟨fa, h1, h2, h3⟩ := f.fn
  refine wpAny_Call_NameR (name_glob k hx X (loadGlobal_global (mg := mg) (by rw [X.gl]; exact G.g.keeps S.keep) h1 ?_))
  refine callWith_of (P := fun h => ∀ b o, B.get? b = some o → h.get? b = some o) (by rw [i.plain]; rfl) h2 (wpAny_mono (i.ar A env l s H pos (.ref fa) _ (fun rvs s1 => (∀ b o, B.get? b = some o → s1.heap.get? b = some o) ∧ wpAny (model prog w) A (call (.ref fa) rvs) Q E s1) E am X S h fun rvs vs H1 s1 ev hp S1 T1 => ⟨S1.keep, h3 A s1 H1 rvs vs Post Q E (am.mono hm) (X.go T1).fr S1 ev hp (g.on T1)⟩) (fun a s1 ⟨rvs, e, h⟩ => by subst e; exact h) fun _ _ e => e)
theorem args1 (i : SimE prog w B n c e d) (he : ∀ env, starEach [e] env = [(false, eval e env)]) {f : Value} {Q : Args → Shared → Prop} {E : Value → Shared → Prop} (am : Amb A n) (X : EnvOK B A env c l H s.heap) (S : St prog w B H s.heap) (h : d l Post H)
    (k : ∀ ra a H1 s1, er ra = some a → Post a H1 → St prog w B H1 s1.heap → Tr B H s H1 s1 → Q ⟨[ra], []⟩ s1) : wpAny (model prog w) A (evalArgs f true (backTo pos (starEach [e] env)) []) Q E s := by
  rw [he]
  exact Calls.evalArgs_plain (Calls.spliced_cons (i.ev A env l s H Post _ E am X S h fun ra a H1 s1 ea hp S1 T1 => Calls.spliced_nil (k ra a H1 s1 ea hp S1 T1)))
theorem bi_call {f : Value} (G : Gnd w K mg mb B) (k : Nat) (hx : c.gs[k]? = some x) (b : bootBuiltins x = some f ∧ x ≠ "__name__" ∧ x ∈ (["len", "range", "list", "dict", "str", "int"] : List Str)) {p : Pos} (i : SimE prog w B n c e d) (he : ∀ env, starEach [e] env = [(false, eval e env)])
    (hk : (∃ id, f = .builtin id) ∨ keeperOf f = pure .machine) {A : Around} {Q E : Value → Shared → Prop} (am : Amb A n) (X : EnvOK B A env c l H s.heap) (S : St prog w B H s.heap) (h : d l Post H)
    (g : ∀ ra a H1 s1, er ra = some a → Post a H1 → St prog w B H1 s1.heap → Tr B H s H1 s1 → wpAny (model prog w) A (call f [ra]) Q E s1) : wpAny (model prog w) A (eval (.Call (.Name x p) [e] [] pos) env) Q E s := by
  refine wpAny_Call_NameR (name_glob k hx X (loadGlobal_builtin (mg := mg) (mb := mb) (by rw [X.gl]; exact G.g.keeps S.keep) (G.fr _ b.2.2) (by rw [X.bu]; exact G.b.keeps S.keep) (by rw [G.blt _ b.2.1]; exact b.1) ?_))
  rcases hk with ⟨id, rfl⟩ | hk
  · exact callWith_builtin (by rw [he]; rfl) (args1 i he am X S h g)
  · exact callWith_of (P := fun _ => True) (by rw [he]; rfl) (fun h _ => ⟨.machine, .inr (.inl rfl), Looks.of_pure hk⟩) (args1 i he am X S h fun ra a H1 s1 e1 hp S1 T1 => ⟨trivial, g ra a H1 s1 e1 hp S1 T1⟩)
theorem b_len : bootBuiltins "len" = some (.builtin "len") ∧ ("len" : Str) ≠ "__name__" ∧ ("len" : Str) ∈ (["len", "range", "list", "dict", "str", "int"] : List Str) := by decide +kernel
theorem b_list : bootBuiltins "list" = some (.type "list") ∧ ("list" : Str) ≠ "__name__" ∧ ("list" : Str) ∈ (["len", "range", "list", "dict", "str", "int"] : List Str) := by decide +kernel
theorem b_dict : bootBuiltins "dict" = some (.type "dict") ∧ ("dict" : Str) ≠ "__name__" ∧ ("dict" : Str) ∈ (["len", "range", "list", "dict", "str", "int"] : List Str) := by decide +kernel
theorem b_str : bootBuiltins "str" = some (.type "str") ∧ ("str" : Str) ≠ "__name__" ∧ ("str" : Str) ∈ (["len", "range", "list", "dict", "str", "int"] : List Str) := by decide +kernel
theorem b_range : bootBuiltins "range" = some (.type "range") ∧ ("range" : Str) ≠ "__name__" ∧ ("range" : Str) ∈ (["len", "range", "list", "dict", "str", "int"] : List Str) := by decide +kernel
theorem sim_len (G : Gnd w K mg mb B) (k : Nat) (hx : c.gs[k]? = some "len") {p : Pos} (i : SimE prog w B n c e d) (he : ∀ env, starEach [e] env = [(false, eval e env)]) : SimE prog w B n c (.Call (.Name "len" p) [e] [] pos) (dLen d) := .mk fun A env l s H Post Q E am X S h g =>
  bi_call G k hx b_len i he (.inl ⟨_, rfl⟩) am X S h fun ra a H1 s1 ea ⟨p, xs, e1, h1, hz, hp⟩ S1 T1 => by subst e1; obtain rfl := er_ref ea; exact len_ok S1 h1 hz hp (g.on T1)
theorem sim_lst (G : Gnd w K mg mb B) (k : Nat) (hx : c.gs[k]? = some "list") {p : Pos} (i : SimE prog w B n c e d) (he : ∀ env, starEach [e] env = [(false, eval e env)]) : SimE prog w B n c (.Call (.Name "list" p) [e] [] pos) (dLst d) := .mk fun A env l s H Post Q E am X S h g =>
  bi_call G k hx b_list i he (.inr rfl) am X S h fun ra a H1 s1 ea ⟨p, xs, e1, h1, hz, hp⟩ S1 T1 => by subst e1; obtain rfl := er_ref ea; exact lst_ok S1 h1 hz hp (g.on T1)
theorem sim_dic (G : Gnd w K mg mb B) (k : Nat) (hx : c.gs[k]? = some "dict") {p : Pos} (i : SimE prog w B n c e d) (he : ∀ env, starEach [e] env = [(false, eval e env)]) : SimE prog w B n c (.Call (.Name "dict" p) [e] [] pos) (dDic d) := .mk fun A env l s H Post Q E am X S h g =>
  bi_call G k hx b_dict i he (.inr rfl) am X S h fun ra a H1 s1 ea ⟨p, xs, e1, h1, hz, hp⟩ S1 T1 => by subst e1; obtain rfl := er_ref ea; exact dic_ok G S1 h1 hz hp (g.on T1)
theorem sim_strc (G : Gnd w K mg mb B) (k : Nat) (hx : c.gs[k]? = some "str") {p : Pos} (i : SimE prog w B n c e d) (he : ∀ env, starEach [e] env = [(false, eval e env)]) : SimE prog w B n c (.Call (.Name "str" p) [e] [] pos) (dStr d) := .mk fun A env l s H Post Q E am X S h g =>
  bi_call G k hx b_str i he (.inr rfl) am X S h fun ra a H1 s1 ea ⟨j, e1, h0, h1, hp⟩ S1 T1 => by subst e1; obtain ⟨t, rfl⟩ := er_int ea; exact str_ok S1 h0 h1 hp (g.on T1)
end
end Mine
end
section
open PySem PySem.W PyProof.Rows PySem.Calls PySem.Spec
open Classical
namespace Mine
open PySem.SeqAt
section
variable {prog : Program} {w : World} {K : Frag} {mg mb : Str → Option Value} {B : Heap} {A : Around} {E : Value → Shared → Prop} {s s' s0 : Shared} {H H' H0 : Hp} {a b u : MV} {ra rb ru : Value} {n m k : Nat}
  {Post : MV → Hp → Prop} {Q : Value → Shared → Prop} {env : Env} {c : Cx} {l : Loc} {h h' : Heap} {C : Addr}
  {e e1 e2 e3 : Expr} {d d1 d2 d3 : Den} {t t1 t2 : DenT} {pos : Pos} {x : Str} {es : List Expr} {ds : DenL}
theorem St.but (S : St prog w B H h) (hC : H C = none) (bC : B.get? C = none) (k : ∀ b, b ≠ C → ∀ o, h.get? b = some o → h'.get? b = some o) : St prog w B H h' :=
  ⟨fun b o e => k b (fun z => by rw [z, bC] at e; cases e) o (S.keep b o e), fun a o e => (S.obj a o e).keeps fun ob => k a (fun z => by rw [z, hC] at e; cases e) ob, S.new⟩
theorem Tr.but {tk : Nat} (T : Tr B H0 s0 H s) (hC : s0.heap.get? C = none) (k : ∀ b, b ≠ C → ∀ o, s.heap.get? b = some o → h'.get? b = some o) : Tr B H0 s0 H { s with heap := h', toks := tk } :=
  ⟨fun b o n e => (T.ext b o n e).but (k b fun z => by rw [z, hC] at e; cases e), T.grow, T.ro, T.gens, T.drawn, T.os, fun b z => if q : b = C then q ▸ hC else T.stay b (by
    cases r : s.heap.get? b with
    | none => rfl
    | some o => have := k b q o r; rw [show h'.get? b = none from z] at this; cases this)⟩
theorem EnvOK.but (X : EnvOK B A env c l H h) (e1 : ∀ o, h.get? env.locals = some o → h'.get? env.locals = some o) (e2 : ∀ x p, env.cells.lookup x = some p → ∀ o, h.get? p = some o → h'.get? p = some o)
    (e3 : ∀ fs e L, A.frames = some fs → e ∈ fs → e.frame = some L → ∀ o, h.get? L = some o → h'.get? L = some o) : EnvOK B A env c l H h' := by
  obtain ⟨m, hn, hm⟩ := X.loc
  refine ⟨X.kd, X.nms, X.gl, X.bu, X.ok, ⟨m, hn.at' e1, hm⟩, fun x hx => ?_, X.nl, fun x p hp => ?_, X.bl, X.len, X.ap, X.fr.mv fun fs e L hf he h1 o es n h3 h4 h5 => ⟨h5, o, es, n, e3 fs e L hf he h1 o h3, h4⟩⟩
  · obtain ⟨p, v, h1, ⟨o, e, d⟩, h3⟩ := X.cell x hx
    exact ⟨p, v, h1, ⟨o, e2 _ _ h1 o e, d⟩, h3⟩
  · obtain ⟨h1, h2, v, o, e, d⟩ := X.nc x p hp
    exact ⟨h1, h2, v, o, e2 _ _ hp o e, d⟩
/-- a fresh address -/
theorem EnvOK.ne (X : EnvOK B A env c l H h) (f : h.get? C = none) : Away A env C := by
  obtain ⟨m, hn, _⟩ := X.loc
  obtain ⟨o, e⟩ := Ns_here hn
  refine ⟨fun z => (by rw [z, e] at f; cases f), fun x p hp z => ?_, fun fs e hf he z => ?_⟩
  · obtain ⟨_, _, v, o, e, _⟩ := X.nc x p hp
    rw [z, e] at f; cases f
  · obtain ⟨_, L, o, _, _, h1, _, h3, _⟩ := X.fr fs hf e he
    rw [h1] at z
    cases z
    rw [h3] at f; cases f
theorem EnvOK.same (X : EnvOK B A env c l H h) (f : Away A env C) (k : ∀ b, b ≠ C → ∀ o, h.get? b = some o → h'.get? b = some o) : EnvOK B A env c l H h' :=
  X.but (k _ f.1.symm) (fun x p hp => k _ (f.2.1 x p hp).symm) fun fs e L hf he h1 => k _ fun z => f.2.2 fs e hf he (z ▸ h1)
theorem St.bnone (S : St prog w B H h) (f : h.get? C = none) : B.get? C = none := by
  cases q : B.get? C with
  | none => rfl
  | some o => have := S.keep _ _ q; rw [f] at this; cases this
/-- an address becomes owned -/
theorem Tr.own {o : MObj} (S : St prog w B H s.heap) (T : Tr B H0 s0 H s) (S0 : St prog w B H0 s0.heap) (f : s0.heap.get? C = none) (hC : H C = none) (n' : ∀ xs, o ≠ .ro xs) (x : Has prog w s.heap C o) :
    St prog w B (upd H C o) s.heap ∧ Tr B H0 s0 (upd H C o) s := by
  have f0 := S0.fresh f
  refine ⟨⟨S.keep, fun b ob q => ?_, fun b z => ?_⟩, ⟨T.ext, fun b m q => ?_, fun b xs => ?_, T.gens, T.drawn, T.os, T.stay⟩⟩
  · by_cases z : b = C
    · subst z; rw [upd_same] at q; cases q; exact x
    · rw [upd_ne z] at q; exact S.obj b ob q
  · by_cases q : b = C
    · subst q; exact S0.bnone f
    · obtain ⟨ob, h1, h2⟩ := z
      rw [upd_ne q] at h1
      exact S.new b ⟨ob, h1, h2⟩
  · by_cases z : b = C
    · subst z; exact f
    · rw [upd_ne z] at m; exact T.grow b m q
  · by_cases z : b = C
    · subst z; rw [f0, upd_same]; constructor
      · intro y; cases y
      · intro y; exact absurd (Option.some.inj y) (n' xs)
    · rw [upd_ne z]; exact T.ro b xs
theorem put_at {v : MV} {j : Nat} (hj : (l.put k v).at j = some u) : (j = k ∧ u = v) ∨ (j ≠ k ∧ l.at j = some u) := by
  unfold Loc.at Loc.put at hj
  by_cases q : j = k
  · subst q
    rw [List.getElem?_set] at hj
    simp only [if_true] at hj
    split at hj
    · cases hj; exact .inl ⟨rfl, rfl⟩
    · cases hj
  · rw [List.getElem?_set_ne (Ne.symm q)] at hj
    exact .inr ⟨q, hj⟩
theorem store_loc {Q : Unit → Shared → Prop} (X : EnvOK B A env c l H s.heap) (S : St prog w B H s.heap) (hx : (c.vis[k]?).join = some x) (hk : c.nm.lookup x = some .local) (eu : er ru = some u)
    (hQ : ∀ h' tk, EnvOK B A env c (l.put k u) H h' → St prog w B H h' → Heap.SameBut env.locals s.heap h' → Q () { s with heap := h', toks := tk }) : wpAny (model prog w) A (storeName env x ru) Q E s := by
  obtain ⟨m, hn, hm⟩ := X.loc
  refine wpAny_storeName_local (by rw [Env.kindOf, X.nms]; exact hk) hn (fun h' hn' hs => ?_) (by rw [X.kd]; rfl)
  have S' : St prog w B H h' := S.but X.nl X.bl.1 fun b hb o e => (hs.2 b hb).trans e
  refine hQ h' _ ⟨X.kd, X.nms, X.gl, X.bu, X.ok, ⟨_, hn', fun j y v hy hl hv => ?_⟩, fun y hy => ?_, X.nl, fun y p hp => ?_, X.bl, by rw [Loc.put, List.length_set]; exact X.len, X.ap, X.fr.mv fun fs e L _ _ _ o es n h3 h4 h5 => ⟨h5, ?_⟩⟩ S' hs
  · rcases put_at hv with ⟨rfl, rfl⟩ | ⟨q, hv⟩
    · rw [hx] at hy; cases hy
      exact ⟨ru, if_pos rfl, eu⟩
    · have : y ≠ x := fun z => q (Cx.un X.ok hy (z ▸ hx))
      rw [if_neg this]
      exact hm j y v hy hl hv
  · obtain ⟨p, v, h1, h2, h3⟩ := X.cell y hy
    refine ⟨p, v, h1, h2.sameBut hs (X.nc y p h1).2.1, fun j v hj hv => ?_⟩
    rcases put_at hv with ⟨rfl, rfl⟩ | ⟨q, hv⟩
    · rw [hx] at hj; cases hj; rw [hk] at hy; cases hy
    · exact h3 j v hj hv
  · obtain ⟨h1, h2, v, h3⟩ := X.nc y p hp
    exact ⟨h1, h2, v, h3.sameBut hs h2⟩
  · by_cases z : L = env.locals
    · subst z
      obtain ⟨o', es', ep, g1, g2, _⟩ := hn'
      exact ⟨o', es', _, g1, g2⟩
    · exact ⟨o, es, n, (hs.2 L z).trans h3, h4⟩
theorem store_cell {Q : Unit → Shared → Prop} (X : EnvOK B A env c l H s.heap) (S : St prog w B H s.heap) (hx : (c.vis[k]?).join = some x) (hk : c.nm.lookup x = some .cell) (eu : er ru = some u)
    (hQ : ∀ p h' tk, env.cells.lookup x = some p → EnvOK B A env c (l.put k u) H h' → St prog w B H h' → Heap.SameBut p s.heap h' → Q () { s with heap := h', toks := tk }) : wpAny (model prog w) A (storeName env x ru) Q E s := by
  obtain ⟨m, hn, hm⟩ := X.loc
  obtain ⟨p, v0, h1, h2, h3⟩ := X.cell x hk
  obtain ⟨n1, n2, _⟩ := X.nc x p h1
  refine wpAny_storeName_cell X.kd (by rw [Env.kindOf, X.nms]; exact hk) h1 h2 fun h' hc' hs => ?_
  have S' : St prog w B H h' := S.but n1 (X.bl.2 x p h1) fun b hb o e => (hs.2 b hb).trans e
  refine hQ p h' s.toks h1 ⟨X.kd, X.nms, X.gl, X.bu, X.ok, ⟨_, hn.sameBut hs n2.symm, fun j y v hy hl hv => ?_⟩, fun y hy => ?_, X.nl, fun y p' hp => ?_, X.bl, by rw [Loc.put, List.length_set]; exact X.len, X.ap, X.fr.mv fun fs e L _ _ _ o es n h3 h4 h5 => ⟨h5, o, es, n, (hs.2 L fun z => ?_).trans h3, h4⟩⟩ S' hs
  · rcases put_at hv with ⟨rfl, rfl⟩ | ⟨q, hv⟩
    · rw [hx] at hy; cases hy; rw [hk] at hl; cases hl
    · exact hm j y v hy hl hv
  · by_cases q : y = x
    · subst q
      refine ⟨p, _, h1, hc', fun j v hj hv => ?_⟩
      rcases put_at hv with ⟨rfl, rfl⟩ | ⟨q, hv⟩
      · exact ⟨ru, rfl, eu⟩
      · exact absurd (Cx.un X.ok hj hx) q
    · obtain ⟨p', v, g1, g2, g3⟩ := X.cell y hy
      refine ⟨p', v, g1, g2.sameBut hs fun z => q (X.ap y x p (z ▸ g1) h1), fun j v hj hv => ?_⟩
      rcases put_at hv with ⟨rfl, rfl⟩ | ⟨_, hv⟩
      · rw [hx] at hj; cases hj; exact absurd rfl q
      · exact g3 j v hj hv
  · obtain ⟨g1, g2, v, g3⟩ := X.nc y p' hp
    by_cases q : p' = p
    · subst q; exact ⟨g1, g2, _, hc'⟩
    · exact ⟨g1, g2, v, g3.sameBut hs q⟩
  · subst z
    obtain ⟨o', e', d'⟩ := h2
    rw [h3] at e'
    cases e'
    rw [h4] at d'; cases d'
end
end Mine
end
section
open PySem PySem.W PyProof.Rows PySem.Calls PySem.Spec
open Classical
namespace Mine
open PySem.SeqAt
noncomputable def compNm (c : Cx) (scope : Scope) : List (Str × NameKind) :=
  scope.names.map fun (n, k) => if (k == NameKind.free && c.nm.lookup n == some .cell) then (n, NameKind.cell) else (n, k)
noncomputable def mask (c : Cx) (scope : Scope) (xs : List Str) (o : Option Str) : Option Str := match o with
  | some y => if xs.contains y || (compNm c scope).lookup y != some NameKind.cell then none else some y
  | none => none
noncomputable def compCx (c : Cx) (scope : Scope) (xs gs : List Str) : Cx :=
  { nm := compNm c scope, vis := c.vis.map (mask c scope xs) ++ xs.map some, gs := gs }
noncomputable def scopeOK (c : Cx) (scope : Scope) (xs gs : List Str) : Bool :=
  scope.kind == .function && scope.names.all (fun (n, k) => k != .cell && (k != .local || scope.names.lookup n == some .local) && (k != .free || c.nm.lookup n == some .cell)) &&
    xs.all (fun x => scope.names.lookup x == some .local) && (compCx c scope xs gs).ok
section
variable {prog : Program} {w : World} {K : Frag} {mg mb : Str → Option Value} {B : Heap} {A : Around} {E : Value → Shared → Prop} {s s' s0 : Shared} {H H' H0 : Hp} {a b u : MV} {ra rb ru : Value} {n m k : Nat}
  {Post : MV → Hp → Prop} {Q : Value → Shared → Prop} {env : Env} {c : Cx} {l : Loc} {h h' : Heap} {C : Addr}
  {e e1 e2 e3 : Expr} {d d1 d2 d3 : Den} {t t1 t2 : DenT} {pos : Pos} {x : Str} {es : List Expr} {ds : DenL} {scope : Scope} {xs gs : List Str}
structure ScopeFacts (c : Cx) (scope : Scope) (xs gs : List Str) : Prop where
  kd : scope.kind = .function
  cell : ∀ y ∈ scope.names, y.2 ≠ .cell
  loc : ∀ y ∈ scope.names, y.2 = .local → scope.names.lookup y.1 = some .local
  free : ∀ y ∈ scope.names, y.2 = .free → c.nm.lookup y.1 = some .cell
  lx : ∀ x ∈ xs, scope.names.lookup x = some .local
  ok : (compCx c scope xs gs).ok = true
theorem scope_facts (h : scopeOK c scope xs gs = true) : ScopeFacts c scope xs gs := by
  unfold scopeOK at h
  simp only [Bool.and_eq_true, List.all_eq_true, beq_iff_eq] at h
  obtain ⟨⟨⟨h1, h2⟩, h3⟩, h4⟩ := h
  refine ⟨h1, fun y hy => ?_, fun y hy q => ?_, fun y hy q => ?_, h3, h4⟩
  · have := (h2 y hy).1.1
    simpa using this
  · have := (h2 y hy).1.2
    simpa [q] using this
  · have := (h2 y hy).2
    simpa [q] using this
theorem closure_ok {env : Env} : ∀ (names : List (Str × NameKind)) (acc : List (Str × Addr)), (∀ x ∈ names, x.2 = .free → ∃ p, env.cells.lookup x.1 = some p) → (∀ y p, acc.lookup y = some p → env.cells.lookup y = some p) →
    ∃ cl : List (Str × Addr), (∀ f : Str × NameKind → List (Str × Addr) → Sem (ForInStep (List (Str × Addr))), (∀ n k cs, f (n, k) cs = if k == .free then (do let a ← cellOf env n; pure (.yield ((n, a) :: cs))) else pure (.yield cs)) → forIn names acc f = pure cl) ∧
      (∀ y p, cl.lookup y = some p → env.cells.lookup y = some p) ∧ (∀ y, (acc.lookup y).isSome = true → (cl.lookup y).isSome = true) ∧ ∀ x ∈ names, x.2 = .free → (cl.lookup x.1).isSome = true
  | [], acc, _, ha => ⟨acc, fun f hf => by rw [List.forIn_nil], ha, fun _ h => h, fun x hx => nomatch hx⟩
  | (n, k) :: r, acc, hn, ha => by
    by_cases q : k = .free
    · obtain ⟨p, hp⟩ := hn (n, k) (.head _) q
      have ha' : ∀ y p', ((n, p) :: acc).lookup y = some p' → env.cells.lookup y = some p' := fun y p' e => by
        rw [List.lookup_cons] at e
        by_cases z : y = n
        · rw [show (y == n) = true by simp [z]] at e; cases e; rw [z]; exact hp
        · rw [show (y == n) = false by simp [z]] at e; exact ha y p' e
      obtain ⟨cl, h1, h2, h3, h4⟩ := closure_ok r ((n, p) :: acc) (fun x hx => hn x (.tail _ hx)) ha'
      refine ⟨cl, fun f hf => ?_, h2, fun y hy => h3 y ?_, fun x hx hk => ?_⟩
      · rw [List.forIn_cons, hf, q]
        have : cellOf env n = pure p := by unfold cellOf; rw [hp]
        rw [this]
        exact h1 f hf
      · rw [List.lookup_cons]; split
        · rfl
        · exact hy
      · rcases List.mem_cons.mp hx with rfl | hx
        · exact h3 n (by rw [List.lookup_cons]; simp)
        · exact h4 x hx hk
    · obtain ⟨cl, h1, h2, h3, h4⟩ := closure_ok r acc (fun x hx => hn x (.tail _ hx)) ha
      refine ⟨cl, fun f hf => ?_, h2, h3, fun x hx hk => ?_⟩
      · rw [List.forIn_cons, hf, if_neg (by simpa using q)]
        exact h1 f hf
      · rcases List.mem_cons.mp hx with rfl | hx
        · exact absurd hk q
        · exact h4 x hx hk
theorem closure_for (X : EnvOK B A env c l H h) (F : ScopeFacts c scope xs gs) : ∃ cl, closureFor scope env = pure cl ∧ (∀ y p, cl.lookup y = some p → env.cells.lookup y = some p) ∧ ∀ x ∈ scope.names, x.2 = .free → (cl.lookup x.1).isSome = true := by
  obtain ⟨cl, h1, h2, _, h4⟩ := closure_ok (env := env) scope.names [] (fun x hx q => by obtain ⟨p, v, g, _⟩ := X.cell x.1 (F.free x hx q); exact ⟨p, g⟩) (fun y p e => nomatch e)
  refine ⟨cl, ?_, h2, h4⟩
  unfold closureFor
  dsimp only
  rw [h1]
  · rfl
  · intro n k cs
    by_cases q : k = .free
    · subst q; rfl
    · have : (k == NameKind.free) = false := by simpa using q
      simp only [this]
theorem at_app {l' : Loc} (h : (l ++ l').at k = some u) : (k < l.length ∧ l.at k = some u) ∨ (l.length ≤ k ∧ l'.at (k - l.length) = some u) := by
  unfold Loc.at at h ⊢
  by_cases q : k < l.length
  · rw [List.getElem?_append_left q] at h; exact .inl ⟨q, h⟩
  · rw [List.getElem?_append_right (by omega)] at h; exact .inr ⟨by omega, h⟩
theorem at_none {xs : List Str} {k : Nat} : Loc.at (xs.map fun _ => (none : Option MV)) k ≠ some u := by
  unfold Loc.at
  rw [List.getElem?_map]
  cases xs[k]? <;> simp
theorem vis_old {y : Str} (hk : k < c.vis.length) (hy : (((compCx c scope xs gs).vis)[k]?).join = some y) : (c.vis[k]?).join = some y ∧ (compNm c scope).lookup y = some .cell := by
  unfold compCx at hy
  rw [List.getElem?_append_left (by rw [List.length_map]; exact hk), List.getElem?_map] at hy
  cases q : c.vis[k]? with
  | none => rw [q] at hy; cases hy
  | some o =>
    rw [q] at hy
    cases o with
    | none => cases hy
    | some z =>
      have hy : mask c scope xs (some z) = some y := hy
      unfold mask at hy
      dsimp only at hy
      split at hy
      · cases hy
      · rename_i g
        cases hy
        simp only [Bool.or_eq_true, not_or, bne_iff_ne, ne_eq, Decidable.not_not] at g
        exact ⟨rfl, g.2⟩
theorem comp_env (X : EnvOK B A env c l H h) (F : ScopeFacts c scope xs gs) {cl : List (Str × Addr)} (c1 : ∀ y p, cl.lookup y = some p → env.cells.lookup y = some p) (c2 : ∀ x ∈ scope.names, x.2 = .free → (cl.lookup x.1).isSome = true)
    (f : h.get? C = none) (fB : B.get? C = none) (fH : H C = none) (k : ∀ b o, h.get? b = some o → h'.get? b = some o) {m} (hn : h'.Ns C m) : EnvOK B A (compEnvC scope cl C env) (compCx c scope xs gs) (l ++ xs.map fun _ => none) H h' := by
  have nms : (relabel scope env).names = (compCx c scope xs gs).nm := by
    show scope.names.map _ = compNm c scope
    unfold compNm
    refine List.map_congr_left fun p _ => ?_
    obtain ⟨n, kd⟩ := p
    simp only [X.kd, Env.kindOf, X.nms, beq_self_eq_true, Bool.and_true]
  refine ⟨by show scope.kind = _; exact F.kd, nms, X.gl, X.bu, F.ok, ⟨m, hn, fun j x u hx hl hu => ?_⟩, fun y hy => ?_, fH, fun x p hp => ?_, ⟨fB, fun x p hp => X.bl.2 x p (c1 x p hp)⟩, ?_, fun x y p h1 h2 => X.ap x y p (c1 _ _ h1) (c1 _ _ h2), X.fr.mv fun fs e L _ _ _ o es n h3 h4 h5 => ⟨h5, o, es, n, k _ _ h3, h4⟩⟩
  · rcases at_app hu with ⟨hj, hu⟩ | ⟨hj, hu⟩
    · have := (vis_old (X.len ▸ hj) hx).2
      rw [show (compCx c scope xs gs).nm = compNm c scope from rfl, this] at hl; cases hl
    · exact absurd hu at_none
  · have hy' : (compNm c scope).lookup y = some .cell := hy
    obtain ⟨⟨n, kd⟩, h1, h2⟩ := List.mem_map.mp (mem_of_lookup hy')
    dsimp only at h2
    split at h2
    · rename_i g
      cases h2
      simp only [Bool.and_eq_true, beq_iff_eq] at g
      obtain ⟨p, v, g1, g2, g3⟩ := X.cell _ g.2
      obtain ⟨q, hq⟩ := Option.isSome_iff_exists.mp (c2 _ h1 g.1)
      have := c1 _ _ hq
      rw [g1] at this; cases this
      refine ⟨p, v, hq, g2.keeps k, fun j u hj hu => ?_⟩
      rcases at_app hu with ⟨hl, hu⟩ | ⟨hl, hu⟩
      · exact g3 j u (vis_old (X.len ▸ hl) hj).1 hu
      · exact absurd hu at_none
    · cases h2; exact absurd rfl (F.cell _ h1)
  · obtain ⟨h1, h2, v, o, e, d⟩ := X.nc x p (c1 x p hp)
    refine ⟨h1, fun z => ?_, v, o, k _ _ e, d⟩
    have z : p = C := z
    rw [z, f] at e; cases e
  · rw [List.length_append, List.length_map, X.len]; unfold compCx; simp
/-! what is walked -/
structure SimI (prog : Program) (w : World) (B : Heap) (n : Nat) (c : Cx) (r : Nat) (iter : Expr) (d : Den) : Prop where
  ev : ∀ (A : Around) (env : Env) (l : Loc) (s : Shared) (H : Hp) (Post : MV → Hp → Prop) (Q : Value → Shared → Prop) (E : Value → Shared → Prop), Amb A n → EnvOK B A env c l H s.heap → St prog w B H s.heap → d l Post H →
    (∀ a H1, Post a H1 → ∃ items g, srcP r a H1 items g) →
    (∀ a H1 s1 I h1, Post a H1 → (∀ items g, srcP r a H1 items g → ∃ T, Iter prog w B I items g T ∧ T 0 h1 ∧ g H1) → St prog w B H1 s1.heap → Tr B H s H1 s1 → s1.heap.get? I = none → (∀ b o, s1.heap.get? b = some o → h1.get? b = some o) → Q (.ref I) { s1 with heap := h1 }) →
    wpAny (model prog w) A (eval iter env) (fun x s1 => wpAny (model prog w) A (pyIter x) Q E s1) E s
theorem simi_list (i : SimE prog w B n c e d) : SimI prog w B n c 0 e d := .mk fun A env l s H Post Q E am X S h hs g =>
  i.ev A env l s H _ _ E am X S h fun ra a H1 s1 ea hp S1 T1 => by
    obtain ⟨items, _, ⟨_, p, rfl, hl, hz, _⟩ | ⟨z, _⟩ | ⟨z, _⟩⟩ := hs a H1 hp
    · obtain rfl := er_ref ea
      obtain ⟨vs, pl, hv⟩ := S1.obj _ _ hl
      refine wpAny_pyIter_list pl.isList (g (.ref p) H1 s1 _ _ hp (fun items' g' z => ?_) S1 T1 (size_none _) fun b o e => Heap.get?_push_of_some _ e)
      rcases z with ⟨_, p', e1, e2, _, rfl⟩ | ⟨z, _⟩ | ⟨z, _⟩
      · cases e1
        rw [hl] at e2; cases e2
        exact ⟨_, Iter.list, ⟨_, Heap.get?_push_size _ rfl, rfl, rfl⟩, hl⟩
      · cases z
      · cases z
    · cases z
    · cases z
/-- a range that is made, then walked -/
theorem range_walk {x0 j : Int} {t u v : Tok} {s1 : Shared} {H1 : Hp} {f : Nat → MV} (S : St prog w B H1 s1.heap) (T1 : Tr B H s H1 s1) {Q : Value → Shared → Prop} {m : Nat} (hx0 : -(2 ^ 62) ≤ x0 ∧ x0 < 2 ^ 62) (hj : -(2 ^ 62) ≤ j ∧ j < 2 ^ 62) (hm : (m : Int) = j - x0) {tk : Nat} (hf : ∀ i, i < m → f i = .int (x0 + i))
    (g : ∀ s1 I h1, (∃ T, Iter prog w B I ((List.range m).map f) (fun _ => True) T ∧ T 0 h1) → St prog w B H1 s1.heap → Tr B H s H1 s1 → s1.heap.get? I = none → (∀ b o, s1.heap.get? b = some o → h1.get? b = some o) → Q (.ref I) { s1 with heap := h1 }) :
    wpAny (model prog w) A (pyIter (.ref s1.heap.objs.size)) Q E { s1 with heap := s1.heap.push { cls := .type "range", data := .fields #[.int x0 t, .int j u, .int 1 v] }, toks := tk } := by
  refine wpAny_pyIter_range (IsRange.new ..) (small_one hx0.1 hx0.2 hj.1 hj.2) ?_
  obtain ⟨S2, T2⟩ := S.same (h' := s1.heap.push { cls := .type "range", data := .fields #[.int x0 t, .int j u, .int 1 v] }) (tk := tk) (fun b o e => Heap.get?_push_of_some _ e)
  refine g _ _ _ ⟨_, Iter.range (x := x0) (n := m) _ hf, ?_⟩ S2 (T1.trans T2) (size_none _) fun b o e => Heap.get?_push_of_some _ e
  have : Builtin.Range.rangeSize x0 j 1 = j - x0 := by rw [rangeSize_one]; split <;> omega
  show IsRangeIter _ _ _ _ _
  rw [show x0 + ((0 : Nat) : Int) = x0 from Int.add_zero _, show (m : Int) - ((0 : Nat) : Int) = Builtin.Range.rangeSize x0 j 1 by rw [this, hm]; exact Int.sub_zero _]
  exact Heap.get?_push_size _ rfl
theorem simi_range (G : Gnd w K mg mb B) (k : Nat) (hx : c.gs[k]? = some "range") {p : Pos} (i : SimE prog w B n c e d) (he : ∀ env, starEach [e] env = [(false, eval e env)]) : SimI prog w B n c 1 (.Call (.Name "range" p) [e] [] pos) d := .mk fun A env l s H Post Q E am X S h hs g =>
  bi_call G k hx b_range i he (.inr rfl) am X S h fun ra a H1 s1 ea hp S1 T1 => by
    obtain ⟨items, _, ⟨z, _⟩ | ⟨_, j, rfl, h0, h1, _⟩ | ⟨z, _⟩⟩ := hs a H1 hp
    · cases z
    · obtain ⟨t, rfl⟩ := er_int ea
      refine call_range_1 (range_walk (m := j.toNat) (f := fun i => .int (i : Int)) S1 T1 (by omega) (by omega) (by omega) (fun i _ => by rw [Int.zero_add]) fun s2 I h2 it S2 T2 fI hk => g (.int j) H1 s2 I h2 hp (fun items' g' z => ?_) S2 T2 fI hk)
      rcases z with ⟨z, _⟩ | ⟨_, j', e1, _, _, rfl, rfl⟩ | ⟨z, _⟩
      · cases z
      · cases e1
        obtain ⟨T, i1, i2⟩ := it
        exact ⟨T, i1, i2, trivial⟩
      · cases z
    · cases z
theorem simi_range1 (G : Gnd w K mg mb B) (k : Nat) (hx : c.gs[k]? = some "range") {p p1 : Pos} {kd : Nat} (i : SimE prog w B n c e d) (he : ∀ env, starEach [.Constant (.int 1) kd p1, e] env = [(false, eval (.Constant (.int 1) kd p1) env), (false, eval e env)]) :
    SimI prog w B n c 2 (.Call (.Name "range" p) [.Constant (.int 1) kd p1, e] [] pos) d := .mk fun A env l s H Post Q E am X S h hs g => by
  refine wpAny_Call_NameR (name_glob k hx X (loadGlobal_builtin (mg := mg) (mb := mb) (by rw [X.gl]; exact G.g.keeps S.keep) (G.fr _ b_range.2.2) (by rw [X.bu]; exact G.b.keeps S.keep) (by rw [G.blt _ b_range.2.1]; exact b_range.1) ?_))
  rw [he]
  refine callWith_of (P := fun _ => True) rfl (fun h _ => ⟨.machine, .inr (.inl rfl), Looks.of_pure rfl⟩) ?_
  refine Calls.evalArgs_plain (Calls.spliced_cons (wpAny_Constant_int (k := kd) (pos := p1) (Calls.spliced_cons ?_)))
  refine i.ev A env l { s with toks := s.toks + 1 } H Post _ E am X S h fun ra a H1 s1 ea hp S1 T1 => Calls.spliced_nil ⟨trivial, ?_⟩
  obtain ⟨items, _, ⟨z, _⟩ | ⟨z, _⟩ | ⟨_, j, rfl, h0, h1, _⟩⟩ := hs a H1 hp
  · cases z
  · cases z
  · obtain ⟨t, rfl⟩ := er_int ea
    refine call_range_2 (range_walk (m := (j - 1).toNat) (f := fun i => .int (1 + (i : Int))) S1 ((Tr.toks Tr.refl).trans T1) (by omega) (by omega) (by omega) (fun i _ => rfl) fun s2 I h2 it S2 T2 fI hk => g (.int j) H1 s2 I h2 hp (fun items' g' z => ?_) S2 T2 fI hk)
    rcases z with ⟨z, _⟩ | ⟨z, _⟩ | ⟨_, j', e1, _, _, rfl, rfl⟩
    · cases z
    · cases z
    · cases e1
      obtain ⟨T, i1, i2⟩ := it
      exact ⟨T, i1, i2, trivial⟩
end
end Mine
end
section
open PySem PySem.W PyProof.Rows PySem.Calls PySem.Spec
open Classical
namespace Mine
open PySem.SeqAt
section
variable {prog : Program} {w : World} {K : Frag} {mg mb : Str → Option Value} {B : Heap} {A : Around} {E : Value → Shared → Prop} {s s' s0 : Shared} {H H' H0 : Hp} {a b u : MV} {ra rb ru : Value} {n m k : Nat}
  {Post : MV → Hp → Prop} {Q : Value → Shared → Prop} {env : Env} {c : Cx} {l : Loc} {h h' : Heap} {C : Addr}
  {e e1 e2 e3 : Expr} {d d1 d2 d3 : Den} {t t1 t2 : DenT} {pos : Pos} {x : Str} {es : List Expr} {ds : DenL} {scope : Scope} {xs gs : List Str}
structure SimC (prog : Program) (w : World) (B : Heap) (n : Nat) (c : Cx) (ifs : List Expr) (d : DenT) : Prop where
  ev : ∀ (A : Around) (env : Env) (l : Loc) (s : Shared) (H : Hp) (Post : Bool → Hp → Prop) (Q : Bool → Shared → Prop) (E : Value → Shared → Prop), Amb A n → EnvOK B A env c l H s.heap → St prog w B H s.heap → d l Post H →
    (∀ b H' s', Post b H' → St prog w B H' s'.heap → Tr B H s H' s' → Q b s') →
    wpAny (model prog w) A (forIn ifs true fun c r => if r = true then do let ok ← isTrue c env (eval c env); pure (ForInStep.yield ok) else pure (ForInStep.yield r)) Q E s
theorem simc_nil : SimC prog w B n c [] tT := .mk fun A env l s H Post Q E am X S h g => wpAny_tests_nil (g _ _ _ h S Tr.refl)
theorem simc_one (i : SimT prog w B n c e t) : SimC prog w B n c [e] t := .mk fun A env l s H Post Q E am X S h g => wpAny_tests_one (i.ev A env l s H Post Q E am X S h g)
theorem vis_new {y : Str} (i : Nat) (hi : xs[i]? = some y) : (((compCx c scope xs gs).vis)[c.vis.length + i]?).join = some y := by
  unfold compCx
  rw [List.getElem?_append_right (by rw [List.length_map]; omega), List.length_map, Nat.add_sub_cancel_left, List.getElem?_map, hi]; rfl
theorem comp_loc (F : ScopeFacts c scope xs gs) {y : Str} (hy : y ∈ xs) : (compCx c scope xs gs).nm.lookup y = some .local := by
  have := F.lx y hy
  have e := mem_of_lookup this
  have := lookup_relabel_local (env := { (default : Env) with scope := { scope with kind := .function, names := c.nm } }) this
  have e2 : compNm c scope = (relabel scope { (default : Env) with scope := { scope with kind := .function, names := c.nm } }).names := by
    unfold compNm relabel
    refine List.map_congr_left fun p _ => ?_
    obtain ⟨n, k⟩ := p
    simp [Env.kindOf]
  show (compNm c scope).lookup y = _
  rw [e2]
  exact this
theorem put_app (h : l.length = k) {o : Option MV} {v : MV} : (l ++ [o]).put k v = l ++ [some v] := by
  subst h; unfold Loc.put; simp
/-- within a comprehension: D is its list so far -/
structure CI (prog : Program) (w : World) (B : Heap) (A : Around) (env : Env) (c : Cx) (H : Hp) (s : Shared) (D : Addr) (lo : Loc) (acc : List MV) (H2 : Hp) (s2 : Shared) : Prop where
  S : St prog w B H2 s2.heap
  T : Tr B H s H2 s2
  X : EnvOK B A env c lo H2 s2.heap
  pl : ∃ vs, s2.heap.PlainList D vs.toArray ∧ ers vs acc
  D0 : H2 D = none
  Ds : s.heap.get? D = none
  DB : B.get? D = none
  Dx : Away A env D
  Cs : s.heap.get? env.locals = none
/-- a living iterator -/
structure Lv (T : Nat → Heap → Prop) (I : Addr) (i : Nat) (H : Hp) (s : Shared) : Prop where
  t : T i s.heap
  n : H I = none
section
variable {D I p : Addr} {lo : Loc} {acc items : List MV} {H2 H3 : Hp} {s2 s3 : Shared} {T : Nat → Heap → Prop} {g : Hp → Prop} {i : Nat} {tk : Nat}
theorem PlainList_here {vs : Array Value} (x : h.PlainList D vs) : ∃ o, h.get? D = some o := let ⟨_, e⟩ := x; ⟨_, e⟩
theorem PlainList_nd {vs : Array Value} {o : Obj} (x : h.PlainList D vs) (e : h.get? D = some o) : ∀ es n, o.data ≠ .dict es n := fun es n z => by obtain ⟨_, e'⟩ := x; rw [e] at e'; cases e'; cases z
theorem CI.go (x : CI prog w B A env c H s D lo acc H2 s2) (S3 : St prog w B H3 s3.heap) (T3 : Tr B H2 s2 H3 s3) : CI prog w B A env c H s D lo acc H3 s3 := by
  obtain ⟨vs, pl, ev⟩ := x.pl
  obtain ⟨o, e⟩ := PlainList_here pl
  exact ⟨S3, x.T.trans T3, x.X.go T3, ⟨vs, pl.at fun o q => (T3.ext D o (none_own x.D0) q).exact (PlainList_nd pl q), ev⟩, T3.nn x.D0 e, x.Ds, x.DB, x.Dx, x.Cs⟩
theorem CI.but (x : CI prog w B A env c H s D lo acc H2 s2) (hp : H2 p = none) (ps : s.heap.get? p = none) (pB : B.get? p = none) (np : D ≠ p) (nx : Away A env p) (k : ∀ b, b ≠ p → ∀ o, s2.heap.get? b = some o → h'.get? b = some o) :
    CI prog w B A env c H s D lo acc H2 { s2 with heap := h', toks := tk } := by
  obtain ⟨vs, pl, ev⟩ := x.pl
  exact ⟨x.S.but hp pB k, x.T.but ps k, x.X.same nx k, ⟨vs, pl.at fun o => k D np o, ev⟩, x.D0, x.Ds, x.DB, x.Dx, x.Cs⟩
theorem CI.store {Q : Unit → Shared → Prop} {y : Str} (x : CI prog w B A env c H s D lo acc H2 s2) (hx : (c.vis[k]?).join = some y) (hk : c.nm.lookup y = some .local) (eu : er ru = some u)
    (q : ∀ h' tk, CI prog w B A env c H s D (lo.put k u) acc H2 { s2 with heap := h', toks := tk } → (∀ b, b ≠ env.locals → ∀ o, s2.heap.get? b = some o → h'.get? b = some o) → Q () { s2 with heap := h', toks := tk }) : wpAny (model prog w) A (storeName env y ru) Q E s2 := by
  refine store_loc x.X x.S hx hk eu fun h' tk X' S' hs => ?_
  have k' : ∀ b, b ≠ env.locals → ∀ o, s2.heap.get? b = some o → h'.get? b = some o := fun b hb o => hs.extBut b o hb
  obtain ⟨vs, pl, ev⟩ := x.pl
  exact q h' tk ⟨S', x.T.but x.Cs k', X', ⟨vs, pl.at fun o => k' D x.Dx.1 o, ev⟩, x.D0, x.Ds, x.DB, x.Dx, x.Cs⟩ k'
theorem CI.app {Q : Value → Shared → Prop} (x : CI prog w B A env c H s D lo acc H2 s2) (eu : er ru = some u) (hz : acc.length ≤ 2000000)
    (q : ∀ h', CI prog w B A env c H s D lo (acc ++ [u]) H2 { s2 with heap := h' } → (∀ b, b ≠ D → ∀ o, s2.heap.get? b = some o → h'.get? b = some o) → Q .none { s2 with heap := h' }) : wpAny (model prog w) A (call (.builtin "list.append") [.ref D, ru]) Q E s2 := by
  obtain ⟨vs, pl, ev⟩ := x.pl
  refine wpAny_list_append_plain pl (fun h' pl' hs => ?_) (by rw [List.size_toArray, ev.len, sizeLine_eq]; omega)
  have k' : ∀ b, b ≠ D → ∀ o, s2.heap.get? b = some o → h'.get? b = some o := fun b hb o => hs.extBut b o hb
  exact q h' ⟨x.S.but x.D0 x.DB k', x.T.but (tk := s2.toks) x.Ds k', x.X.same x.Dx k', ⟨vs ++ [ru], by rw [List.push_toArray] at pl'; exact pl', ev.app (ers.cons ers.nil eu)⟩, x.D0, x.Ds, x.DB, x.Dx, x.Cs⟩ k'
theorem CI.done (x : CI prog w B A env c H s D lo acc H2 s2) (S : St prog w B H s.heap) (al : alc (.list acc) Post H2) :
    Post (.ref D) (upd H2 D (.list acc)) ∧ St prog w B (upd H2 D (.list acc)) s2.heap ∧ Tr B H s (upd H2 D (.list acc)) s2 ∧ (∃ m, s2.heap.Ns env.locals m) ∧ upd H2 D (.list acc) env.locals = none := by
  obtain ⟨S4, T4⟩ := Tr.own (o := .list acc) x.S x.T S x.Ds x.D0 (fun _ z => nomatch z) x.pl
  obtain ⟨m, hn, _⟩ := x.X.loc
  exact ⟨al D x.D0, S4, T4, ⟨m, hn⟩, by rw [upd_ne x.Dx.1.symm]; exact x.X.nl⟩
theorem Lv.go (x : Lv T I i H2 s2) (it : Iter prog w B I items g T) (T3 : Tr B H2 s2 H3 s3) : Lv T I i H3 s3 := by
  obtain ⟨o, e⟩ := it.has _ _ x.t
  exact ⟨it.frame _ _ _ x.t fun o q => (T3.ext I o (none_own x.n) q).exact (it.nd _ _ _ x.t q), T3.nn x.n e⟩
theorem Lv.but (x : Lv T I i H2 s2) (it : Iter prog w B I items g T) (n : I ≠ p) (k : ∀ b, b ≠ p → ∀ o, s2.heap.get? b = some o → h'.get? b = some o) : Lv T I i H2 { s2 with heap := h', toks := tk } :=
  ⟨it.frame _ _ _ x.t fun o => k I n o, x.n⟩
theorem comp_begin {h1 : Heap} {cl : List (Str × Addr)} {Q : Value → Env → Shared → Prop} (F : ScopeFacts c scope xs gs) (X : EnvOK B A env c l H s.heap) (S : St prog w B H s.heap) (hk : ∀ b o, s.heap.get? b = some o → h1.get? b = some o)
    (c1 : ∀ y p, cl.lookup y = some p → env.cells.lookup y = some p) (c2 : ∀ x ∈ scope.names, x.2 = .free → (cl.lookup x.1).isSome = true)
    (q : ∀ D C h₁, CI prog w B A (compEnvC scope cl C env) (compCx c scope xs gs) H s D (l ++ xs.map fun _ => none) [] H { s with heap := h₁ } → h1.get? D = none → h1.get? C = none → (∀ b o, h1.get? b = some o → h₁.get? b = some o) →
      Q (.ref D) (compEnvC scope cl C env) { s with heap := h₁ }) :
    wpAny (model prog w) A (newList []) (fun acc s₃ => wpAny (model prog w) A (newFunctionEnv scope env.globals cl [] env.qual none .none (some env)) (fun cenv s₄ => Q acc { cenv with scope := relabel scope env } s₄) E s₃) E { s with heap := h1 } := by
  refine wpAny_newObj_type (wpAny_newFunctionEnv F.cell (fun y hy => nomatch hy) (fun h₁ hns₁ hsb₁ => ?_) F.kd)
  dsimp only at hns₁ hsb₁ ⊢
  have fD1 : h1.get? h1.objs.size = none := size_none _
  generalize hH2 : h1.push { cls := .type "list", dict := none, data := .seq ([] : List Value).toArray } = G2 at hns₁ hsb₁ ⊢
  have hCs : G2.objs.size = h1.objs.size + 1 := by rw [← hH2, Heap.size_push]
  have fresh : ∀ p, h1.get? p = none → s.heap.get? p = none := stay_of hk
  have fC1 : h1.get? G2.objs.size = none := by
    cases z : h1.get? G2.objs.size with
    | none => rfl
    | some o => exact absurd (Heap.lt_size z) (by rw [hCs]; exact Nat.not_lt.mpr (Nat.le_succ _))
  have nDC : h1.objs.size ≠ G2.objs.size := by rw [hCs]; exact Nat.ne_of_lt (Nat.lt_succ_self _)
  have up : ∀ b o, h1.get? b = some o → h₁.get? b = some o := fun b o q => by
    refine hsb₁.extBut b o (fun z => by rw [z, fC1] at q; cases q) (Heap.get?_push_of_some _ ?_)
    rw [← hH2]; exact Heap.get?_push_of_some _ q
  obtain ⟨S1, T1⟩ := S.same (h' := h₁) (tk := s.toks) (fun b o q => up b o (hk b o q))
  have sC := fresh _ fC1
  have sD := fresh _ fD1
  refine q _ _ h₁ ⟨S1, T1, comp_env (xs := xs) X F c1 c2 sC (S.bnone sC) (S.fresh sC) (fun b o q => up b o (hk b o q)) hns₁, ⟨[], ⟨0, hsb₁.extBut _ _ nDC (Heap.get?_push_of_some _ (by rw [← hH2]; exact Heap.get?_push_size _ rfl))⟩, ers.nil⟩, S.fresh sD, sD, S.bnone sD, ⟨nDC, fun x p hp z => (X.ne sD).2.1 x p (c1 x p hp) z, (X.ne sD).2.2⟩, sC⟩ fD1 fC1 up
end
theorem comp_block {iter : Expr} {px : Pos} {ifs : List Expr} {items : List MV} {g : Hp → Prop} {T : Nat → Heap → Prop} {I : Addr} {h1 : Heap} {cl : List (Str × Addr)} {RR : Value → Addr → Result → Shared → Prop}
    (F : ScopeFacts c scope [x] gs) (am : Amb A n) (X : EnvOK B A env c l H s.heap) (S : St prog w B H s.heap) (it : Iter prog w B I items g T) (hT : T 0 h1) (hI : s.heap.get? I = none) (hk : ∀ b o, s.heap.get? b = some o → h1.get? b = some o)
    (c1 : ∀ y p, cl.lookup y = some p → env.cells.lookup y = some p) (c2 : ∀ x ∈ scope.names, x.2 = .free → (cl.lookup x.1).isSome = true) (hz : items.length ≤ 1000)
    (ic : SimC prog w B n (compCx c scope [x] gs) ifs t) (ie : SimE prog w B n (compCx c scope [x] gs) e d) (J : Nat → List MV → Hp → Prop) (j0 : J 0 [] H)
    (jt : ∀ i acc H2 v, J i acc H2 → items[i]? = some v → g H2 ∧ t (l ++ [some v]) (fun b H3 => if b = true then d (l ++ [some v]) (fun y H4 => J (i + 1) (acc ++ [y]) H4) H3 else J (i + 1) acc H3) H2)
    (je : ∀ acc H2, J items.length acc H2 → g H2 ∧ alc (.list acc) Post H2)
    (hR : ∀ D C H2 s2, Post (.ref D) H2 → St prog w B H2 s2.heap → Tr B H s H2 s2 → (∃ m, s2.heap.Ns C m) → H2 C = none → s.heap.get? C = none → RR (.ref D) C (.ok .next) s2) :
    wpAny (model prog w) A (newList []) (fun acc s₃ => wpAny (model prog w) A (newFunctionEnv scope env.globals cl [] env.qual none .none (some env)) (fun cenv s₄ =>
      codeAny (model prog w) A (.compStart (.ListComp e [⟨.Name x px, iter, ifs, 0⟩] scope pos) 0 (.ref I) acc { cenv with scope := relabel scope env }) (RR acc cenv.locals) s₄) E s₃) E { s with heap := h1 } := by
  refine comp_begin (Q := fun acc cenv s₄ => codeAny (model prog w) A (.compStart (.ListComp e [⟨.Name x px, iter, ifs, 0⟩] scope pos) 0 (.ref I) acc cenv) (RR acc cenv.locals) s₄) F X S hk c1 c2 fun D C h₁ ci fD fC up => ?_
  have hv : (((compCx c scope [x] gs).vis)[c.vis.length]?).join = some x := vis_new 0 rfl
  have hl := comp_loc (gs := gs) F (y := x) (List.mem_singleton.mpr rfl)
  have ne1 : ∀ p, h1.get? p = none → p ≠ I := fun p q z => by
    obtain ⟨o, e⟩ := it.has 0 h1 hT
    rw [z, e] at q; cases q
  have nI : Away A (compEnvC scope cl C env) I := ⟨(ne1 _ fC).symm, fun y p hp => (X.ne hI).2.1 y p (c1 y p hp), (X.ne hI).2.2⟩
  have lv : Lv T I 0 H { s with heap := h₁ } := ⟨it.frame _ _ _ hT (fun o q => up I o q), S.fresh hI⟩
  have loop : codeAny (model prog w) A (.compLoop (.ListComp e [⟨.Name x px, iter, ifs, 0⟩] scope pos) 0 (.ref I) (.ref D) (compEnvC scope cl C env)) (RR (.ref D) C) { s with heap := h₁ } := by
    refine codeAny_compLoop_tests (fun q s2 => ∃ i acc H2 o, (q = items.length - i ∧ i ≤ items.length ∧ acc.length ≤ i) ∧ J i acc H2 ∧ Lv T I i H2 s2 ∧ CI prog w B A (compEnvC scope cl C env) (compCx c scope [x] gs) H s D (l ++ [o]) acc H2 s2) ?_ items.length
      ⟨0, [], H, none, ⟨rfl, Nat.zero_le _, Nat.le_refl _⟩, j0, lv, ci⟩
    rintro q s2 ⟨i, acc, H2, o, ⟨rfl, hi, hlen⟩, hJ, lv, ci⟩
    cases hv' : items[i]? with
    | none =>
      obtain rfl : i = items.length := Nat.le_antisymm hi (List.getElem?_eq_none_iff.mp hv')
      obtain ⟨g2, al⟩ := je acc H2 hJ
      refine it.done A s2 H2 _ _ am.hh lv.t g2 ci.S fun h3 hs3 => ?_
      obtain ⟨z1, z2, z3, z4, z5⟩ := (ci.but (tk := s2.toks) (h' := h3) lv.n hI (S.bnone hI) (ne1 _ fD) nI fun b hb o => hs3 b o hb).done S al
      exact hR D C _ _ z1 z2 z3 z4 z5 (stay_of hk _ fC)
    | some v =>
      obtain ⟨g2, al⟩ := jt i acc H2 v hJ hv'
      have hlt : i < items.length := (List.getElem?_eq_some_iff.mp hv').1
      have st : items.length - (i + 1) < items.length - i := Nat.sub_lt_sub_left hlt (Nat.lt_succ_self _)
      refine it.item A i v s2 H2 _ _ hv' lv.t g2 ci.S fun rv h3 tk erv t3 hs3 => ?_
      refine wpAny_assign_Name ((ci.but (tk := tk) (h' := h3) lv.n hI (S.bnone hI) (ne1 _ fD) nI fun b hb o => hs3.extBut b o hb).store hv hl erv fun h4 tk4 ci4 k4 => ?_)
      have lv4 : Lv T I (i + 1) H2 { s2 with heap := h4, toks := tk4 } := Lv.but (s2 := { s2 with heap := h3, toks := tk }) ⟨t3, lv.n⟩ it nI.1 k4
      rw [put_app X.len] at ci4
      refine ic.ev A _ _ { s2 with heap := h4, toks := tk4 } H2 _ _ _ am ci4.X ci4.S al fun b H5 s5 hb S5 T5 => ?_
      have ci5 := ci4.go S5 T5
      have lv5 := lv4.go it T5
      cases b with
      | false => exact ⟨_, st, i + 1, acc, H5, some v, ⟨rfl, hlt, Nat.le_succ_of_le hlen⟩, hb, lv5, ci5⟩
      | true =>
        refine ie.ev A _ _ s5 H5 _ _ _ am ci5.X S5 hb fun ry y H6 s6 ey hy S6 T6 => ?_
        refine (ci5.go S6 T6).app ey (by omega) fun h7 ci7 k7 => ?_
        exact ⟨_, st, i + 1, acc ++ [y], H6, some v, ⟨rfl, hlt, by rw [List.length_append]; exact Nat.succ_le_succ hlen⟩, hy, (lv5.go it T6).but it (ne1 _ fD).symm k7, ci7⟩
  exact codeAny_compStart_list loop (it.self A 0 _ _ _ lv.t loop)
end
end Mine
end
section
open PySem PySem.W PyProof.Rows PySem.Calls PySem.Spec
open Classical
namespace Mine
open PySem.SeqAt
section
variable {prog : Program} {w : World} {K : Frag} {mg mb : Str → Option Value} {B : Heap} {A : Around} {E : Value → Shared → Prop} {s s' s0 : Shared} {H H' H0 : Hp} {a b u : MV} {ra rb ru : Value} {n m k : Nat}
  {Post : MV → Hp → Prop} {Q : Value → Shared → Prop} {env : Env} {c : Cx} {l : Loc} {h h' : Heap} {C : Addr}
  {e e1 e2 e3 : Expr} {d d1 d2 d3 : Den} {t t1 t2 : DenT} {pos : Pos} {x : Str} {es : List Expr} {ds : DenL} {scope : Scope} {xs gs : List Str} {r : Nat}
theorem src_len {items : List MV} {g : Hp → Prop} (h : srcP r a H items g) : items.length ≤ 1000 := by
  rcases h with ⟨_, _, _, _, h, _⟩ | ⟨_, j, _, h0, h1, rfl, _⟩ | ⟨_, j, _, h0, h1, rfl, _⟩
  · exact h
  · rw [irange_len]; omega
  · rw [List.length_map, List.length_range]; omega
theorem sim_comp (gs : List Str) (ok : scopeOK c scope [x] gs = true) {iter : Expr} {px : Pos} {ifs : List Expr} (ii : SimI prog w B n c r iter d1) (ic : SimC prog w B n (compCx c scope [x] gs) ifs t) (ie : SimE prog w B n (compCx c scope [x] gs) e d)
    (hs : ∀ env x, foldedSetIterable iter env x = pure x) : SimE prog w B n c (.ListComp e [⟨.Name x px, iter, ifs, 0⟩] scope pos) (dComp r d1 t d) := .mk fun A env l s H Post Q E am X S h g => by
  have F := scope_facts ok
  obtain ⟨cl, hcl, c1, c2⟩ := closure_for X F
  rw [eval_ListComp]
  refine wpAny_comprehension_free (use := none) rfl (fun x => hs env x) hcl F.kd F.loc ?_
  refine ii.ev A env l s H _ _ E am X S h (fun a H1 ⟨items, g, z, _⟩ => ⟨items, g, z⟩) fun a H1 s1 I h1 hp it S1 T1 fI hk => ?_
  obtain ⟨items, gg, src, J, j0, jt, je⟩ := hp
  obtain ⟨T, it, hT, hg⟩ := it items gg src
  refine comp_block (s := s1) (RR := fun acc C => compPost (model prog w) A E none Q acc C) F am (X.go T1) S1 it hT fI hk c1 c2 (src_len src) ic ie J j0 jt je fun D C H2 s2 hp S2 T2 hn hC fC => ?_
  obtain ⟨m, hn⟩ := hn
  exact ⟨m, hn, fun h' hs' => g (.ref D) (.ref D) H2 _ rfl hp (S2.but hC (S1.bnone fC) fun b hb o q => hs'.extBut b o hb q) (T1.trans (T2.but (tk := s2.toks) fC fun b hb o q => hs'.extBut b o hb q))⟩
/-! methods -/
theorem sim_app {apos : Pos} (i1 : SimE prog w B n c e1 d1) (i2 : SimE prog w B n c e2 d2) (hb : ∀ env, attributeBase e1 "append" env (eval e1 env) = eval e1 env)
    (hf : ∀ env, ((backTo pos (starEach [e2] env)).all (fun x => !x.1) && (backToKw pos (keywordEach [] env)).all (fun x => x.1.isSome) && decide (([e2] : List Expr).length + ([] : List Keyword).length + (if ([] : List Keyword).isEmpty then 0 else 1) < 30)) = true)
    (hl : (apos.endLine == pos.line) = true) (ht : ∀ env, backTo pos (starEach [e2] env) = [(false, eval e2 env)]) : SimE prog w B n c (.Call (.Attribute e1 "append" apos) [e2] [] pos) (dApp d1 d2) := .mk fun A env l s H Post Q E am X S h g => by
  refine wpAny_Call_append (hb env) (hf env) hl (ht env) (i1.ev A env l s H _ _ E am X S h fun ra a H1 s1 ea ⟨p, e, ⟨xs, hx⟩, hp⟩ S1 T1 => ?_)
  subst e
  obtain rfl := er_ref ea
  obtain ⟨vs, ⟨m, pl⟩, ev⟩ := S1.obj _ _ hx
  refine ⟨p, vs.toArray, rfl, ⟨_, m, pl, rfl, rfl, rfl⟩, i2.ev A env l s1 H1 _ _ E am (X.go T1) S1 hp fun rb b H2 s2 eb ⟨ys, hy, hz, hp⟩ S2 T2 => ?_⟩
  exact app_ok S2 hy eb (by omega) hp ((g.on T1).on T2)
theorem sim_pop {apos : Pos} (i1 : SimE prog w B n c e1 d1) (hb : ∀ env, attributeBase e1 "pop" env (eval e1 env) = eval e1 env) (hl : (apos.endLine == pos.line) = true) :
    SimE prog w B n c (.Call (.Attribute e1 "pop" apos) [] [] pos) (dPop d1) := .mk fun A env l s H Post Q E am X S h g => by
  refine wpAny_Call_method0_late (hb env) hl (i1.ev A env l s H _ _ E am X S h fun ra a H1 s1 ea ⟨p, v, e, hx, hp⟩ S1 T1 => ?_)
  subst e
  obtain rfl := er_ref ea
  obtain ⟨vs, ⟨m, pl⟩, ev⟩ := S1.obj _ _ hx
  refine ⟨"list", "list.pop", F.plainAttrs_list, F.slot_list_pop, F.type_list_pop, ⟨_, pl, rfl⟩, fun a e => by cases e; exact ⟨_, pl, rfl⟩, pop_ok S1 hx hp (g.on T1)⟩
theorem sim_get {apos : Pos} (G : Gnd w K mg mb B) (i1 : SimE prog w B n c e1 d1) (i2 : SimE prog w B n c e2 d2) (hb : ∀ env, attributeBase e1 "get" env (eval e1 env) = eval e1 env)
    (hl : (apos.endLine == pos.line) = true) (ht : ∀ env, backTo pos (starEach [e2] env) = [(false, eval e2 env)]) : SimE prog w B n c (.Call (.Attribute e1 "get" apos) [e2] [] pos) (dGet d1 d2) := .mk fun A env l s H Post Q E am X S h g => by
  refine wpAny_Call_method1_late (hb env) hl (ht env) (i1.ev A env l s H _ _ E am X S h fun ra a H1 s1 ea ⟨p, e, ⟨es, hx⟩, hp⟩ S1 T1 => ?_)
  subst e
  obtain rfl := er_ref ea
  obtain ⟨kvs, hd, _⟩ := S1.obj _ _ hx
  refine ⟨"dict", "dict.get", F.plainAttrs_dict, F.slot_dict_get, F.type_dict_get, hd.typeIs, hd.mapOf.noDict, ?_⟩
  refine wpAny_dict_get1 (knd := strKind prog w) (not_sys G S1 hx (by intro xs; simp)) (i2.ev A env l s1 H1 _ _ E am (X.go T1) S1 hp fun rb b H2 s2 eb ⟨es, y, hy, e, hp⟩ S2 T2 => ?_)
  subst e
  obtain ⟨t, rfl⟩ := er_str eb
  obtain ⟨kvs2, hd2, hm2⟩ := S2.obj _ _ hy
  exact ⟨y, _, strIs y t, hd2.mapOf, ((g.on T1).on T2).val S2 (get_val hm2) hp⟩
end
end Mine
end
section
open PySem PySem.W PyProof.Rows PySem.Calls PySem.Spec
open Classical
namespace Mine
open PySem.SeqAt
def flowOK : Fl → Flow → Prop
  | .nx, .next => True
  | .ct, .cont => True
  | .rt v, .ret rv => er rv = some v
  | _, _ => False
def Out (env : Env) (b : Addr) : Prop := b ≠ env.locals ∧ ∀ x p, env.cells.lookup x = some p → b ≠ p
/-- as Tr, but for the frame's own places -/
structure TrL (B : Heap) (env : Env) (H : Hp) (s : Shared) (H' : Hp) (s' : Shared) : Prop where
  ext : ∀ b o, Out env b → ¬ Own H b → s.heap.get? b = some o → Sl B s'.heap b o
  grow : ∀ b, H' b ≠ none → H b = none → s.heap.get? b = none
  ro : ∀ b xs, H b = some (.ro xs) ↔ H' b = some (.ro xs)
  gens : s'.gens = s.gens
  drawn : s'.drawn = s.drawn
  os : s'.os = s.os
  stay : ∀ b, s'.heap.get? b = none → s.heap.get? b = none
section
variable {prog : Program} {w : World} {K : Frag} {mg mb : Str → Option Value} {B : Heap} {A : Around} {E : Value → Shared → Prop} {s s' s'' s0 : Shared} {H H' H'' H0 : Hp} {a b u : MV} {ra rb ru : Value} {n m k : Nat}
  {Post : MV → Hp → Prop} {env : Env} {c : Cx} {l : Loc} {h h' : Heap} {C : Addr}
  {e e1 e2 e3 : Expr} {d d1 d2 d3 : Den} {t t1 t2 : DenT} {pos : Pos} {x : Str} {es : List Expr} {ds : DenL} {scope : Scope} {xs gs : List Str} {r : Nat}
  {g g1 : DenG} {gg : DenGs} {st : Stmt} {sts sts2 : List Stmt} {D D1 D2 : DenS}
abbrev GoesG (prog : Program) (w : World) (B : Heap) (A : Around) (env : Env) (c : Cx) (H : Hp) (s : Shared) (P : Loc → Hp → Prop) (Q : Unit → Shared → Prop) : Prop :=
  ∀ l' H' s', P l' H' → EnvOK B A env c l' H' s'.heap → St prog w B H' s'.heap → TrL B env H s H' s' → Q () s'
abbrev GoesS (prog : Program) (w : World) (B : Heap) (A : Around) (env : Env) (c : Cx) (H : Hp) (s : Shared) (P : Fl → Loc → Hp → Prop) (Q : Flow → Shared → Prop) : Prop :=
  ∀ f rf l' H' s', flowOK f rf → P f l' H' → EnvOK B A env c l' H' s'.heap → St prog w B H' s'.heap → TrL B env H s H' s' → Q rf s'
structure SimG (prog : Program) (w : World) (B : Heap) (n : Nat) (c : Cx) (e : Expr) (g : DenG) : Prop where
  ev : ∀ (A : Around) (env : Env) (l : Loc) (s : Shared) (H : Hp) (u : MV) (ru : Value) (P : Loc → Hp → Prop) (Q : Unit → Shared → Prop) (E : Value → Shared → Prop), Amb A n → EnvOK B A env c l H s.heap → St prog w B H s.heap → er ru = some u → g l u P H →
    GoesG prog w B A env c H s P Q → wpAny (model prog w) A (assign e env ru) Q E s
structure SimGs (prog : Program) (w : World) (B : Heap) (n : Nat) (c : Cx) (es : List Expr) (k : Nat) (g : DenGs) : Prop where
  len : ∀ env, (assignEach es env).length = k
  star : ∀ env, (assignEach es env).findIdx? (·.1) = none
  ev : ∀ (A : Around) (env : Env) (l : Loc) (s : Shared) (H : Hp) (us : List MV) (rus : List Value) (P : Loc → Hp → Prop) (Q : Unit → Shared → Prop) (E : Value → Shared → Prop), Amb A n → EnvOK B A env c l H s.heap → St prog w B H s.heap → ers rus us → g l us P H →
    GoesG prog w B A env c H s P Q → wpAny (model prog w) A (assignInOrder ((assignEach es env).map (·.2)) rus) Q E s
structure SimB (prog : Program) (w : World) (B : Heap) (n : Nat) (c : Cx) (xs : List Str) (g : DenGs) : Prop where
  ev : ∀ (A : Around) (env : Env) (l : Loc) (s : Shared) (H : Hp) (us : List MV) (rus : List Value) (P : Loc → Hp → Prop) (Q : Unit → Shared → Prop) (E : Value → Shared → Prop), Amb A n → EnvOK B A env c l H s.heap → St prog w B H s.heap → ers rus us → g l us P H →
    GoesG prog w B A env c H s P Q → wpAny (model prog w) A (assignInOrder (xs.map fun n => bindName env n) rus) Q E s
structure SimS (prog : Program) (w : World) (B : Heap) (n : Nat) (c : Cx) (st : Stmt) (d : DenS) : Prop where
  ev : ∀ (A : Around) (env : Env) (l : Loc) (s : Shared) (H : Hp) (P : Fl → Loc → Hp → Prop) (Q : Flow → Shared → Prop) (E : Value → Shared → Prop), Amb A n → EnvOK B A env c l H s.heap → St prog w B H s.heap → d l P H →
    GoesS prog w B A env c H s P Q → wpAny (model prog w) A (exec st env) Q E s
structure SimSs (prog : Program) (w : World) (B : Heap) (n : Nat) (c : Cx) (sts : List Stmt) (d : DenS) : Prop where
  ev : ∀ (A : Around) (env : Env) (l : Loc) (s : Shared) (H : Hp) (P : Fl → Loc → Hp → Prop) (Q : Flow → Shared → Prop) (E : Value → Shared → Prop), Amb A n → EnvOK B A env c l H s.heap → St prog w B H s.heap → d l P H →
    GoesS prog w B A env c H s P Q → wpAny (model prog w) A (execs sts env) Q E s
theorem Tr.toL (T : Tr B H s H' s') : TrL B env H s H' s' := ⟨fun b o _ n e => T.ext b o n e, T.grow, T.ro, T.gens, T.drawn, T.os, T.stay⟩
theorem TrL.back (T : TrL B env H s H' s') {b : Addr} {ob : Obj} (ho : Own H' b) (hb : s.heap.get? b = some ob) : Own H b := by
  obtain ⟨m, hm, hr⟩ := ho
  cases hq : H b with
  | none =>
    have := T.grow b (by rw [hm]; exact Option.some_ne_none _) hq
    rw [this] at hb; cases hb
  | some o' =>
    refine ⟨o', hq, fun xs e => ?_⟩
    subst e
    have := (T.ro b xs).mp hq
    rw [hm] at this
    exact hr xs (Option.some.inj this)
theorem TrL.nn (T : TrL B env H s H' s') {p : Addr} {o : Obj} (h : H p = none) (e : s.heap.get? p = some o) : H' p = none := by
  cases q : H' p with
  | none => rfl
  | some m => have := T.grow p (by rw [q]; exact Option.some_ne_none _) h; rw [this] at e; cases e
theorem grow_trans (g1 : ∀ b, H' b ≠ none → H b = none → s.heap.get? b = none) (y1 : ∀ b, s'.heap.get? b = none → s.heap.get? b = none) (g2 : ∀ b, H'' b ≠ none → H' b = none → s'.heap.get? b = none) (b : Addr) (n : H'' b ≠ none) (e : H b = none) : s.heap.get? b = none := by
  cases z : H' b with
  | none => exact y1 b (g2 b n z)
  | some m => exact g1 b (by rw [z]; exact Option.some_ne_none _) e
theorem TrL.trans (S : TrL B env H s H' s') (T : TrL B env H' s' H'' s'') : TrL B env H s H'' s'' :=
  ⟨fun b ob f n e => (S.ext b ob f n e).then fun o e' => T.ext b o f (fun z => n (z.elim fun m hm => S.back ⟨m, hm⟩ e)) e', grow_trans S.grow S.stay T.grow, fun b xs => (S.ro b xs).trans (T.ro b xs), T.gens.trans S.gens, T.drawn.trans S.drawn, T.os.trans S.os, fun b z => S.stay b (T.stay b z)⟩
theorem Tr.thenL (S : Tr B H s H' s') (T : TrL B env H' s' H'' s'') : TrL B env H s H'' s'' := S.toL.trans T
theorem TrL.but {tk : Nat} (T : TrL B env H s H' s') (hC : ¬ Out env C ∨ s.heap.get? C = none) (hx : ∃ o, h'.get? C = some o ∨ s.heap.get? C = none) (k : ∀ b, b ≠ C → ∀ o, s'.heap.get? b = some o → h'.get? b = some o) : TrL B env H s H' { s' with heap := h', toks := tk } :=
  ⟨fun b o f n e => (T.ext b o f n e).but (k b fun z => by
      subst z
      rcases hC with hC | hC
      · exact hC f
      · rw [hC] at e; cases e), T.grow, T.ro, T.gens, T.drawn, T.os, fun b z => by
    by_cases q : b = C
    · subst q
      obtain ⟨o, hx | hx⟩ := hx
      · rw [show h'.get? b = none from z] at hx; cases hx
      · exact hx
    · exact T.stay b (by
        cases r : s'.heap.get? b with
        | none => rfl
        | some o => have := k b q o r; rw [show h'.get? b = none from z] at this; cases this)⟩
/-- what a call leaves -/
theorem Tr.call (S : Tr B H s H' s') (T : TrL B env H' s' H'' s'') (f : s.heap.get? env.locals = none) (fc : ∀ x p, env.cells.lookup x = some p → s.heap.get? p = none) : Tr B H s H'' s'' :=
  ⟨fun b ob n e => (S.ext b ob n e).then fun o e' => T.ext b o ⟨fun z => (by rw [z, f] at e; cases e), fun x p hp z => (by rw [z, fc x p hp] at e; cases e)⟩ (fun z => n (z.back S e)) e', grow_trans S.grow S.stay T.grow, fun b xs => (S.ro b xs).trans (T.ro b xs), T.gens.trans S.gens, T.drawn.trans S.drawn, T.os.trans S.os, fun b z => S.stay b (T.stay b z)⟩
theorem store_any {Q : Unit → Shared → Prop} {P : Loc → Hp → Prop} (X : EnvOK B A env c l H s.heap) (S : St prog w B H s.heap) (hx : (c.vis[k]?).join = some x) (eu : er ru = some u) (hp : P (l.put k u) H)
    (q : GoesG prog w B A env c H s P Q) : wpAny (model prog w) A (storeName env x ru) Q E s := by
  rcases (Cx.vk X.ok hx).1 with hk | hk
  · refine store_loc X S hx hk eu fun h' tk X' S' hs => q _ _ _ hp X' S' (Tr.refl.toL.but (C := env.locals) (.inl fun z => z.1 rfl) ?_ fun b hb o e => hs.extBut b o hb e)
    obtain ⟨m, hn, _⟩ := X'.loc
    obtain ⟨o, e⟩ := Ns_here hn
    exact ⟨o, .inl e⟩
  · refine store_cell X S hx hk eu fun p h' tk hp' X' S' hs => q _ _ _ hp X' S' (Tr.refl.toL.but (C := p) (.inl fun z => z.2 _ _ hp' rfl) ?_ fun b hb o e => hs.extBut b o hb e)
    obtain ⟨_, _, v, o, e, _⟩ := X'.nc _ _ hp'
    exact ⟨o, .inl e⟩
theorem simg_name (k : Nat) (hx : (c.vis[k]?).join = some x) : SimG prog w B n c (.Name x pos) (gV k) := .mk fun A env l s H u ru P Q E am X S eu h q =>
  wpAny_assign_Name (store_any X S hx eu h q)
theorem simg_attr (G : Gnd w K mg mb B) (i : SimE prog w B n c e d) (k : Nat) (hk : k < 26) : SimG prog w B n c (.Attribute e (anm k) pos) (gAttr d k) := .mk fun A env l s H u ru P Q E am X S eu h q => by
  rw [assign_Attribute]
  refine wpAny_bind (wpAny_holding (i.ev A env l s H _ _ E am X S h fun ra a H1 s1 ea hp S1 T1 => wpAny_bind (wpAny_standAt (wpAny_bind (wpAny_holding ?_)))))
  exact setAttr_ok G S1 hk ea eu hp fun H2 s2 hp S2 T2 => wpAny_release (q l H2 s2 hp ((X.go T1).go T2) S2 (T1.trans T2).toL)
theorem simg_idx (G : Gnd w K mg mb B) (i1 : SimE prog w B n c e1 d1) (i2 : SimE prog w B n c e2 d2) : SimG prog w B n c (.Subscript e1 e2 pos) (gIdx d1 d2) := .mk fun A env l s H u ru P Q E am X S eu h q => by
  rw [assign_Subscript]
  refine wpAny_bind (wpAny_holding (i1.ev A env l s H _ _ E am X S h fun ra a H1 s1 ea hp S1 T1 => wpAny_bind (wpAny_holding (i2.ev A env l s1 H1 _ _ E am (X.go T1) S1 hp fun rb b H2 s2 eb hp S2 T2 => wpAny_bind (wpAny_standAt (wpAny_bind (wpAny_holding ?_)))))))
  exact setIdx_ok G S2 ea eb eu hp fun H3 s3 hp S3 T3 => wpAny_release (q l H3 s3 hp (((X.go T1).go T2).go T3) S3 ((T1.trans T2).trans T3).toL)
theorem simgs_nil : SimGs prog w B n c [] 0 gN := ⟨fun _ => rfl, fun _ => rfl, fun A env l s H us rus P Q E am X S eu ⟨h1, h2⟩ q => by
  subst h1
  have : rus = [] := by have := eu.len; simpa using this
  subst this
  exact wpAny_assignInOrder_none (q _ _ _ h2 X S Tr.refl.toL)⟩
theorem ers.uncons {rus : List Value} {us : List MV} (h : ers rus (u :: us)) : ∃ ru rr, rus = ru :: rr ∧ er ru = some u ∧ ers rr us := by
  cases rus with
  | nil => simp [ers] at h
  | cons r rr => unfold ers at h; rw [List.map_cons, List.map_cons, List.cons.injEq] at h; exact ⟨r, rr, rfl, h.1, h.2⟩
theorem simgs_cons (i1 : SimG prog w B n c e g) (i2 : SimGs prog w B n c es k gg) (he : ∀ env, assignEach (e :: es) env = (false, assign e env) :: assignEach es env) : SimGs prog w B n c (e :: es) (k + 1) (gC g gg) :=
  ⟨fun env => by rw [he, List.length_cons, i2.len], fun env => by rw [he, List.findIdx?_cons, i2.star]; rfl, fun A env l s H us rus P Q E am X S eu ⟨u, vs, e, h⟩ q => by
    subst e
    obtain ⟨ru, rr, rfl, e1, e2⟩ := eu.uncons
    rw [he]
    exact wpAny_assignInOrder_more (i1.ev A env l s H u ru _ _ E am X S e1 h fun l' H' s' hp X' S' T' => i2.ev A env l' s' H' vs rr P Q E am X' S' e2 hp fun l2 H2 s2 hp X2 S2 T2 => q l2 H2 s2 hp X2 S2 (T'.trans T2))⟩
theorem simb_nil : SimB prog w B n c [] gN := .mk fun A env l s H us rus P Q E am X S eu ⟨h1, h2⟩ q => by
  subst h1
  have : rus = [] := by have := eu.len; simpa using this
  subst this
  exact wpAny_assignInOrder_none (q _ _ _ h2 X S Tr.refl.toL)
theorem simb_cons (k : Nat) (hx : (c.vis[k]?).join = some x) (i2 : SimB prog w B n c xs gg) : SimB prog w B n c (x :: xs) (gC (gV k) gg) := .mk fun A env l s H us rus P Q E am X S eu ⟨u, vs, e, h⟩ q => by
  subst e
  obtain ⟨ru, rr, rfl, e1, e2⟩ := eu.uncons
  exact wpAny_assignInOrder_more (bindName_ (store_any (P := fun l H => gg l vs P H) X S hx e1 h fun l' H' s' hp X' S' T' => i2.ev A env l' s' H' vs rr P Q E am X' S' e2 hp fun l2 H2 s2 hp X2 S2 T2 => q l2 H2 s2 hp X2 S2 (T'.trans T2)))
theorem sims_asg (i : SimE prog w B n c e d) (ig : SimG prog w B n c e1 g) (he : ∀ env, assignEach [e1] env = [(false, assign e1 env)]) (hs : ∀ env, swapsWith e (some e1) pos.line env = pure false)
    (hw : ∀ env, swappedStores [e1] e env = pure none) : SimS prog w B n c (.Assign [e1] e pos) (sAsg g d) := .mk fun A env l s H P Q E am X S h q => by
  refine wpAny_Assign_stores (i.ev A env l s H _ _ E am X S h fun ru u H1 s1 eu hp S1 T1 => ?_) (hs env) (hw env)
  rw [he]
  exact ig.ev A env l s1 H1 u ru _ _ E am (X.go T1) S1 eu hp fun l' H' s' hp X' S' T' => q .nx .next l' H' s' trivial hp X' S' (T1.thenL T')
theorem ext_new (S : St prog w B H s.heap) (X : EnvOK B A env c l H s.heap) (x : Heap.ExtBut s.heap.objs.size s.heap h') :
    EnvOK B A env c l H h' ∧ St prog w B H h' ∧ Tr B H s H { s with heap := h' } := by
  have f := size_none s.heap
  exact ⟨X.same (X.ne f) fun b hb o e => x b o hb e, S.but (S.fresh f) (S.bnone f) fun b hb o e => x b o hb e, Tr.refl.but (tk := s.toks) f fun b hb o e => x b o hb e⟩
theorem sims_asgT {kd : Nat} {p : Pos} (i : SimE prog w B n c e d) (ig : SimGs prog w B n c es k gg) (hs : ∀ env, swapsWith e (some (.Tuple es kd p)) pos.line env = pure false)
    (hw : ∀ env, env.scope.kind = .function → env.scope.names = c.nm → swappedStores [.Tuple es kd p] e env = pure none) : SimS prog w B n c (.Assign [.Tuple es kd p] e pos) (sAsgT k gg d) := .mk fun A env l s H P Q E am X S h q => by
  refine Assign_Tuple (i.ev A env l s H _ _ E am X S h fun ru u H1 s1 eu ⟨p, us, e, hp, hn, h⟩ S1 T1 => ?_) (hs env) (hw env X.kd X.nms)
  subst e
  obtain rfl := er_ref eu
  obtain ⟨vs, ht, ev⟩ := S1.obj _ _ hp
  refine wpAny_assign_Tuple am.hh ht (by rw [ig.len, ← hn]; simp [ev.len]) (ig.star env) fun h' x => ?_
  obtain ⟨X2, S2, T2⟩ := ext_new S1 (X.go T1) x
  exact ig.ev A env l { s1 with heap := h' } H1 us vs _ _ E am X2 S2 ev h fun l' H' s' hp X' S' T' => q .nx .next l' H' s' trivial hp X' S' ((T1.trans T2).thenL T')
theorem ers.rev {rus : List Value} {us : List MV} (h : ers rus us) : ers rus.reverse us.reverse := by unfold ers; rw [List.map_reverse, h, List.map_reverse]
theorem sims_asgS {kd : Nat} {p : Pos} (i : SimE prog w B n c e d) (ig : SimB prog w B n c xs.reverse gg) (hs : ∀ env, swapsWith e (some (.Tuple es kd p)) pos.line env = pure false)
    (hw : ∀ env, env.scope.kind = .function → env.scope.names = c.nm → swappedStores [.Tuple es kd p] e env = pure (some xs)) : SimS prog w B n c (.Assign [.Tuple es kd p] e pos) (sAsgS xs.length gg d) := .mk fun A env l s H P Q E am X S h q => by
  refine Assign_Tuple_swapped (names := xs) (i.ev A env l s H _ _ E am X S h fun ru u H1 s1 eu ⟨p, us, e, hp, hn, h⟩ S1 T1 => ?_) (hs env) (hw env X.kd X.nms)
  subst e
  obtain rfl := er_ref eu
  obtain ⟨vs, ht, ev⟩ := S1.obj _ _ hp
  have sz : xs.length = vs.toArray.size := by rw [← hn]; simp [ev.len]
  rw [sz]
  refine wpAny_unpackItems_tuple am.hh ht fun h' x => ?_
  obtain ⟨X2, S2, T2⟩ := ext_new S1 (X.go T1) x
  exact ig.ev A env l { s1 with heap := h' } H1 us.reverse vs.reverse _ _ E am X2 S2 ev.rev h fun l' H' s' hp X' S' T' => q .nx .next l' H' s' trivial hp X' S' ((T1.trans T2).thenL T')
theorem sims_aug (G : Gnd w K mg mb B) {p : Pos} (i1 : SimE prog w B n c e1 d1) (i2 : SimE prog w B n c e2 d2) (i3 : SimE prog w B n c e3 d3)
    (hi : ∀ ov iv new, augStore e2 ov iv new = (do holding [new, ov, iv] (setItem ov iv new); release [new, ov, iv] []; pure .next)) : SimS prog w B n c (.AugAssign (.Subscript e1 e2 p) .Add e3 pos) (sAug d1 d2 d3) := .mk fun A env l s H P Q E am X S h q => by
  refine wpAny_AugAssign_SubscriptAny (i1.ev A env l s H _ _ E am X S h fun ra a H1 s1 ea h S1 T1 => i2.ev A env l s1 H1 _ _ E am (X.go T1) S1 h fun rb b H2 s2 eb ⟨u, hu, h⟩ S2 T2 => idx_ok G S2 ea eb hu fun ru tk eu => ?_) hi
  have X2 := (X.go T1).go T2
  refine i3.ev A env l { s2 with toks := tk } H2 _ _ E am X2 S2 h fun ry y H3 s3 ey ⟨x, z, h1, h2, hp⟩ S3 T3 => ?_
  subst h1; subst h2
  obtain ⟨t1, rfl⟩ := er_int eu
  obtain ⟨t2, rfl⟩ := er_int ey
  have X3 := X2.go (s := { s2 with toks := tk }) T3
  refine PyProof.Rows.iadd_int (setIdx_ok (s := { s3 with toks := s3.toks + 1 }) G S3 ea eb rfl hp fun H4 s4 hp S4 T4 => q .nx .next l H4 s4 trivial hp (X3.go (s := { s3 with toks := s3.toks + 1 }) T4) S4 ?_)
  exact (((T1.trans T2).trans ((Tr.toks (tk := tk) Tr.refl).trans T3)).trans ((Tr.toks (tk := s3.toks + 1) Tr.refl).trans T4)).toL
theorem interactive_fn (h : env.scope.kind = .function) : interactive env = false := by unfold interactive; simp [h]
theorem sims_exp (i : SimE prog w B n c e d) (hs : ∀ env, swapsWith e none pos.line env = pure false) : SimS prog w B n c (.Expr e pos) (sExp d) := .mk fun A env l s H P Q E am X S h q =>
  wpAny_Expr_any (i.ev A env l s H _ _ E am X S h fun ru u H1 s1 eu hp S1 T1 => q .nx .next l H1 s1 trivial hp (X.go T1) S1 T1.toL) (interactive_fn X.kd) (hs env)
theorem sims_ret (i : SimE prog w B n c e d) : SimS prog w B n c (.Return (some e) pos) (sRet d) := .mk fun A env l s H P Q E am X S h q =>
  wpAny_Return_some (i.ev A env l s H _ _ E am X S h fun ru u H1 s1 eu hp S1 T1 => q (.rt u) (.ret ru) l H1 s1 eu hp (X.go T1) S1 T1.toL)
theorem sims_cont : SimS prog w B n c (.Continue pos) sCont := .mk fun A env l s H P Q E am X S h q => wpAny_Continue (q .ct .cont l H s trivial h X S Tr.refl.toL)
theorem sims_dead : SimS prog w B n c st sDead := .mk fun A env l s H P Q E am X S h q => h.elim
theorem simss_dead : SimSs prog w B n c sts sDead := .mk fun A env l s H P Q E am X S h q => h.elim
theorem sims_if (it : SimT prog w B n c e t) (i1 : SimSs prog w B n c sts D1) (i2 : SimSs prog w B n c sts2 D2) : SimS prog w B n c (.If e sts sts2 pos) (sIf t D1 D2) := .mk fun A env l s H P Q E am X S h q =>
  wpAny_If (it.ev A env l s H _ _ E am X S h fun b H1 s1 hp S1 T1 => by
    cases b with
    | true => exact i1.ev A env l s1 H1 P Q E am (X.go T1) S1 hp fun f rf l2 H2 s2 ok hp X2 S2 T2 => q f rf l2 H2 s2 ok hp X2 S2 (T1.thenL T2)
    | false => exact i2.ev A env l s1 H1 P Q E am (X.go T1) S1 hp fun f rf l2 H2 s2 ok hp X2 S2 T2 => q f rf l2 H2 s2 ok hp X2 S2 (T1.thenL T2))
theorem simss_nil : SimSs prog w B n c [] sNil := .mk fun A env l s H P Q E am X S h q => wpAny_execs_nil (q .nx .next l H s trivial h X S Tr.refl.toL)
theorem simss_cons (i1 : SimS prog w B n c st D1) (i2 : SimSs prog w B n c sts D2) : SimSs prog w B n c (st :: sts) (sSeq D1 D2) := .mk fun A env l s H P Q E am X S h q =>
  wpAny_execs_cons (i1.ev A env l s H _ _ E am X S h fun f rf l' H' s' ok hp X' S' T' => by
    cases f with
    | nx => cases rf <;> first | exact ok.elim | exact i2.ev A env l' s' H' P Q E am X' S' hp fun f rf l2 H2 s2 ok hp X2 S2 T2 => q f rf l2 H2 s2 ok hp X2 S2 (T'.trans T2)
    | ct => cases rf <;> first | exact ok.elim | exact q .ct .cont l' H' s' ok hp X' S' T'
    | rt v => cases rf <;> first | exact ok.elim | exact q (.rt v) (.ret _) l' H' s' ok hp X' S' T')
theorem sims_whl (it : SimT prog w B n c e t) (i : SimSs prog w B n c sts D) : SimS prog w B n c (.While e sts [] pos) (sWhl t D) := .mk fun A env l s H P Q E am X S ⟨I, k, h, ht⟩ q => by
  refine wpAny_While (codeAny_whileLoop (fun j s' => ∃ l H', I j l H' ∧ EnvOK B A env c l H' s'.heap ∧ St prog w B H' s'.heap ∧ TrL B env H s H' s') ?_ k ⟨l, H, h, X, S, Tr.refl.toL⟩)
  rintro j s1 ⟨l, H', hI, X, S, T⟩
  refine it.ev A env l s1 H' _ _ _ am X S (ht j l H' hI) fun b H1 s2 hp S1 T1 => ?_
  cases b with
  | true =>
    refine i.ev A env l s2 H1 _ _ _ am (X.go T1) S1 hp fun f rf l' H' s' ok hp X' S' T' => ?_
    have T2 := (T.trans T1.toL).trans T'
    cases f with
    | nx => cases rf <;> first | exact ok.elim | exact let ⟨m, h1, h2⟩ := hp; ⟨m, h1, l', H', h2, X', S', T2⟩
    | ct => cases rf <;> first | exact ok.elim | exact let ⟨m, h1, h2⟩ := hp; ⟨m, h1, l', H', h2, X', S', T2⟩
    | rt v => cases rf <;> first | exact ok.elim | exact q (.rt v) (.ret _) l' H' s' ok hp X' S' T2
  | false => exact wpAny_execs_nil (q .nx .next l H1 s2 trivial hp (X.go T1) S1 (T.trans T1.toL))
/-- between two turns of a for -/
structure FI (prog : Program) (w : World) (B : Heap) (A : Around) (env : Env) (c : Cx) (H : Hp) (s : Shared) (T : Nat → Heap → Prop) (I : Addr) (i : Nat) (l : Loc) (H2 : Hp) (s2 : Shared) : Prop where
  X : EnvOK B A env c l H2 s2.heap
  S : St prog w B H2 s2.heap
  tr : TrL B env H s H2 s2
  L : Lv T I i H2 s2
theorem Lv.goL {T : Nat → Heap → Prop} {I : Addr} {i : Nat} {items : List MV} {gi : Hp → Prop} (x : Lv T I i H s) (it : Iter prog w B I items gi T) (nI : Out env I) (T3 : TrL B env H s H' s') : Lv T I i H' s' := by
  obtain ⟨o, e⟩ := it.has _ _ x.t
  exact ⟨it.frame _ _ _ x.t fun o q => (T3.ext I o nI (none_own x.n) q).exact (it.nd _ _ _ x.t q), T3.nn x.n e⟩
theorem sims_for (ii : SimI prog w B n c r e d) (ig : SimG prog w B n c e1 g) (i : SimSs prog w B n c sts D) (hs : ∀ env x, foldedSetIterable e env x = pure x) (ht : ∀ it v, letOwnedTupleGo e1 it v = pure ()) :
    SimS prog w B n c (.For e1 e sts [] pos) (sFor r g d D) := .mk fun A env l s H P Q E am X S h q => by
  refine wpAny_For (ii.ev A env l s H _ _ E am X S h (fun a H1 ⟨items, gg, z, _⟩ => ⟨items, gg, z⟩) fun a H1 s1 I h1 hp it S1 T1 fI hk => ?_) (hs env)
  obtain ⟨items, gg, src, J, j0, jt, je⟩ := hp
  obtain ⟨L, it, hL, hg⟩ := it items gg src
  have X1 := X.go T1
  have nI := X1.ne fI
  obtain ⟨S2, T2⟩ := S1.same (h' := h1) (tk := s1.toks) hk
  refine codeAny_forLoop (fun q s2 => ∃ i l H2, (q = items.length - i ∧ i ≤ items.length) ∧ J i l H2 ∧ FI prog w B A env c H1 s1 L I i l H2 s2) ?_ items.length
    ⟨0, l, H1, ⟨rfl, Nat.zero_le _⟩, j0, ⟨X1.go T2, S2, T2.toL, ⟨hL, S1.fresh fI⟩⟩⟩ (ht _)
  rintro q' s2 ⟨i', l, H2, ⟨rfl, hi⟩, hJ, fi⟩
  obtain ⟨oI, _⟩ := it.has _ _ fi.L.t
  have at3 : ∀ {h3 : Heap} {tk : Nat}, (∀ b, b ≠ I → ∀ o, s2.heap.get? b = some o → h3.get? b = some o) → EnvOK B A env c l H2 h3 ∧ St prog w B H2 h3 ∧ TrL B env H1 s1 H2 { s2 with heap := h3, toks := tk } := fun k3 =>
    ⟨fi.X.same nI k3, fi.S.but fi.L.n (S1.bnone fI) k3, fi.tr.but (.inr fI) ⟨oI, .inr fI⟩ k3⟩
  cases hv : items[i']? with
  | none =>
    obtain rfl : i' = items.length := Nat.le_antisymm hi (List.getElem?_eq_none_iff.mp hv)
    obtain ⟨g2, hp⟩ := je l H2 hJ
    refine it.done A s2 H2 _ _ am.hh fi.L.t g2 fi.S fun h3 hs3 => wpAny_execs_nil ?_
    obtain ⟨X3, S3, T3⟩ := at3 (h3 := h3) (tk := s2.toks) fun b hb o => hs3 b o hb
    exact q .nx .next l H2 _ trivial hp X3 S3 (T1.thenL T3)
  | some v =>
    obtain ⟨g2, hp⟩ := jt i' l H2 v hJ hv
    have hlt : i' < items.length := (List.getElem?_eq_some_iff.mp hv).1
    refine it.item A i' v s2 H2 _ _ hv fi.L.t g2 fi.S fun rv h3 tk erv t3 hs3 => ?_
    obtain ⟨X3, S3, T3⟩ := at3 (h3 := h3) (tk := tk) fun b hb o => hs3.extBut b o hb
    have L3 : Lv L I (i' + 1) H2 { s2 with heap := h3, toks := tk } := ⟨t3, fi.L.n⟩
    refine ig.ev A env l { s2 with heap := h3, toks := tk } H2 v rv _ _ _ am X3 S3 erv hp fun l4 H4 s4 hp X4 S4 T4 => ?_
    refine i.ev A env l4 s4 H4 _ _ _ am X4 S4 hp fun f rf l5 H5 s5 ok hp X5 S5 T5 => ?_
    have T6 := (T3.trans T4).trans T5
    have on : J (i' + 1) l5 H5 → ∃ m, m < items.length - i' ∧ ∃ i l H2, (m = items.length - i ∧ i ≤ items.length) ∧ J i l H2 ∧ FI prog w B A env c H1 s1 L I i l H2 s5 := fun hp =>
      ⟨_, Nat.sub_lt_sub_left hlt (Nat.lt_succ_self _), i' + 1, l5, H5, ⟨rfl, hlt⟩, hp, ⟨X5, S5, T6, (L3.goL it ⟨nI.1, nI.2.1⟩ T4).goL it ⟨nI.1, nI.2.1⟩ T5⟩⟩
    cases f with
    | nx => cases rf <;> first | exact ok.elim | exact on hp
    | ct => cases rf <;> first | exact ok.elim | exact on hp
    | rt v => cases rf <;> first | exact ok.elim | exact q (.rt v) (.ret _) l5 H5 s5 ok hp X5 S5 (T1.thenL T6)
end
end Mine
end
section
open PySem PySem.W PyProof.Rows PySem.Calls PySem.Spec
open Classical
namespace Mine
open PySem.SeqAt
structure FnIs (B : Heap) (ps : List Str) (body : List Stmt) (c : Cx) (o : Obj) (fd : FuncData) : Prop where
  data : o.data = .func fd
  code : B.CodeRec fd.code fd.qualname
  bod : fd.body = .stmts body
  clo : fd.closure = []
  gl : fd.globals = mainGlobals
  bu : fd.builtins = builtinsNs
  nm : fd.scope.names = c.nm
  co : fd.scope.isCoroutine = false
  gen : fd.scope.isGenerator = false
  kd : fd.scope.kind = .function
  bind : ∀ rvs, rvs.length = ps.length → bindArgs fd ⟨rvs, []⟩ = pure (ps.zip rvs)
def FnAt (B : Heap) (f : Addr) (ps : List Str) (body : List Stmt) (c : Cx) : Prop := ∃ o fd, B.get? f = some o ∧ FnIs B ps body c o fd
section
variable {prog : Program} {w : World} {K : Frag} {mg mb : Str → Option Value} {B : Heap} {A : Around} {E : Value → Shared → Prop} {s s' s'' s0 : Shared} {H H' H'' H0 : Hp} {a b u : MV} {ra rb ru : Value} {n m k : Nat}
  {Post : MV → Hp → Prop} {env : Env} {c : Cx} {l : Loc} {h h' : Heap} {C : Addr}
  {e e1 e2 e3 : Expr} {d d1 d2 d3 : Den} {t t1 t2 : DenT} {pos : Pos} {x : Str} {es : List Expr} {ds : DenL} {scope : Scope} {xs gs : List Str} {r : Nat}
  {g g1 : DenG} {gg : DenGs} {st : Stmt} {sts sts2 : List Stmt} {D D1 D2 : DenS} {ps : List Str} {body : List Stmt} {f : Addr}
theorem cells_some {y : Str} : ∀ (names : List (Str × NameKind)) (n : Nat) (acc : List (Str × Addr)), ((y, NameKind.cell) ∈ names ∨ (acc.lookup y).isSome = true) → ((cellsFrom n names acc).lookup y).isSome = true
  | [], n, acc, h => by
    rcases h with h | h
    · cases h
    · exact h
  | (z, kd) :: r, n, acc, h => by
    unfold cellsFrom
    split
    · refine cells_some r _ _ ?_
      rcases h with h | h
      · rcases List.mem_cons.mp h with h | h
        · cases h; right; rw [List.lookup_cons]; simp
        · exact .inl h
      · right; rw [List.lookup_cons]; split
        · rfl
        · exact h
    · rename_i q
      refine cells_some r _ _ ?_
      rcases h with h | h
      · rcases List.mem_cons.mp h with h | h
        · cases h; exact absurd (beq_self_eq_true _) q
        · exact .inl h
      · exact .inr h
theorem bindL_not {kd : Str → Option NameKind} {y : Str} : ∀ (binds : List (Str × Value)) (m : Str → Option Value), y ∉ binds.map (·.1) → bindL kd binds m y = m y
  | [], _, _ => rfl
  | (z, v) :: r, m, h => by
    rw [List.map_cons, List.mem_cons, not_or] at h
    unfold bindL
    rw [bindL_not r _ h.2]
    split
    · exact if_neg h.1
    · rfl
theorem bindC_not {kd : Str → Option NameKind} {y : Str} : ∀ (binds : List (Str × Value)) (m : Str → Option Value), y ∉ binds.map (·.1) → bindC kd binds m y = m y
  | [], _, _ => rfl
  | (z, v) :: r, m, h => by
    rw [List.map_cons, List.mem_cons, not_or] at h
    unfold bindC
    rw [bindC_not r _ h.2]
    split
    · rfl
    · exact if_neg h.1
theorem bindL_get {kd : Str → Option NameKind} {y : Str} {v : Value} (hk : kd y = some .local) : ∀ (binds : List (Str × Value)) (m : Str → Option Value), (binds.map (·.1)).Nodup → (y, v) ∈ binds → bindL kd binds m y = some v
  | (z, u) :: r, m, hn, h => by
    rw [List.map_cons, List.nodup_cons] at hn
    unfold bindL
    rcases List.mem_cons.mp h with h | h
    · cases h
      rw [bindL_not r _ hn.1, if_pos hk]; exact if_pos rfl
    · exact bindL_get hk r _ hn.2 h
theorem bindC_get {kd : Str → Option NameKind} {y : Str} {v : Value} (hk : kd y ≠ some .local) : ∀ (binds : List (Str × Value)) (m : Str → Option Value), (binds.map (·.1)).Nodup → (y, v) ∈ binds → bindC kd binds m y = some v
  | (z, u) :: r, m, hn, h => by
    rw [List.map_cons, List.nodup_cons] at hn
    unfold bindC
    rcases List.mem_cons.mp h with h | h
    · cases h
      rw [bindC_not r _ hn.1, if_neg hk]; exact if_pos rfl
    · exact bindC_get hk r _ hn.2 h
theorem Amb.deep (x : Amb A (n + 1)) (env : Env) : Amb (A.deeper env) n := ⟨x.hh, by have := x.dp; show A.depth + 1 + 8 * n < _; omega, by have := x.un; show A.units + 3 + 100 * n + 100 < _; omega, let ⟨fs, h⟩ := x.fr; ⟨_, Around.frames_deeper h⟩⟩
theorem code_sim0 {more : List (Option Str)} (G : Gnd w K mg mb B) (F : FnAt B f ps body c) (hv : c.vis = ps.map some ++ more) (ok : c.ok = true) {rvs : List Value} {vs : List MV} {R : Result → Shared → Prop}
    (am : Amb A (n + 1)) (fr : FrA B A H s.heap) (S : St prog w B H s.heap) (ev : ers rvs vs) (hl : vs.length = ps.length)
    (k : ∀ env fs h1 tk, A.frames = some fs → (A.deeper env).frames = some (env :: fs) → env.frame = some env.locals → s.heap.get? env.locals = none → (∀ x p, env.cells.lookup x = some p → s.heap.get? p = none) →
      EnvOK B (A.deeper env) env c (vs.map some ++ more.map fun _ => none) H h1 → St prog w B H h1 → Tr B H s H { s with heap := h1, toks := tk } →
      wpAny (model prog w) (A.deeper env) (execs body env) (fun f s' => R (.ok (.ret (match f with | .ret v => v | _ => .none))) s')
        (fun e s' => wpAny (model prog w) (A.deeper env) (leaving env e) (fun _ s'' => R (.error e) s'') (fun e' s'' => R (.error e') s'') s') { s with heap := h1, toks := tk }) : codeAny (model prog w) A (.call (.ref f) ⟨rvs, []⟩) R s := by
  obtain ⟨o, fd, hf, F⟩ := F
  have hlen : rvs.length = ps.length := ev.len.trans hl
  have hzl : (ps.zip rvs).map (·.1) = ps := List.map_fst_zip (by omega)
  have hps : ∀ j y, ps[j]? = some y → (c.vis[j]?).join = some y := fun j y hj => by
    have : j < ps.length := (List.getElem?_eq_some_iff.mp hj).1
    rw [hv, List.getElem?_append_left (by rw [List.length_map]; exact this), List.getElem?_map, hj]; rfl
  have hnd : ps.Nodup := by
    refine List.pairwise_iff_getElem.mpr fun i j hi hj hij e => ?_
    have := Cx.un ok (hps i _ (List.getElem?_eq_getElem hi)) (hps j _ (e ▸ List.getElem?_eq_getElem hj))
    omega
  have kind_of : ∀ y ∈ ps, c.nm.lookup y = some .local ∨ c.nm.lookup y = some .cell := fun y hy => by
    obtain ⟨j, hj⟩ := List.getElem?_of_mem hy
    exact (Cx.vk ok (hps j y hj)).1
  have hroom : A.depth < recursionLimit := by have := am.dp; omega
  refine codeAny_call_cells hroom (S.keep _ _ hf) F.data (G.lim.keeps S.keep) (F.code.keeps S.keep) F.bod (F.bind rvs hlen) F.clo (fun y hy => ?_) (fun s1 z => ?_) F.co F.gen F.kd
  · have hy : y.1 ∈ ps := by rw [← hzl]; exact List.mem_map_of_mem hy
    rw [F.nm]
    rcases kind_of _ hy with z | z
    · exact .inl z
    · exact .inr ⟨z, cells_some _ _ _ (.inl (mem_of_lookup z))⟩
  · generalize henv : callEnvC fd s.heap.objs.size f = env at z ⊢
    have eL : env.locals = s.heap.objs.size := by rw [← henv]; rfl
    have eS : env.scope = fd.scope := by rw [← henv]; rfl
    have eC : env.cells = cellsFrom (s.heap.objs.size + 1) fd.scope.names [] := by rw [← henv]; rfl
    have fL : s.heap.get? env.locals = none := by rw [eL]; exact size_none _
    have fC : ∀ x p, env.cells.lookup x = some p → s.heap.get? p = none := fun x p hp => by
      have := z.above _ _ (mem_of_lookup hp)
      cases e : s.heap.get? p with
      | none => rfl
      | some o => exact absurd (Heap.lt_size e) (Nat.not_lt.mpr (Nat.le_of_lt (eL ▸ this)))
    obtain ⟨h1, tk, e1, hk⟩ := z.done
    have kdof : env.kindOf = fun y => c.nm.lookup y := by funext y; rw [Env.kindOf, eS, F.nm]
    have arg : ∀ k y u, (c.vis[k]?).join = some y → Loc.at (vs.map some ++ more.map fun _ => (none : Option MV)) k = some u → ∃ rv, (y, rv) ∈ ps.zip rvs ∧ er rv = some u := fun k y u hk hu => by
      rcases at_app hu with ⟨h1, h2⟩ | ⟨h1, h2⟩
      · rw [List.length_map] at h1
        unfold Loc.at at h2
        rw [List.getElem?_map] at h2
        cases q : vs[k]? with
        | none => rw [q] at h2; cases h2
        | some v =>
          rw [q] at h2
          have h2 : some v = some u := h2
          cases h2
          obtain ⟨rv, g1, g2⟩ := ev.get q
          refine ⟨rv, ?_, g2⟩
          have hk' : k < ps.length := by omega
          have ey : ps[k]? = some y := by
            have := hps k _ (List.getElem?_eq_getElem hk')
            rw [hk] at this; cases this; exact List.getElem?_eq_getElem hk'
          refine List.mem_of_getElem? (i := k) ?_
          rw [List.getElem?_zip_eq_some]
          exact ⟨ey, g1⟩
      · exfalso
        unfold Loc.at at h2
        rw [List.getElem?_map] at h2
        cases q : more[k - (vs.map some).length]? with
        | none => rw [q] at h2; cases h2
        | some v => rw [q] at h2; cases h2
    have hzn : ((ps.zip rvs).map (·.1)).Nodup := by rw [hzl]; exact hnd
    have X : EnvOK B (A.deeper env) env c (vs.map some ++ more.map fun _ => none) H s1.heap := by
      refine ⟨by rw [eS]; exact F.kd, by rw [eS]; exact F.nm, by rw [← henv]; exact F.gl, by rw [← henv]; exact F.bu, ok, ⟨_, z.toInCall.ns, fun k y u hk hl hu => ?_⟩, fun y hy => ?_, S.fresh fL, fun y p hp => ?_, ⟨S.bnone fL, fun y p hp => S.bnone (fC y p hp)⟩, ?_, fun y y' p h1 h2 => ?_, fun fs' hf' e' he => ?_⟩
      · obtain ⟨rv, m1, m2⟩ := arg k y u hk hu
        exact ⟨rv, bindL_get (by rw [kdof]; exact hl) _ _ hzn m1, m2⟩
      · have : (env.cells.lookup y).isSome = true := by rw [eC]; exact cells_some _ _ _ (.inl (by rw [F.nm]; exact mem_of_lookup hy))
        obtain ⟨p, hp⟩ := Option.isSome_iff_exists.mp this
        refine ⟨p, _, hp, z.cell y p hp, fun k u hk hu => ?_⟩
        obtain ⟨rv, m1, m2⟩ := arg k y u hk hu
        exact ⟨rv, bindC_get (by rw [kdof]; show c.nm.lookup y ≠ _; rw [hy]; decide) _ _ hzn m1, m2⟩
      · have := z.above _ _ (mem_of_lookup hp)
        exact ⟨S.fresh (fC y p hp), fun q => absurd this (by rw [q]; exact Nat.lt_irrefl _), _, z.cell y p hp⟩
      · rw [List.length_append, List.length_map, List.length_map, hv, List.length_append, List.length_map, hl]
      · exact name_of_addr z.apart (mem_of_lookup h1) (mem_of_lookup h2)
      · obtain ⟨gs, hgs⟩ := am.fr
        rw [Around.frames_deeper hgs] at hf'
        cases hf'
        rcases List.mem_cons.mp he with rfl | he
        · obtain ⟨o', es', ep, g1, g2, _⟩ := z.toInCall.ns
          refine ⟨by rw [eS]; exact F.kd, _, o', es', _, ?_, S.bnone fL, g1, g2, S.fresh fL⟩
          rw [← henv]; rfl
        · obtain ⟨k1, L, o', es', n', g1, g2, g3, g4, g5⟩ := fr gs hgs e' he
          refine ⟨k1, L, o', es', n', g1, g2, ?_, g4, g5⟩
          rw [e1]
          exact hk _ _ g3
    subst e1
    obtain ⟨S1, T1⟩ := S.same (h' := h1) (tk := tk) hk
    obtain ⟨fs, hfs⟩ := am.fr
    exact k env fs h1 tk hfs (Around.frames_deeper hfs) (by rw [← henv]; rfl) fL fC X S1 T1
theorem code_sim {more : List (Option Str)} (G : Gnd w K mg mb B) (F : FnAt B f ps body c) (hv : c.vis = ps.map some ++ more) (ok : c.ok = true) (i : SimSs prog w B n c body D) {rvs : List Value} {vs : List MV} {R : Result → Shared → Prop} {P : MV → Hp → Prop}
    (am : Amb A (n + 1)) (fr : FrA B A H s.heap) (S : St prog w B H s.heap) (ev : ers rvs vs) (hl : vs.length = ps.length) (hD : D (vs.map some ++ more.map fun _ => none) (fun fl l H => P (retOf fl) H) H)
    (q : ∀ rv v H' s', er rv = some v → P v H' → St prog w B H' s'.heap → Tr B H s H' s' → R (.ok (.ret rv)) s') : codeAny (model prog w) A (.call (.ref f) ⟨rvs, []⟩) R s := by
  refine code_sim0 G F hv ok am fr S ev hl fun env fs h1 tk hfs _ _ fL fC X S1 T1 => ?_
  refine i.ev (A.deeper env) env _ { s with heap := h1, toks := tk } H _ _ _ (am.deep env) X S1 hD fun fl rf l' H' s' okf hp X' S' T' => ?_
  have T := T1.call T' fL fC
  cases fl with
  | nx => cases rf <;> first | exact okf.elim | exact q _ _ _ _ rfl hp S' T
  | ct => cases rf <;> first | exact okf.elim | exact q _ _ _ _ rfl hp S' T
  | rt v => cases rf <;> first | exact okf.elim | exact q _ _ _ _ okf hp S' T
theorem fun_sim {more : List (Option Str)} (G : Gnd w K mg mb B) (hm : mg x = some (.ref f)) (F : FnAt B f ps body c) (hv : c.vis = ps.map some ++ more) (ok : c.ok = true) (i : SimSs prog w B n c body D) :
    FunG prog w mg B (n + 1) x (fun vs P H => vs.length = ps.length ∧ D (vs.map some ++ more.map fun _ => none) (fun fl l H => P (retOf fl) H) H) := by
  refine ⟨f, hm, fun h hk => ?_, fun A s H rvs vs P Q E am fr S ev ⟨h1, h2⟩ g => wpAny_call (code_sim G F hv ok i am fr S ev h1 h2 fun rv v H' s' e1 hp S' T => g rv v H' s' e1 hp S' T)⟩
  obtain ⟨o, fd, hf, F⟩ := F
  refine ⟨.frame, .inl rfl, (Looks.ld (part := none) (hk _ _ hf)).andThen ?_⟩
  rw [F.data]; exact .now
theorem FunG.mono {φ ψ : Fn} (h : FunG prog w mg B n x φ) (k : ∀ vs P H, ψ vs P H → φ vs P H) : FunG prog w mg B n x ψ :=
  let ⟨f, h1, h2, h3⟩ := h.fn; ⟨f, h1, h2, fun A s H rvs vs P Q E am fr S ev hp g => h3 A s H rvs vs P Q E am fr S ev (k _ _ _ hp) g⟩
end
end Mine
end
section
open PySem PySem.W PyProof.Rows PySem.Calls PySem.Spec
open Classical
namespace Mine
open PySem.SeqAt
section
variable {prog : Program} {w : World} {K : Frag} {mg mb : Str → Option Value} {B : Heap} {A : Around} {E : Value → Shared → Prop} {s s' s'' s0 : Shared} {H H' H'' H0 : Hp} {a b u : MV} {ra rb ru : Value} {n m k : Nat}
  {Post : MV → Hp → Prop} {env : Env} {c : Cx} {l : Loc} {h h' : Heap} {C : Addr}
  {e e1 e2 e3 : Expr} {d d1 d2 d3 : Den} {t t1 t2 : DenT} {pos spos : Pos} {x y : Str} {es : List Expr} {ds : DenL} {scope : Scope} {xs gs : List Str} {r : Nat}
  {g g1 : DenG} {gg : DenGs} {st : Stmt} {sts sts2 : List Stmt} {D D1 D2 : DenS} {ps : List Str} {body : List Stmt} {f : Addr}
/-! a class is called -/
theorem frames_type (args : Args) : Code.frames (.builtin "type.__call__" args) = 0 := by kernel_rfl
theorem cls_sim {fI : Addr} {more : List (Option Str)} (G : Gnd w K mg mb B) (hm : mg x = some (.ref C)) (hC : okC C) (mk : makesIn K C = true) (hi : findIn K (.ref C) "__init__" = some (some (.ref fI))) (hf : typeIn K (.ref fI) = some (.type "function"))
    (kp : keepIn K (.ref C) = true) (F : FnAt B fI ps body c) (hv : c.vis = ps.map some ++ more) (ok : c.ok = true) (i : SimSs prog w B n c body D) :
    FunG prog w mg B (n + 2) x (fun vs P H => vs.length + 1 = ps.length ∧ ∀ q p, q ≠ p → H q = none → H p = none →
      D ((.ref p :: vs).map some ++ more.map fun _ => none) (fun fl l H => retOf fl = .non ∧ P (.ref p) H) (upd (upd H q (.fld [])) p (.inst C q))) := by
  refine ⟨C, hm, fun h hk => keeps_K kp h fun a o e => hk _ _ (G.X a o e), fun A s H rvs vs P Q E am fr S ev ⟨h1, h2⟩ g => wpAny_call ?_⟩
  have X := G.In S
  have f1 : s.heap.get? s.heap.objs.size = none := size_none _
  obtain ⟨S1, T1⟩ := S.add (h' := s.heap.push emptyDict) (tk := s.toks) (o := .fld []) f1 (by intro xs; simp) (fun b ob e => Heap.get?_push_of_some _ e) ⟨fun p hp => (nomatch hp), [], 0, Heap.get?_push_size _ rfl, rfl⟩
  have f2 : (s.heap.push emptyDict).get? (s.heap.objs.size + 1) = none := by rw [← Heap.size_push s.heap emptyDict]; exact size_none _
  obtain ⟨S2, T2⟩ := St.add (s := { s with heap := s.heap.push emptyDict }) (a := s.heap.objs.size + 1) (h' := (s.heap.push emptyDict).push (instObj C s.heap.objs.size)) (tk := s.toks) (o := .inst C s.heap.objs.size) S1 f2 (by intro xs; simp) (fun b ob e => Heap.get?_push_of_some _ e)
    ⟨hC, by have := Heap.get?_push_size (s.heap.push emptyDict) (o := instObj C s.heap.objs.size) rfl; rw [Heap.size_push] at this; exact this⟩
  have hn : s.heap.objs.size ≠ s.heap.objs.size + 1 := Nat.ne_of_lt (Nat.lt_succ_self _)
  have hp : H (s.heap.objs.size + 1) = none := by
    refine S.fresh ?_
    cases e : s.heap.get? (s.heap.objs.size + 1) with
    | none => rfl
    | some o => exact absurd (Heap.lt_size e) (Nat.not_lt.mpr (Nat.le_succ _))
  have am' : Amb (A.under (.builtin "type.__call__" ⟨.ref C :: rvs, []⟩)) (n + 1) := ⟨am.hh, by have := am.dp; show A.depth + 1 + 8 * (n + 1) < _; omega, by
    have := am.un
    have e : (A.under (.builtin "type.__call__" ⟨.ref C :: rvs, []⟩)).units = A.units + Code.cUnits (.builtin "type.__call__" ⟨.ref C :: rvs, []⟩) := rfl
    have e2 : Code.cUnits (.builtin "type.__call__" ⟨.ref C :: rvs, []⟩) ≤ 90 := by
      show 1 + 3 * Code.frames (.builtin "type.__call__" ⟨.ref C :: rvs, []⟩) ≤ 90
      rw [frames_type]
      decide
    rw [e]; omega, am.fr⟩
  refine make_core (s.heap |> fun h => makes_of X mk) (looks_findIn X hi) (fun self => bind_fn X self hf) (.inl rfl) ?_
  refine code_sim (s := ⟨(s.heap.push emptyDict).push (instObj C s.heap.objs.size), s.gens, s.drawn, s.toks, s.os⟩) (vs := .ref (s.heap.objs.size + 1) :: vs) (P := fun v H => v = .non ∧ P (.ref (s.heap.objs.size + 1)) H) G F hv ok i am' ((fr.go T1).go T2) S2 (ers.cons ev rfl) h1
    (h2 _ _ hn (S.fresh f1) hp) fun rv v H' s' e1 ⟨e2, hp⟩ S' T' => ?_
  subst e2
  exact ⟨er_non e1, g _ _ H' s' rfl hp S' ((T1.trans T2).trans T')⟩
/-! a comprehension whose list goes straight into a local name -/
theorem sims_asgC (gs : List Str) (k : Nat) (hx : (c.vis[k]?).join = some y) (hy : c.nm.lookup y = some .local) (ok : scopeOK c scope [x] gs = true) {iter : Expr} {px py : Pos} {ifs : List Expr}
    (ii : SimI prog w B n c r iter d1) (ic : SimC prog w B n (compCx c scope [x] gs) ifs t) (ie : SimE prog w B n (compCx c scope [x] gs) e d)
    (hs : ∀ env x, foldedSetIterable iter env x = pure x) (hsw : ∀ env, env.scope.kind = .function → env.scope.names = c.nm → swapsWith (.ListComp e [⟨.Name x px, iter, ifs, 0⟩] scope pos) (some (.Name y py)) spos.line env = pure true) :
    SimS prog w B n c (.Assign [.Name y py] (.ListComp e [⟨.Name x px, iter, ifs, 0⟩] scope pos) spos) (sAsg (gV k) (dComp r d1 t d)) := .mk fun A env l s H P Q E am X S h q => by
  have F := scope_facts ok
  obtain ⟨cl, hcl, c1, c2⟩ := closure_for X F
  rw [exec_Assign_Name_used _ _ _ _ (hsw env X.kd X.nms)]
  refine wpAny_bind (wpAny_standAt (wpAny_bind ?_))
  show wpAny _ A (do let _ ← comprehension (.ListComp e [⟨.Name x px, iter, ifs, 0⟩] scope pos) scope env _ (newList []) false (eval iter env) (some (assign (.Name y py) env))) _ _ s
  refine wpAny_bind (wpAny_mono (wpAny_comprehension_free (use := some (assign (.Name y py) env)) (Q := fun _ s' => Q .next s') rfl (fun x => hs env x) hcl F.kd F.loc ?_) (fun _ s' hq => wpAny_pure (wpAny_pure hq)) fun _ _ e => e)
  refine ii.ev A env l s H _ _ E am X S h (fun a H1 ⟨items, g, z, _⟩ => ⟨items, g, z⟩) fun a H1 s1 I h1 hp it S1 T1 fI hk => ?_
  obtain ⟨items, gg, src, J, j0, jt, je⟩ := hp
  obtain ⟨T, it, hT, hg⟩ := it items gg src
  refine comp_block (s := s1) (RR := fun acc C => compPost (model prog w) A E (some (assign (.Name y py) env)) (fun _ s' => Q .next s') acc C) F am (X.go T1) S1 it hT fI hk c1 c2 (src_len src) ic ie J j0 jt je fun D C H2 s2 hp S2 T2 hn hC fC => ?_
  obtain ⟨m, hn⟩ := hn
  have X2 := (X.go T1).go T2
  show wpAny _ A (assign (.Name y py) env (.ref D)) _ _ _
  have nC := (X.go T1).ne fC
  refine wpAny_assign_Name (store_any (ru := .ref D) (u := .ref D) (P := P .nx) X2 S2 hx rfl hp fun l' H' s' hp X' S' T' => ?_)
  obtain ⟨o, ho⟩ := Ns_here hn
  have HC' := T'.nn hC ho
  refine ⟨m, Sl.ns hn fun o e => T'.ext C o ⟨nC.1, nC.2.1⟩ (none_own hC) e, fun h' hs' => ?_⟩
  have k3 : ∀ b, b ≠ C → ∀ o, s'.heap.get? b = some o → h'.get? b = some o := fun b hb o e => hs'.extBut b o hb e
  exact q .nx .next l' H' _ trivial hp (X'.same nC k3) (S'.but HC' (S1.bnone fC) k3) (T1.thenL ((T2.thenL T').but (tk := s'.toks) (.inr fC) ⟨o, .inr fC⟩ k3))
end
end Mine
end
section
open PySem PySem.W PyProof.Rows PySem.Calls PySem.Spec
open Classical
namespace Mine
open PySem.SeqAt
section
variable {prog : Program} {w : World} {K : Frag} {mg mb : Str → Option Value} {B : Heap} {A : Around} {E : Value → Shared → Prop} {s s' s'' s0 : Shared} {H H' H'' H0 : Hp} {a b u : MV} {ra rb ru : Value} {n m k : Nat}
  {Post : MV → Hp → Prop} {env : Env} {c : Cx} {l : Loc} {h h' : Heap} {C : Addr}
  {e e1 e2 e3 : Expr} {d d1 d2 d3 : Den} {t t1 t2 : DenT} {pos spos : Pos} {x y z : Str} {es : List Expr} {ds : DenL} {scope : Scope} {xs gs : List Str} {r : Nat} {R : Result → Shared → Prop}
theorem compTurn_out (elt x1 i1 x2 i2 : Expr) (scope : Scope) (pos : Pos) (it acc : Value) (env : Env) :
    compTurn (.ListComp elt [⟨x1, i1, [], 0⟩, ⟨x2, i2, [], 0⟩] scope pos) 0 it acc env = (do
      standAt i1.pos
      match ← pyNext it with
      | none => pure (.done .next)
      | some v =>
        letOwnedTupleGo x1 it v
        assign x1 env v
        let x ← eval i2 env
        standAt i2.pos
        let x ← foldedSetIterable i2 env x
        let _ ← runOwn (.compStart (.ListComp elt [⟨x1, i1, [], 0⟩, ⟨x2, i2, [], 0⟩] scope pos) 1 (← holding [x] (pyIter x)) acc env) env
        again (.compLoop (.ListComp elt [⟨x1, i1, [], 0⟩, ⟨x2, i2, [], 0⟩] scope pos) 0 it acc env)) := by rfl
theorem compTurn_in (elt x1 i1 x2 i2 : Expr) (scope : Scope) (pos : Pos) (it acc : Value) (env : Env) :
    compTurn (.ListComp elt [⟨x1, i1, [], 0⟩, ⟨x2, i2, [], 0⟩] scope pos) 1 it acc env = (standAt i2.pos >>= fun _ => pyNext it >>= fun r => match r with
      | none => pure (.done .next)
      | some v => letOwnedTupleGo x2 it v >>= fun _ => assign x2 env v >>= fun _ =>
        (eval elt env >>= fun x => call (.builtin "list.append") [acc, x] >>= fun _ => pure ()) >>= fun _ =>
          again (.compLoop (.ListComp elt [⟨x1, i1, [], 0⟩, ⟨x2, i2, [], 0⟩] scope pos) 1 it acc env)) := by rfl
theorem loop_out {elt x1 i1 x2 i2 : Expr} {it acc : Value} (I : Nat → Shared → Prop)
    (turn : ∀ n s, I n s → ∀ E0 : Value → Shared → Prop, wpAny (model prog w) A (pyNext it) (fun r s₁ => match r with
      | none => R (.ok .next) s₁
      | some v => wpAny (model prog w) A (assign x1 env v) (fun _ s₂ => wpAny (model prog w) A (eval i2 env) (fun x s3 => wpAny (model prog w) A (pyIter x) (fun it2 s4 =>
          codeAny (model prog w) A (.compStart (.ListComp elt [⟨x1, i1, [], 0⟩, ⟨x2, i2, [], 0⟩] scope pos) 1 it2 acc env) (fun r s5 => match r with | .ok _ => ∃ m, m < n ∧ I m s5 | .error e => cameBackBy (model prog w) A env E0 e s5) s4) E0 s3) E0 s₂) E0 s₁) E0 s)
    (hs : ∀ x, foldedSetIterable i2 env x = pure x) (n : Nat) (h : I n s) (ht : ∀ v, letOwnedTupleGo x1 it v = pure ()) : codeAny (model prog w) A (.compLoop (.ListComp elt [⟨x1, i1, [], 0⟩, ⟨x2, i2, [], 0⟩] scope pos) 0 it acc env) R s := by
  refine codeAny_loop rfl I (fun n s hI => ?_) n h
  show wpAny _ _ ((compTurn (.ListComp elt [⟨x1, i1, [], 0⟩, ⟨x2, i2, [], 0⟩] scope pos) 0 it acc env).onRaise (fun x => do noteFrame x env; theTreesLotGoes x)) _ _ s
  refine wpAny_noted ?_
  rw [compTurn_out]
  refine wpAny_bind (wpAny_standAt (wpAny_bind (wpAny_mono (turn n s hI _) (fun r s₁ h₁ => ?_) fun _ _ h' => h')))
  cases r with
  | none => exact wpAny_pure h₁
  | some v =>
    refine wpAny_bind (wpAny_of_eq (ht v) ?_)
    refine wpAny_bind (wpAny_mono h₁ (fun _ s₂ h₂ => ?_) fun _ _ h' => h')
    refine wpAny_bind (wpAny_mono h₂ (fun x s3 h3 => ?_) fun _ _ h' => h')
    refine wpAny_bind (wpAny_standAt (wpAny_bind (wpAny_of_eq (hs x) ?_)))
    refine wpAny_bind (wpAny_holding (wpAny_mono h3 (fun it2 s4 h4 => ?_) fun _ _ h' => h'))
    refine wpAny_bind (wpAny_runOwn (h := none) (codeAny_mono h4 fun r s5 h5 => ?_))
    cases r with
    | ok f => exact wpAny_pure ⟨rfl, h5⟩
    | error e => exact h5
theorem loop_in {elt x1 i1 x2 i2 : Expr} {it acc : Value} (I : Nat → Shared → Prop)
    (turn : ∀ n s, I n s → ∀ E0 : Value → Shared → Prop, wpAny (model prog w) A (pyNext it) (fun r s₁ => match r with
      | none => R (.ok .next) s₁
      | some v => wpAny (model prog w) A (assign x2 env v) (fun _ s₂ => wpAny (model prog w) A (eval elt env) (fun x s₃ =>
          wpAny (model prog w) A (call (.builtin "list.append") [acc, x]) (fun _ s₄ => ∃ m, m < n ∧ I m s₄) E0 s₃) E0 s₂) E0 s₁) E0 s)
    (n : Nat) (h : I n s) (ht : ∀ v, letOwnedTupleGo x2 it v = pure ()) : codeAny (model prog w) A (.compLoop (.ListComp elt [⟨x1, i1, [], 0⟩, ⟨x2, i2, [], 0⟩] scope pos) 1 it acc env) R s := by
  refine codeAny_loop rfl I (fun n s hI => ?_) n h
  show wpAny _ _ ((compTurn (.ListComp elt [⟨x1, i1, [], 0⟩, ⟨x2, i2, [], 0⟩] scope pos) 1 it acc env).onRaise (fun x => do noteFrame x env; theTreesLotGoes x)) _ _ s
  refine wpAny_noted ?_
  rw [compTurn_in]
  refine wpAny_bind (wpAny_standAt (wpAny_bind (wpAny_mono (turn n s hI _) (fun r s₁ h₁ => ?_) fun _ _ h' => h')))
  cases r with
  | none => exact wpAny_pure h₁
  | some v =>
    refine wpAny_bind (wpAny_of_eq (ht v) ?_)
    exact wpAny_bind (wpAny_mono h₁ (fun _ s₂ h₂ => wpAny_bind (wpAny_bind (wpAny_mono h₂ (fun x s₃ h₃ => wpAny_bind (wpAny_mono h₃
      (fun _ s₄ h₄ => wpAny_pure (wpAny_pure ⟨rfl, h₄⟩)) fun _ _ h' => h')) fun _ _ h' => h'))) fun _ _ h' => h')
theorem start_in {elt x1 i1 x2 i2 : Expr} {it acc : Value}
    (h0 : codeAny (model prog w) A (.compLoop (.ListComp elt [⟨x1, i1, [], 0⟩, ⟨x2, i2, [], 0⟩] scope pos) 1 it acc env) R s)
    (h : ∀ E0, wpAny (model prog w) A (pyIter it) (fun it' s' => codeAny (model prog w) A (.compLoop (.ListComp elt [⟨x1, i1, [], 0⟩, ⟨x2, i2, [], 0⟩] scope pos) 1 it' acc env) R s') E0 s) :
    codeAny (model prog w) A (.compStart (.ListComp elt [⟨x1, i1, [], 0⟩, ⟨x2, i2, [], 0⟩] scope pos) 1 it acc env) R s := by
  refine codeAny_of_tree ?_
  show wpAny _ _ ((compStart (.ListComp elt [⟨x1, i1, [], 0⟩, ⟨x2, i2, [], 0⟩] scope pos) 1 it acc env).onRaise (fun x => do noteFrame x env; standAt theWindowsPlace)) _ _ s
  refine wpAny_notedAt ?_
  unfold compStart
  show wpAny _ _ (ask >>= _) _ _ s
  refine wpAny_bind (wpAny_askSetting (wpAny_ite ?_))
  split
  · first
      | exact wpAny_bind (wpAny_pure (wpAny_pure (And.intro rfl h0)))
      | exact wpAny_pure (And.intro rfl h0)
  · first
      | exact wpAny_bind (wpAny_rule (wpAny_bind (wpAny_standAt (wpAny_bind (wpAny_mono (h _) (fun it' s' h' => wpAny_pure (And.intro rfl h')) fun _ _ x => x)))))
      | (refine wpAny_bind (wpAny_rule ?_); show wpAny _ _ (standAt i2.pos >>= _) _ _ s; exact wpAny_bind (wpAny_standAt (wpAny_bind (wpAny_mono (h _) (fun it' s' h' => wpAny_pure (And.intro rfl h')) fun _ _ x => x))))
theorem put_1 {o1 o2 : Option MV} {v : MV} (h : l.length = k) : (l ++ [o1, o2]).put k v = l ++ [some v, o2] := by subst h; unfold Loc.put; simp
theorem put_2 {o1 o2 : Option MV} {v : MV} (h : l.length = k) : (l ++ [o1, o2]).put (k + 1) v = l ++ [o1, some v] := by
  subst h; unfold Loc.put
  rw [List.set_append_right _ _ (by omega)]; simp
theorem EnvOK.weak {l' : Loc} (X : EnvOK B A env c l H h) (e : l'.length = l.length) (k : ∀ j u, l'.at j = some u → l.at j = some u) : EnvOK B A env c l' H h := by
  obtain ⟨m, hn, hm⟩ := X.loc
  refine ⟨X.kd, X.nms, X.gl, X.bu, X.ok, ⟨m, hn, fun j y u h1 h2 h3 => hm j y u h1 h2 (k j u h3)⟩, fun y hy => ?_, X.nl, X.nc, X.bl, e.trans X.len, X.ap, X.fr⟩
  obtain ⟨p, v, h1, h2, h3⟩ := X.cell y hy
  exact ⟨p, v, h1, h2, fun j u hj hu => h3 j u hj (k j u hu)⟩
theorem comp_block2 {i1 i2 : Expr} {px py : Pos} {items : List MV} {g : Hp → Prop} {T : Nat → Heap → Prop} {I : Addr} {h1 : Heap} {cl : List (Str × Addr)} {RR : Value → Addr → Result → Shared → Prop}
    (F : ScopeFacts c scope [x, y] gs) (am : Amb A n) (X : EnvOK B A env c l H s.heap) (S : St prog w B H s.heap) (it : Iter prog w B I items g T) (hT : T 0 h1) (hI : s.heap.get? I = none) (hk : ∀ b o, s.heap.get? b = some o → h1.get? b = some o)
    (c1 : ∀ y p, cl.lookup y = some p → env.cells.lookup y = some p) (c2 : ∀ x ∈ scope.names, x.2 = .free → (cl.lookup x.1).isSome = true) (hz : items.length ≤ 1000)
    (ic : SimI prog w B n (compCx c scope [x, y] gs) 1 i2 d1) (ie : SimE prog w B n (compCx c scope [x, y] gs) e d) (hs2 : ∀ env x, foldedSetIterable i2 env x = pure x) (J : Nat → Nat → List MV → Hp → Prop) (j0 : J 0 0 [] H)
    (jt : ∀ i acc H2 v, J i 0 acc H2 → items[i]? = some v → g H2 ∧ d1 (l ++ [some v, none]) (fun b H3 => ∃ m : Int, b = .int m ∧ 0 ≤ m ∧ m ≤ 1000 ∧ J i 0 acc H3 ∧
      (∀ j acc H4, J i j acc H4 → j < m.toNat → d (l ++ [some v, some (.int (j : Int))]) (fun y H5 => J i (j + 1) (acc ++ [y]) H5) H4) ∧
      (∀ acc H4, J i m.toNat acc H4 → J (i + 1) 0 acc H4)) H2)
    (je : ∀ acc H2, J items.length 0 acc H2 → g H2 ∧ alc (.list acc) Post H2)
    (hR : ∀ D C H2 s2, Post (.ref D) H2 → St prog w B H2 s2.heap → Tr B H s H2 s2 → (∃ m, s2.heap.Ns C m) → H2 C = none → s.heap.get? C = none → RR (.ref D) C (.ok .next) s2) :
    wpAny (model prog w) A (newList []) (fun acc s₃ => wpAny (model prog w) A (newFunctionEnv scope env.globals cl [] env.qual none .none (some env)) (fun cenv s₄ =>
      codeAny (model prog w) A (.compStart (.ListComp e [⟨.Name x px, i1, [], 0⟩, ⟨.Name y py, i2, [], 0⟩] scope pos) 0 (.ref I) acc { cenv with scope := relabel scope env }) (RR acc cenv.locals) s₄) E s₃) E { s with heap := h1 } := by
  refine comp_begin (Q := fun acc cenv s₄ => codeAny (model prog w) A (.compStart (.ListComp e [⟨.Name x px, i1, [], 0⟩, ⟨.Name y py, i2, [], 0⟩] scope pos) 0 (.ref I) acc cenv) (RR acc cenv.locals) s₄) F X S hk c1 c2 fun D C h₁ ci fD fC up => ?_
  have hv : (((compCx c scope [x, y] gs).vis)[c.vis.length]?).join = some x := vis_new 0 rfl
  have hv2 : (((compCx c scope [x, y] gs).vis)[c.vis.length + 1]?).join = some y := vis_new 1 rfl
  have hl := comp_loc (gs := gs) F (y := x) (.head _)
  have hl2 := comp_loc (gs := gs) F (y := y) (.tail _ (.head _))
  have ne1 : ∀ p, h1.get? p = none → p ≠ I := fun p q z => by
    obtain ⟨o, e⟩ := it.has 0 h1 hT
    rw [z, e] at q; cases q
  have nI : Away A (compEnvC scope cl C env) I := ⟨(ne1 _ fC).symm, fun y p hp => (X.ne hI).2.1 y p (c1 y p hp), (X.ne hI).2.2⟩
  have lv : Lv T I 0 H { s with heap := h₁ } := ⟨it.frame _ _ _ hT (fun o q => up I o q), S.fresh hI⟩
  have loop : codeAny (model prog w) A (.compLoop (.ListComp e [⟨.Name x px, i1, [], 0⟩, ⟨.Name y py, i2, [], 0⟩] scope pos) 0 (.ref I) (.ref D) (compEnvC scope cl C env)) (RR (.ref D) C) { s with heap := h₁ } := by
    refine loop_out (fun q s2 => ∃ i acc H2 o1 o2, (q = items.length - i ∧ i ≤ items.length ∧ acc.length ≤ 1000 * i) ∧ J i 0 acc H2 ∧ Lv T I i H2 s2 ∧ CI prog w B A (compEnvC scope cl C env) (compCx c scope [x, y] gs) H s D (l ++ [o1, o2]) acc H2 s2) ?_ (hs2 _) items.length
      ⟨0, [], H, none, none, ⟨rfl, Nat.zero_le _, Nat.zero_le _⟩, j0, lv, ci⟩ (fun _ => rfl)
    rintro q s2 ⟨i, acc, H2, o1, o2, ⟨rfl, hi, hlen⟩, hJ, lv, ci⟩ E0
    cases hv' : items[i]? with
    | none =>
      obtain rfl : i = items.length := Nat.le_antisymm hi (List.getElem?_eq_none_iff.mp hv')
      obtain ⟨g2, al⟩ := je acc H2 hJ
      refine it.done A s2 H2 _ _ am.hh lv.t g2 ci.S fun h3 hs3 => ?_
      obtain ⟨z1, z2, z3, z4, z5⟩ := (ci.but (tk := s2.toks) (h' := h3) lv.n hI (S.bnone hI) (ne1 _ fD) nI fun b hb o => hs3 b o hb).done S al
      exact hR D C _ _ z1 z2 z3 z4 z5 (stay_of hk _ fC)
    | some v =>
      obtain ⟨g2, al⟩ := jt i acc H2 v hJ hv'
      have hlt : i < items.length := (List.getElem?_eq_some_iff.mp hv').1
      have st : items.length - (i + 1) < items.length - i := Nat.sub_lt_sub_left hlt (Nat.lt_succ_self _)
      refine it.item A i v s2 H2 _ _ hv' lv.t g2 ci.S fun rv h3 tk erv t3 hs3 => ?_
      refine wpAny_assign_Name ((ci.but (tk := tk) (h' := h3) lv.n hI (S.bnone hI) (ne1 _ fD) nI fun b hb o => hs3.extBut b o hb).store hv hl erv fun h4 tk4 ci4 k4 => ?_)
      have lv4 : Lv T I (i + 1) H2 { s2 with heap := h4, toks := tk4 } := Lv.but (s2 := { s2 with heap := h3, toks := tk }) ⟨t3, lv.n⟩ it nI.1 k4
      rw [put_1 X.len] at ci4
      have X4 := ci4.X.weak (l' := l ++ [some v, none]) (by rw [List.length_append, List.length_append]; rfl) fun j u hj => by
        rcases at_app hj with ⟨h1, h2⟩ | ⟨h1, h2⟩
        · unfold Loc.at at h2 ⊢; rw [List.getElem?_append_left h1]; exact h2
        · unfold Loc.at at h2 ⊢; rw [List.getElem?_append_right h1]
          cases q : j - l.length with
          | zero => rw [q] at h2; exact h2
          | succ q' => rw [q] at h2; cases q' <;> cases h2
      refine ic.ev A _ _ { s2 with heap := h4, toks := tk4 } H2 _ _ _ am X4 ci4.S al (fun a H3 ⟨m, ea, h0, h1, _⟩ => ⟨_, _, .inr (.inl ⟨rfl, m, ea, h0, h1, rfl, rfl⟩)⟩) fun a H3 s5 I5 h5 hp it5 S5 T5 fI5 hk5 => ?_
      obtain ⟨m, ea, h0, h1, hJ3, js, jn⟩ := hp
      obtain ⟨T', it5, hT5, _⟩ := it5 _ _ (.inr (.inl ⟨rfl, m, ea, h0, h1, rfl, rfl⟩))
      have ci5 := ci4.go S5 T5
      have lv5 := lv4.go it T5
      have n5 := ci5.X.ne fI5
      have fI5s : s.heap.get? I5 = none := ci5.T.stay _ fI5
      have gone : ∀ p o, s5.heap.get? p = some o → p ≠ I5 := fun p o e z => by rw [z, fI5] at e; cases e
      obtain ⟨vs5, pl5, _⟩ := ci5.pl
      obtain ⟨oD, eD⟩ := PlainList_here pl5
      obtain ⟨oI, eI⟩ := it.has _ _ lv5.t
      obtain ⟨S5', T5'⟩ := S5.same (h' := h5) (tk := s5.toks) hk5
      have inner : codeAny (model prog w) A (.compLoop (.ListComp e [⟨.Name x px, i1, [], 0⟩, ⟨.Name y py, i2, [], 0⟩] scope pos) 1 (.ref I5) (.ref D) (compEnvC scope cl C env)) (fun r s5 => match r with
        | .ok _ => ∃ m, m < items.length - i ∧ (∃ i acc H2 o1 o2, (m = items.length - i ∧ i ≤ items.length ∧ acc.length ≤ 1000 * i) ∧ J i 0 acc H2 ∧ Lv T I i H2 s5 ∧ CI prog w B A (compEnvC scope cl C env) (compCx c scope [x, y] gs) H s D (l ++ [o1, o2]) acc H2 s5)
        | .error e => cameBackBy (model prog w) A (compEnvC scope cl C env) E0 e s5) { s5 with heap := h5 } := by
        refine loop_in (fun q s6 => ∃ j acc H6 o2, (q = m.toNat - j ∧ j ≤ m.toNat ∧ acc.length ≤ 1000 * i + j) ∧ J i j acc H6 ∧ Lv T I (i + 1) H6 s6 ∧ Lv T' I5 j H6 s6 ∧ CI prog w B A (compEnvC scope cl C env) (compCx c scope [x, y] gs) H s D (l ++ [some v, o2]) acc H6 s6) ?_ m.toNat
          ⟨0, acc, H3, o2, ⟨rfl, Nat.zero_le _, hlen⟩, hJ3, lv5.go it T5', ⟨hT5, S5.fresh fI5⟩, ci5.go S5' T5'⟩ (fun _ => rfl)
        rintro q s6 ⟨j, acc, H6, o2, ⟨rfl, hj, hlen6⟩, hJ, lv6, lw6, ci6⟩ E1
        cases hw : (irange m.toNat)[j]? with
        | none =>
          have hj' : j = m.toNat := Nat.le_antisymm hj (by have := List.getElem?_eq_none_iff.mp hw; rwa [irange_len] at this)
          subst hj'
          refine it5.done A s6 H6 _ _ am.hh (by rw [irange_len]; exact lw6.t) trivial ci6.S fun h7 hs7 => ?_
          have k7 : ∀ b, b ≠ I5 → ∀ o, s6.heap.get? b = some o → h7.get? b = some o := fun b hb o => hs7 b o hb
          exact ⟨_, st, i + 1, acc, H6, some v, o2, ⟨rfl, hlt, by omega⟩, jn acc H6 hJ, lv6.but it (gone _ _ eI) k7, ci6.but (tk := s6.toks) lw6.n fI5s (S.bnone fI5s) (gone _ _ eD) n5 k7⟩
        | some vv =>
          obtain ⟨hjm, rfl⟩ := irange_get hw
          refine it5.item A j _ s6 H6 _ _ hw lw6.t trivial ci6.S fun rv h7 tk7 erv t7 hs7 => ?_
          have k7 : ∀ b, b ≠ I5 → ∀ o, s6.heap.get? b = some o → h7.get? b = some o := fun b hb o => hs7.extBut b o hb
          refine wpAny_assign_Name ((ci6.but (tk := tk7) (h' := h7) lw6.n fI5s (S.bnone fI5s) (gone _ _ eD) n5 k7).store hv2 hl2 erv fun h8 tk8 ci8 k8 => ?_)
          have lv8 := (lv6.but (tk := tk7) it (gone _ _ eI) k7).but (tk := tk8) it nI.1 k8
          have lw8 : Lv T' I5 (j + 1) H6 { s6 with heap := h8, toks := tk8 } := Lv.but (s2 := { s6 with heap := h7, toks := tk7 }) ⟨t7, lw6.n⟩ it5 n5.1 k8
          rw [put_2 X.len] at ci8
          refine ie.ev A _ _ { s6 with heap := h8, toks := tk8 } H6 _ _ _ am ci8.X ci8.S (js j acc H6 hJ hjm) fun ry y' H9 s9 ey hy S9 T9 => ?_
          refine (ci8.go S9 T9).app ey (by omega) fun h10 ci10 k10 => ?_
          exact ⟨_, Nat.sub_lt_sub_left hjm (Nat.lt_succ_self _), j + 1, acc ++ [y'], H9, some (.int j), ⟨rfl, hjm, by rw [List.length_append]; exact Nat.succ_le_succ hlen6⟩, hy, (lv8.go it T9).but it (ne1 _ fD).symm k10, (lw8.go it5 T9).but it5 (gone _ _ eD).symm k10, ci10⟩
      exact start_in inner fun E1 => it5.self A 0 _ _ _ hT5 inner
  exact codeAny_compStart_list loop (it.self A 0 _ _ _ lv.t loop)
end
end Mine
end
section
open PySem PySem.W PyProof.Rows PySem.Calls PySem.Spec
open Classical
namespace Mine
open PySem.SeqAt
section
variable {prog : Program} {w : World} {K : Frag} {mg mb : Str → Option Value} {B : Heap} {A : Around} {E : Value → Shared → Prop} {s s' s'' s0 : Shared} {H H' H'' H0 : Hp} {a b u : MV} {ra rb ru : Value} {n m k : Nat}
  {Post : MV → Hp → Prop} {env : Env} {c : Cx} {l : Loc} {h h' : Heap} {C : Addr}
  {e e1 e2 e3 : Expr} {d d1 d2 d3 : Den} {t t1 t2 : DenT} {pos spos : Pos} {x y z : Str} {es : List Expr} {ds : DenL} {scope : Scope} {xs gs : List Str} {r : Nat} {R : Result → Shared → Prop}
theorem sims_asgC2 (gs : List Str) (k : Nat) (hx : (c.vis[k]?).join = some z) (ok : scopeOK c scope [x, y] gs = true) {i1 i2 : Expr} {px py pz : Pos}
    (ii : SimI prog w B n c 0 i1 d1) (ic : SimI prog w B n (compCx c scope [x, y] gs) 1 i2 d2) (ie : SimE prog w B n (compCx c scope [x, y] gs) e d)
    (hs : ∀ env x, foldedSetIterable i1 env x = pure x) (hs2 : ∀ env x, foldedSetIterable i2 env x = pure x)
    (hsw : ∀ env, env.scope.kind = .function → env.scope.names = c.nm → swapsWith (.ListComp e [⟨.Name x px, i1, [], 0⟩, ⟨.Name y py, i2, [], 0⟩] scope pos) (some (.Name z pz)) spos.line env = pure true) :
    SimS prog w B n c (.Assign [.Name z pz] (.ListComp e [⟨.Name x px, i1, [], 0⟩, ⟨.Name y py, i2, [], 0⟩] scope pos) spos) (sAsg (gV k) (dComp2 d1 d2 d)) := .mk fun A env l s H P Q E am X S h q => by
  have F := scope_facts ok
  obtain ⟨cl, hcl, c1, c2⟩ := closure_for X F
  rw [exec_Assign_Name_used _ _ _ _ (hsw env X.kd X.nms)]
  refine wpAny_bind (wpAny_standAt (wpAny_bind ?_))
  show wpAny _ A (do let _ ← comprehension (.ListComp e [⟨.Name x px, i1, [], 0⟩, ⟨.Name y py, i2, [], 0⟩] scope pos) scope env _ (newList []) false (eval i1 env) (some (assign (.Name z pz) env))) _ _ s
  refine wpAny_bind (wpAny_mono (wpAny_comprehension_free (use := some (assign (.Name z pz) env)) (Q := fun _ s' => Q .next s') rfl (fun x => hs env x) hcl F.kd F.loc ?_) (fun _ s' hq => wpAny_pure (wpAny_pure hq)) fun _ _ e => e)
  refine ii.ev A env l s H _ _ E am X S h (fun a H1 ⟨items, g, z, _⟩ => ⟨items, g, z⟩) fun a H1 s1 I h1 hp it S1 T1 fI hk => ?_
  obtain ⟨items, gg, src, J, j0, jt, je⟩ := hp
  obtain ⟨T, it, hT, hg⟩ := it items gg src
  refine comp_block2 (s := s1) (RR := fun acc C => compPost (model prog w) A E (some (assign (.Name z pz) env)) (fun _ s' => Q .next s') acc C) F am (X.go T1) S1 it hT fI hk c1 c2 (src_len src) ic ie hs2 J j0 jt je fun D C H2 s2 hp S2 T2 hn hC fC => ?_
  obtain ⟨m, hn⟩ := hn
  have X2 := (X.go T1).go T2
  show wpAny _ A (assign (.Name z pz) env (.ref D)) _ _ _
  have nC := (X.go T1).ne fC
  refine wpAny_assign_Name (store_any (ru := .ref D) (u := .ref D) (P := P .nx) X2 S2 hx rfl hp fun l' H' s' hp X' S' T' => ?_)
  obtain ⟨o, ho⟩ := Ns_here hn
  have HC' := T'.nn hC ho
  refine ⟨m, Sl.ns hn fun o e => T'.ext C o ⟨nC.1, nC.2.1⟩ (none_own hC) e, fun h' hs' => ?_⟩
  have k3 : ∀ b, b ≠ C → ∀ o, s'.heap.get? b = some o → h'.get? b = some o := fun b hb o e => hs'.extBut b o hb e
  exact q .nx .next l' H' _ trivial hp (X'.same nC k3) (S'.but HC' (S1.bnone fC) k3) (T1.thenL ((T2.thenL T').but (tk := s'.toks) (.inr fC) ⟨o, .inr fC⟩ k3))
end
end Mine
end
section
open PySem PySem.W PyProof.Rows PySem.Calls PySem.Spec
open Classical
namespace Mine
/-- the k-th statement of the top, and what a def there holds -/
noncomputable def stm (k : Nat) : Stmt := (PySem.Challenge.pw_xw0002_01.main.body[k]?).getD (.Pass ⟨0, 0, 0, 0⟩)
noncomputable def pa : Stmt → Arguments
  | .FunctionDef _ a _ _ _ _ _ _ _ _ => a
  | _ => ⟨[], [], none, [], [], none, []⟩
noncomputable def bd : Stmt → List Stmt
  | .FunctionDef _ _ b _ _ _ _ _ _ _ => b
  | .ClassDef _ _ _ b _ _ _ _ _ _ _ => b
  | _ => []
noncomputable def sc : Stmt → Scope
  | .FunctionDef _ _ _ _ _ _ s _ _ _ => s
  | _ => ⟨.function, [], false, false, []⟩
def HasFn (mg : Str → Option Value) (B : Heap) (x : Str) (k : Nat) : Prop :=
  ∃ f o pm code doc, mg x = some (.ref f) ∧ B.get? f = some o ∧ o.data = .func (docDef x (pa (stm k)) (bd (stm k)) (sc (stm k)) pm code doc) ∧ B.CodeRec code x
section
variable {prog : Program} {w : World} {K : Frag} {mg mb : Str → Option Value} {B : Heap} {n : Nat} {c : Cx} {D : DenS} {ps : List Str} {x : Str} {k : Nat}
theorem fun_of {more : List (Option Str)} (G : Gnd w K mg mb B) (h : HasFn mg B x k) (hn : (sc (stm k)).names = c.nm) (hk : (sc (stm k)).kind = .function ∧ (sc (stm k)).isCoroutine = false ∧ (sc (stm k)).isGenerator = false)
    (hb : ∀ pm code doc rvs, rvs.length = ps.length → bindArgs (docDef x (pa (stm k)) (bd (stm k)) (sc (stm k)) pm code doc) ⟨rvs, []⟩ = pure (ps.zip rvs)) (hv : c.vis = ps.map some ++ more) (ok : c.ok = true)
    (i : SimSs prog w B n c (bd (stm k)) D) : FunG prog w mg B (n + 1) x (fun vs P H => vs.length = ps.length ∧ D (vs.map some ++ more.map fun _ => none) (fun fl l H => P (retOf fl) H) H) := by
  obtain ⟨f, o, pm, code, doc, h1, h2, h3, h4⟩ := h
  exact fun_sim G h1 ⟨o, _, h2, ⟨h3, h4, rfl, rfl, rfl, rfl, hn, hk.2.1, hk.2.2, hk.1, fun rvs hr => hb pm code doc rvs hr⟩⟩ hv ok i
end
end Mine
end
section
open PySem PySem.W PyProof.Rows PySem.Calls PySem.Spec
open Classical
namespace Mine
/-- what was there stays -/
def Kp (H H' : Hp) : Prop := ∀ a o, H a = some o → H' a = some o
theorem Kp.refl {H : Hp} : Kp H H := fun _ _ h => h
theorem Kp.trans {H H' H'' : Hp} (x : Kp H H') (y : Kp H' H'') : Kp H H'' := fun a o h => y a o (x a o h)
theorem Kp.add {H : Hp} {a : Addr} {o : MObj} (h : H a = none) : Kp H (upd H a o) := fun b m e => by rw [upd_ne (fun z => by rw [z, h] at e; cases e)]; exact e
theorem Kp.nn {H H' : Hp} (x : Kp H H') {a : Addr} (h : H' a = none) : H a = none := by
  cases q : H a with
  | none => rfl
  | some o => have := x a o q; rw [h] at this; cases this
theorem Kp.set {H H' : Hp} {a : Addr} {o : MObj} (x : Kp H H') (h : H a = none) : Kp H (upd H' a o) := fun b m e => by rw [upd_ne (fun z => by rw [z, h] at e; cases e)]; exact x b m e
/-- the 24 attributes of a type -/
noncomputable def tyF (f : Nat → MV) : List (Nat × MV) := (List.range 24).map fun i => (i, f i)
noncomputable def setf (f : Nat → MV) (c : Nat) (u : MV) : Nat → MV := fun i => if i = c then u else f i
theorem look_map (f : Nat → MV) (c : Nat) : ∀ l : List Nat, c ∈ l → (l.map fun i => (i, f i)).lookup c = some (f c)
  | a :: l, h => by
    rw [List.map_cons, List.lookup_cons]
    by_cases q : c = a
    · rw [show (c == a) = true from beq_iff_eq.mpr q, q]
    · rw [show (c == a) = false from beq_eq_false_iff_ne.mpr q]
      exact look_map f c l ((List.mem_cons.mp h).resolve_left q)
theorem put_map (f : Nat → MV) (c : Nat) (u : MV) : ∀ l : List Nat, l.Nodup → c ∈ l → putF (l.map fun i => (i, f i)) c u = l.map fun i => (i, setf f c u i)
  | a :: l, hn, h => by
    rw [List.nodup_cons] at hn
    rw [List.map_cons, List.map_cons]
    unfold putF
    by_cases q : a = c
    · subst q
      rw [if_pos rfl]
      congr 1
      · unfold setf; rw [if_pos rfl]
      · refine List.map_congr_left fun i hi => ?_
        unfold setf; rw [if_neg (fun (z : i = a) => hn.1 (z ▸ hi))]
    · rw [if_neg q, put_map f c u l hn.2 ((List.mem_cons.mp h).resolve_left (Ne.symm q))]
      congr 1
      unfold setf; rw [if_neg q]
theorem tyF_get {f : Nat → MV} {c : Nat} (h : c < 24) : (tyF f).lookup c = some (f c) := look_map f c _ (List.mem_range.mpr h)
theorem tyF_put {f : Nat → MV} {c : Nat} {u : MV} (h : c < 24) : putF (tyF f) c u = tyF (setf f c u) := put_map f c u _ List.nodup_range (List.mem_range.mpr h)
structure Ty (H : Hp) (p d : Addr) (f : Nat → MV) : Prop where
  i : H p = some (.inst 89 d)
  e : H d = some (.fld (tyF f))
theorem Ty.at {H : Hp} {p d : Addr} {f : Nat → MV} (x : Ty H p d f) {c : Nat} (h : c < 24) {u : MV} (hu : f c = u) : AttrAt H (.ref p) c u := ⟨p, 89, d, tyF f, rfl, x.i, x.e, hu ▸ tyF_get h⟩
theorem Ty.kp {H H' : Hp} {p d : Addr} {f : Nat → MV} (x : Ty H p d f) (k : Kp H H') : Ty H' p d f := ⟨k _ _ x.i, k _ _ x.e⟩
theorem Ty.ne {H : Hp} {p d : Addr} {f : Nat → MV} (x : Ty H p d f) : p ≠ d := fun z => by have := x.i; rw [z, x.e] at this; cases this
theorem Ty.set {H : Hp} {p d : Addr} {f : Nat → MV} (x : Ty H p d f) {c : Nat} (h : c < 24) {u : MV} {P : Hp → Prop} (k : Ty (upd H d (.fld (tyF (setf f c u)))) p d (setf f c u) → P (upd H d (.fld (tyF (setf f c u))))) : setAttrP (.ref p) c u P H := by
  refine ⟨p, 89, d, tyF f, rfl, x.i, x.e, by unfold tyF; rw [List.length_map, List.length_range]; decide, ?_⟩
  rw [tyF_put h]
  exact k ⟨by rw [upd_ne x.ne]; exact x.i, upd_same⟩
/-! the classes -/
noncomputable def φ_Type : Fn := fun vs P H => ∃ k nm, vs = [k, nm] ∧ ∀ p d f H', Kp H H' → H p = none → H d = none → Ty H' p d f → f 0 = k → f 3 = .non → f 14 = .non → (∃ o, f 23 = .ref o ∧ H o = none ∧ H' o = some (.dict [])) → P (.ref p) H'
noncomputable def φ_Subtype : Fn := fun vs P H => ∃ a b, vs = [a, b] ∧ ∀ p H', Kp H H' → P (.ref p) H'
theorem put_new (f : Nat → MV) (c : Nat) (u : MV) : ∀ l : List Nat, c ∉ l → putF (l.map fun i => (i, f i)) c u = (l ++ [c]).map fun i => (i, setf f c u i)
  | [], _ => by
    show [(c, u)] = [(c, setf f c u c)]
    unfold setf; rw [if_pos rfl]
  | a :: l, h => by
    rw [List.mem_cons, not_or] at h
    rw [List.cons_append, List.map_cons, List.map_cons]
    unfold putF
    rw [if_neg (Ne.symm h.1), put_new f c u l h.2]
    congr 1
    unfold setf; rw [if_neg (Ne.symm h.1)]
/-- a young object at p with its dict at q, of which the attributes below n are laid -/
structure Yng (H0 H : Hp) (p q : Addr) (n : Nat) (f : Nat → MV) : Prop where
  i : H p = some (.inst 89 q)
  e : H q = some (.fld ((List.range n).map fun i => (i, f i)))
  k : Kp H0 H
  q : H0 q = none
theorem Yng.set {H0 H : Hp} {p q : Addr} {n : Nat} {f : Nat → MV} {u : MV} {P : Hp → Prop} (x : Yng H0 H p q n f) (hz : n ≤ 100) (k : ∀ H', Yng H0 H' p q (n + 1) (setf f n u) → (∀ a, a ≠ q → H' a = H a) → P H') : setAttrP (.ref p) n u P H := by
  obtain ⟨h1, h2, h3, h4⟩ := x
  have ne : p ≠ q := fun z => by rw [z, h2] at h1; cases h1
  refine ⟨p, 89, q, _, rfl, h1, h2, by rw [List.length_map, List.length_range]; exact hz, k _ ⟨by rw [upd_ne ne]; exact h1, ?_, h3.set h4, h4⟩ fun a ha => upd_ne ha⟩
  rw [upd_same, put_new f n u _ (fun z => Nat.lt_irrefl _ (List.mem_range.mp z)), List.range_succ]
theorem Yng.add {H0 H : Hp} {p q a : Addr} {n : Nat} {f : Nat → MV} {o : MObj} (x : Yng H0 H p q n f) (h : H a = none) : Yng H0 (upd H a o) p q n f := ⟨Kp.add h _ _ x.i, Kp.add h _ _ x.e, x.k.trans (Kp.add h), x.q⟩
noncomputable abbrev D_Type : DenS := sSeq (sAsg (gAttr (dV 0) 0) (dV 1)) (sSeq (sAsg (gAttr (dV 0) 1) (dV 2)) (sSeq (sAsg (gAttr (dV 0) 2) (dK (.int 0))) (sSeq (sAsg (gAttr (dV 0) 3) (dK .non)) (sSeq (sAsg (gAttr (dV 0) 4) (dK .non)) (sSeq (sAsg (gAttr (dV 0) 5) (dK .non)) (sSeq (sAsg (gAttr (dV 0) 6) (dList (lN))) (sSeq (sAsg (gAttr (dV 0) 7) (dK (.int 0))) (sSeq (sAsg (gAttr (dV 0) 8) (dTup (lC (dK (.int 1)) (lC (dK (.int 1)) (lN))))) (sSeq (sAsg (gAttr (dV 0) 9) (dList (lN))) (sSeq (sAsg (gAttr (dV 0) 10) (dK .non)) (sSeq (sAsg (gAttr (dV 0) 11) (dK (.bool true))) (sSeq (sAsg (gAttr (dV 0) 12) (dList (lN))) (sSeq (sAsg (gAttr (dV 0) 13) (dList (lN))) (sSeq (sAsg (gAttr (dV 0) 14) (dK .non)) (sSeq (sAsg (gAttr (dV 0) 15) (dK .non)) (sSeq (sAsg (gAttr (dV 0) 16) (dK (.bool false))) (sSeq (sAsg (gAttr (dV 0) 17) (dK .non)) (sSeq (sAsg (gAttr (dV 0) 18) (dK (.bool false))) (sSeq (sAsg (gAttr (dV 0) 19) (dK (.bool false))) (sSeq (sAsg (gAttr (dV 0) 20) (dK (.bool false))) (sSeq (sAsg (gAttr (dV 0) 21) (dK (.bool false))) (sSeq (sAsg (gAttr (dV 0) 22) (dK (.bool false))) (sSeq (sAsg (gAttr (dV 0) 23) (dDct)) (sNil))))))))))))))))))))))))
noncomputable abbrev D_Subtype : DenS := sSeq (sAsg (gAttr (dV 0) 24) (dV 1)) (sSeq (sAsg (gAttr (dV 0) 25) (dV 2)) (sNil))
theorem c_Type {vs : List MV} {P : MV → Hp → Prop} {H : Hp} (h : φ_Type vs P H) : vs.length + 1 = 3 ∧ ∀ q p, q ≠ p → H q = none → H p = none →
    D_Type ((.ref p :: vs).map some ++ []) (fun fl l H => retOf fl = .non ∧ P (.ref p) H) (upd (upd H q (.fld [])) p (.inst 89 q)) := by
  obtain ⟨k, nm, rfl, h⟩ := h
  refine ⟨rfl, fun q p hn hq hp => ?_⟩
  have x : Yng H (upd (upd H q (.fld [])) p (.inst 89 q)) p q 0 (fun _ => .non) := ⟨upd_same, by rw [upd_ne hn]; exact upd_same, ((Kp.refl).set hq).set hp, hq⟩
  revert x
  generalize upd (upd H q (.fld [])) p (.inst 89 q) = H1
  intro x
  refine ⟨_, rfl, .ref p, rfl, x.set (Nat.le_of_ble_eq_true rfl) fun H1 x _ => ?_⟩
  refine ⟨_, rfl, .ref p, rfl, x.set (Nat.le_of_ble_eq_true rfl) fun H1 x _ => ?_⟩
  refine ⟨.ref p, rfl, x.set (Nat.le_of_ble_eq_true rfl) fun H1 x _ => ?_⟩
  refine ⟨.ref p, rfl, x.set (Nat.le_of_ble_eq_true rfl) fun H1 x _ => ?_⟩
  refine ⟨.ref p, rfl, x.set (Nat.le_of_ble_eq_true rfl) fun H1 x _ => ?_⟩
  refine ⟨.ref p, rfl, x.set (Nat.le_of_ble_eq_true rfl) fun H1 x _ => ?_⟩
  refine ⟨Nat.le_of_ble_eq_true rfl, fun a ha => ⟨.ref p, rfl, (x.add ha).set (Nat.le_of_ble_eq_true rfl) fun H1 x _ => ?_⟩⟩
  refine ⟨.ref p, rfl, x.set (Nat.le_of_ble_eq_true rfl) fun H1 x _ => ?_⟩
  refine ⟨Nat.le_of_ble_eq_true rfl, fun a ha => ⟨.ref p, rfl, (x.add ha).set (Nat.le_of_ble_eq_true rfl) fun H1 x _ => ?_⟩⟩
  refine ⟨Nat.le_of_ble_eq_true rfl, fun a ha => ⟨.ref p, rfl, (x.add ha).set (Nat.le_of_ble_eq_true rfl) fun H1 x _ => ?_⟩⟩
  refine ⟨.ref p, rfl, x.set (Nat.le_of_ble_eq_true rfl) fun H1 x _ => ?_⟩
  refine ⟨.ref p, rfl, x.set (Nat.le_of_ble_eq_true rfl) fun H1 x _ => ?_⟩
  refine ⟨Nat.le_of_ble_eq_true rfl, fun a ha => ⟨.ref p, rfl, (x.add ha).set (Nat.le_of_ble_eq_true rfl) fun H1 x _ => ?_⟩⟩
  refine ⟨Nat.le_of_ble_eq_true rfl, fun a ha => ⟨.ref p, rfl, (x.add ha).set (Nat.le_of_ble_eq_true rfl) fun H1 x _ => ?_⟩⟩
  refine ⟨.ref p, rfl, x.set (Nat.le_of_ble_eq_true rfl) fun H1 x _ => ?_⟩
  refine ⟨.ref p, rfl, x.set (Nat.le_of_ble_eq_true rfl) fun H1 x _ => ?_⟩
  refine ⟨.ref p, rfl, x.set (Nat.le_of_ble_eq_true rfl) fun H1 x _ => ?_⟩
  refine ⟨.ref p, rfl, x.set (Nat.le_of_ble_eq_true rfl) fun H1 x _ => ?_⟩
  refine ⟨.ref p, rfl, x.set (Nat.le_of_ble_eq_true rfl) fun H1 x _ => ?_⟩
  refine ⟨.ref p, rfl, x.set (Nat.le_of_ble_eq_true rfl) fun H1 x _ => ?_⟩
  refine ⟨.ref p, rfl, x.set (Nat.le_of_ble_eq_true rfl) fun H1 x _ => ?_⟩
  refine ⟨.ref p, rfl, x.set (Nat.le_of_ble_eq_true rfl) fun H1 x _ => ?_⟩
  refine ⟨.ref p, rfl, x.set (Nat.le_of_ble_eq_true rfl) fun H1 x _ => ?_⟩
  refine fun a ha => ⟨.ref p, rfl, (x.add ha).set (Nat.le_of_ble_eq_true rfl) fun H2 x2 e => ?_⟩
  have na : a ≠ q := fun z => by have := x.e; rw [← z, ha] at this; cases this
  exact ⟨rfl, h p q _ H2 x2.k hp hq ⟨x2.i, x2.e⟩ rfl rfl rfl ⟨a, rfl, x.k.nn ha, by rw [e a na, upd_same]⟩⟩
theorem c_Subtype {vs : List MV} {P : MV → Hp → Prop} {H : Hp} (h : φ_Subtype vs P H) : vs.length + 1 = 3 ∧ ∀ q p, q ≠ p → H q = none → H p = none →
    D_Subtype ((.ref p :: vs).map some ++ []) (fun fl l H => retOf fl = .non ∧ P (.ref p) H) (upd (upd H q (.fld [])) p (.inst 110 q)) := by
  obtain ⟨k, nm, rfl, h⟩ := h
  refine ⟨rfl, fun q p hn hq hp => ?_⟩
  have e1 : ∀ o, upd (upd (upd H q (.fld [])) p (.inst 110 q)) q o p = some (.inst 110 q) := fun o => by rw [upd_ne hn.symm, upd_same]
  refine ⟨_, rfl, .ref p, rfl, p, 110, q, [], rfl, upd_same, by rw [upd_ne hn, upd_same], Nat.zero_le _, _, rfl, .ref p, rfl, p, 110, q, _, rfl, e1 _, upd_same, Nat.le_of_ble_eq_true rfl, rfl, h p _ ?_⟩
  exact ((((Kp.refl).set hq).set hp).set hq).set hq
end Mine
end
section
open PySem PySem.W PyProof.Rows PySem.Calls PySem.Spec
open Classical
namespace Mine
theorem Ty.other {H : Hp} {p d a : Addr} {f : Nat → MV} {o m : MObj} (x : Ty H p d f) (h : H a = some o) (n : ∀ fs, o ≠ .fld fs) : upd H d m a = some o := by
  rw [upd_ne fun z => by have := x.e; rw [← z, h] at this; exact n _ (Option.some.inj this)]; exact h
noncomputable def φ_int_type : Fn := fun vs P H => ∃ a b c, vs = [a, b, c] ∧ ∀ p H', Kp H H' → P (.ref p) H'
noncomputable abbrev D_int_type : DenS := sSeq (sAsg (gV 3) (dCall φ_Type (lC (dK (.str "int")) (lC (dV 0) (lN))))) (sSeq (sAsg (gAttr (dV 3) 4) (dV 1)) (sSeq (sAsg (gAttr (dV 3) 5) (dV 2)) (sSeq (sRet (dV 3)) (sNil))))
theorem c_int_type {vs : List MV} {P : MV → Hp → Prop} {H : Hp} (h : φ_int_type vs P H) : vs.length = 3 ∧ D_int_type (vs.map some ++ [none]) (fun fl l H => P (retOf fl) H) H := by
  obtain ⟨a, b, c, rfl, h⟩ := h
  refine ⟨rfl, _, rfl, _, _, rfl, fun p d f H1 k hp hd x _ _ _ _ => ?_⟩
  refine ⟨_, rfl, _, rfl, x.set (by decide) fun x => ?_⟩
  refine ⟨_, rfl, _, rfl, x.set (by decide) fun x => ?_⟩
  exact ⟨_, rfl, h p _ ((k.set hd).set hd)⟩
/-- all but instances' dicts stays -/
def Sy (H H' : Hp) : Prop := ∀ a o, (∀ fs, o ≠ .fld fs) → H a = some o → H' a = some o
theorem Sy.trans {H H' H'' : Hp} (x : Sy H H') (y : Sy H' H'') : Sy H H'' := fun a o n h => y a o n (x a o n h)
theorem Kp.sy {H H' : Hp} (x : Kp H H') : Sy H H' := fun a o _ h => x a o h
theorem Sy.list {H H' : Hp} (x : Sy H H') {a : Addr} {xs : List MV} (h : H a = some (.list xs)) : H' a = some (.list xs) := x _ _ (fun _ z => nomatch z) h
theorem Sy.dict {H H' : Hp} (x : Sy H H') {a : Addr} {xs : List (Str × MV)} (h : H a = some (.dict xs)) : H' a = some (.dict xs) := x _ _ (fun _ z => nomatch z) h
/-- a type under the hand: it was not in H -/
structure Mk (H H' : Hp) (p d : Addr) (f : Nat → MV) : Prop where
  kp : Kp H H'
  fp : H p = none
  fd : H d = none
  ty : Ty H' p d f
theorem Mk.set {H H' : Hp} {p d : Addr} {f : Nat → MV} (x : Mk H H' p d f) {c : Nat} (h : c < 24) {u : MV} {P : Hp → Prop} (k : ∀ H'', Mk H H'' p d (setf f c u) → Sy H' H'' → P H'') : setAttrP (.ref p) c u P H' :=
  x.ty.set h fun y => k _ ⟨x.kp.set x.fd, x.fp, x.fd, y⟩ fun a o n e => x.ty.other e n
theorem Mk.add {H H' : Hp} {p d a : Addr} {f : Nat → MV} {m : MObj} (x : Mk H H' p d f) (h : H' a = none) : Mk H (upd H' a m) p d f := ⟨x.kp.trans (Kp.add h), x.fp, x.fd, x.ty.kp (Kp.add h)⟩
/-- what every type made here is -/
structure Made (H H' : Hp) (p d : Addr) (f : Nat → MV) (cs : List MV) (es : List (Str × MV)) : Prop where
  m : Mk H H' p d f
  kd : f 0 = .str "record"
  va : f 14 = .non
  di : ∃ a, f 12 = .ref a ∧ H' a = some (.list [])
  co : ∃ a, f 13 = .ref a ∧ H' a = some (.list cs)
  op : ∃ o, f 23 = .ref o ∧ H o = none ∧ H' o = some (.dict es)
noncomputable def φ_record_type : Fn := fun vs P H => ∃ nm pd pc cs, vs = [nm, .ref pd, .ref pc, .non] ∧ H pd = some (.list []) ∧ H pc = some (.list cs) ∧ cs.length ≤ 100 ∧
  ∀ p d f H', Made H H' p d f cs [] → f 3 = .non → P (.ref p) H'
noncomputable abbrev D_record_type : DenS := sSeq (sAsg (gV 4) (dCall φ_Type (lC (dK (.str "record")) (lC (dV 0) (lN))))) (sSeq (sAsg (gAttr (dV 4) 12) (dLst (dV 1))) (sSeq (sAsg (gAttr (dV 4) 13) (dLst (dV 2))) (sSeq (sAsg (gAttr (dV 4) 14) (dV 3)) (sSeq (sAsg (gAttr (dV 4) 11) (dCmp .Eq (dV 1) (dList (lN)))) (sSeq (sRet (dV 4)) (sNil))))))
theorem c_record_type {vs : List MV} {P : MV → Hp → Prop} {H : Hp} (h : φ_record_type vs P H) : vs.length = 4 ∧ D_record_type (vs.map some ++ [none]) (fun fl l H => P (retOf fl) H) H := by
  obtain ⟨nm, pd, pc, cs, rfl, h1, h2, hz, h⟩ := h
  refine ⟨rfl, _, rfl, _, _, rfl, fun p d f H1 k hp hd x e0 e3 e14 ⟨o, o1, o2, o3⟩ => ?_⟩
  have x : Mk H H1 p d f := ⟨k, hp, hd, x⟩
  refine ⟨_, rfl, pd, [], rfl, k _ _ h1, Nat.zero_le _, fun a ha => ⟨_, rfl, (x.add ha).set (by decide) fun H3 x s3 => ?_⟩⟩
  have y3 := (Kp.add ha).sy.trans s3
  refine ⟨_, rfl, pc, cs, rfl, y3.list (k _ _ h2), by omega, fun b hb => ⟨_, rfl, (x.add hb).set (by decide) fun H5 x s5 => ?_⟩⟩
  have y5 := (Kp.add hb).sy.trans s5
  refine ⟨_, rfl, _, rfl, x.set (by decide) fun H6 x s6 => ?_⟩
  refine ⟨_, rfl, Nat.zero_le _, fun e he => ⟨_, .eq (.ll (Kp.add he _ _ (s6.list (y5.list (y3.list (k _ _ h1))))) upd_same rfl (fun _ z => nomatch z) (fun _ z => nomatch z)), _, rfl, (x.add he).set (by decide) fun H8 x s8 => ?_⟩⟩
  have y8 := (Kp.add he).sy.trans s8
  refine ⟨_, rfl, h p d _ H8 ⟨x, e0, rfl, ⟨a, rfl, y8.list (s6.list (y5.list (s3.list upd_same)))⟩, ⟨b, rfl, y8.list (s6.list (s5.list upd_same))⟩, ⟨o, o1, o2, y8.dict (s6.dict (y5.dict (y3.dict o3)))⟩⟩ e3⟩
end Mine
end
section
open PySem PySem.W PyProof.Rows PySem.Calls PySem.Spec
open Classical
namespace Mine
noncomputable def φ_derived_type : Fn := fun vs P H => ∃ pp pd fp nm cs es, vs = [.ref pp, nm] ∧ Ty H pp pd fp ∧ fp 0 = .str "record" ∧ fp 14 = .non ∧ (∃ a, fp 12 = .ref a ∧ H a = some (.list [])) ∧ (∃ a, fp 13 = .ref a ∧ H a = some (.list cs)) ∧
  (∃ o, fp 23 = .ref o ∧ H o = some (.dict es)) ∧ es.length ≤ 100 ∧ ∀ p d f H', Made H H' p d f cs es → f 3 = .ref pp → f 16 = fp 16 → P (.ref p) H'
noncomputable abbrev D_derived_type : DenS := sSeq (sAsg (gV 2) (dCall φ_Type (lC (dAttr (dV 0) 0) (lC (dV 1) (lN))))) (sSeq (sAsg (gAttr (dV 2) 3) (dV 0)) (sSeq (sAsg (gAttr (dV 2) 4) (dAttr (dV 0) 4)) (sSeq (sAsg (gAttr (dV 2) 5) (dAttr (dV 0) 5)) (sSeq (sAsg (gAttr (dV 2) 6) (dAttr (dV 0) 6)) (sSeq (sAsg (gAttr (dV 2) 7) (dAttr (dV 0) 7)) (sSeq (sAsg (gAttr (dV 2) 8) (dAttr (dV 0) 8)) (sSeq (sAsg (gAttr (dV 2) 9) (dAttr (dV 0) 9)) (sSeq (sAsg (gAttr (dV 2) 10) (dAttr (dV 0) 10)) (sSeq (sAsg (gAttr (dV 2) 11) (dAttr (dV 0) 11)) (sSeq (sAsg (gAttr (dV 2) 12) (dAttr (dV 0) 12)) (sSeq (sAsg (gAttr (dV 2) 13) (dAttr (dV 0) 13)) (sSeq (sAsg (gAttr (dV 2) 14) (dAttr (dV 0) 14)) (sSeq (sAsg (gAttr (dV 2) 15) (dAttr (dV 0) 15)) (sSeq (sAsg (gAttr (dV 2) 21) (dAttr (dV 0) 21)) (sSeq (sAsg (gAttr (dV 2) 16) (dAttr (dV 0) 16)) (sSeq (sAsg (gAttr (dV 2) 18) (dAttr (dV 0) 18)) (sSeq (sAsg (gAttr (dV 2) 23) (dDic (dAttr (dV 0) 23))) (sSeq (sRet (dV 2)) (sNil)))))))))))))))))))
theorem c_derived_type {vs : List MV} {P : MV → Hp → Prop} {H : Hp} (h : φ_derived_type vs P H) : vs.length = 2 ∧ D_derived_type (vs.map some ++ [none]) (fun fl l H => P (retOf fl) H) H := by
  obtain ⟨pp, pd, fp, nm, cs, es, rfl, T, e0, e14, ⟨a, a1, a2⟩, ⟨b, b1, b2⟩, ⟨o, o1, o2⟩, hz, h⟩ := h
  refine ⟨rfl, _, rfl, _, T.at (by decide) e0, _, rfl, _, _, rfl, fun p d f H1 k hp hd x f0 _ _ _ => ?_⟩
  have x : Mk H H1 p d f := ⟨k, hp, hd, x⟩
  refine ⟨_, rfl, _, rfl, x.set (by decide) fun H1 x _ => ?_⟩
  refine ⟨_, rfl, _, (T.kp x.kp).at (by decide) rfl, _, rfl, x.set (by decide) fun H1 x _ => ?_⟩
  refine ⟨_, rfl, _, (T.kp x.kp).at (by decide) rfl, _, rfl, x.set (by decide) fun H1 x _ => ?_⟩
  refine ⟨_, rfl, _, (T.kp x.kp).at (by decide) rfl, _, rfl, x.set (by decide) fun H1 x _ => ?_⟩
  refine ⟨_, rfl, _, (T.kp x.kp).at (by decide) rfl, _, rfl, x.set (by decide) fun H1 x _ => ?_⟩
  refine ⟨_, rfl, _, (T.kp x.kp).at (by decide) rfl, _, rfl, x.set (by decide) fun H1 x _ => ?_⟩
  refine ⟨_, rfl, _, (T.kp x.kp).at (by decide) rfl, _, rfl, x.set (by decide) fun H1 x _ => ?_⟩
  refine ⟨_, rfl, _, (T.kp x.kp).at (by decide) rfl, _, rfl, x.set (by decide) fun H1 x _ => ?_⟩
  refine ⟨_, rfl, _, (T.kp x.kp).at (by decide) rfl, _, rfl, x.set (by decide) fun H1 x _ => ?_⟩
  refine ⟨_, rfl, _, (T.kp x.kp).at (by decide) rfl, _, rfl, x.set (by decide) fun H1 x _ => ?_⟩
  refine ⟨_, rfl, _, (T.kp x.kp).at (by decide) rfl, _, rfl, x.set (by decide) fun H1 x _ => ?_⟩
  refine ⟨_, rfl, _, (T.kp x.kp).at (by decide) rfl, _, rfl, x.set (by decide) fun H1 x _ => ?_⟩
  refine ⟨_, rfl, _, (T.kp x.kp).at (by decide) rfl, _, rfl, x.set (by decide) fun H1 x _ => ?_⟩
  refine ⟨_, rfl, _, (T.kp x.kp).at (by decide) rfl, _, rfl, x.set (by decide) fun H1 x _ => ?_⟩
  refine ⟨_, rfl, _, (T.kp x.kp).at (by decide) rfl, _, rfl, x.set (by decide) fun H1 x _ => ?_⟩
  refine ⟨_, rfl, _, (T.kp x.kp).at (by decide) rfl, _, rfl, x.set (by decide) fun H1 x _ => ?_⟩
  refine ⟨_, rfl, _, (T.kp x.kp).at (by decide) o1, o, es, rfl, x.kp _ _ o2, by omega, fun q hq => ⟨_, rfl, (x.add hq).set (by decide) fun H9 y s => ?_⟩⟩
  exact ⟨_, rfl, h p d _ H9 ⟨y, f0, e14, ⟨a, a1, y.kp _ _ a2⟩, ⟨b, b1, y.kp _ _ b2⟩, ⟨q, rfl, x.kp.nn hq, s.dict upd_same⟩⟩ rfl rfl⟩
noncomputable def φ_variant_names : Fn := fun vs P H => vs = [.non] ∧ ∀ a H', Kp H H' → H' a = some (.list []) → P (.ref a) H'
noncomputable abbrev D_variant_names : DenS := sSeq (sAsg (gV 1) (dList (lN))) (sSeq (sAsg (gV 2) (dList (lC (dV 0) (lN)))) (sSeq (sWhl (tCmp .NotEq (dV 2) (dList (lN))) (sSeq (sAsg (gV 3) (dPop (dV 2))) (sSeq (sIf (tCmp .Is (dV 3) (dK .non)) (sSeq (sCont) (sNil)) (sNil)) (sDead)))) (sSeq (sRet (dV 1)) (sNil))))
theorem c_variant_names {vs : List MV} {P : MV → Hp → Prop} {H : Hp} (h : φ_variant_names vs P H) : vs.length = 1 ∧ D_variant_names (vs.map some ++ [none, none, none, none, none, none]) (fun fl l H => P (retOf fl) H) H := by
  obtain ⟨rfl, h⟩ := h
  refine ⟨rfl, Nat.zero_le _, fun a ha => ⟨_, rfl, Nat.le_of_ble_eq_true rfl, fun b hb => ?_⟩⟩
  refine ⟨fun n l H1 => (∃ o, l = [some .non, some (.ref a), some (.ref b), o, none, none, none]) ∧ H1 a = some (.list []) ∧ H1 b = some (.list (List.replicate n .non)) ∧ n ≤ 1 ∧ Kp H H1 ∧ H a = none ∧ H b = none, 1,
    ⟨⟨_, rfl⟩, Kp.add hb _ _ upd_same, upd_same, Nat.le_refl _, (Kp.add ha).trans (Kp.add hb), ha, (Kp.add ha).nn hb⟩, ?_⟩
  rintro n _ H1 ⟨⟨o, rfl⟩, h1, h2, hn, k, fa, fb⟩
  refine ⟨_, rfl, Nat.zero_le _, fun e he => ?_⟩
  have ke := Kp.add (o := .list []) he
  match n, hn with
  | 0, _ =>
    refine ⟨_, .ne (.ll (ke _ _ h2) upd_same rfl (fun _ z => nomatch z) (fun _ z => nomatch z)), ?_⟩
    rw [decide_eq_true (show List.replicate 0 MV.non = [] from rfl)]
    exact ⟨_, rfl, h a _ (k.trans ke) (ke _ _ h1)⟩
  | 1, _ =>
    refine ⟨_, .ne (.ln (ke _ _ h2) upd_same (by decide)), _, rfl, b, .non, rfl, ke _ _ h2, _, rfl, _, .is _, ?_⟩
    rw [decide_eq_true rfl]
    have nab : a ≠ b := fun z => by rw [z, h2] at h1; cases h1
    exact ⟨0, Nat.zero_lt_one, ⟨_, rfl⟩, by rw [upd_ne nab]; exact ke _ _ h1, upd_same, Nat.zero_le _, (k.trans ke).set fb, fa, fb⟩
end Mine
end
section
open PySem PySem.W PyProof.Rows PySem.Calls PySem.Spec
open Classical
namespace Mine
/-- from a type to its root -/
inductive Chain (H : Hp) : MV → List Addr → Prop
  | nil : Chain H .non []
  | cons {x d : Addr} {f : Nat → MV} {ch : List Addr} (t : Ty H x d f) (c : Chain H (f 3) ch) : Chain H (.ref x) (x :: ch)
theorem Chain.kp {H H' : Hp} {v : MV} {ch : List Addr} (x : Chain H v ch) (k : Kp H H') : Chain H' v ch := by
  induction x with
  | nil => exact .nil
  | cons t c ih => exact .cons (t.kp k) ih
noncomputable def φ_line_of_type : Fn := fun vs P H => ∃ v ch, vs = [v] ∧ Chain H v ch ∧ ch.length ≤ 100 ∧ ∀ a H', Kp H H' → H a = none → H' a = some (.list (ch.map .ref)) → P (.ref a) H'
noncomputable abbrev D_line_of_type : DenS := sSeq (sAsg (gV 1) (dList (lN))) (sSeq (sAsg (gV 2) (dV 0)) (sSeq (sWhl (tCmp .IsNot (dV 2) (dK .non)) (sSeq (sExp (dApp (dV 1) (dV 2))) (sSeq (sAsg (gV 2) (dAttr (dV 2) 3)) (sNil)))) (sSeq (sRet (dV 1)) (sNil))))
theorem c_line_of_type {vs : List MV} {P : MV → Hp → Prop} {H : Hp} (h : φ_line_of_type vs P H) : vs.length = 1 ∧ D_line_of_type (vs.map some ++ [none, none]) (fun fl l H => P (retOf fl) H) H := by
  obtain ⟨v, ch, rfl, c0, hz, h⟩ := h
  refine ⟨rfl, Nat.zero_le _, fun a ha => ⟨_, rfl, ?_⟩⟩
  refine ⟨fun n l H1 => ∃ done todo u, l = [some v, some (.ref a), some u] ∧ todo.length = n ∧ Chain H u todo ∧ done ++ todo = ch ∧ H1 a = some (.list (done.map .ref)) ∧ Kp H H1, ch.length,
    ⟨[], ch, v, rfl, rfl, c0, rfl, upd_same, Kp.add ha⟩, ?_⟩
  rintro n _ H1 ⟨done, todo, u, rfl, rfl, c, rfl, h1, k⟩
  refine ⟨_, rfl, _, .isnt _, ?_⟩
  cases c with
  | nil =>
    rw [decide_eq_true rfl]
    rw [List.append_nil] at h
    exact ⟨_, rfl, h a _ k ha h1⟩
  | @cons x d f todo t c =>
    rw [decide_eq_false (fun z => nomatch z)]
    refine ⟨_, rfl, a, rfl, ⟨_, h1⟩, _, rfl, _, h1, by rw [List.length_append] at hz; rw [List.length_map]; omega, ?_⟩
    have k' := k.set (o := .list (done.map .ref ++ [.ref x])) ha
    refine ⟨_, rfl, _, (t.kp k').at (by decide) rfl, todo.length, Nat.lt_succ_self _, done ++ [x], todo, _, rfl, rfl, c, by rw [List.append_assoc]; rfl, ?_, k'⟩
    rw [upd_same, List.map_append]; rfl
noncomputable def φ_is_descendant : Fn := fun vs P H => ∃ v ch y, ∃ (N : Addr → Int) (m : Int), vs = [v, .ref y] ∧ Chain H v ch ∧ ch.length ≤ 100 ∧ (∀ x ∈ ch, ∃ d f, Ty H x d f ∧ f 2 = .int (N x)) ∧ (∃ d f, Ty H y d f ∧ f 2 = .int m) ∧ ∀ H', Kp H H' → P (.bool (ch.any fun x => N x == m)) H'
noncomputable abbrev D_is_descendant : DenS := sSeq (sFor 0 (gV 2) (dCall φ_line_of_type (lC (dV 0) (lN))) (sSeq (sIf (tCmp .Eq (dAttr (dV 2) 2) (dAttr (dV 1) 2)) (sSeq (sRet (dK (.bool true))) (sNil)) (sNil)) (sNil))) (sSeq (sRet (dK (.bool false))) (sNil))
theorem c_is_descendant {vs : List MV} {P : MV → Hp → Prop} {H : Hp} (h : φ_is_descendant vs P H) : vs.length = 2 ∧ D_is_descendant (vs.map some ++ [none]) (fun fl l H => P (retOf fl) H) H := by
  obtain ⟨v, ch, y, N, m, rfl, c, hz, hN, ⟨dy, fy, ty, ey⟩, h⟩ := h
  refine ⟨rfl, _, rfl, v, ch, rfl, c, hz, fun a H1 k fa h1 => ?_⟩
  refine ⟨_, _, .inl ⟨rfl, a, rfl, h1, by rw [List.length_map]; omega, rfl⟩, fun i l H2 => (∃ o, l = [some v, some (.ref y), o]) ∧ H2 = H1 ∧ (ch.take i).any (fun x => N x == m) = false, ⟨⟨_, rfl⟩, rfl, rfl⟩, ?_, ?_⟩
  · rintro i _ _ u ⟨⟨o, rfl⟩, rfl, hn⟩ hu
    refine ⟨h1, ?_⟩
    rw [List.getElem?_map] at hu
    obtain ⟨x, hx, rfl⟩ := Option.map_eq_some_iff.mp hu
    obtain ⟨d, f, t, e⟩ := hN x (List.mem_of_getElem? hx)
    refine ⟨_, rfl, _, (t.kp k).at (by decide) e, _, rfl, _, (ty.kp k).at (by decide) ey, _, .eq (.int _ _), ?_⟩
    have tk : ch.take (i + 1) = ch.take i ++ [x] := by rw [List.take_add_one, hx]; rfl
    cases q : N x == m with
    | true =>
      have : ch.any (fun x => N x == m) = true := List.any_eq_true.mpr ⟨x, List.mem_of_getElem? hx, q⟩
      have z := h _ k
      rw [this] at z
      exact z
    | false => exact ⟨⟨_, rfl⟩, rfl, by rw [tk, List.any_append, hn, List.any_cons, q]; rfl⟩
  · rintro _ _ ⟨⟨o, rfl⟩, rfl, hn⟩
    refine ⟨h1, ?_⟩
    rw [List.length_map, List.take_length] at hn
    have := h _ k
    rw [hn] at this
    exact this
noncomputable def φ_lay_operation : Fn := fun vs P H => ∃ x d f o es key u, vs = [.ref x, .str key, u] ∧ Ty H x d f ∧ f 23 = .ref o ∧ H o = some (.dict es) ∧ es.length ≤ 100 ∧
  ((f 3 = .non ∧ P (.bool false) (upd H o (.dict (putD es key u)))) ∨ ∃ y e g q fs, f 3 = .ref y ∧ Ty H y e g ∧ g 23 = .ref q ∧ H q = some (.dict fs) ∧ P (.bool (fs.lookup key).isSome) (upd H o (.dict (putD es key u))))
noncomputable abbrev D_lay_operation : DenS := sSeq (sAsg (gV 3) (dAnd (dCmp .IsNot (dAttr (dV 0) 3) (dK .non)) (dCmp .In (dV 1) (dAttr (dAttr (dV 0) 3) 23)))) (sSeq (sAsg (gIdx (dAttr (dV 0) 23) (dV 1)) (dV 2)) (sSeq (sRet (dV 3)) (sNil)))
theorem c_lay_operation {vs : List MV} {P : MV → Hp → Prop} {H : Hp} (h : φ_lay_operation vs P H) : vs.length = 3 ∧ D_lay_operation (vs.map some ++ [none]) (fun fl l H => P (retOf fl) H) H := by
  obtain ⟨x, d, f, o, es, key, u, rfl, t, ho, h1, hz, h⟩ := h
  rcases h with ⟨h3, h⟩ | ⟨y, e, g, q, fs, h3, ty, hq, h4, h⟩
  · refine ⟨rfl, _, rfl, _, t.at (by decide) h3, _, .isnt _, _, rfl, ?_⟩
    rw [decide_eq_true rfl]
    exact ⟨_, rfl, _, rfl, _, t.at (by decide) ho, _, rfl, .inr ⟨o, es, key, rfl, rfl, h1, by omega, _, rfl, h⟩⟩
  · refine ⟨rfl, _, rfl, _, t.at (by decide) h3, _, .isnt _, _, rfl, ?_⟩
    rw [decide_eq_false (fun z => nomatch z)]
    exact ⟨_, rfl, _, rfl, _, t.at (by decide) h3, _, ty.at (by decide) hq, _, .ind h4, _, rfl, _, rfl, _, t.at (by decide) ho, _, rfl, .inr ⟨o, es, key, rfl, rfl, h1, by omega, _, rfl, h⟩⟩
end Mine
end
section
open PySem PySem.W PyProof.Rows PySem.Calls PySem.Spec
open Classical
namespace Mine
noncomputable def homeL (V : Addr → MV) : List Addr → MV
  | [] => .non
  | [x] => .ref x
  | x :: y :: r => if V y = V x then homeL V (y :: r) else .ref x
/-- what stands under a key in a type's operations -/
def OpAt (H : Hp) (key : Str) (y : Addr) (v : MV) : Prop := ∃ d f o es, Ty H y d f ∧ f 23 = .ref o ∧ H o = some (.dict es) ∧ ((es.lookup key = none ∧ v = .non) ∨ ∃ s, es.lookup key = some (.str s) ∧ v = .str s)
theorem Ty.same {H : Hp} {p d d' : Addr} {f f' : Nat → MV} (x : Ty H p d f) (y : Ty H p d' f') : d = d' ∧ ∀ c, c < 24 → f c = f' c := by
  have e := x.i.symm.trans y.i
  cases e
  have e := x.e.symm.trans y.e
  refine ⟨rfl, fun c h => ?_⟩
  have := tyF_get (f := f) h
  rw [MObj.fld.inj (Option.some.inj e), tyF_get h] at this
  exact (Option.some.inj this).symm
noncomputable def φ_home_of : Fn := fun vs P H => ∃ x ch key, ∃ V : Addr → MV, vs = [.ref x, .str key] ∧ Chain H (.ref x) (x :: ch) ∧ ch.length ≤ 100 ∧ (∀ y ∈ x :: ch, OpAt H key y (V y)) ∧ P (if V x = .non then .non else homeL V (x :: ch)) H
noncomputable abbrev D_home_of : DenS := sSeq (sIf (tCmp .NotIn (dV 1) (dAttr (dV 0) 23)) (sSeq (sRet (dK .non)) (sNil)) (sNil)) (sSeq (sAsg (gV 2) (dV 0)) (sSeq (sWhl (tAnd (tCmp .IsNot (dAttr (dV 2) 3) (dK .non)) (tAnd (tCmp .Eq (dGet (dAttr (dAttr (dV 2) 3) 23) (dV 1)) (dIdx (dAttr (dV 2) 23) (dV 1))) (tT))) (sSeq (sAsg (gV 2) (dAttr (dV 2) 3)) (sNil))) (sSeq (sRet (dV 2)) (sNil))))
theorem c_home_of {vs : List MV} {P : MV → Hp → Prop} {H : Hp} (h : φ_home_of vs P H) : vs.length = 2 ∧ D_home_of (vs.map some ++ [none]) (fun fl l H => P (retOf fl) H) H := by
  obtain ⟨x, ch, key, V, rfl, c0, hz, hV, h⟩ := h
  obtain ⟨d, f, o, es, t, ho, h1, hv⟩ := hV x (.head _)
  refine ⟨rfl, _, rfl, _, rfl, _, t.at (by decide) ho, _, .nind h1, ?_⟩
  rcases hv with ⟨l1, v1⟩ | ⟨s, l1, v1⟩
  · rw [l1]
    rw [if_pos v1] at h
    exact h
  · rw [l1]
    rw [if_neg (by rw [v1]; exact fun z => nomatch z)] at h
    refine ⟨_, rfl, fun n l H1 => H1 = H ∧ ∃ u todo, l = [some (.ref x), some (.str key), some (.ref u)] ∧ todo.length = n ∧ Chain H (.ref u) (u :: todo) ∧ (∀ y ∈ u :: todo, OpAt H key y (V y)) ∧ V u ≠ .non ∧ homeL V (u :: todo) = homeL V (x :: ch), ch.length,
      ⟨rfl, x, ch, rfl, rfl, c0, hV, (by rw [v1]; exact fun z => nomatch z), rfl⟩, ?_⟩
    rintro n _ _ ⟨rfl, u, todo, rfl, rfl, c, hV, nu, eh⟩
    obtain ⟨d, f, o, es, t, ho, h1, hv⟩ := hV u (.head _)
    obtain ⟨s, l1, vu⟩ : ∃ s, es.lookup key = some (.str s) ∧ V u = .str s := hv.resolve_left fun z => nu z.2
    cases c with
    | @cons _ d' f' _ t' c =>
      have e3 := (t.same t').2 3 (by decide)
      generalize hw : f' 3 = w at c e3
      cases c with
      | nil =>
        refine ⟨_, rfl, _, t.at (by decide) e3, _, .isnt _, ?_⟩
        rw [decide_eq_true rfl]
        rw [← eh] at h
        exact ⟨_, rfl, h⟩
      | @cons y dy fy todo ty cy =>
        obtain ⟨dy', fy', oy, ey, ty', hoy, h2, hvy⟩ := hV y (.tail _ (.head _))
        refine ⟨_, rfl, _, t.at (by decide) e3, _, .isnt _, ?_⟩
        rw [decide_eq_false (fun z => nomatch z)]
        refine ⟨_, rfl, _, t.at (by decide) e3, _, ty'.at (by decide) hoy, oy, rfl, ⟨_, h2⟩, _, rfl, ey, key, h2, rfl, _, rfl, _, t.at (by decide) ho, _, rfl, _, .inr ⟨o, es, key, rfl, rfl, h1, l1⟩, ?_⟩
        rcases hvy with ⟨l2, vy⟩ | ⟨s2, l2, vy⟩
        · rw [l2]
          refine ⟨_, .eq (.ns _), _, rfl, ?_⟩
          have : homeL V (u :: y :: todo) = .ref u := if_neg (by rw [vy, vu]; exact fun z => nomatch z)
          rw [← eh, this] at h
          exact h
        · rw [l2]
          refine ⟨_, .eq (.str _ _), ?_⟩
          by_cases q : s2 = s
          · rw [show (s2 == s) = true from beq_iff_eq.mpr q]
            have : homeL V (u :: y :: todo) = homeL V (y :: todo) := if_pos (by rw [vy, vu, q])
            refine ⟨_, rfl, _, t.at (by decide) e3, todo.length, Nat.lt_succ_self _, rfl, y, todo, rfl, rfl, .cons ty cy, fun z hz => hV z (.tail _ hz), (by rw [vy]; exact fun z => nomatch z), this.symm.trans eh⟩
          · rw [show (s2 == s) = false from beq_eq_false_iff_ne.mpr q]
            have : homeL V (u :: y :: todo) = .ref u := if_neg (by rw [vy, vu]; exact fun z => q (MV.str.inj z))
            rw [← eh, this] at h
            exact ⟨_, rfl, h⟩
end Mine
end
section
open PySem PySem.W PyProof.Rows PySem.Calls PySem.Spec
open Classical
namespace Mine
structure Rws where
  n : Nat
  par : Nat → Int
  told : Nat → Int
  prt : Nat → Int
structure Rws.OK (R : Rws) : Prop where
  lo : 2 ≤ R.n
  hi : R.n ≤ 7
  p0 : R.par 0 = -1
  q0 : R.prt 0 = 1
  par : ∀ i, i < R.n → 0 < i → 0 ≤ R.par i ∧ R.par i < i
  told : ∀ i, i < R.n → 0 ≤ R.told i ∧ R.told i < 8
  prt : ∀ i, i < R.n → 0 ≤ R.prt i ∧ R.prt i < 3
def RowAt (H : Hp) (v : MV) (x y z : Int) : Prop := ∃ a, v = .ref a ∧ H a = some (.tup [.int x, .int y, .int z])
def RowsAt (H : Hp) (p : Addr) (R : Rws) : Prop := ∃ rs : List MV, H p = some (.list rs) ∧ rs.length = R.n ∧ ∀ i v, rs[i]? = some v → RowAt H v (R.par i) (R.told i) (R.prt i)
theorem RowsAt.kp {H H' : Hp} {p : Addr} {R : Rws} (x : RowsAt H p R) (k : Kp H H') : RowsAt H' p R :=
  let ⟨rs, h1, h2, h3⟩ := x; ⟨rs, k _ _ h1, h2, fun i v e => let ⟨a, e1, e2⟩ := h3 i v e; ⟨a, e1, k _ _ e2⟩⟩
/-- rows[i][j] -/
theorem RowsAt.row {H : Hp} {p : Addr} {R : Rws} (x : RowsAt H p R) {i : Int} (h0 : 0 ≤ i) (h : i < R.n) (hn : R.n ≤ 7) : ∃ v, IdxAt H (.ref p) (.int i) v ∧ RowAt H v (R.par i.toNat) (R.told i.toNat) (R.prt i.toNat) := by
  obtain ⟨rs, h1, h2, h3⟩ := x
  have hl : i.toNat < rs.length := by omega
  refine ⟨rs[i.toNat], .inl ⟨p, rs, i, rfl, rfl, .inl h1, by omega, by omega, ?_⟩, h3 _ _ (List.getElem?_eq_getElem hl)⟩
  unfold getIdx
  rw [if_pos h0]; exact List.getElem?_eq_getElem hl
theorem tup_at {H : Hp} {a : Addr} {xs : List MV} {i : Nat} {u : MV} (h : H a = some (.tup xs)) (hi : i < 1000) (e : xs[i]? = some u) : IdxAt H (.ref a) (.int i) u :=
  .inl ⟨a, xs, i, rfl, rfl, .inr h, by omega, by omega, by unfold getIdx; rw [if_pos (Int.natCast_nonneg i)]; exact e⟩
theorem list_at {H : Hp} {a : Addr} {xs : List MV} {i : Nat} {u : MV} (h : H a = some (.list xs)) (hi : i < 1000) (e : xs[i]? = some u) : IdxAt H (.ref a) (.int i) u :=
  .inl ⟨a, xs, i, rfl, rfl, .inl h, by omega, by omega, by unfold getIdx; rw [if_pos (Int.natCast_nonneg i)]; exact e⟩
noncomputable def φ_law_keys : Fn := fun vs P H => vs = [] ∧ ∀ a, H a = none → P (.ref a) (upd H a (.tup [.str "run", .str "stop", .str "tell"]))
noncomputable abbrev D_law_keys : DenS := sSeq (sRet (dTup (lC (dK (.str "run")) (lC (dK (.str "stop")) (lC (dK (.str "tell")) (lN)))))) (sNil)
theorem c_law_keys {vs : List MV} {P : MV → Hp → Prop} {H : Hp} (h : φ_law_keys vs P H) : vs.length = 0 ∧ D_law_keys (vs.map some ++ []) (fun fl l H => P (retOf fl) H) H := by
  obtain ⟨rfl, h⟩ := h
  exact ⟨rfl, Nat.le_of_ble_eq_true rfl, fun a ha => h a ha⟩
noncomputable def restL : List MV := [.int 4, .int 3, .int 0, .int 1, .int 2, .int 0, .int 1, .int 4, .int 1, .int 0, .int 5, .int 1, .int 2, .int 0, .int 1, .int 0]
noncomputable def φ_law_rest : Fn := fun vs P H => vs = [] ∧ ∀ a, H a = none → P (.ref a) (upd H a (.tup restL))
noncomputable abbrev D_law_rest : DenS := sSeq (sRet (dTup (lC (dK (.int 4)) (lC (dK (.int 3)) (lC (dK (.int 0)) (lC (dK (.int 1)) (lC (dK (.int 2)) (lC (dK (.int 0)) (lC (dK (.int 1)) (lC (dK (.int 4)) (lC (dK (.int 1)) (lC (dK (.int 0)) (lC (dK (.int 5)) (lC (dK (.int 1)) (lC (dK (.int 2)) (lC (dK (.int 0)) (lC (dK (.int 1)) (lC (dK (.int 0)) (lN))))))))))))))))))) (sNil)
theorem c_law_rest {vs : List MV} {P : MV → Hp → Prop} {H : Hp} (h : φ_law_rest vs P H) : vs.length = 0 ∧ D_law_rest (vs.map some ++ []) (fun fl l H => P (retOf fl) H) H := by
  obtain ⟨rfl, h⟩ := h
  exact ⟨rfl, Nat.le_of_ble_eq_true rfl, fun a ha => h a ha⟩
noncomputable def φ_law_whole : Fn := fun vs P H => vs = [] ∧ ∀ a H', Kp H H' → P (.ref a) H'
noncomputable abbrev D_law_whole : DenS := sSeq (sRet (dCall φ_Subtype (lC (dCall φ_int_type (lC (dK (.str "whole")) (lC (dK (.int (-8))) (lC (dK (.int 7)) (lN))))) (lC (dK .non) (lN))))) (sNil)
theorem c_law_whole {vs : List MV} {P : MV → Hp → Prop} {H : Hp} (h : φ_law_whole vs P H) : vs.length = 0 ∧ D_law_whole (vs.map some ++ []) (fun fl l H => P (retOf fl) H) H := by
  obtain ⟨rfl, h⟩ := h
  exact ⟨rfl, _, _, _, rfl, fun p H1 k => ⟨_, _, rfl, fun q H2 k2 => h q H2 (k.trans k2)⟩⟩
/-- all but one place stays -/
def Kx (p : Addr) (H H' : Hp) : Prop := ∀ a o, a ≠ p → H a = some o → H' a = some o
theorem Kx.trans {p : Addr} {H H' H'' : Hp} (x : Kx p H H') (y : Kx p H' H'') : Kx p H H'' := fun a o n h => y a o n (x a o n h)
theorem Kp.kx {p : Addr} {H H' : Hp} (x : Kp H H') : Kx p H H' := fun a o _ h => x a o h
/-- the fleece: a list of ints, and how far it is shorn -/
def Flc (H : Hp) (p q : Addr) (xs : List MV) (k : Int) : Prop := H p = some (.list [.ref q, .int k]) ∧ H q = some (.list xs) ∧ 0 ≤ k ∧ k ≤ 500
def Ints (xs : List MV) : Prop := xs.length ≤ 40 ∧ ∀ v ∈ xs, ∃ i, v = .int i
noncomputable def φ_law_shear : Fn := fun vs P H => ∃ p q xs k m, vs = [.ref p, .int m] ∧ Flc H p q xs k ∧ k < 500 ∧ Ints xs ∧ 0 < m ∧ ∀ r H', 0 ≤ r → r < m → Kx p H H' → Flc H' p q xs (k + 1) → P (.int r) H'
noncomputable abbrev D_law_shear : DenS := sSeq (sAug (dV 0) (dK (.int 1)) (dK (.int 1))) (sSeq (sAsg (gV 2) (dIdx (dV 0) (dK (.int 1)))) (sSeq (sRet (dBin .Mod (dIf (tCmp .LtE (dV 2) (dLen (dIdx (dV 0) (dK (.int 0))))) (dIdx (dIdx (dV 0) (dK (.int 0))) (dBin .Sub (dV 2) (dK (.int 1)))) (dIdx (dCall φ_law_rest (lN)) (dBin .Mod (dBin .Sub (dV 2) (dK (.int 1))) (dLen (dCall φ_law_rest (lN)))))) (dV 1))) (sNil)))
theorem c_law_shear {vs : List MV} {P : MV → Hp → Prop} {H : Hp} (h : φ_law_shear vs P H) : vs.length = 2 ∧ D_law_shear (vs.map some ++ [none]) (fun fl l H => P (retOf fl) H) H := by
  obtain ⟨p, q, xs, k, m, rfl, ⟨h1, h2, k0, k5⟩, kl, ⟨hz, hi⟩, m0, h⟩ := h
  have npq : p ≠ q := fun z => by
    subst z; rw [h1] at h2
    cases h2
    obtain ⟨i, z⟩ := hi _ (.head _)
    cases z
  refine ⟨rfl, _, rfl, _, list_at (i := 1) h1 (by decide) rfl, _, _, rfl, rfl, .inl ⟨p, _, 1, rfl, rfl, h1, by decide, by show (1 : Int) < 2; decide, Nat.le_of_ble_eq_true rfl, ?_⟩⟩
  have g1 : upd H p (.list [.ref q, .int (k + 1)]) p = some (.list [.ref q, .int (k + 1)]) := upd_same
  have g2 : upd H p (.list [.ref q, .int (k + 1)]) q = some (.list xs) := by rw [upd_ne npq.symm]; exact h2
  have g3 : Kx p H (upd H p (.list [.ref q, .int (k + 1)])) := fun a o n e => by rw [upd_ne n]; exact e
  have fin : ∀ i H2, Kx p H H2 → H2 p = some (.list [.ref q, .int (k + 1)]) → H2 q = some (.list xs) → P (.int (Int.fmod i m)) H2 := fun i H2 a b c =>
    h _ H2 (Int.fmod_nonneg_of_pos _ m0) (Int.fmod_lt_of_pos _ m0) a ⟨b, c, by omega, by omega⟩
  refine ⟨_, rfl, _, list_at (i := 1) g1 (by decide) rfl, ?_⟩
  refine ⟨_, rfl, _, rfl, _, list_at (i := 0) g1 (by decide) rfl, q, xs, rfl, .inl g2, by omega, _, .le _ _, ?_⟩
  by_cases hc : k + 1 ≤ xs.length
  · rw [decide_eq_true hc]
    have hl : k.toNat < xs.length := by omega
    obtain ⟨i, e⟩ := hi _ (List.getElem_mem hl)
    refine ⟨_, rfl, _, list_at (i := 0) g1 (by decide) rfl, _, rfl, .inl ⟨_, _, _, rfl, rfl, .sub _ _, .int i, .inl ⟨q, xs, _, rfl, rfl, .inl g2, by omega, by omega, ?_⟩, _, rfl, .inl ⟨i, m, _, rfl, rfl, .mod i m0, fin i _ g3 g1 g2⟩⟩⟩
    rw [Int.add_sub_cancel]
    unfold getIdx
    rw [if_pos k0, List.getElem?_eq_getElem hl, e]
  · rw [decide_eq_false hc]
    refine ⟨rfl, fun a ha => ⟨_, rfl, .inl ⟨_, _, _, rfl, rfl, .sub _ _, rfl, fun b hb => ⟨b, restL, rfl, .inr upd_same, by decide, .inl ⟨_, _, _, rfl, rfl, .mod _ (by decide), ?_⟩⟩⟩⟩⟩
    have r0 : 0 ≤ Int.fmod (k + 1 - 1) ((restL.length : Nat) : Int) := Int.fmod_nonneg_of_pos _ (by decide)
    have r1 : Int.fmod (k + 1 - 1) ((restL.length : Nat) : Int) < 16 := Int.fmod_lt_of_pos _ (by decide)
    revert r0 r1
    generalize Int.fmod (k + 1 - 1) ((restL.length : Nat) : Int) = r
    intro r0 r1
    have hl : r.toNat < restL.length := by show _ < 16; omega
    obtain ⟨i, e⟩ : ∃ i, restL[r.toNat] = .int i := by
      have : ∀ j (hj : j < restL.length), ∃ i, restL[j] = .int i := by
        intro j hj
        have hm := List.getElem_mem hj
        revert hm
        generalize restL[j] = v
        intro hm
        have : ∀ v ∈ restL, ∃ i, v = .int i := by
          intro v hv
          simp only [restL, List.mem_cons, List.not_mem_nil, or_false] at hv
          rcases hv with h | h | h | h | h | h | h | h | h | h | h | h | h | h | h | h <;> exact ⟨_, h⟩
        exact this v hm
      exact this _ hl
    have ka := Kp.add (o := .tup restL) ha
    have kb := Kp.add (o := .tup restL) hb
    refine ⟨.int i, .inl ⟨a, restL, r, rfl, rfl, .inr (kb _ _ upd_same), by omega, by omega, ?_⟩, _, rfl, .inl ⟨i, m, _, rfl, rfl, .mod i m0, fin i _ ((g3.trans ka.kx).trans kb.kx) (kb _ _ (ka _ _ g1)) (kb _ _ (ka _ _ g2))⟩⟩
    unfold getIdx
    rw [if_pos r0, List.getElem?_eq_getElem hl, e]
end Mine
end
section
open PySem PySem.W PyProof.Rows PySem.Calls PySem.Spec
open Classical
namespace Mine
/-- does row i tell the operation anew? -/
noncomputable def bit (t key : Int) : Int := Builtin.bitAnd (t.fdiv (2 ^ key.toNat)) 1
def Tells (R : Rws) (key : Int) (left : Option (Int × Int)) (at_ : Int) : Prop := bit (R.told at_.toNat) key ≠ 0 ∧ left ≠ some (at_, key)
noncomputable def near (R : Rws) (key : Int) (left : Option (Int × Int)) : Nat → Int → Int
  | 0, i => i
  | n + 1, i => if i < 0 ∨ Tells R key left i then i else near R key left n (R.par i.toNat)
def LeftAt (H : Hp) (v : MV) (left : Option (Int × Int)) : Prop := (v = .non ∧ left = none) ∨ ∃ q x y, v = .ref q ∧ H q = some (.tup [.int x, .int y]) ∧ left = some (x, y)
theorem LeftAt.kp {H H' : Hp} {v : MV} {left : Option (Int × Int)} (x : LeftAt H v left) (k : Kp H H') : LeftAt H' v left := x.imp id fun ⟨q, x, y, h1, h2, h3⟩ => ⟨q, x, y, h1, k _ _ h2, h3⟩
/-- (i, key) == left -/
theorem LeftAt.eq {H : Hp} {v : MV} {left : Option (Int × Int)} (x : LeftAt H v left) {a : Addr} {i key : Int} (h : H a = some (.tup [.int i, .int key])) : EqR H (.ref a) v (decide (left = some (i, key))) := by
  rcases x with ⟨rfl, rfl⟩ | ⟨q, x, y, rfl, h2, rfl⟩
  · rw [decide_eq_false (fun z => nomatch z)]; exact .tn h
  · have fl : ∀ x y : Int, ∀ v ∈ [MV.int x, MV.int y], Flat v := fun x y v hv => by
      rcases List.mem_cons.mp hv with rfl | hv
      · exact .inl ⟨_, rfl⟩
      · rw [List.mem_singleton.mp hv]; exact .inl ⟨_, rfl⟩
    have e := EqR.tt h h2 (fl _ _) (fl _ _)
    rw [show decide (some (x, y) = some (i, key)) = decide ([MV.int i, MV.int key] = [MV.int x, MV.int y]) from decide_eq_decide.mpr ⟨fun z => by cases z; rfl, fun z => by cases z; rfl⟩]
    exact e
theorem Rws.OK.step {R : Rws} (ok : R.OK) {i : Int} (h0 : 0 ≤ i) (h : i < R.n) : -1 ≤ R.par i.toNat ∧ R.par i.toNat < i := by
  obtain ⟨j, rfl⟩ := Int.eq_ofNat_of_zero_le h0
  rw [Int.toNat_natCast]
  by_cases q : j = 0
  · subst q; rw [ok.p0]; omega
  · obtain ⟨a, b⟩ := ok.par j (by omega) (Nat.pos_of_ne_zero q)
    omega
noncomputable def φ_law_nearest : Fn := fun vs P H => ∃ p i key v R left, vs = [.ref p, .int i, .int key, v] ∧ RowsAt H p R ∧ R.OK ∧ LeftAt H v left ∧ -1 ≤ i ∧ i < R.n ∧ 0 ≤ key ∧ ∀ H', Kp H H' → P (.int (near R key left 8 i)) H'
noncomputable abbrev D_law_nearest : DenS := sSeq (sWhl (tAnd (tCmp .GtE (dV 1) (dK (.int 0))) (tAnd (tOr (tCmp .Eq (dBin .BitAnd (dBin .RShift (dIdx (dIdx (dV 0) (dV 1)) (dK (.int 1))) (dV 2)) (dK (.int 1))) (dK (.int 0))) (tOr (tCmp .Eq (dTup (lC (dV 1) (lC (dV 2) (lN)))) (dV 3)) (tF))) (tT))) (sSeq (sAsg (gV 1) (dIdx (dIdx (dV 0) (dV 1)) (dK (.int 0)))) (sNil))) (sSeq (sRet (dV 1)) (sNil))
theorem c_law_nearest {vs : List MV} {P : MV → Hp → Prop} {H : Hp} (h : φ_law_nearest vs P H) : vs.length = 4 ∧ D_law_nearest (vs.map some ++ []) (fun fl l H => P (retOf fl) H) H := by
  obtain ⟨p, i, key, v, R, left, rfl, rw_, ok, lf, i0, i1, k0, h⟩ := h
  refine ⟨rfl, fun n l H1 => ∃ j, l = [some (.ref p), some (.int j), some (.int key), some v] ∧ -1 ≤ j ∧ j < R.n ∧ j + 1 ≤ n ∧ near R key left n j = near R key left 8 i ∧ Kp H H1, 8,
    ⟨i, rfl, i0, i1, by have := ok.hi; omega, rfl, Kp.refl⟩, ?_⟩
  rintro n _ H1 ⟨j, rfl, j0, j1, jn, e, k⟩
  refine ⟨_, rfl, _, .ge _ _, ?_⟩
  by_cases hj : 0 ≤ j
  · rw [decide_eq_true hj]
    obtain ⟨n, rfl⟩ : ∃ m, n = m + 1 := ⟨n - 1, by omega⟩
    obtain ⟨r, hr, a, rfl, ha⟩ := (rw_.kp k).row hj j1 ok.hi
    refine ⟨_, rfl, _, rfl, _, hr, _, tup_at (i := 1) ha (by decide) rfl, _, rfl, .inl ⟨_, _, _, rfl, rfl, .shr _ k0, .inl ⟨_, _, _, rfl, rfl, .band _ _, _, .eq (.int _ _), ?_⟩⟩⟩
    have go : ∀ H2, Kp H1 H2 → ¬ Tells R key left j → ∃ r, (IdxAt H2 (.ref p) (.int j) r) ∧ ∃ u, IdxAt H2 r (.int 0) u ∧ ∃ m, m < n + 1 ∧ ∃ j', [some (MV.ref p), some u, some (.int key), some v] = [some (.ref p), some (.int j'), some (.int key), some v] ∧ -1 ≤ j' ∧ j' < R.n ∧ j' + 1 ≤ m ∧ near R key left m j' = near R key left 8 i ∧ Kp H H2 := fun H2 k2 nt => by
      obtain ⟨r, hr, a, rfl, ha⟩ := (rw_.kp (k.trans k2)).row hj j1 ok.hi
      obtain ⟨s1, s2⟩ := ok.step hj j1
      refine ⟨_, hr, _, tup_at (i := 0) ha (by decide) rfl, n, Nat.lt_succ_self _, _, rfl, s1, by omega, by omega, ?_, k.trans k2⟩
      rw [← e]
      exact (if_neg fun z => z.elim (fun z => by omega) nt).symm
    by_cases hb : bit (R.told j.toNat) key = 0
    · rw [show (Builtin.bitAnd ((R.told j.toNat).fdiv (2 ^ key.toNat)) 1 == 0) = true from beq_iff_eq.mpr hb]
      obtain ⟨r, h1, u, h2, h3⟩ := go H1 Kp.refl fun z => z.1 hb
      exact ⟨_, rfl, _, rfl, _, h1, _, h2, h3⟩
    · rw [show (Builtin.bitAnd ((R.told j.toNat).fdiv (2 ^ key.toNat)) 1 == 0) = false from beq_eq_false_iff_ne.mpr hb]
      refine ⟨_, rfl, _, rfl, Nat.le_of_ble_eq_true rfl, fun b hb2 => ⟨_, rfl, _, .eq ((lf.kp (k.trans (Kp.add hb2))).eq upd_same), ?_⟩⟩
      by_cases hl : left = some (j, key)
      · rw [decide_eq_true hl]
        obtain ⟨r, h1, u, h2, h3⟩ := go _ (Kp.add (o := .tup [.int j, .int key]) hb2) fun z => z.2 hl
        exact ⟨_, rfl, _, rfl, _, h1, _, h2, h3⟩
      · rw [decide_eq_false hl]
        refine ⟨_, rfl, ?_⟩
        have : near R key left (n + 1) j = j := if_pos (.inr ⟨hb, hl⟩)
        rw [← e, this] at h
        exact h _ (k.trans (Kp.add hb2))
  · rw [decide_eq_false hj]
    refine ⟨_, rfl, ?_⟩
    have : near R key left n j = j := by
      cases n with
      | zero => rfl
      | succ n => exact if_pos (.inl (by omega))
    rw [← e, this] at h
    exact h _ k
end Mine
end
section
open PySem PySem.W PyProof.Rows PySem.Calls PySem.Spec
open Classical
namespace Mine
/-- i, its parent, .. -/
noncomputable def lineR (R : Rws) : Nat → Int → List Int
  | 0, _ => []
  | n + 1, i => if i < 0 then [] else i :: lineR R n (R.par i.toNat)
noncomputable def φ_law_line : Fn := fun vs P H => ∃ p i R, vs = [.ref p, .int i] ∧ RowsAt H p R ∧ R.OK ∧ -1 ≤ i ∧ i < R.n ∧ ∀ a H', Kp H H' → H a = none → H' a = some (.list ((lineR R 8 i).map .int)) → P (.ref a) H'
noncomputable abbrev D_law_line : DenS := sSeq (sAsg (gV 2) (dList (lN))) (sSeq (sWhl (tCmp .GtE (dV 1) (dK (.int 0))) (sSeq (sExp (dApp (dV 2) (dV 1))) (sSeq (sAsg (gV 1) (dIdx (dIdx (dV 0) (dV 1)) (dK (.int 0)))) (sNil)))) (sSeq (sRet (dV 2)) (sNil)))
theorem line_len (R : Rws) : ∀ n i, (lineR R n i).length ≤ n
  | 0, _ => Nat.zero_le _
  | n + 1, i => by
    unfold lineR
    split
    · exact Nat.zero_le _
    · exact Nat.succ_le_succ (line_len R n _)
theorem c_law_line {vs : List MV} {P : MV → Hp → Prop} {H : Hp} (h : φ_law_line vs P H) : vs.length = 2 ∧ D_law_line (vs.map some ++ [none]) (fun fl l H => P (retOf fl) H) H := by
  obtain ⟨p, i, R, rfl, rw_, ok, i0, i1, h⟩ := h
  refine ⟨rfl, Nat.zero_le _, fun a ha => ?_⟩
  refine ⟨fun n l H1 => ∃ j done, l = [some (.ref p), some (.int j), some (.ref a)] ∧ -1 ≤ j ∧ j < R.n ∧ j + 1 ≤ n ∧ done ++ lineR R n j = lineR R 8 i ∧ H1 a = some (.list (done.map .int)) ∧ Kp H H1, 8,
    ⟨i, [], rfl, i0, i1, by have := ok.hi; omega, rfl, upd_same, Kp.add ha⟩, ?_⟩
  rintro n _ H1 ⟨j, done, rfl, j0, j1, jn, e, h1, k⟩
  refine ⟨_, rfl, _, .ge _ _, ?_⟩
  by_cases hj : 0 ≤ j
  · rw [decide_eq_true hj]
    obtain ⟨n, rfl⟩ : ∃ m, n = m + 1 := ⟨n - 1, by omega⟩
    have el : lineR R (n + 1) j = j :: lineR R n (R.par j.toNat) := if_neg (by omega)
    have hd : done.length ≤ 8 := by have := line_len R 8 i; rw [← e, List.length_append] at this; omega
    refine ⟨_, rfl, a, rfl, ⟨_, h1⟩, _, rfl, _, h1, by rw [List.length_map]; omega, ?_⟩
    have k' := k.set (o := .list (done.map .int ++ [.int j])) ha
    obtain ⟨r, hr, b, rfl, hb⟩ := (rw_.kp k').row hj j1 ok.hi
    obtain ⟨s1, s2⟩ := ok.step hj j1
    refine ⟨_, rfl, _, rfl, _, hr, _, tup_at (i := 0) hb (by decide) rfl, n, Nat.lt_succ_self _, _, done ++ [j], rfl, s1, by omega, by omega, ?_, ?_, k'⟩
    · rw [← e, el, List.append_assoc]; rfl
    · rw [upd_same, List.map_append]; rfl
  · rw [decide_eq_false hj]
    have : lineR R n j = [] := by
      cases n with
      | zero => rfl
      | succ n => exact if_pos (by omega)
    rw [this, List.append_nil] at e
    refine ⟨_, rfl, h a _ k ha (e ▸ h1)⟩
/-- how many names of R's rows are laid in a heap -/
def RowsTo (H : Hp) (rs : List MV) (R : Rws) : Prop := ∀ i v, rs[i]? = some v → RowAt H v (R.par i) (R.told i) (R.prt i)
noncomputable def φ_law_plan : Fn := fun vs P H => ∃ p q xs k, vs = [.ref p] ∧ Flc H p q xs k ∧ k ≤ 100 ∧ Ints xs ∧ ∀ a R H' k', R.OK → RowsAt H' a R → Flc H' p q xs k' → k' ≤ 200 → Kx p H H' → P (.ref a) H'
noncomputable abbrev D_law_plan : DenS := sSeq (sAsg (gV 1) (dList (lC (dTup (lC (dK (.int (-1))) (lC (dCall φ_law_shear (lC (dV 0) (lC (dK (.int 8)) (lN)))) (lC (dK (.int 1)) (lN))))) (lN)))) (sSeq (sFor 2 (gV 2) (dBin .Add (dK (.int 2)) (dCall φ_law_shear (lC (dV 0) (lC (dK (.int 6)) (lN))))) (sSeq (sExp (dApp (dV 1) (dTup (lC (dCall φ_law_shear (lC (dV 0) (lC (dV 2) (lN)))) (lC (dCall φ_law_shear (lC (dV 0) (lC (dK (.int 8)) (lN)))) (lC (dCall φ_law_shear (lC (dV 0) (lC (dK (.int 3)) (lN)))) (lN))))))) (sNil))) (sSeq (sRet (dV 1)) (sNil)))
theorem RowsTo.kx {H H' : Hp} {p : Addr} {xs rs : List MV} {R : Rws} (x : RowsTo H rs R) (f : H p = some (.list xs)) (y : Kx p H H') : RowsTo H' rs R := fun i v e => by
  obtain ⟨a, e1, e2⟩ := x i v e
  exact ⟨a, e1, y a _ (fun z => by subst z; rw [f] at e2; cases e2) e2⟩
theorem Kx.set {p a : Addr} {H H' : Hp} {o : MObj} (x : Kx p H H') (h : H a = none) : Kx p H (upd H' a o) := fun b m n e => by rw [upd_ne (fun z => by rw [z, h] at e; cases e)]; exact x b m n e
theorem Flc.kp {H H' : Hp} {p q : Addr} {xs : List MV} {k : Int} (x : Flc H p q xs k) (y : Kp H H') : Flc H' p q xs k := ⟨y _ _ x.1, y _ _ x.2.1, x.2.2⟩
/-- the rows below m are as they should be -/
structure Part (R : Rws) (m : Nat) : Prop where
  p0 : R.par 0 = -1
  q0 : R.prt 0 = 1
  par : ∀ i, i < m → 0 < i → 0 ≤ R.par i ∧ R.par i < i
  told : ∀ i, i < m → 0 ≤ R.told i ∧ R.told i < 8
  prt : ∀ i, i < m → 0 ≤ R.prt i ∧ R.prt i < 3
noncomputable def Rws.put (R : Rws) (m : Nat) (x y z : Int) : Rws := ⟨R.n, fun i => if i = m then x else R.par i, fun i => if i = m then y else R.told i, fun i => if i = m then z else R.prt i⟩
theorem Part.put {R : Rws} {m : Nat} {x y z : Int} (P : Part R m) (h : 0 < m) (hx : 0 ≤ x ∧ x < m) (hy : 0 ≤ y ∧ y < 8) (hz : 0 ≤ z ∧ z < 3) : Part (R.put m x y z) (m + 1) := by
  have n0 : (0 : Nat) ≠ m := Nat.ne_of_lt h
  refine ⟨(if_neg n0).trans P.p0, (if_neg n0).trans P.q0, fun i hi h0 => ?_, fun i hi => ?_, fun i hi => ?_⟩ <;> (unfold Rws.put; dsimp only; split)
  · rename_i q; rw [q]; exact hx
  · exact P.par i (by omega) h0
  · exact hy
  · exact P.told i (by omega)
  · exact hz
  · exact P.prt i (by omega)
theorem RowsTo.put {H : Hp} {rs : List MV} {R : Rws} {c : Addr} {x y z : Int} (h : RowsTo H rs R) (hc : H c = some (.tup [.int x, .int y, .int z])) : RowsTo H (rs ++ [.ref c]) (R.put rs.length x y z) := fun i v e => by
  unfold Rws.put
  dsimp only
  by_cases q : i < rs.length
  · rw [List.getElem?_append_left q] at e
    have n : i ≠ rs.length := Nat.ne_of_lt q
    rw [if_neg n, if_neg n, if_neg n]
    exact h i v e
  · rw [List.getElem?_append_right (Nat.le_of_not_lt q)] at e
    have n : i = rs.length := by
      have := (List.getElem?_eq_some_iff.mp e).1
      simp only [List.length_singleton] at this
      omega
    subst n
    rw [Nat.sub_self] at e
    cases e
    rw [if_pos rfl, if_pos rfl, if_pos rfl]
    exact ⟨c, rfl, hc⟩
theorem c_law_plan {vs : List MV} {P : MV → Hp → Prop} {H : Hp} (h : φ_law_plan vs P H) : vs.length = 1 ∧ D_law_plan (vs.map some ++ [none, none]) (fun fl l H => P (retOf fl) H) H := by
  obtain ⟨p, q, xs, k, rfl, F, hk, hi, h⟩ := h
  have k0 := F.2.2.1
  refine ⟨rfl, _, rfl, p, q, xs, k, 8, rfl, F, by omega, hi, by decide, fun t0 H1 t0a t0b x1 F1 => ?_⟩
  refine ⟨Nat.le_of_ble_eq_true rfl, fun a ha => ⟨Nat.le_of_ble_eq_true rfl, fun b hb => ?_⟩⟩
  have ka := Kp.add (o := .tup [.int (-1), .int t0, .int 1]) ha
  have kb := Kp.add (o := .list [.ref a]) hb
  have F2 := F1.kp (ka.trans kb)
  have x2 := x1.trans (ka.trans kb).kx
  have nbp : b ≠ p := fun z => by have := (F1.kp ka).1; rw [← z, hb] at this; cases this
  have Hb : H b = none := by
    cases e : H b with
    | none => rfl
    | some o => have := ka _ _ (x1 b o nbp e); rw [hb] at this; cases this
  refine ⟨_, rfl, p, q, xs, k + 1, 6, rfl, F2, by omega, hi, by decide, fun r H3 r0 r6 x3 F3 => ?_⟩
  refine .inl ⟨_, _, _, rfl, rfl, .add _ _, _, _, .inr (.inr ⟨rfl, _, rfl, by omega, by omega, rfl, rfl⟩), ?_⟩
  have cnt : ((List.range (2 + r - 1).toNat).map fun (i : Nat) => MV.int (1 + (i : Int))).length = (2 + r - 1).toNat := by rw [List.length_map, List.length_range]
  refine ⟨fun i l H' => (∃ o, l = [some (.ref p), some (.ref b), o]) ∧ ∃ rs R k', H' b = some (.list rs) ∧ rs.length = i + 1 ∧ i ≤ 6 ∧ Part R (i + 1) ∧ RowsTo H' rs R ∧ Flc H' p q xs k' ∧ k' ≤ k + 2 + 3 * i ∧ Kx p H H', ⟨⟨_, rfl⟩, [.ref a], ⟨0, fun _ => -1, fun _ => t0, fun _ => 1⟩, k + 1 + 1,
    x3 b _ nbp upd_same, rfl, Nat.zero_le _, ⟨rfl, rfl, fun i h1 h2 => by omega, fun _ _ => ⟨t0a, t0b⟩, fun _ _ => ⟨Int.le_of_lt Int.one_pos, by show (1 : Int) < 3; decide⟩⟩, fun i v e => ?_, F3, by omega, x2.trans x3⟩, ?_, ?_⟩
  · have n : i = 0 := by have := (List.getElem?_eq_some_iff.mp e).1; simp only [List.length_singleton] at this; omega
    subst n
    cases e
    have nap : a ≠ p := fun z => by have := F1.1; rw [← z, ha] at this; cases this
    exact ⟨a, rfl, x3 a _ nap (kb _ _ upd_same)⟩
  · rintro i _ H4 v ⟨⟨o, rfl⟩, rs, R, k', hb4, hl, i6, pt, rt, F4, kk, x4⟩ hv
    have hlt := (List.getElem?_eq_some_iff.mp hv).1
    rw [cnt] at hlt
    rw [List.getElem?_map, List.getElem?_range hlt] at hv
    cases hv
    have k40 := F4.2.2.1
    refine ⟨trivial, _, rfl, b, rfl, ⟨_, hb4⟩, _, rfl, _, rfl, p, q, xs, k', 1 + (i : Int), rfl, F4, by omega, hi, by omega, fun a1 H5 a10 a11 x5 F5 => ?_⟩
    refine ⟨_, rfl, p, q, xs, _, 8, rfl, F5, by omega, hi, by decide, fun a2 H6 a20 a21 x6 F6 => ?_⟩
    refine ⟨_, rfl, p, q, xs, _, 3, rfl, F6, by omega, hi, by decide, fun a3 H7 a30 a31 x7 F7 => ?_⟩
    refine ⟨Nat.le_of_ble_eq_true rfl, fun c hc => ?_⟩
    have x47 := (x5.trans x6).trans x7
    have hb7 := x47 b _ nbp hb4
    have kc := Kp.add (o := .tup [.int a1, .int a2, .int a3]) hc
    have x48 := x47.trans kc.kx
    have hb8 := kc _ _ hb7
    have F8 := F7.kp kc
    have rt8 := (rt.kx F4.1 x48).put (c := c) (x := a1) (y := a2) (z := a3) upd_same
    have np : p ≠ b := nbp.symm
    have up : ∀ z o, z ≠ b → upd H7 c (.tup [.int a1, .int a2, .int a3]) z = some o → upd (upd H7 c (.tup [.int a1, .int a2, .int a3])) b (.list (rs ++ [.ref c])) z = some o := fun z o n e => by rw [upd_ne n]; exact e
    have nqb : q ≠ b := fun z => by
      have := F8.2.1
      rw [z, hb8] at this
      cases this
      obtain ⟨_, e1, e2⟩ := rt8 0 _ (by rw [List.getElem?_append_left (by omega)]; exact List.getElem?_eq_getElem (by omega))
      obtain ⟨_, e3⟩ := hi.2 _ (List.getElem_mem (show 0 < xs.length by omega))
      rw [e3] at e1; cases e1
    refine ⟨rs, hb8, by omega, ⟨_, rfl⟩, rs ++ [.ref c], R.put rs.length a1 a2 a3, k' + 1 + 1 + 1, upd_same, by rw [List.length_append, hl]; rfl, by omega, ?_, fun j v e => ?_, ⟨up _ _ np F8.1, up _ _ nqb F8.2.1, F8.2.2⟩, by omega, (x4.trans x48).set Hb⟩
    · rw [hl]; exact pt.put (Nat.succ_pos _) ⟨a10, by omega⟩ ⟨a20, a21⟩ ⟨a30, a31⟩
    · obtain ⟨d, e1, e2⟩ := rt8 j v e
      exact ⟨d, e1, up _ _ (fun z => by rw [z, hb8] at e2; cases e2) e2⟩
  · rintro _ H4 ⟨⟨o, rfl⟩, rs, R, k', hb4, hl, i6, pt, rt, F4, kk, x4⟩
    rw [cnt] at hl pt i6 kk
    refine ⟨trivial, _, rfl, h b { R with n := rs.length } H4 k' ⟨by show 2 ≤ rs.length; omega, by show rs.length ≤ 7; omega, pt.p0, pt.q0, fun i h1 h2 => pt.par i (hl ▸ h1) h2, fun i h1 => pt.told i (hl ▸ h1), fun i h1 => pt.prt i (hl ▸ h1)⟩ ⟨rs, hb4, rfl, rt⟩ F4 (by omega) x4⟩
end Mine
end
section
open PySem PySem.W PyProof.Rows PySem.Calls PySem.Spec
open Classical
namespace Mine
/-- the names of components -/
inductive Nms (H : Hp) : List MV → List Str → Prop
  | nil : Nms H [] []
  | cons {t : Addr} {x : Str} {r cs : List MV} {ns : List Str} (h : H t = some (.tup (.str x :: r))) (n : Nms H cs ns) : Nms H (.ref t :: cs) (x :: ns)
theorem Nms.kp {H H' : Hp} {cs : List MV} {ns : List Str} (x : Nms H cs ns) (k : Kp H H') : Nms H' cs ns := by
  induction x with
  | nil => exact .nil
  | cons h n ih => exact .cons (k _ _ h) ih
theorem Nms.len {H : Hp} {cs : List MV} {ns : List Str} (x : Nms H cs ns) : cs.length = ns.length := by
  induction x with
  | nil => rfl
  | cons h n ih => exact congrArg (· + 1) ih
theorem Nms.get {H : Hp} {cs : List MV} {ns : List Str} (x : Nms H cs ns) : ∀ {i : Nat} {v : MV}, cs[i]? = some v → ∃ t y r, v = .ref t ∧ H t = some (.tup (.str y :: r)) ∧ ns[i]? = some y := by
  induction x with
  | nil => exact fun e => nomatch e
  | cons h n ih =>
    intro i v e
    cases i with
    | zero => cases e; exact ⟨_, _, _, rfl, h, rfl⟩
    | succ i => exact ih e
theorem Nms.app {H : Hp} {cs ds : List MV} {ns ms : List Str} (x : Nms H cs ns) (y : Nms H ds ms) : Nms H (cs ++ ds) (ns ++ ms) := by
  induction x with
  | nil => exact y
  | cons h n ih => exact .cons h ih
theorem names_comp {H1 : Hp} {l : Loc} {k : Nat} {P : MV → Hp → Prop} (hl : l.length = k) {p : Addr} {cs : List MV} {ns : List Str} (h1 : H1 p = some (.list cs)) (N : Nms H1 cs ns) (hz : cs.length ≤ 1000)
    (h : ∀ q, H1 q = none → P (.ref q) (upd H1 q (.list (ns.map .str)))) :
    ∃ items g, srcP 0 (.ref p) H1 items g ∧ ∃ I : Nat → List MV → Hp → Prop, I 0 [] H1 ∧
      (∀ i acc H2 v, I i acc H2 → items[i]? = some v → g H2 ∧ tT (l ++ [some v]) (fun b H3 => if b = true then (dIdx (dV k) (dK (.int 0))) (l ++ [some v]) (fun y H4 => I (i + 1) (acc ++ [y]) H4) H3 else I (i + 1) acc H3) H2) ∧
      (∀ acc H2, I items.length acc H2 → g H2 ∧ alc (.list acc) P H2) := by
  refine ⟨cs, _, .inl ⟨rfl, p, rfl, h1, hz, rfl⟩, fun i acc H2 => H2 = H1 ∧ acc = (ns.take i).map .str, ⟨rfl, rfl⟩, ?_, ?_⟩
  · rintro i _ _ v ⟨rfl, rfl⟩ hv
    obtain ⟨t, y, r, rfl, e1, e2⟩ := N.get hv
    have hat : Loc.at (l ++ [some (MV.ref t)]) k = some (.ref t) := by
      unfold Loc.at
      rw [← hl, List.getElem?_append_right (Nat.le_refl _), Nat.sub_self]; rfl
    refine ⟨h1, _, hat, _, tup_at (i := 0) e1 (by decide) rfl, rfl, ?_⟩
    rw [List.take_add_one, e2, List.map_append]; rfl
  · rintro _ _ ⟨rfl, rfl⟩
    rw [N.len, List.take_length]
    exact ⟨h1, fun q hq => h q hq⟩
noncomputable def φ_check_new_names : Fn := fun vs P H => ∃ pp pd fp pc cs ds ns ms ln, vs = [.ref pp, .ref pc, ln] ∧ Ty H pp pd fp ∧ fp 14 = .non ∧ (∃ a, fp 12 = .ref a ∧ H a = some (.list [])) ∧ (∃ a, fp 13 = .ref a ∧ H a = some (.list cs)) ∧ H pc = some (.list ds) ∧
  Nms H cs ns ∧ Nms H ds ms ∧ cs.length ≤ 100 ∧ ds.length ≤ 100 ∧ (ns ++ ms).Nodup ∧ ∀ H', Kp H H' → P .non H'
noncomputable abbrev D_check_new_names : DenS := sSeq (sAsg (gV 3) (dDct)) (sSeq (sAsg (gV 4) (dBin .Add (dComp 0 (dBin .Add (dAttr (dV 0) 12) (dAttr (dV 0) 13)) (tT) (dIdx (dV 6) (dK (.int 0)))) (dCall φ_variant_names (lC (dAttr (dV 0) 14) (lN))))) (sSeq (sFor 0 (gV 5) (dBin .Add (dV 4) (dComp 0 (dV 1) (tT) (dIdx (dV 6) (dK (.int 0))))) (sSeq (sIf (tCmp .In (dV 5) (dV 3)) (sDead) (sNil)) (sSeq (sAsg (gIdx (dV 3) (dV 5)) (dK (.bool true))) (sNil)))) (sNil)))
theorem keys_look (ns : List Str) (x : Str) (h : x ∉ ns) : (ns.map fun y => (y, MV.bool true)).lookup x = none := by
  induction ns with
  | nil => rfl
  | cons y r ih =>
    rw [List.mem_cons, not_or] at h
    rw [List.map_cons, List.lookup_cons, show (x == y) = false from beq_eq_false_iff_ne.mpr h.1]
    exact ih h.2
theorem c_check_new_names {vs : List MV} {P : MV → Hp → Prop} {H : Hp} (h : φ_check_new_names vs P H) : vs.length = 3 ∧ D_check_new_names (vs.map some ++ [none, none, none]) (fun fl l H => P (retOf fl) H) H := by
  obtain ⟨pp, pd, fp, pc, cs, ds, ns, ms, ln, rfl, T, e14, ⟨a, a1, a2⟩, ⟨b, b1, b2⟩, hd, N1, N2, z1, z2, nd, h⟩ := h
  refine ⟨rfl, fun kd hkd => ?_⟩
  have k1 := Kp.add (o := .dict []) hkd
  refine ⟨_, rfl, _, (T.kp k1).at (by decide) a1, _, rfl, _, (T.kp k1).at (by decide) b1, .inr (.inr ⟨rfl, a, b, [], cs, rfl, rfl, k1 _ _ a2, k1 _ _ b2, Nat.zero_le _, by omega, fun e he => ?_⟩)⟩
  have k2 := k1.trans (Kp.add (o := .list ([] ++ cs)) he)
  refine names_comp (k := 6) rfl (p := e) upd_same (N1.kp k2) (by show cs.length ≤ 1000; omega) fun q hq => ?_
  have k3 := k2.trans (Kp.add (o := .list (ns.map .str)) hq)
  refine ⟨_, rfl, _, (T.kp k3).at (by decide) e14, rfl, fun u H4 k34 hu => .inr (.inr ⟨rfl, q, u, _, [], rfl, rfl, k34 _ _ upd_same, hu, by rw [List.length_map, ← N1.len]; omega, Nat.zero_le _, fun n1 hn1 => ?_⟩)⟩
  have k4 := (k3.trans k34).trans (Kp.add (o := .list (ns.map .str ++ [])) hn1)
  have g1 : ∀ {H'}, Kp (upd H4 n1 (.list (ns.map .str ++ []))) H' → H' n1 = some (.list (ns.map .str ++ [])) := fun k => k _ _ upd_same
  have gk : upd H4 n1 (.list (ns.map .str ++ [])) kd = some (.dict []) := ((((Kp.add (o := .list ([] ++ cs)) he).trans (Kp.add (o := .list (ns.map .str)) hq)).trans k34).trans (Kp.add (o := .list (ns.map .str ++ [])) hn1)) _ _ upd_same
  revert k4 g1 gk
  generalize upd H4 n1 (.list (ns.map .str ++ [])) = H5
  intro k4 g1 gk
  refine ⟨_, rfl, _, rfl, names_comp (k := 6) rfl (p := pc) (k4 _ _ hd) (N2.kp k4) (by omega) fun q2 hq2 => ?_⟩
  have k5 := Kp.add (o := .list (ms.map .str)) hq2
  refine .inr (.inr ⟨rfl, n1, q2, _, _, rfl, rfl, g1 k5, upd_same, by rw [List.append_nil, List.length_map, ← N1.len]; omega, by rw [List.length_map, ← N2.len]; omega, fun n2 hn2 => ?_⟩)
  have k6 := Kp.add (o := .list (ns.map .str ++ [] ++ ms.map .str)) hn2
  have en : ns.map MV.str ++ [] ++ ms.map MV.str = (ns ++ ms).map MV.str := by rw [List.append_nil, List.map_append]
  rw [en]
  rw [en] at k6
  have kH := (k4.trans k5).trans k6
  have zl : (ns ++ ms).length ≤ 200 := by rw [List.length_append, ← N1.len, ← N2.len]; omega
  generalize ha : ns ++ ms = all at *
  refine ⟨all.map .str, _, .inl ⟨rfl, n2, rfl, upd_same, by rw [List.length_map]; omega, rfl⟩, fun i l H' => (∃ o, l = [some (.ref pp), some (.ref pc), some ln, some (.ref kd), some (.ref n1), o]) ∧ H' kd = some (.dict ((all.take i).map fun y => (y, MV.bool true))) ∧ H' n2 = some (.list (all.map .str)) ∧ Kp H H',
    ⟨⟨_, rfl⟩, k6 _ _ (k5 _ _ gk), upd_same, kH⟩, ?_, ?_⟩
  · rintro i _ H' v ⟨⟨o, rfl⟩, e1, e2, k⟩ hv
    rw [List.getElem?_map] at hv
    obtain ⟨y, hy, rfl⟩ := Option.map_eq_some_iff.mp hv
    refine ⟨e2, _, rfl, _, rfl, _, .ind e1, ?_⟩
    have ny : y ∉ all.take i := fun hm => by
      obtain ⟨j, hj⟩ := List.getElem?_of_mem hm
      rw [List.getElem?_take] at hj
      split at hj
      · have h1 := (List.getElem?_eq_some_iff.mp hy)
        have h2 := (List.getElem?_eq_some_iff.mp hj)
        obtain ⟨l1, h1⟩ := h1
        obtain ⟨l2, h2⟩ := h2
        have := (List.nodup_iff_pairwise_ne.mp nd)
        have := List.pairwise_iff_getElem.mp this j i l2 l1 (by assumption)
        exact this (h2.trans h1.symm)
      · cases hj
    rw [keys_look _ _ ny]
    refine ⟨_, rfl, _, rfl, .inr ⟨kd, _, y, rfl, rfl, e1, by rw [List.length_map, List.length_take]; omega, ⟨_, rfl⟩, ?_, ?_, k.set hkd⟩⟩
    · rw [upd_same, List.take_add_one, hy]
      unfold putD
      rw [if_neg (by
        rw [List.any_eq_true]
        rintro ⟨p, hp, q⟩
        obtain ⟨z, hz, rfl⟩ := List.mem_map.mp hp
        have q : z = y := of_decide_eq_true q
        exact ny (q ▸ hz)), List.map_append]
      rfl
    · rw [upd_ne (fun z => by rw [z, e1] at e2; cases e2)]; exact e2
  · rintro _ H' ⟨⟨o, rfl⟩, e1, e2, k⟩
    exact ⟨e2, h H' k⟩
end Mine
end
section
open PySem PySem.W PyProof.Rows PySem.Calls PySem.Spec
open Classical
namespace Mine
noncomputable def φ_extend_type : Fn := fun vs P H => ∃ pp pd fp nm num pc ln cs ds ns ms es, vs = [.ref pp, nm, num, .ref pc, ln] ∧ Ty H pp pd fp ∧ fp 0 = .str "record" ∧ fp 14 = .non ∧ fp 16 = .bool true ∧ (∃ a, fp 12 = .ref a ∧ H a = some (.list [])) ∧
  (∃ a, fp 13 = .ref a ∧ H a = some (.list cs)) ∧ (∃ o, fp 23 = .ref o ∧ H o = some (.dict es)) ∧ H pc = some (.list ds) ∧ Nms H cs ns ∧ Nms H ds ms ∧ cs.length ≤ 100 ∧ ds.length ≤ 100 ∧ (ns ++ ms).Nodup ∧ es.length ≤ 100 ∧
  ∀ p d f H', Made H H' p d f (cs ++ ds) es → f 2 = num → f 3 = .ref pp → f 16 = .bool true → P (.ref p) H'
noncomputable abbrev D_extend_type : DenS := sSeq (sIf (tNot (tVal (dAttr (dV 0) 16))) (sDead) (sNil)) (sSeq (sExp (dCall φ_check_new_names (lC (dV 0) (lC (dV 3) (lC (dV 4) (lN)))))) (sSeq (sAsg (gV 5) (dCall φ_derived_type (lC (dV 0) (lC (dV 1) (lN))))) (sSeq (sAsg (gAttr (dV 5) 2) (dV 2)) (sSeq (sAsg (gAttr (dV 5) 13) (dBin .Add (dAttr (dV 0) 13) (dLst (dV 3)))) (sSeq (sIf (tCmp .Eq (dAttr (dV 0) 0) (dK (.str "private"))) (sDead) (sNil)) (sSeq (sRet (dV 5)) (sNil)))))))
theorem not_private : (("record" : Str) == "private") = false := by decide +kernel
theorem c_extend_type {vs : List MV} {P : MV → Hp → Prop} {H : Hp} (h : φ_extend_type vs P H) : vs.length = 5 ∧ D_extend_type (vs.map some ++ [none]) (fun fl l H => P (retOf fl) H) H := by
  obtain ⟨pp, pd, fp, nm, num, pc, ln, cs, ds, ns, ms, es, rfl, T, e0, e14, e16, a12, ⟨b, b1, b2⟩, ⟨o, o1, o2⟩, hd, N1, N2, z1, z2, nd, z3, h⟩ := h
  refine ⟨rfl, _, rfl, _, T.at (by decide) e16, _, rfl, ?_⟩
  refine ⟨_, rfl, _, rfl, _, rfl, pp, pd, fp, pc, cs, ds, ns, ms, ln, rfl, T, e14, a12, ⟨b, b1, b2⟩, hd, N1, N2, z1, z2, nd, fun H1 k1 => ?_⟩
  obtain ⟨a, a1, a2⟩ := a12
  refine ⟨_, rfl, _, rfl, pp, pd, fp, nm, cs, es, rfl, T.kp k1, e0, e14, ⟨a, a1, k1 _ _ a2⟩, ⟨b, b1, k1 _ _ b2⟩, ⟨o, o1, k1 _ _ o2⟩, z3, fun p d f H2 m f3 f16 => ?_⟩
  obtain ⟨q, q1, q2, q3⟩ := m.op
  obtain ⟨r, r1, r2⟩ := m.di
  refine ⟨_, rfl, _, rfl, m.m.set (by decide) fun H3 x s3 => ?_⟩
  have k13 := k1.trans x.kp
  refine ⟨_, rfl, _, (T.kp k13).at (by decide) b1, _, rfl, pc, ds, rfl, k13 _ _ hd, by omega, fun c hc => .inr (.inr ⟨rfl, b, c, cs, ds, rfl, rfl, Kp.add hc _ _ (k13 _ _ b2), upd_same, by omega, by omega, fun e he => ?_⟩)⟩
  refine ⟨_, rfl, ((x.add hc).add he).set (by decide) fun H5 y s5 => ?_⟩
  have s35 := ((Kp.add (o := .list ds) hc).trans (Kp.add (o := .list (cs ++ ds)) he)).sy.trans s5
  have k15 := k1.trans y.kp
  refine ⟨_, rfl, _, (T.kp k15).at (by decide) e0, _, .eq (.str _ _), ?_⟩
  rw [not_private]
  refine ⟨_, rfl, h p d _ H5 ⟨⟨k15, k1.nn y.fp, k1.nn y.fd, y.ty⟩, m.kd, m.va, ⟨r, r1, s35.list (s3.list r2)⟩, ⟨e, rfl, s5.list upd_same⟩, ⟨q, q1, k1.nn q2, s35.dict (s3.dict q3)⟩⟩ rfl f3 (f16.trans e16)⟩
end Mine
end
section
open PySem PySem.W PyProof.Rows PySem.Calls PySem.Spec
open Classical
namespace Mine
noncomputable def keyN : Nat → Str
  | 0 => "run" | 1 => "stop" | _ => "tell"
noncomputable def sV (j : Int) : Str := ("s" : Str) ++ digs j
noncomputable def cV (i p : Int) : Str := (("c" : Str) ++ digs i) ++ digs p
noncomputable def ownN (R : Rws) (i : Nat) : List Str := (List.range (R.prt i).toNat).map fun (p : Nat) => cV i p
noncomputable def namesR (R : Rws) : Nat → Int → List Str
  | 0, _ => []
  | n + 1, i => if i < 0 then [] else namesR R n (R.par i.toNat) ++ ownN R i.toNat
noncomputable def opV (R : Rws) (left : Option (Int × Int)) (i : Int) (k : Nat) : Option MV := if 0 ≤ near R k left 8 i then some (.str (sV (near R k left 8 i))) else none
structure Node (H : Hp) (R : Rws) (V : Nat → Option MV) (xs : List MV) (i : Nat) (p d : Addr) (f : Nat → MV) (cs : List MV) (es : List (Str × MV)) : Prop where
  x : xs[i]? = some (.ref p)
  ty : Ty H p d f
  kd : f 0 = .str "record"
  no : f 2 = .int (40 + (i : Int))
  va : f 14 = .non
  tg : f 16 = .bool true
  pa : (R.par i < 0 ∧ f 3 = .non) ∨ ∃ pp, 0 ≤ R.par i ∧ xs[(R.par i).toNat]? = some (.ref pp) ∧ f 3 = .ref pp
  di : ∃ a, f 12 = .ref a ∧ H a = some (.list [])
  co : ∃ a, f 13 = .ref a ∧ H a = some (.list cs)
  nm : Nms H cs (namesR R 8 i)
  op : ∃ o, f 23 = .ref o ∧ H o = some (.dict es)
  ok : ∀ k, k < 3 → es.lookup (keyN k) = V k
def NodeAt (H : Hp) (R : Rws) (left : Option (Int × Int)) (xs : List MV) (i : Nat) : Prop := ∃ p d f cs es, Node H R (opV R left i) xs i p d f cs es ∧ es.length ≤ 3 * (i + 1)
variable {H H' : Hp} {R : Rws} {V : Nat → Option MV} {left : Option (Int × Int)} {xs ys cs : List MV} {i : Nat} {p d : Addr} {f : Nat → MV} {es : List (Str × MV)}
theorem Node.kp (x : Node H R V xs i p d f cs es) (k : Kp H H') : Node H' R V xs i p d f cs es := by
  obtain ⟨a, a1, a2⟩ := x.di
  obtain ⟨b, b1, b2⟩ := x.co
  obtain ⟨o, o1, o2⟩ := x.op
  exact ⟨x.x, x.ty.kp k, x.kd, x.no, x.va, x.tg, x.pa, ⟨a, a1, k _ _ a2⟩, ⟨b, b1, k _ _ b2⟩, x.nm.kp k, ⟨o, o1, k _ _ o2⟩, x.ok⟩
/-- what is built stays where it is in the list -/
theorem Node.mv (x : Node H R V xs i p d f cs es) (k : ∀ (j : Nat) (q : Addr), xs[j]? = some (MV.ref q) → ys[j]? = some (MV.ref q)) : Node H R V ys i p d f cs es :=
  ⟨k _ _ x.x, x.ty, x.kd, x.no, x.va, x.tg, x.pa.imp id fun ⟨pp, h1, h2, h3⟩ => ⟨pp, h1, k _ _ h2, h3⟩, x.di, x.co, x.nm, x.op, x.ok⟩
/-! plain facts about rows -/
theorem bit_cases (ok : R.OK) {j : Int} (h0 : 0 ≤ j) (h1 : j < R.n) {k : Int} : bit (R.told j.toNat) k = 0 ∨ bit (R.told j.toNat) k = 1 := by
  obtain ⟨a, _⟩ := ok.told j.toNat (by omega)
  have hx : 0 ≤ (R.told j.toNat).fdiv (2 ^ k.toNat) := Int.fdiv_nonneg a (Int.le_of_lt (Int.pow_pos (by decide)))
  unfold bit
  rw [bitAnd_pp hx (by decide), show (1 : Int).toNat = 1 from rfl, Nat.and_one_is_mod]
  omega
theorem near_more (ok : R.OK) {key : Int} : ∀ {n : Nat} {j : Int}, -1 ≤ j → j < R.n → j + 1 ≤ n → near R key left (n + 1) j = near R key left n j
  | 0, j, h0, h1, h2 => by
    unfold near
    rw [if_pos (.inl (by omega))]
  | n + 1, j, h0, h1, h2 => by
    by_cases q : j < 0 ∨ Tells R key left j
    · have e : ∀ m, near R key left (m + 1) j = j := fun m => if_pos q
      rw [e, e]
    · have e : ∀ m, near R key left (m + 1) j = near R key left m (R.par j.toNat) := fun m => if_neg q
      obtain ⟨s1, s2⟩ := ok.step (by omega) h1
      rw [e, e, near_more ok s1 (by omega) (by omega)]
theorem near_step (ok : R.OK) {key : Int} {j : Int} (h0 : 0 ≤ j) (h1 : j < R.n) : near R key left 8 j = if Tells R key left j then j else near R key left 8 (R.par j.toNat) := by
  obtain ⟨s1, s2⟩ := ok.step h0 h1
  have hi := ok.hi
  by_cases q : Tells R key left j
  · rw [if_pos q]; exact if_pos (.inr q)
  · rw [if_neg q, near_more (n := 7) ok s1 (by omega) (by omega)]
    exact if_neg fun z => z.elim (fun z => by omega) q
/-- the list of what is made: its first item is None or an instance -/
def Mls (H : Hp) (M : Addr) (ms : List MV) : Prop := H M = some (.list ms) ∧ ∃ v, ms[0]? = some v ∧ (v = .non ∨ ∃ q C e, v = .ref q ∧ H q = some (.inst C e))
theorem Nms.kx {M : Addr} {ms : List MV} {ns : List Str} (x : Nms H cs ns) (hM : H M = some (.list ms)) (k : Kx M H H') : Nms H' cs ns := by
  induction x with
  | nil => exact .nil
  | @cons t y r cs ns h n ih => exact .cons (k t _ (fun z => by rw [z, hM] at h; cases h) h) ih
theorem Node.kx {M : Addr} {ms : List MV} (x : Node H R V xs i p d f cs es) (hM : Mls H M ms) (k : Kx M H H') : Node H' R V xs i p d f cs es := by
  obtain ⟨a, a1, a2⟩ := x.di
  obtain ⟨b, b1, b2⟩ := x.co
  obtain ⟨o, o1, o2⟩ := x.op
  obtain ⟨hM, v, hv, hw⟩ := hM
  have nc : ∀ {q m}, H q = some m → (∀ l, m ≠ .list l) → q ≠ M := fun e n z => by rw [z, hM] at e; exact n _ (Option.some.inj e).symm
  have na : a ≠ M := fun z => by rw [z, hM] at a2; cases a2; cases hv
  have nb : b ≠ M := fun z => by
    rw [z, hM] at b2
    cases b2
    obtain ⟨t, y, r, rfl, e1, _⟩ := x.nm.get hv
    rcases hw with hw | ⟨q, C, e, hw, e2⟩
    · cases hw
    · cases hw; rw [e1] at e2; cases e2
  exact ⟨x.x, ⟨k _ _ (nc x.ty.i fun _ z => nomatch z) x.ty.i, k _ _ (nc x.ty.e fun _ z => nomatch z) x.ty.e⟩, x.kd, x.no, x.va, x.tg, x.pa, ⟨a, a1, k _ _ na a2⟩, ⟨b, b1, k _ _ nb b2⟩, x.nm.kx hM k, ⟨o, o1, k _ _ (nc o2 fun _ z => nomatch z) o2⟩, x.ok⟩
end Mine
end
section
open PySem PySem.W PyProof.Rows PySem.Calls PySem.Spec
open Classical
namespace Mine
theorem digs_len : ∀ i, i < 10 → (digs (i : Nat)).length ≤ 3 ∧ (("c" : Str) ++ digs (i : Nat)).length ≤ 5 := by decide +kernel
theorem lit_len : ("c" : Str).length ≤ 1 ∧ ("s" : Str).length ≤ 1 ∧ ("t" : Str).length ≤ 1 := by decide +kernel
theorem cV_all : ((List.range 7).all fun i => (List.range 3).all fun p => (List.range 7).all fun j => (List.range 3).all fun q => !(cV (i : Nat) (p : Nat) == cV (j : Nat) (q : Nat)) || (i == j && p == q)) = true := by decide +kernel
theorem cV_inj (i : Nat) (hi : i < 7) (p : Nat) (hp : p < 3) (j : Nat) (hj : j < 7) (q : Nat) (hq : q < 3) (e : cV (i : Nat) (p : Nat) = cV (j : Nat) (q : Nat)) : i = j ∧ p = q := by
  have h := List.all_eq_true.mp (List.all_eq_true.mp (List.all_eq_true.mp (List.all_eq_true.mp cV_all i (List.mem_range.mpr hi)) p (List.mem_range.mpr hp)) j (List.mem_range.mpr hj)) q (List.mem_range.mpr hq)
  rw [e, beq_self_eq_true, Bool.not_true, Bool.false_or] at h
  obtain ⟨a, b⟩ := Bool.and_eq_true_iff.mp h
  exact ⟨eq_of_beq a, eq_of_beq b⟩
theorem keyN_inj : ∀ i, i < 3 → ∀ j, j < 3 → keyN i = keyN j → i = j := by decide +kernel
variable {R : Rws}
theorem own_mem (ok : R.OK) {i : Nat} (h : i < R.n) {x : Str} (m : x ∈ ownN R i) : ∃ p, p < 3 ∧ x = cV (i : Nat) (p : Nat) := by
  obtain ⟨p, hp, rfl⟩ := List.mem_map.mp m
  have := ok.prt i h
  exact ⟨p, by have := List.mem_range.mp hp; omega, rfl⟩
theorem names_mem (ok : R.OK) : ∀ n {i : Int} {x : Str}, i < R.n → x ∈ namesR R n i → ∃ j p : Nat, (j : Int) ≤ i ∧ j < 7 ∧ p < 3 ∧ x = cV j p
  | 0, i, x, _, m => nomatch m
  | n + 1, i, x, h, m => by
    unfold namesR at m
    split at m
    · cases m
    · rename_i h0
      obtain ⟨s1, s2⟩ := ok.step (by omega) h
      have := ok.hi
      rcases List.mem_append.mp m with m | m
      · obtain ⟨j, p, h1, h2⟩ := names_mem ok n (by omega) m
        exact ⟨j, p, by omega, h2⟩
      · obtain ⟨p, hp, e⟩ := own_mem ok (by omega) m
        exact ⟨i.toNat, p, by omega, by omega, hp, e⟩
theorem own_nodup (ok : R.OK) {i : Nat} (h : i < R.n) : (ownN R i).Nodup := by
  have := ok.prt i h
  have := ok.hi
  unfold ownN
  refine List.pairwise_map.mpr (List.pairwise_iff_getElem.mpr fun a b ha hb hab e => ?_)
  rw [List.length_range] at ha hb
  rw [List.getElem_range, List.getElem_range] at e
  have := (cV_inj i (by omega) a (by omega) i (by omega) b (by omega) e).2
  omega
theorem names_nodup (ok : R.OK) : ∀ n {i : Int}, i < R.n → (namesR R n i).Nodup
  | 0, i, _ => List.nodup_nil
  | n + 1, i, h => by
    unfold namesR
    split
    · exact List.nodup_nil
    · rename_i h0
      obtain ⟨s1, s2⟩ := ok.step (by omega) h
      have := ok.hi
      refine List.nodup_append.mpr ⟨names_nodup ok n (by omega), own_nodup ok (by omega), fun x hx y hy e => ?_⟩
      subst e
      obtain ⟨j, p, h1, h2, h3, h4⟩ := names_mem ok n (by omega) hx
      obtain ⟨q, h5, h6⟩ := own_mem ok (by omega) hy
      have := (cV_inj _ h2 _ h3 i.toNat (by omega) q h5 (h4.symm.trans h6)).1
      omega
theorem names_len (ok : R.OK) : ∀ n {i : Int}, i < R.n → (namesR R n i).length ≤ 3 * n
  | 0, i, _ => Nat.le_refl _
  | n + 1, i, h => by
    unfold namesR
    split
    · exact Nat.zero_le _
    · obtain ⟨s1, s2⟩ := ok.step (by omega) h
      have h1 := names_len ok n (i := R.par i.toNat) (by omega)
      have h2 := ok.prt i.toNat (by omega)
      rw [List.length_append]
      unfold ownN
      rw [List.length_map, List.length_range]
      omega
theorem names_neg {n : Nat} {i : Int} (h : i < 0) : namesR R n i = [] := by
  cases n with
  | zero => rfl
  | succ n => exact if_pos h
theorem names_more (ok : R.OK) : ∀ {n : Nat} {j : Int}, -1 ≤ j → j < R.n → j + 1 ≤ n → namesR R (n + 1) j = namesR R n j
  | 0, j, h0, h1, h2 => by rw [names_neg (by omega), names_neg (by omega)]
  | n + 1, j, h0, h1, h2 => by
    by_cases q : j < 0
    · rw [names_neg q, names_neg q]
    · have e : ∀ m, namesR R (m + 1) j = namesR R m (R.par j.toNat) ++ ownN R j.toNat := fun m => if_neg q
      obtain ⟨s1, s2⟩ := ok.step (by omega) h1
      rw [e, e, names_more ok s1 (by omega) (by omega)]
theorem names_step (ok : R.OK) {j : Int} (h0 : 0 ≤ j) (h1 : j < R.n) : namesR R 8 j = namesR R 8 (R.par j.toNat) ++ ownN R j.toNat := by
  obtain ⟨s1, s2⟩ := ok.step h0 h1
  have hi := ok.hi
  rw [names_more (n := 7) ok s1 (by omega) (by omega)]
  exact if_neg (by omega)
/-! the operations of a type under the hand -/
variable {H H' : Hp} {V : Nat → Option MV} {left : Option (Int × Int)} {xs ys cs : List MV} {i : Nat} {p d o : Addr} {f : Nat → MV} {es : List (Str × MV)}
theorem putD_look (es : List (Str × MV)) (x : Str) (u : MV) (y : Str) : (putD es x u).lookup y = if y = x then some u else es.lookup y := by
  unfold putD
  by_cases h : es.any (fun p => decide (p.1 = x)) = true
  · rw [if_pos h]
    induction es with
    | nil => cases h
    | cons p r ih =>
      rw [List.map_cons]
      by_cases q : p.1 = x
      · rw [if_pos q, List.lookup_cons, List.lookup_cons, q]
        by_cases z : y = x
        · rw [show (y == x) = true from beq_iff_eq.mpr z, if_pos z]
        · rw [show (y == x) = false from beq_eq_false_iff_ne.mpr z, if_neg z]
          dsimp only
          by_cases h' : r.any (fun p => decide (p.1 = x)) = true
          · rw [ih h', if_neg z]
          · have e : ∀ p ∈ r, p.1 ≠ x := fun p hp e => h' (List.any_eq_true.mpr ⟨p, hp, decide_eq_true e⟩)
            rw [show r.map (fun p => if p.1 = x then (p.1, u) else p) = r from (List.map_congr_left (g := id) fun p hp => if_neg (e p hp)).trans (List.map_id r)]
      · have h' : r.any (fun p => decide (p.1 = x)) = true := by
          rw [List.any_cons, decide_eq_false q, Bool.false_or] at h; exact h
        rw [if_neg q, List.lookup_cons, List.lookup_cons, ih h']
        by_cases z : y = p.1
        · subst z
          rw [beq_self_eq_true, if_neg q, if_neg q]
        · rw [show (y == p.1) = false from beq_eq_false_iff_ne.mpr z]
  · rw [if_neg h]
    have e : ∀ p ∈ es, p.1 ≠ x := fun p hp e => h (List.any_eq_true.mpr ⟨p, hp, decide_eq_true e⟩)
    clear h
    induction es with
    | nil =>
      show List.lookup y [(x, u)] = _
      rw [List.lookup_cons]
      by_cases z : y = x
      · rw [show (y == x) = true from beq_iff_eq.mpr z, if_pos z]
      · rw [show (y == x) = false from beq_eq_false_iff_ne.mpr z, if_neg z]
    | cons p r ih =>
      rw [List.cons_append, List.lookup_cons, List.lookup_cons, ih fun p hp => e p (.tail _ hp)]
      by_cases z : y = p.1
      · subst z
        rw [beq_self_eq_true, if_neg (e p (.head _)), if_neg (e p (.head _))]
      · rw [show (y == p.1) = false from beq_eq_false_iff_ne.mpr z]
theorem putD_len (es : List (Str × MV)) (x : Str) (u : MV) : (putD es x u).length ≤ es.length + 1 := by
  unfold putD
  split
  · rw [List.length_map]; exact Nat.le_succ _
  · rw [List.length_append]; exact Nat.le_refl _
theorem upd_dict {a : Addr} {m : MObj} {es' : List (Str × MV)} (h : H o = some (.dict es)) (e : H a = some m) (n : ∀ es, m ≠ .dict es) : upd H o (.dict es') a = some m := by
  rw [upd_ne fun z => by rw [z, h] at e; exact n _ (Option.some.inj e).symm]; exact e
theorem Nms.dict {ns : List Str} {es' : List (Str × MV)} (x : Nms H cs ns) (h : H o = some (.dict es)) : Nms (upd H o (.dict es')) cs ns := by
  induction x with
  | nil => exact .nil
  | cons e n ih => exact .cons (upd_dict h e fun _ z => nomatch z) ih
theorem Node.lay (x : Node H R V xs i p d f cs es) (ho : f 23 = .ref o) {k : Nat} (hk : k < 3) {u : MV} : Node (upd H o (.dict (putD es (keyN k) u))) R (fun j => if j = k then some u else V j) xs i p d f cs (putD es (keyN k) u) := by
  obtain ⟨a, a1, a2⟩ := x.di
  obtain ⟨b, b1, b2⟩ := x.co
  obtain ⟨o', o1, o2⟩ := x.op
  rw [ho] at o1
  cases o1
  refine ⟨x.x, ⟨upd_dict o2 x.ty.i (fun _ z => nomatch z), upd_dict o2 x.ty.e (fun _ z => nomatch z)⟩, x.kd, x.no, x.va, x.tg, x.pa, ⟨a, a1, upd_dict o2 a2 (fun _ z => nomatch z)⟩, ⟨b, b1, upd_dict o2 b2 (fun _ z => nomatch z)⟩, x.nm.dict o2, ⟨o, ho, upd_same⟩, fun j hj => ?_⟩
  rw [putD_look]
  by_cases q : j = k
  · rw [if_pos (by rw [q]), if_pos q]
  · rw [if_neg (fun z => q (keyN_inj j hj k hk z)), if_neg q]; exact x.ok j hj
end Mine
end
section
open PySem PySem.W PyProof.Rows PySem.Calls PySem.Spec
open Classical
namespace Mine
theorem ir_get {n i : Nat} {v : MV} (h : (irange n)[i]? = some v) : i < n ∧ v = .int (i : Int) := by
  unfold irange at h
  rw [List.getElem?_map] at h
  obtain ⟨j, hj, rfl⟩ := Option.map_eq_some_iff.mp h
  obtain ⟨hl, e⟩ := List.getElem?_eq_some_iff.mp hj
  rw [List.length_range] at hl
  rw [List.getElem_range] at e
  exact ⟨hl, by rw [e]⟩
theorem ir_len {n : Nat} : (irange n).length = n := by unfold irange; rw [List.length_map, List.length_range]
theorem Kx.kp {H0 H1 H5 : Hp} {M : Addr} (k : Kp H0 H1) (f : H0 M = none) (x : Kx M H1 H5) : Kp H0 H5 := fun a o e => x a o (fun z => by rw [z, f] at e; cases e) (k a o e)
theorem Node.congr {H : Hp} {R : Rws} {V V' : Nat → Option MV} {xs : List MV} {i : Nat} {p d : Addr} {f : Nat → MV} {cs : List MV} {es : List (Str × MV)} (x : Node H R V xs i p d f cs es) (h : ∀ k, k < 3 → V k = V' k) : Node H R V' xs i p d f cs es :=
  ⟨x.x, x.ty, x.kd, x.no, x.va, x.tg, x.pa, x.di, x.co, x.nm, x.op, fun k hk => (x.ok k hk).trans (h k hk)⟩
/-- a type under the hand at place i: what stands -/
structure Bld (H0 H1 : Hp) (R : Rws) (left : Option (Int × Int)) (M : Addr) (ms : List MV) (i : Nat) (p d o : Addr) (f : Nat → MV) : Prop where
  ok : R.OK
  hi : i < R.n
  k0 : Kp H0 H1
  fM : H0 M = none
  ml : Mls H1 M ms
  fr : H1 o = none
  f23 : f 23 = .ref o
  non : ms[i]? = some .non
  par : 0 ≤ R.par i → NodeAt H1 R left ms (R.par i).toNat
structure Ops (H1 : Hp) (R : Rws) (left : Option (Int × Int)) (M : Addr) (ms : List MV) (i : Nat) (p d : Addr) (f : Nat → MV) (cs : List MV) (j : Nat) (H5 : Hp) : Prop where
  kx : Kx M H1 H5
  mm : H5 M = some (.list (ms.set i (.ref p)))
  nd : ∃ es, Node H5 R (fun k => if k < j then opV R left i k else opV R left (R.par i) k) (ms.set i (.ref p)) i p d f cs es ∧ es.length ≤ 3 * i + j
variable {H0 H1 H5 H6 : Hp} {R : Rws} {left : Option (Int × Int)} {M : Addr} {ms : List MV} {i : Nat} {p d o : Addr} {f : Nat → MV} {cs : List MV} {j : Nat}
theorem Ops.kp (x : Ops H1 R left M ms i p d f cs j H5) (k : Kp H5 H6) : Ops H1 R left M ms i p d f cs j H6 := by
  obtain ⟨es, n, l⟩ := x.nd
  exact ⟨x.kx.trans k.kx, k _ _ x.mm, es, n.kp k, l⟩
theorem set_ref {ms : List MV} {i : Nat} {p : Addr} (non : ms[i]? = some .non) (j : Nat) (q : Addr) (h : ms[j]? = some (.ref q)) : (ms.set i (.ref p))[j]? = some (.ref q) := by
  rw [List.getElem?_set_ne (fun z => by rw [z, h] at non; cases non)]; exact h
theorem Bld.parent (b : Bld H0 H1 R left M ms i p d o f) (x : Ops H1 R left M ms i p d f cs j H5) (h : 0 ≤ R.par i) : NodeAt H5 R left (ms.set i (.ref p)) (R.par i).toNat := by
  obtain ⟨p', d', f', cs', es', n, l⟩ := b.par h
  exact ⟨p', d', f', cs', es', (n.kx b.ml x.kx).mv fun j q => set_ref b.non j q, l⟩
/-- what the operation j of the parent is -/
theorem opV_some {k : Nat} {i : Int} : (opV R left i k).isSome = decide (0 ≤ near R k left 8 i) := by
  unfold opV
  by_cases h : 0 ≤ near R k left 8 i
  · rw [if_pos h, decide_eq_true h]; rfl
  · rw [if_neg h, decide_eq_false h]; rfl
theorem Ops.skip (b : Bld H0 H1 R left M ms i p d o f) (x : Ops H1 R left M ms i p d f cs j H5) (nt : ¬ Tells R j left i) : Ops H1 R left M ms i p d f cs (j + 1) H5 := by
  obtain ⟨es, n, l⟩ := x.nd
  refine ⟨x.kx, x.mm, es, n.congr fun k hk => ?_, Nat.le_succ_of_le l⟩
  by_cases q : k = j
  · subst q
    rw [if_neg (Nat.lt_irrefl _), if_pos (Nat.lt_succ_self _)]
    unfold opV
    rw [near_step b.ok (j := (i : Int)) (Int.natCast_nonneg i) (by have := b.hi; omega), if_neg nt]; rfl
  · by_cases z : k < j
    · rw [if_pos z, if_pos (by omega)]
    · rw [if_neg z, if_neg (by omega)]
theorem Ops.lay (b : Bld H0 H1 R left M ms i p d o f) (x : Ops H1 R left M ms i p d f cs j H5) (tl : Tells R j left i) (hj : j < 3) {P : MV → Hp → Prop} (h : ∀ H6, Ops H1 R left M ms i p d f cs (j + 1) H6 → P (.bool (decide (0 ≤ R.par i ∧ 0 ≤ near R j left 8 (R.par i)))) H6) :
    φ_lay_operation [.ref p, .str (keyN j), .str (sV i)] P H5 := by
  obtain ⟨es, n, l⟩ := x.nd
  obtain ⟨o', o1, o2⟩ := n.op
  have eo := b.f23
  rw [o1] at eo
  cases eo
  have hi7 := b.ok.hi
  have hi := b.hi
  have ne : R.par i < 0 → near R j left 8 (R.par i) < 0 := fun h => by
    have : near R j left 8 (R.par i) = R.par i := if_pos (.inl h)
    omega
  refine ⟨p, d, f, _, es, keyN j, _, rfl, n.ty, o1, o2, by omega, ?_⟩
  have fin : Ops H1 R left M ms i p d f cs (j + 1) (upd H5 o (.dict (putD es (keyN j) (.str (sV i))))) := by
    refine ⟨x.kx.set b.fr, upd_dict o2 x.mm (fun _ z => nomatch z), _, (n.lay o1 hj).congr fun k hk => ?_, Nat.le_trans (putD_len es (keyN j) (.str (sV i))) (by omega)⟩
    by_cases q : k = j
    · subst q
      rw [if_pos rfl, if_pos (Nat.lt_succ_self _)]
      unfold opV
      rw [near_step b.ok (j := (i : Int)) (Int.natCast_nonneg i) (by omega), if_pos tl, if_pos (Int.natCast_nonneg i)]
    · rw [if_neg q]
      by_cases z : k < j
      · rw [if_pos z, if_pos (by omega)]
      · rw [if_neg z, if_neg (by omega)]
  rcases n.pa with ⟨h0, h3⟩ | ⟨pp, h0, hx, h3⟩
  · refine .inl ⟨h3, ?_⟩
    have := h _ fin
    rw [decide_eq_false (fun z => by omega)] at this
    exact this
  · obtain ⟨p', d', f', cs', es', n', l'⟩ := b.parent x h0
    have e := hx.symm.trans n'.x
    cases e
    obtain ⟨oq, q1, q2⟩ := n'.op
    refine .inr ⟨_, d', f', oq, es', h3, n'.ty, q1, q2, ?_⟩
    rw [n'.ok j hj, opV_some]
    have := h _ fin
    rw [show decide (0 ≤ R.par i ∧ 0 ≤ near R j left 8 (R.par i)) = decide (0 ≤ near R j left 8 ((R.par i).toNat : Int)) from decide_eq_decide.mpr ⟨fun z => by rw [Int.toNat_of_nonneg h0]; exact z.2, fun z => ⟨h0, by rw [Int.toNat_of_nonneg h0] at z; exact z⟩⟩] at this
    exact this
noncomputable abbrev Dsub : DenS := sSeq (sAsg (gV 12) (dAnd (dCmp .GtE (dV 7) (dK (.int 0))) (dCmp .GtE (dCall φ_law_nearest (lC (dV 0) (lC (dV 7) (lC (dV 11) (lC (dV 2) (lN)))))) (dK (.int 0))))) (sSeq (sIf (tCmp .NotEq (dCall φ_lay_operation (lC (dIdx (dV 3) (dV 6)) (lC (dIdx (dCall φ_law_keys (lN)) (dV 11)) (lC (dBin .Add (dK (.str "s")) (dStr (dV 6))) (lN))))) (dV 12)) (sSeq (sRet (dK .non)) (sNil)) (sNil)) (sNil))
noncomputable abbrev Dops : DenS := sFor 1 (gV 11) (dK (.int 3)) (sSeq (sIf (tAnd (tCmp .Eq (dBin .BitAnd (dBin .RShift (dV 8) (dV 11)) (dK (.int 1))) (dK (.int 1))) (tAnd (tCmp .NotEq (dTup (lC (dV 6) (lC (dV 11) (lN)))) (dV 2)) (tT))) Dsub (sNil)) (sNil))
/-- the names of a turn -/
abbrev Lb (p0 : Addr) (t : Int) (v : MV) (M : Addr) (w : MV) (a b c d e f g h : Option MV) : Loc := [some (.ref p0), some (.int t), some v, some (.ref M), some w, a, b, c, d, e, f, g, h]
theorem keys_at {H : Hp} {a : Addr} {j : Nat} (h : H a = some (.tup [.str "run", .str "stop", .str "tell"])) (hj : j < 3) : IdxAt H (.ref a) (.int (j : Int)) (.str (keyN j)) := by
  match j, hj with
  | 0, _ => exact tup_at (i := 0) h (by decide) rfl
  | 1, _ => exact tup_at (i := 1) h (by decide) rfl
  | 2, _ => exact tup_at (i := 2) h (by decide) rfl
theorem set_at {H : Hp} {M : Addr} {ms : List MV} {i : Nat} {p : Addr} (h : H M = some (.list (ms.set i (.ref p)))) (hi : i < ms.length) (hz : i < 1000) : IdxAt H (.ref M) (.int (i : Int)) (.ref p) :=
  list_at h hz (by rw [List.getElem?_set_self hi])
theorem digs_nat {i : Nat} (h : i < 10) {l : Loc} {k : Nat} {P : MV → Hp → Prop} {H : Hp} (e : l.at k = some (.int (i : Int))) (x : P (.str (digs (i : Int))) H) : (dStr (dV k)) l P H := ⟨_, e, _, rfl, Int.natCast_nonneg i, by omega, x⟩
theorem sub_ok {p0 : Addr} {t : Int} {v w : MV} {a5 a9 a10 a12 : Option MV} {P : Fl → Loc → Hp → Prop} (b : Bld H0 H1 R left M ms i p d o f) (rw_ : RowsAt H0 p0 R) (lf : LeftAt H0 v left) (hl : ms.length = R.n) (hj : j < 3) (x : Ops H1 R left M ms i p d f cs j H5) (tl : Tells R j left i)
    (h : ∀ H6 u, Ops H1 R left M ms i p d f cs (j + 1) H6 → P .nx (Lb p0 t v M w a5 (some (.int (i : Int))) (some (.int (R.par i))) (some (.int (R.told i))) a9 a10 (some (.int (j : Int))) (some u)) H6) :
    Dsub (Lb p0 t v M w a5 (some (.int (i : Int))) (some (.int (R.par i))) (some (.int (R.told i))) a9 a10 (some (.int (j : Int))) a12) P H5 := by
  have hi7 := b.ok.hi
  have hi := b.hi
  have fin : ∀ H6, Kp H5 H6 → (sSeq (sIf (tCmp .NotEq (dCall φ_lay_operation (lC (dIdx (dV 3) (dV 6)) (lC (dIdx (dCall φ_law_keys (lN)) (dV 11)) (lC (dBin .Add (dK (.str "s")) (dStr (dV 6))) (lN))))) (dV 12)) (sSeq (sRet (dK .non)) (sNil)) (sNil)) (sNil))
      (Lb p0 t v M w a5 (some (.int (i : Int))) (some (.int (R.par i))) (some (.int (R.told i))) a9 a10 (some (.int (j : Int))) (some (.bool (decide (0 ≤ R.par i ∧ 0 ≤ near R j left 8 (R.par i)))))) P H6 := fun H6 k6 => by
    have x6 := x.kp k6
    refine ⟨_, rfl, _, rfl, _, set_at x6.mm (by omega) (by omega), rfl, fun a ha => ?_⟩
    have x7 := x6.kp (Kp.add (o := .tup [.str "run", .str "stop", .str "tell"]) ha)
    refine ⟨_, rfl, _, keys_at upd_same hj, _, rfl, _, rfl, Int.natCast_nonneg i, by omega, .inr (.inl ⟨rfl, _, _, rfl, rfl, Nat.le_trans lit_len.2.1 (by decide), Nat.le_trans (digs_len i (by omega)).1 (by decide), ?_⟩)⟩
    refine x7.lay b tl hj fun H8 x8 => ⟨_, rfl, _, .ne (.bool _ _), ?_⟩
    rw [beq_self_eq_true]
    exact h _ _ x8
  refine ⟨_, rfl, _, .ge _ _, _, rfl, ?_⟩
  by_cases h0 : 0 ≤ R.par i
  · rw [decide_eq_true h0]
    obtain ⟨s1, s2⟩ := b.ok.step (i := (i : Int)) (Int.natCast_nonneg i) (by omega)
    have s2 : R.par i < i := s2
    have k5 := Kx.kp b.k0 b.fM x.kx
    refine ⟨_, rfl, _, rfl, _, rfl, _, rfl, p0, R.par i, j, v, R, left, rfl, rw_.kp k5, b.ok, lf.kp k5, by omega, by omega, Int.natCast_nonneg j, fun H6 k6 => ⟨_, .ge _ _, ?_⟩⟩
    have := fin H6 k6
    rw [show decide (0 ≤ R.par i ∧ 0 ≤ near R j left 8 (R.par i)) = decide (0 ≤ near R j left 8 (R.par i)) from decide_eq_decide.mpr ⟨fun z => z.2, fun z => ⟨h0, z⟩⟩] at this
    exact this
  · rw [decide_eq_false h0]
    have := fin H5 Kp.refl
    rw [decide_eq_false (fun z => h0 z.1)] at this
    exact this
theorem ops_ok {p0 : Addr} {t : Int} {v w : MV} {a5 a9 a10 a11 a12 : Option MV} {P : Fl → Loc → Hp → Prop} (b : Bld H0 H1 R left M ms i p d o f) (rw_ : RowsAt H0 p0 R) (lf : LeftAt H0 v left) (hl : ms.length = R.n) (x : Ops H1 R left M ms i p d f cs 0 H5)
    (h : ∀ H6 u u', Ops H1 R left M ms i p d f cs 3 H6 → P .nx (Lb p0 t v M w a5 (some (.int (i : Int))) (some (.int (R.par i))) (some (.int (R.told i))) a9 a10 u u') H6) :
    Dops (Lb p0 t v M w a5 (some (.int (i : Int))) (some (.int (R.par i))) (some (.int (R.told i))) a9 a10 a11 a12) P H5 := by
  have hi7 := b.ok.hi
  have hi := b.hi
  refine ⟨_, _, .inr (.inl ⟨rfl, 3, rfl, by decide, by decide, rfl, rfl⟩), fun j l H' => (∃ u u', l = Lb p0 t v M w a5 (some (.int (i : Int))) (some (.int (R.par i))) (some (.int (R.told i))) a9 a10 u u') ∧ Ops H1 R left M ms i p d f cs j H', ⟨⟨_, _, rfl⟩, x⟩, ?_, ?_⟩
  · rintro j _ H6 u ⟨⟨u1, u2, rfl⟩, x⟩ hu
    obtain ⟨hj, rfl⟩ := ir_get hu
    have hj : j < 3 := hj
    refine ⟨trivial, _, rfl, _, rfl, .inl ⟨_, _, _, rfl, rfl, .shr _ (Int.natCast_nonneg j), .inl ⟨_, _, _, rfl, rfl, .band _ _, _, .eq (.int _ _), ?_⟩⟩⟩
    rcases bit_cases b.ok (j := (i : Int)) (Int.natCast_nonneg i) (by omega) (k := (j : Int)) with hb | hb
    · rw [show (Builtin.bitAnd ((R.told i).fdiv (2 ^ (j : Int).toNat)) 1 == 1) = false from by rw [show Builtin.bitAnd ((R.told i).fdiv (2 ^ (j : Int).toNat)) 1 = 0 from hb]; rfl]
      exact ⟨⟨_, _, rfl⟩, x.skip b fun z => z.1 hb⟩
    · rw [show (Builtin.bitAnd ((R.told i).fdiv (2 ^ (j : Int).toNat)) 1 == 1) = true from by rw [show Builtin.bitAnd ((R.told i).fdiv (2 ^ (j : Int).toNat)) 1 = 1 from hb]; rfl]
      have k6 := Kx.kp b.k0 b.fM x.kx
      refine ⟨_, rfl, _, rfl, Nat.le_of_ble_eq_true rfl, fun a ha => ⟨_, rfl, _, .ne ((lf.kp (k6.trans (Kp.add ha))).eq upd_same), ?_⟩⟩
      have x7 := x.kp (Kp.add (o := .tup [.int (i : Int), .int (j : Int)]) ha)
      by_cases hl' : left = some ((i : Int), (j : Int))
      · rw [decide_eq_true hl']
        exact ⟨⟨_, _, rfl⟩, x7.skip b fun z => z.2 hl'⟩
      · rw [decide_eq_false hl']
        refine sub_ok b rw_ lf hl hj x7 ⟨fun z => (by rw [hb] at z; cases z), hl'⟩ fun H8 u x8 => ⟨⟨_, _, rfl⟩, x8⟩
  · rintro _ H6 ⟨⟨u1, u2, rfl⟩, x⟩
    exact ⟨trivial, h _ _ _ x⟩
end Mine
end
section
open PySem PySem.W PyProof.Rows PySem.Calls PySem.Spec
open Classical
namespace Mine
variable {H0 H1 H5 H6 H : Hp} {R : Rws} {left : Option (Int × Int)} {M : Addr} {ms : List MV} {i : Nat} {p d o : Addr} {f : Nat → MV} {cs : List MV} {j : Nat}
def Rdy (R : Rws) (ms : List MV) (j : Nat) : Prop := j < R.n ∧ ms[j]? = some .non ∧ (0 ≤ R.par j → ∃ q, ms[(R.par j).toNat]? = some q ∧ q ≠ .non)
theorem rdy_ex (ok : R.OK) (hl : ms.length = R.n) : ∀ n j : Nat, j < n → ms[j]? = some MV.non → ∃ k, Rdy R ms k
  | 0, _, h, _ => absurd h (Nat.not_lt_zero _)
  | n + 1, j, h, e => by
    have hj := (List.getElem?_eq_some_iff.mp e).1
    rw [hl] at hj
    by_cases h0 : 0 ≤ R.par j
    · obtain ⟨s1, s2⟩ := ok.step (i := (j : Int)) (Int.natCast_nonneg j) (by omega)
      have s2 : R.par j < j := s2
      have hp : (R.par j).toNat < ms.length := by omega
      by_cases q : ms[(R.par j).toNat] = .non
      · exact rdy_ex ok hl n (R.par j).toNat (by omega) (by rw [List.getElem?_eq_getElem hp, q])
      · exact ⟨j, hj, e, fun _ => ⟨_, List.getElem?_eq_getElem hp, q⟩⟩
    · exact ⟨j, hj, e, fun z => absurd z h0⟩
/-- the list of what may be built now -/
def Rdys (R : Rws) (ms : List MV) (xs : List MV) : Prop := xs ≠ [] ∧ xs.length ≤ 7 ∧ ∀ u ∈ xs, ∃ j : Nat, u = .int (j : Int) ∧ Rdy R ms j
theorem pick0 {xs : List MV} {a : Addr} (h : H a = some (.list xs)) (n : xs ≠ []) (l : xs.length ≤ 7) : ∃ u ∈ xs, IdxAt H (.ref a) (.int 0) u := by
  have hp := List.length_pos_iff.mpr n
  exact ⟨xs[0], List.getElem_mem hp, list_at (i := 0) h (by decide) (List.getElem?_eq_getElem hp)⟩
theorem pick1 {xs : List MV} {a : Addr} (h : H a = some (.list xs)) (n : xs ≠ []) (l : xs.length ≤ 7) : ∃ u ∈ xs, IdxAt H (.ref a) (.int (-1)) u := by
  have hp := List.length_pos_iff.mpr n
  have hl : (-1 + (xs.length : Int)).toNat < xs.length := by omega
  refine ⟨xs[(-1 + (xs.length : Int)).toNat], List.getElem_mem hl, .inl ⟨a, xs, -1, rfl, rfl, .inl h, by decide, by decide, ?_⟩⟩
  unfold getIdx
  rw [if_neg (by decide), if_pos (by omega), List.getElem?_eq_getElem hl]
noncomputable abbrev Wready : Den := dComp 1 (dLen (dV 0)) (tAnd (tCmp .Is (dIdx (dV 3) (dV 13)) (dK .non)) (tAnd (tOr (tCmp .Lt (dIdx (dIdx (dV 0) (dV 13)) (dK (.int 0))) (dK (.int 0))) (tOr (tCmp .IsNot (dIdx (dV 3) (dIdx (dIdx (dV 0) (dV 13)) (dK (.int 0)))) (dK .non)) (tF))) (tT))) (dV 13)
theorem ready_ok {p0 : Addr} {t : Int} {v w : MV} {a5 a6 a7 a8 a9 a10 a11 a12 : Option MV} {P : MV → Hp → Prop} (ok : R.OK) (rw_ : RowsAt H p0 R) (hM : H M = some (.list ms)) (hl : ms.length = R.n) (hn : MV.non ∈ ms)
    (h : ∀ a xs, H a = none → Rdys R ms xs → P (.ref a) (upd H a (.list xs))) : Wready (Lb p0 t v M w a5 a6 a7 a8 a9 a10 a11 a12) P H := by
  have hi7 := ok.hi
  obtain ⟨rs, r1, r2, r3⟩ := rw_
  have rw_ : RowsAt H p0 R := ⟨rs, r1, r2, r3⟩
  obtain ⟨j0, hj0⟩ := List.getElem?_of_mem hn
  obtain ⟨k0, hk0⟩ := rdy_ex ok hl _ j0 (Nat.lt_succ_self _) hj0
  refine ⟨_, rfl, p0, rs, rfl, .inl r1, by omega, _, _, .inr (.inl ⟨rfl, _, rfl, Int.natCast_nonneg _, by omega, rfl, rfl⟩), fun i acc H2 => H2 = H ∧ acc.length ≤ i ∧ (∀ u ∈ acc, ∃ j : Nat, u = .int (j : Int) ∧ Rdy R ms j) ∧ ∀ j, j < i → Rdy R ms j → acc ≠ [],
    ⟨rfl, Nat.le_refl _, fun _ z => (nomatch z), fun j hj => absurd hj (Nat.not_lt_zero _)⟩, ?_, ?_⟩
  · rintro i acc H2 u ⟨e2, h1, h2, h3⟩ hu
    subst e2
    obtain ⟨hi, rfl⟩ := ir_get hu
    rw [Int.toNat_natCast, r2] at hi
    have hm : i < ms.length := by omega
    have no : ¬ Rdy R ms i → (acc.length ≤ i + 1 ∧ (∀ u ∈ acc, ∃ j : Nat, u = .int (j : Int) ∧ Rdy R ms j) ∧ ∀ j, j < i + 1 → Rdy R ms j → acc ≠ []) := fun nr => ⟨Nat.le_succ_of_le h1, h2, fun j hj r => h3 j (Nat.lt_of_le_of_ne (Nat.le_of_lt_succ hj) fun e => nr (e ▸ r)) r⟩
    have yes : Rdy R ms i → ((acc ++ [MV.int (i : Int)]).length ≤ i + 1 ∧ (∀ u ∈ acc ++ [MV.int (i : Int)], ∃ j : Nat, u = .int (j : Int) ∧ Rdy R ms j) ∧ ∀ j, j < i + 1 → Rdy R ms j → acc ++ [MV.int (i : Int)] ≠ []) := fun r => ⟨by rw [List.length_append]; exact Nat.succ_le_succ h1, fun u hu => by
      rcases List.mem_append.mp hu with hu | hu
      · exact h2 u hu
      · exact ⟨i, List.mem_singleton.mp hu, r⟩, fun _ _ _ z => by simp at z⟩
    refine ⟨trivial, _, rfl, _, rfl, _, list_at hM (by omega) (List.getElem?_eq_getElem hm), _, .is _, ?_⟩
    by_cases q : ms[i] = .non
    · rw [decide_eq_true q]
      have qe : ms[i]? = some .non := by rw [List.getElem?_eq_getElem hm, q]
      obtain ⟨r, hr, a, rfl, ha⟩ := rw_.row (i := (i : Int)) (Int.natCast_nonneg i) (by omega) hi7
      refine ⟨_, rfl, _, rfl, _, hr, _, tup_at (i := 0) ha (by decide) rfl, _, .lt _ _, ?_⟩
      rw [Int.toNat_natCast] at ha
      by_cases hp : R.par i < 0
      · rw [show decide (R.par (i : Int).toNat < 0) = true from decide_eq_true hp]
        exact ⟨_, rfl, rfl, yes ⟨hi, qe, fun z => by omega⟩⟩
      · rw [show decide (R.par (i : Int).toNat < 0) = false from decide_eq_false hp]
        obtain ⟨s1, s2⟩ := ok.step (i := (i : Int)) (Int.natCast_nonneg i) (by omega)
        have s2 : R.par i < i := s2
        have hpl : (R.par i).toNat < ms.length := by omega
        have hat : IdxAt H2 (.ref M) (.int (R.par (i : Int).toNat)) ms[(R.par i).toNat] := by
          have := list_at (H := H2) hM (i := (R.par i).toNat) (by omega) (List.getElem?_eq_getElem hpl)
          rw [Int.toNat_of_nonneg (by omega)] at this
          exact this
        refine ⟨_, rfl, _, rfl, _, rfl, _, hr, _, tup_at (i := 0) ha (by decide) rfl, _, hat, _, .isnt _, ?_⟩
        by_cases z : ms[(R.par i).toNat] = .non
        · rw [decide_eq_true z]
          exact ⟨rfl, no (fun r => by obtain ⟨u, h1, h2⟩ := r.2.2 (by omega); rw [List.getElem?_eq_getElem hpl, z] at h1; cases h1; exact h2 rfl)⟩
        · rw [decide_eq_false z]
          exact ⟨_, rfl, rfl, yes ⟨hi, qe, fun _ => ⟨_, List.getElem?_eq_getElem hpl, z⟩⟩⟩
    · rw [decide_eq_false q]
      exact ⟨rfl, no (fun r => by have := r.2.1; rw [List.getElem?_eq_getElem hm] at this; exact q (Option.some.inj this))⟩
  · rintro acc _ ⟨rfl, h1, h2, h3⟩
    rw [ir_len, Int.toNat_natCast, r2] at h1 h3
    exact ⟨trivial, fun a ha => h a acc ha ⟨h3 k0 hk0.1 hk0, by omega, h2⟩⟩
noncomputable abbrev Wown : Den := dComp 1 (dV 9) (tT) (dTup (lC (dBin .Add (dBin .Add (dK (.str "c")) (dStr (dV 6))) (dStr (dV 13))) (lC (dV 4) (lC (dK .non) (lN)))))
theorem own_ok {p0 : Addr} {t : Int} {v w : MV} {a5 a7 a8 a10 a11 a12 : Option MV} {P : MV → Hp → Prop} (ok : R.OK) (hi : i < R.n)
    (h : ∀ a H2 ds, Kp H H2 → H2 a = none → Nms H2 ds (ownN R i) → P (.ref a) (upd H2 a (.list ds))) : Wown (Lb p0 t v M w a5 (some (.int (i : Int))) a7 a8 (some (.int (R.prt i))) a10 a11 a12) P H := by
  have hi7 := ok.hi
  have hq := ok.prt i hi
  refine ⟨_, rfl, _, _, .inr (.inl ⟨rfl, _, rfl, hq.1, by omega, rfl, rfl⟩), fun k acc H2 => Kp H H2 ∧ Nms H2 acc ((List.range k).map fun (q : Nat) => cV i q), ⟨Kp.refl, .nil⟩, ?_, ?_⟩
  · rintro k acc H2 u ⟨k2, n2⟩ hu
    obtain ⟨hk, rfl⟩ := ir_get hu
    have hd := digs_len i (by omega)
    have hd2 := digs_len k (by omega)
    refine ⟨trivial, _, rfl, _, rfl, Int.natCast_nonneg i, by omega, .inr (.inl ⟨rfl, _, _, rfl, rfl, Nat.le_trans lit_len.1 (by decide), by omega, _, rfl, _, rfl, Int.natCast_nonneg k, by omega, .inr (.inl ⟨rfl, _, _, rfl, rfl, by omega, by omega, _, rfl, ?_⟩)⟩)⟩
    refine ⟨Nat.le_of_ble_eq_true rfl, fun a ha => ⟨k2.trans (Kp.add ha), ?_⟩⟩
    rw [List.range_succ, List.map_append]
    exact (n2.kp (Kp.add ha)).app (.cons upd_same .nil)
  · rintro acc H2 ⟨k2, n2⟩
    rw [ir_len] at n2
    exact ⟨trivial, fun a ha => h a H2 acc k2 ha n2⟩
end Mine
end
section
open PySem PySem.W PyProof.Rows PySem.Calls PySem.Spec
open Classical
namespace Mine
variable {H0 H1 H4 H5 H6 H : Hp} {R : Rws} {left : Option (Int × Int)} {M : Addr} {ms : List MV} {i : Nat} {p d o : Addr} {f : Nat → MV} {cs ds : List MV} {j : Nat}
theorem Mls.kp (x : Mls H M ms) (k : Kp H H6) : Mls H6 M ms :=
  let ⟨h, v, h1, h2⟩ := x; ⟨k _ _ h, v, h1, h2.imp id fun ⟨q, C, e, h3, h4⟩ => ⟨q, C, e, h3, k _ _ h4⟩⟩
theorem Kx.upd {H : Hp} {o : MObj} : Kx M H (upd H M o) := fun a m n e => by rw [upd_ne n]; exact e
theorem opV_neg {i : Int} {k : Nat} (h : i < 0) : opV R left i k = none := by
  have : near R k left 8 i = i := if_pos (.inl h)
  unfold opV
  rw [this, if_neg (by omega)]
noncomputable abbrev DmkA : DenS := sSeq (sAsg (gIdx (dV 3) (dV 6)) (dCall φ_record_type (lC (dK (.str "t0")) (lC (dList (lN)) (lC (dV 10) (lC (dK .non) (lN))))))) (sSeq (sAsgT 2 (gC (gAttr (dIdx (dV 3) (dV 6)) 16) (gC (gAttr (dIdx (dV 3) (dV 6)) 2) (gN))) (dTup (lC (dK (.bool true)) (lC (dK (.int 40)) (lN))))) (sNil))
noncomputable abbrev DmkB : DenS := sSeq (sAsg (gIdx (dV 3) (dV 6)) (dCall φ_extend_type (lC (dIdx (dV 3) (dV 7)) (lC (dBin .Add (dK (.str "t")) (dStr (dV 6))) (lC (dBin .Add (dK (.int 40)) (dV 6)) (lC (dV 10) (lC (dK (.int 1)) (lN)))))))) (sNil)
noncomputable abbrev Dmk : DenS := sIf (tCmp .Lt (dV 7) (dK (.int 0))) DmkA DmkB
structure Pre (H0 H1 : Hp) (R : Rws) (left : Option (Int × Int)) (M : Addr) (ms : List MV) (i : Nat) : Prop where
  ok : R.OK
  k0 : Kp H0 H1
  fM : H0 M = none
  ml : Mls H1 M ms
  hl : ms.length = R.n
  rd : Rdy R ms i
  nd : ∀ j u, ms[j]? = some u → u = .non ∨ NodeAt H1 R left ms j
theorem Pre.par (x : Pre H0 H1 R left M ms i) (h : 0 ≤ R.par i) : NodeAt H1 R left ms (R.par i).toNat := by
  obtain ⟨q, e, n⟩ := x.rd.2.2 h
  exact (x.nd _ _ e).resolve_left n
theorem Pre.bld (x : Pre H0 H1 R left M ms i) (k4 : Kp H1 H4) (h : H4 o = none) (e : f 23 = .ref o) : Bld H0 H1 R left M ms i p d o f :=
  ⟨x.ok, x.rd.1, x.k0, x.fM, x.ml, k4.nn h, e, x.rd.2.1, x.par⟩
theorem setIdx_ok' {H : Hp} {P : Hp → Prop} {u : MV} (h : H M = some (.list ms)) (hi : i < ms.length) (hz : ms.length ≤ 7) (k : P (upd H M (.list (ms.set i u)))) : setIdxP (.ref M) (.int (i : Int)) u P H :=
  .inl ⟨M, ms, _, rfl, rfl, h, Int.natCast_nonneg i, by omega, by omega, by rw [Int.toNat_natCast]; exact k⟩
theorem mkB_ok {p0 : Addr} {t : Int} {v w : MV} {a5 a8 a9 a11 a12 : Option MV} {P : Fl → Loc → Hp → Prop} {own : Addr} (x : Pre H0 H1 R left M ms i) (k4 : Kp H1 H4) (ho : H4 own = some (.list ds)) (N : Nms H4 ds (ownN R i)) (h0 : 0 ≤ R.par i)
    (h : ∀ H6 p d o f cs, Bld H0 H1 R left M ms i p d o f → Ops H1 R left M ms i p d f cs 0 H6 → P .nx (Lb p0 t v M w a5 (some (.int (i : Int))) (some (.int (R.par i))) a8 a9 (some (.ref own)) a11 a12) H6) :
    DmkB (Lb p0 t v M w a5 (some (.int (i : Int))) (some (.int (R.par i))) a8 a9 (some (.ref own)) a11 a12) P H4 := by
  have hi7 := x.ok.hi
  have hi := x.rd.1
  have hl := x.hl
  obtain ⟨pp, dd, ff, cs, es, n1, le⟩ := x.par h0
  obtain ⟨s1, s2⟩ := x.ok.step (i := (i : Int)) (Int.natCast_nonneg i) (by omega)
  have s2 : R.par i < i := s2
  have n4 := n1.kp k4
  obtain ⟨a, a1, a2⟩ := n4.di
  obtain ⟨b, b1, b2⟩ := n4.co
  obtain ⟨oo, o1, o2⟩ := n4.op
  have m4 := x.ml.kp k4
  have hns : namesR R 8 i = namesR R 8 (R.par i).toNat ++ ownN R i := by
    have := names_step x.ok (j := (i : Int)) (Int.natCast_nonneg i) (by omega)
    rw [Int.toNat_natCast] at this
    rw [Int.toNat_of_nonneg h0]; exact this
  have hat : IdxAt H4 (.ref M) (.int (R.par i)) (.ref pp) := by
    have := list_at m4.1 (i := (R.par i).toNat) (by omega) n1.x
    rw [Int.toNat_of_nonneg h0] at this
    exact this
  have lc := names_len x.ok 8 (i := ((R.par i).toNat : Int)) (by omega)
  have ld : (ownN R i).length ≤ 3 := by
    have := x.ok.prt i hi
    unfold ownN
    rw [List.length_map, List.length_range]; omega
  refine ⟨_, rfl, _, rfl, _, hat, _, rfl, _, rfl, Int.natCast_nonneg i, by omega, .inr (.inl ⟨rfl, _, _, rfl, rfl, Nat.le_trans lit_len.2.2 (by decide), Nat.le_trans (digs_len i (by omega)).1 (by decide), ?_⟩)⟩
  refine ⟨_, rfl, .inl ⟨_, _, _, rfl, rfl, .add _ _, _, rfl, ?_⟩⟩
  refine ⟨pp, dd, ff, _, _, own, _, cs, ds, _, _, es, rfl, n4.ty, n4.kd, n4.va, n4.tg, ⟨a, a1, a2⟩, ⟨b, b1, b2⟩, ⟨oo, o1, o2⟩, ho, n4.nm, N, by rw [n4.nm.len]; omega, by rw [N.len]; omega, hns ▸ names_nodup x.ok 8 (by omega), by omega, fun p d f H6 m f2 f3 f16 => ?_⟩
  have k6 := m.m.kp
  have m6 := m4.kp k6
  obtain ⟨q, q1, q2, q3⟩ := m.op
  have nd6 : Node H6 R (fun k => if k < 0 then opV R left i k else opV R left (R.par i) k) (ms.set i (.ref p)) i p d f (cs ++ ds) es := by
    refine ⟨by rw [List.getElem?_set_self (by omega)], m.m.ty, m.kd, f2, m.va, f16, .inr ⟨pp, h0, set_ref x.rd.2.1 _ _ n1.x, f3⟩, m.di, m.co, ?_, ⟨q, q1, q3⟩, fun k hk => ?_⟩
    · rw [hns]
      exact (n4.nm.kp k6).app (N.kp k6)
    · rw [n4.ok k hk, if_neg (Nat.not_lt_zero k), Int.toNat_of_nonneg h0]
  refine ⟨_, rfl, _, rfl, setIdx_ok' m6.1 (by omega) (by omega) (h _ p d q f (cs ++ ds) (x.bld k4 q2 q1) ⟨(k4.trans k6).kx.trans Kx.upd, upd_same, es, nd6.kx m6 Kx.upd, by omega⟩)⟩
theorem mkA_ok {p0 : Addr} {t : Int} {v w : MV} {a5 a8 a9 a11 a12 : Option MV} {P : Fl → Loc → Hp → Prop} {own : Addr} (x : Pre H0 H1 R left M ms i) (k4 : Kp H1 H4) (ho : H4 own = some (.list ds)) (N : Nms H4 ds (ownN R i)) (h0 : R.par i < 0)
    (h : ∀ H6 p d o f cs, Bld H0 H1 R left M ms i p d o f → Ops H1 R left M ms i p d f cs 0 H6 → P .nx (Lb p0 t v M w a5 (some (.int (i : Int))) (some (.int (R.par i))) a8 a9 (some (.ref own)) a11 a12) H6) :
    DmkA (Lb p0 t v M w a5 (some (.int (i : Int))) (some (.int (R.par i))) a8 a9 (some (.ref own)) a11 a12) P H4 := by
  have hi7 := x.ok.hi
  have hi := x.rd.1
  have hl := x.hl
  have lo := x.ok.lo
  have m4 := x.ml.kp k4
  have i0 : i = 0 := by
    by_cases q : 0 < i
    · have := (x.ok.par i hi q).1; omega
    · omega
  have ld : ds.length = 1 := by
    rw [N.len]
    unfold ownN
    rw [List.length_map, List.length_range, i0, x.ok.q0]; rfl
  refine ⟨Nat.zero_le _, fun e he => ⟨_, rfl, _, e, own, ds, rfl, upd_same, Kp.add he _ _ ho, by omega, fun p d f H6 m f3 => ?_⟩⟩
  have k5 := Kp.add (o := .list []) he
  have k6 := k5.trans m.m.kp
  have m6 := m4.kp k6
  refine ⟨_, rfl, _, rfl, setIdx_ok' m6.1 (by omega) (by omega) ?_⟩
  refine ⟨Nat.le_of_ble_eq_true rfl, fun c hc => ⟨c, _, rfl, upd_same, rfl, _, _, rfl, ?_⟩⟩
  obtain ⟨q, q1, q2, q3⟩ := m.op
  obtain ⟨a, a1, a2⟩ := m.di
  obtain ⟨b, b1, b2⟩ := m.co
  have dM : d ≠ M := fun z => by have := m.m.ty.e; rw [z, m6.1] at this; cases this
  have pM : p ≠ M := fun z => by have := m.m.ty.i; rw [z, m6.1] at this; cases this
  have kc := Kp.add (o := .tup [.bool true, .int 40]) hc
  have M8 := kc _ _ (upd_same (H := H6) (a := M) (o := .list (ms.set i (.ref p))))
  have x8 : Kx M H6 (upd (upd H6 M (.list (ms.set i (.ref p)))) c (.tup [.bool true, .int 40])) := Kx.upd.trans kc.kx
  have ty8 : Ty (upd (upd H6 M (.list (ms.set i (.ref p)))) c (.tup [.bool true, .int 40])) p d f := ⟨x8 _ _ pM m.m.ty.i, x8 _ _ dM m.m.ty.e⟩
  generalize upd (upd H6 M (.list (ms.set i (.ref p)))) c (.tup [.bool true, .int 40]) = H8 at *
  have li : i < (ms.set i (.ref p)).length := by rw [List.length_set]; omega
  refine ⟨_, rfl, _, rfl, _, list_at M8 (i := i) (by omega) (by rw [List.getElem?_set_self (by omega)]), ty8.set (by decide) fun ty9 => ?_⟩
  have M9 := ty8.other (m := .fld (tyF (setf f 16 (.bool true)))) M8 fun _ z => nomatch z
  refine ⟨_, _, rfl, _, rfl, _, rfl, _, list_at M9 (i := i) (by omega) (by rw [List.getElem?_set_self (by omega)]), ty9.set (by decide) fun ty10 => ?_⟩
  have st : ∀ a m, a ≠ M → (∀ fs, m ≠ .fld fs) → H6 a = some m → upd (upd H8 d (.fld (tyF (setf f 16 (.bool true))))) d (.fld (tyF (setf (setf f 16 (.bool true)) 2 (.int 40)))) a = some m := fun a m n n' e => by
    have e8 := x8 a m n e
    exact ty9.other (ty8.other e8 n') n'
  have nm6 : Nms H6 ds (ownN R i) := N.kp k6
  have aM : a ≠ M := fun z => by
    rw [z, m6.1] at a2
    cases a2
    have : ([] : List MV).length = R.n := hl
    simp at this; omega
  have bM : b ≠ M := fun z => by
    rw [z, m6.1] at b2
    cases b2
    omega
  have qM : q ≠ M := fun z => by rw [z, m6.1] at q3; cases q3
  refine ⟨rfl, h _ p d q (setf (setf f 16 (.bool true)) 2 (.int 40)) ds (x.bld k4 (k5.nn q2) q1) ⟨fun a mm n e => ?_, ty9.other M9 (fun _ z => nomatch z), [], ⟨by rw [List.getElem?_set_self (by omega)], ty10, m.kd, by rw [i0]; rfl, m.va, rfl, .inl ⟨h0, f3⟩, ⟨a, a1, st _ _ aM (fun _ z => nomatch z) a2⟩, ⟨b, b1, st _ _ bM (fun _ z => nomatch z) b2⟩, ?_, ⟨q, q1, st _ _ qM (fun _ z => nomatch z) q3⟩, fun k hk => ?_⟩, Nat.zero_le _⟩⟩
  · have e6 := k6 _ _ (k4 _ _ e)
    have ad : a ≠ d := fun z => by have := k5 _ _ (k4 _ _ e); rw [z, m.m.fd] at this; cases this
    rw [upd_ne ad, upd_ne ad]
    exact x8 a mm n e6
  · have e := names_step x.ok (j := (i : Int)) (Int.natCast_nonneg i) (by omega)
    rw [Int.toNat_natCast, names_neg h0, List.nil_append] at e
    rw [e]
    clear e
    revert nm6
    generalize ownN R i = ns
    intro nm6
    clear N ld b2 ho m q3 a2
    induction nm6 with
    | nil => exact .nil
    | cons e n ih => exact .cons (st _ _ (fun z => by rw [z, m6.1] at e; cases e) (fun _ z => nomatch z) e) ih
  · rw [if_neg (Nat.not_lt_zero k), opV_neg h0]; rfl
end Mine
end
section
open PySem PySem.W PyProof.Rows PySem.Calls PySem.Spec
open Classical
namespace Mine
variable {H0 H1 H4 H5 H6 H : Hp} {R : Rws} {left : Option (Int × Int)} {M : Addr} {ms : List MV} {i : Nat} {p d o : Addr} {f : Nat → MV} {cs ds : List MV} {j : Nat}
noncomputable def cnt : List MV → Nat
  | [] => 0
  | x :: r => (if x = .non then 1 else 0) + cnt r
theorem cnt_set {p : Addr} : ∀ {ms : List MV} {i : Nat}, ms[i]? = some MV.non → cnt (ms.set i (.ref p)) < cnt ms
  | [], _, h => nomatch h
  | x :: r, 0, h => by
    cases h
    show (if MV.ref p = .non then 1 else 0) + cnt r < (if MV.non = .non then 1 else 0) + cnt r
    rw [if_neg (fun z => nomatch z), if_pos rfl]; omega
  | x :: r, i + 1, h => by
    have := cnt_set (p := p) (ms := r) (i := i) h
    show (if x = .non then 1 else 0) + cnt (r.set i (.ref p)) < (if x = .non then 1 else 0) + cnt r
    omega
theorem set_cases {ms : List MV} {i : Nat} {x : MV} {j : Nat} {u : MV} (h : (ms.set i x)[j]? = some u) : (j = i ∧ u = x) ∨ (j ≠ i ∧ ms[j]? = some u) := by
  by_cases q : j = i
  · subst q
    have hl := (List.getElem?_eq_some_iff.mp h).1
    rw [List.length_set] at hl
    rw [List.getElem?_set_self hl] at h
    exact .inl ⟨rfl, (Option.some.inj h).symm⟩
  · rw [List.getElem?_set_ne (Ne.symm q)] at h; exact .inr ⟨q, h⟩
theorem Ops.all (b : Bld H0 H1 R left M ms i p d o f) (x : Ops H1 R left M ms i p d f cs 3 H6) (nd : ∀ j u, ms[j]? = some u → u = .non ∨ NodeAt H1 R left ms j) (j : Nat) (u : MV) (h : (ms.set i (.ref p))[j]? = some u) : u = .non ∨ NodeAt H6 R left (ms.set i (.ref p)) j := by
  rcases set_cases h with ⟨rfl, rfl⟩ | ⟨q, h⟩
  · obtain ⟨es, n, l⟩ := x.nd
    exact .inr ⟨p, d, f, cs, es, n.congr fun k hk => if_pos hk, by omega⟩
  · rcases nd j u h with e | ⟨p', d', f', cs', es', n, l⟩
    · exact .inl e
    · exact .inr ⟨p', d', f', cs', es', (n.kx b.ml x.kx).mv fun j q => set_ref b.non j q, l⟩
noncomputable def φ_law_built : Fn := fun vs P H => ∃ p t v R left, vs = [.ref p, .int t, v] ∧ RowsAt H p R ∧ R.OK ∧ LeftAt H v left ∧ ∀ M ms H', Kp H H' → H M = none → H' M = some (.list ms) → ms.length = R.n → (∀ i, i < R.n → NodeAt H' R left ms i) → P (.ref M) H'
noncomputable abbrev D_law_built : DenS := sSeq (sAsgT 2 (gC (gV 3) (gC (gV 4) (gN))) (dTup (lC (dRep (dK .non) (dLen (dV 0))) (lC (dCall φ_law_whole (lN)) (lN))))) (sSeq (sWhl (tCmp .In (dK .non) (dV 3)) (sSeq (sAsg (gV 5) (dComp 1 (dLen (dV 0)) (tAnd (tCmp .Is (dIdx (dV 3) (dV 13)) (dK .non)) (tAnd (tOr (tCmp .Lt (dIdx (dIdx (dV 0) (dV 13)) (dK (.int 0))) (dK (.int 0))) (tOr (tCmp .IsNot (dIdx (dV 3) (dIdx (dIdx (dV 0) (dV 13)) (dK (.int 0)))) (dK .non)) (tF))) (tT))) (dV 13))) (sSeq (sAsg (gV 6) (dIf (tCmp .Eq (dV 1) (dK (.int 0))) (dIdx (dV 5) (dK (.int 0))) (dIdx (dV 5) (dK (.int (-1)))))) (sSeq (sAsgT 3 (gC (gV 7) (gC (gV 8) (gC (gV 9) (gN)))) (dIdx (dV 0) (dV 6))) (sSeq (sAsg (gV 10) (dComp 1 (dV 9) (tT) (dTup (lC (dBin .Add (dBin .Add (dK (.str "c")) (dStr (dV 6))) (dStr (dV 13))) (lC (dV 4) (lC (dK .non) (lN))))))) (sSeq (sIf (tCmp .Lt (dV 7) (dK (.int 0))) (sSeq (sAsg (gIdx (dV 3) (dV 6)) (dCall φ_record_type (lC (dK (.str "t0")) (lC (dList (lN)) (lC (dV 10) (lC (dK .non) (lN))))))) (sSeq (sAsgT 2 (gC (gAttr (dIdx (dV 3) (dV 6)) 16) (gC (gAttr (dIdx (dV 3) (dV 6)) 2) (gN))) (dTup (lC (dK (.bool true)) (lC (dK (.int 40)) (lN))))) (sNil))) (sSeq (sAsg (gIdx (dV 3) (dV 6)) (dCall φ_extend_type (lC (dIdx (dV 3) (dV 7)) (lC (dBin .Add (dK (.str "t")) (dStr (dV 6))) (lC (dBin .Add (dK (.int 40)) (dV 6)) (lC (dV 10) (lC (dK (.int 1)) (lN)))))))) (sNil))) (sSeq (sFor 1 (gV 11) (dK (.int 3)) (sSeq (sIf (tAnd (tCmp .Eq (dBin .BitAnd (dBin .RShift (dV 8) (dV 11)) (dK (.int 1))) (dK (.int 1))) (tAnd (tCmp .NotEq (dTup (lC (dV 6) (lC (dV 11) (lN)))) (dV 2)) (tT))) (sSeq (sAsg (gV 12) (dAnd (dCmp .GtE (dV 7) (dK (.int 0))) (dCmp .GtE (dCall φ_law_nearest (lC (dV 0) (lC (dV 7) (lC (dV 11) (lC (dV 2) (lN)))))) (dK (.int 0))))) (sSeq (sIf (tCmp .NotEq (dCall φ_lay_operation (lC (dIdx (dV 3) (dV 6)) (lC (dIdx (dCall φ_law_keys (lN)) (dV 11)) (lC (dBin .Add (dK (.str "s")) (dStr (dV 6))) (lN))))) (dV 12)) (sSeq (sRet (dK .non)) (sNil)) (sNil)) (sNil))) (sNil)) (sNil))) (sNil)))))))) (sSeq (sRet (dV 3)) (sNil)))
noncomputable abbrev Dturn : DenS := sSeq (sAsg (gV 5) Wready) (sSeq (sAsg (gV 6) (dIf (tCmp .Eq (dV 1) (dK (.int 0))) (dIdx (dV 5) (dK (.int 0))) (dIdx (dV 5) (dK (.int (-1)))))) (sSeq (sAsgT 3 (gC (gV 7) (gC (gV 8) (gC (gV 9) (gN)))) (dIdx (dV 0) (dV 6))) (sSeq (sAsg (gV 10) Wown) (sSeq Dmk (sSeq Dops (sNil))))))
theorem turn_ok {p0 : Addr} {t : Int} {v w : MV} {a5 a6 a7 a8 a9 a10 a11 a12 : Option MV} {P : Fl → Loc → Hp → Prop} (ok : R.OK) (k0 : Kp H0 H1) (fM : H0 M = none) (ml : Mls H1 M ms) (hl : ms.length = R.n) (nd : ∀ j u, ms[j]? = some u → u = .non ∨ NodeAt H1 R left ms j)
    (rw_ : RowsAt H0 p0 R) (lf : LeftAt H0 v left) (hn : MV.non ∈ ms)
    (h : ∀ H6 ms' a b c d e f g g', Kp H0 H6 → H6 M = some (.list ms') → ms'.length = R.n → (∀ j u, ms'[j]? = some u → u = .non ∨ NodeAt H6 R left ms' j) → cnt ms' < cnt ms → P .nx (Lb p0 t v M w a b c d e f g g') H6) :
    Dturn (Lb p0 t v M w a5 a6 a7 a8 a9 a10 a11 a12) P H1 := by
  have hi7 := ok.hi
  refine ready_ok ok (rw_.kp k0) ml.1 hl hn fun a xs ha hx => ?_
  obtain ⟨x1, x2, x3⟩ := hx
  have k2 := Kp.add (o := .list xs) ha
  have rest : ∀ u, u ∈ xs → (sSeq (sAsgT 3 (gC (gV 7) (gC (gV 8) (gC (gV 9) (gN)))) (dIdx (dV 0) (dV 6))) (sSeq (sAsg (gV 10) Wown) (sSeq Dmk (sSeq Dops (sNil))))) (Lb p0 t v M w (some (.ref a)) (some u) a7 a8 a9 a10 a11 a12) P (upd H1 a (.list xs)) := fun u hu => by
    obtain ⟨i, rfl, rd⟩ := x3 u hu
    have hi := rd.1
    have pre : Pre H0 H1 R left M ms i := ⟨ok, k0, fM, ml, hl, rd, nd⟩
    obtain ⟨r, hr, b, rfl, hb⟩ := (rw_.kp (k0.trans k2)).row (i := (i : Int)) (Int.natCast_nonneg i) (by omega) hi7
    rw [Int.toNat_natCast] at hb
    refine ⟨_, rfl, _, rfl, _, hr, b, _, rfl, hb, rfl, _, _, rfl, _, _, rfl, _, _, rfl, rfl, ?_⟩
    refine own_ok ok hi fun c H4 ds k4 hc N => ?_
    have k5 := Kp.add (o := .list ds) hc
    have kk := (k2.trans k4).trans k5
    have fin : ∀ H6 p d o f cs, Bld H0 H1 R left M ms i p d o f → Ops H1 R left M ms i p d f cs 0 H6 → (sSeq Dops sNil) (Lb p0 t v M w (some (.ref a)) (some (.int (i : Int))) (some (.int (R.par i))) (some (.int (R.told i))) (some (.int (R.prt i))) (some (.ref c)) a11 a12) P H6 := fun H6 p d o f cs bl op =>
      ops_ok bl rw_ lf hl op fun H8 u u' o8 => h H8 _ _ _ _ _ _ _ _ _ (Kx.kp k0 fM o8.kx) o8.mm (by rw [List.length_set]; exact hl) (o8.all bl nd) (cnt_set rd.2.1)
    refine ⟨_, rfl, _, .lt _ _, ?_⟩
    by_cases h0 : R.par i < 0
    · rw [decide_eq_true h0]
      exact mkA_ok pre kk upd_same (N.kp k5) h0 fin
    · rw [decide_eq_false h0]
      exact mkB_ok pre kk upd_same (N.kp k5) (by omega) fin
  refine ⟨_, rfl, _, .eq (.int _ _), ?_⟩
  by_cases ht : t = 0
  · rw [show (t == 0) = true from beq_iff_eq.mpr ht]
    obtain ⟨u, hu, at_⟩ := pick0 (H := upd H1 a (.list xs)) upd_same x1 x2
    exact ⟨_, rfl, _, at_, rest u hu⟩
  · rw [show (t == 0) = false from beq_eq_false_iff_ne.mpr ht]
    obtain ⟨u, hu, at_⟩ := pick1 (H := upd H1 a (.list xs)) upd_same x1 x2
    exact ⟨_, rfl, _, at_, rest u hu⟩
theorem c_law_built {vs : List MV} {P : MV → Hp → Prop} {H : Hp} (h : φ_law_built vs P H) : vs.length = 3 ∧ D_law_built (vs.map some ++ [none, none, none, none, none, none, none, none, none, none]) (fun fl l H => P (retOf fl) H) H := by
  obtain ⟨p0, t, v, R, left, rfl, rw_, ok, lf, h⟩ := h
  obtain ⟨rs, r1, r2, r3⟩ := rw_
  have rw_ : RowsAt H p0 R := ⟨rs, r1, r2, r3⟩
  have hi7 := ok.hi
  have lo := ok.lo
  refine ⟨rfl, _, rfl, p0, rs, rfl, .inl r1, by omega, _, rfl, Int.natCast_nonneg _, by omega, fun M hM => ?_⟩
  rw [Int.toNat_natCast, r2]
  refine ⟨rfl, fun w H2 k2 => ⟨Nat.le_of_ble_eq_true rfl, fun c hc => ⟨c, _, rfl, upd_same, rfl, _, _, rfl, _, _, rfl, rfl, ?_⟩⟩⟩
  have kM := Kp.add (o := .list (List.replicate R.n .non)) hM
  have kc := Kp.add (o := .tup [.ref M, .ref w]) hc
  have M3 := kc _ _ (k2 _ _ (upd_same (H := H) (a := M) (o := .list (List.replicate R.n .non))))
  have k3 := (kM.trans k2).trans kc
  generalize upd H2 c (.tup [.ref M, .ref w]) = H3 at *
  refine ⟨fun n l H1 => (∃ a b c d e f g g', l = Lb p0 t v M (.ref w) a b c d e f g g') ∧ ∃ ms, Kp H H1 ∧ H1 M = some (.list ms) ∧ ms.length = R.n ∧ (∀ j u, ms[j]? = some u → u = .non ∨ NodeAt H1 R left ms j) ∧ cnt ms ≤ n, cnt (List.replicate R.n .non),
    ⟨⟨_, _, _, _, _, _, _, _, rfl⟩, _, k3, M3, List.length_replicate, fun j u e => .inl ?_, Nat.le_refl _⟩, ?_⟩
  · have := List.mem_of_getElem? e
    exact (List.mem_replicate.mp this).2
  · rintro n _ H1 ⟨⟨a, b, c, d, e, f, g, g', rfl⟩, ms, k1, m1, hl, nd, hn⟩
    refine ⟨_, rfl, _, .inn m1 (fun u hu => ?_), ?_⟩
    · obtain ⟨j, hj⟩ := List.getElem?_of_mem hu
      rcases nd j u hj with e | ⟨p, d, f, cs, es, n, _⟩
      · exact .inl e
      · have := hj.symm.trans n.x
        cases this
        exact .inr ⟨p, _, _, rfl, n.ty.i⟩
    · by_cases q : MV.non ∈ ms
      · rw [decide_eq_true q]
        have h0 : 0 < ms.length := by omega
        refine turn_ok ok k1 hM ⟨m1, ms[0], List.getElem?_eq_getElem h0, ?_⟩ hl nd rw_ lf q fun H6 ms' _ _ _ _ _ _ _ _ k6 m6 l6 n6 c6 => ⟨cnt ms', by omega, ⟨_, _, _, _, _, _, _, _, rfl⟩, ms', k6, m6, l6, n6, Nat.le_refl _⟩
        rcases nd 0 _ (List.getElem?_eq_getElem h0) with e | ⟨p, d, f, cs, es, n, _⟩
        · exact .inl e
        · have := (List.getElem?_eq_getElem h0).symm.trans n.x
          exact .inr ⟨p, _, _, Option.some.inj this, n.ty.i⟩
      · rw [decide_eq_false q]
        refine ⟨_, rfl, h M ms H1 k1 hM m1 hl fun i hi => ?_⟩
        have hil : i < ms.length := by omega
        exact (nd i _ (List.getElem?_eq_getElem hil)).resolve_left fun z => q (z ▸ List.getElem_mem hil)
end Mine
end
section
open PySem PySem.W PyProof.Rows PySem.Calls PySem.Spec
open Classical
namespace Mine
variable {H0 H1 H4 H5 H6 H H' : Hp} {R : Rws} {left : Option (Int × Int)} {M : Addr} {ms : List MV} {i : Nat} {p d o a : Addr} {f : Nat → MV} {cs ds : List MV} {j : Nat}
/-- the number of a type -/
noncomputable def numOf (H : Hp) (a : Addr) : Int := if h : ∃ j : Int, ∃ d f, Ty H a d f ∧ f 2 = .int j then h.choose else 0
theorem numOf_eq {j : Int} (t : Ty H a d f) (e : f 2 = .int j) : numOf H a = j := by
  have h : ∃ j : Int, ∃ d f, Ty H a d f ∧ f 2 = .int j := ⟨j, d, f, t, e⟩
  unfold numOf
  rw [dif_pos h]
  obtain ⟨d', f', t', e'⟩ := h.choose_spec
  have := (t.same t').2 2 (by decide)
  rw [e, e'] at this
  cases this; rfl
/-- from place i of the list to the root -/
structure Lin (H : Hp) (R : Rws) (v : MV) (l : List Int) (ch : List Addr) : Prop where
  c : Chain H v ch
  n : ch.map (numOf H) = l.map fun j => 40 + j
  t : ∀ x ∈ ch, ∃ d f, Ty H x d f ∧ f 2 = .int (numOf H x)
theorem lin_of (ok : R.OK) (nd : ∀ i, i < R.n → NodeAt H R left ms i) : ∀ (n : Nat) (i : Int), -1 ≤ i → i < R.n → i + 1 ≤ n → ∃ ch, Lin H R (if i < 0 then .non else (ms[i.toNat]?).getD .non) (lineR R n i) ch
  | 0, i, h0, h1, h2 => ⟨[], by rw [if_pos (by omega)]; exact .nil, rfl, fun _ z => nomatch z⟩
  | n + 1, i, h0, h1, h2 => by
    by_cases q : i < 0
    · have e : lineR R (n + 1) i = [] := if_pos q
      rw [e, if_pos q]
      exact ⟨[], .nil, rfl, fun _ z => nomatch z⟩
    · have e : lineR R (n + 1) i = i :: lineR R n (R.par i.toNat) := if_neg q
      obtain ⟨s1, s2⟩ := ok.step (by omega) h1
      obtain ⟨p, d, f, cs, es, N, _⟩ := nd i.toNat (by omega)
      obtain ⟨ch, L⟩ := lin_of ok nd n (R.par i.toNat) s1 (by omega) (by omega)
      rw [e, if_neg q, N.x]
      have ep : f 3 = (if R.par i.toNat < 0 then .non else (ms[(R.par i.toNat).toNat]?).getD .non) := by
        rcases N.pa with ⟨h, h3⟩ | ⟨pp, h, h3, h4⟩
        · rw [if_pos h]; exact h3
        · rw [if_neg (by omega), h3]; exact h4
      have en : numOf H p = 40 + i := numOf_eq N.ty (by rw [N.no, Int.toNat_of_nonneg (by omega)])
      refine ⟨p :: ch, .cons N.ty (ep ▸ L.c), ?_, fun x hx => ?_⟩
      · rw [List.map_cons, List.map_cons, L.n, en]
      · rcases List.mem_cons.mp hx with rfl | hx
        · exact ⟨d, f, N.ty, by rw [en, N.no, Int.toNat_of_nonneg (by omega)]⟩
        · exact L.t x hx
theorem lin_at (ok : R.OK) (nd : ∀ i, i < R.n → NodeAt H R left ms i) (hi : i < R.n) (x : ms[i]? = some (.ref p)) : ∃ ch, Lin H R (.ref p) (lineR R 8 i) ch := by
  have hi7 := ok.hi
  obtain ⟨ch, L⟩ := lin_of ok nd 8 (i : Int) (by omega) (by omega) (by omega)
  rw [if_neg (by omega), Int.toNat_natCast, x] at L
  exact ⟨ch, L⟩
theorem Lin.len {v : MV} {l : List Int} {ch : List Addr} (L : Lin H R v l ch) : ch.length = l.length := by have := congrArg List.length L.n; simpa using this
theorem names_line : ∀ n i, namesR R n i = (lineR R n i).reverse.flatMap fun x => ownN R x.toNat
  | 0, i => rfl
  | n + 1, i => by
    by_cases q : i < 0
    · have e1 : lineR R (n + 1) i = [] := if_pos q
      rw [e1, names_neg q]; rfl
    · have e1 : lineR R (n + 1) i = i :: lineR R n (R.par i.toNat) := if_neg q
      have e2 : namesR R (n + 1) i = namesR R n (R.par i.toNat) ++ ownN R i.toNat := if_neg q
      rw [e1, e2, names_line n, List.reverse_cons, List.flatMap_append]
      congr 1
      exact (List.append_nil _).symm
theorem line_mem (ok : R.OK) : ∀ n (i : Int), i < R.n → ∀ x ∈ lineR R n i, 0 ≤ x ∧ x < R.n
  | 0, i, h, x, hx => nomatch hx
  | n + 1, i, h, x, hx => by
    unfold lineR at hx
    split at hx
    · cases hx
    · obtain ⟨s1, s2⟩ := ok.step (by omega) h
      rcases List.mem_cons.mp hx with rfl | hx
      · omega
      · exact line_mem ok n _ (by omega) x hx
theorem flat_int {l : List Int} : ∀ v ∈ l.map MV.int, Flat v := fun v hv => by obtain ⟨x, _, rfl⟩ := List.mem_map.mp hv; exact .inl ⟨x, rfl⟩
theorem flat_str {l : List Str} : ∀ v ∈ l.map MV.str, Flat v := fun v hv => by obtain ⟨x, _, rfl⟩ := List.mem_map.mp hv; exact .inr ⟨x, rfl⟩
/-- two lists of the same items -/
theorem eq_same {p q : Addr} {xs : List MV} (h1 : H p = some (.list xs)) (h2 : H q = some (.list xs)) (f1 : ∀ v ∈ xs, Flat v) : CmpR H .NotEq (.ref p) (.ref q) false := by
  have := CmpR.ne (EqR.ll h1 h2 rfl f1 f1)
  rw [decide_eq_true rfl] at this
  exact this
abbrev Lk (p0 M : Addr) (a b c d : Option MV) : Loc := [some (.ref p0), some (.ref M), a, b, c, d]
noncomputable abbrev Wnum : Den := dComp 0 (dCall φ_line_of_type (lC (dIdx (dV 1) (dV 2)) (lN))) (tT) (dBin .Sub (dAttr (dV 6) 2) (dK (.int 40)))
theorem num_ok {p0 : Addr} {a3 a4 a5 : Option MV} {P : MV → Hp → Prop} {ch : List Addr} {l : List Int} (k : Kp H H1) (hM : H M = some (.list ms)) (hi : i < 1000) (x : ms[i]? = some (.ref p)) (L : Lin H R (.ref p) l ch) (hz : l.length ≤ 100)
    (h : ∀ a H2, Kp H H2 → Kp H1 H2 → H2 a = some (.list (l.map .int)) → P (.ref a) H2) : Wnum (Lk p0 M (some (.int (i : Int))) a3 a4 a5) P H1 := by
  have hlen := L.len
  refine ⟨_, rfl, _, rfl, _, list_at (k _ _ hM) hi x, .ref p, ch, rfl, L.c.kp k, by omega, fun a H2 k2 ha h2 => ?_⟩
  refine ⟨_, _, .inl ⟨rfl, a, rfl, h2, by rw [List.length_map]; omega, rfl⟩, fun j acc H3 => H3 = H2 ∧ acc = (l.take j).map .int, ⟨rfl, rfl⟩, ?_, ?_⟩
  · rintro j _ _ u ⟨rfl, rfl⟩ hu
    rw [List.getElem?_map] at hu
    obtain ⟨y, hy, rfl⟩ := Option.map_eq_some_iff.mp hu
    obtain ⟨d, f, t, e⟩ := L.t y (List.mem_of_getElem? hy)
    refine ⟨h2, _, rfl, _, (t.kp (k.trans k2)).at (by decide) e, .inl ⟨_, _, _, rfl, rfl, .sub _ _, rfl, ?_⟩⟩
    have hn := congrArg (·[j]?) L.n
    simp only [List.getElem?_map, hy, Option.map_some] at hn
    obtain ⟨z, hz, e2⟩ := Option.map_eq_some_iff.mp hn.symm
    rw [List.take_add_one, hz, List.map_append, ← e2, show 40 + z - 40 = z from by omega]
    rfl
  · rintro _ _ ⟨rfl, rfl⟩
    rw [List.length_map, hlen, List.take_length]
    exact ⟨h2, fun b hb => h b _ ((k.trans k2).trans (Kp.add hb)) (k2.trans (Kp.add hb)) upd_same⟩
noncomputable abbrev Wnames : Den := dComp2 (dRev (dV 3)) (dIdx (dIdx (dV 0) (dV 6)) (dK (.int 2))) (dBin .Add (dBin .Add (dK (.str "c")) (dStr (dV 6))) (dStr (dV 7)))
theorem nms_ok {p0 ln : Addr} {a2 a4 a5 : Option MV} {P : MV → Hp → Prop} {l : List Int} (ok : R.OK) (rw_ : RowsAt H p0 R) (hl : H ln = some (.list (l.map .int))) (hz : l.length ≤ 100) (hm : ∀ x ∈ l, 0 ≤ x ∧ x < R.n)
    (h : ∀ a H2, Kp H H2 → H2 a = some (.list ((l.reverse.flatMap fun x => ownN R x.toNat).map .str)) → P (.ref a) H2) : Wnames (Lk p0 M a2 (some (.ref ln)) a4 a5) P H := by
  have hi7 := ok.hi
  refine ⟨_, rfl, ln, _, rfl, hl, by rw [List.length_map]; omega, fun a ha => ?_⟩
  have k1 := Kp.add (o := .list (l.map MV.int).reverse) ha
  have e1 : upd H a (.list (l.map MV.int).reverse) a = some (.list (l.reverse.map MV.int)) := by rw [upd_same, List.map_reverse]
  have rw1 := rw_.kp k1
  generalize upd H a (.list (l.map MV.int).reverse) = H1 at *
  refine ⟨_, _, .inl ⟨rfl, a, rfl, e1, by rw [List.length_map, List.length_reverse]; omega, rfl⟩, fun i j acc H2 => H2 = H1 ∧ ∀ x : Int, (j = 0 ∨ l.reverse[i]? = some x) → acc = (((l.reverse.take i).flatMap fun x => ownN R x.toNat) ++ (List.range j).map fun (q : Nat) => cV x.toNat q).map .str, ⟨rfl, fun x _ => rfl⟩, ?_, ?_⟩
  · rintro i acc _ v ⟨rfl, hacc⟩ hv
    rw [List.getElem?_map] at hv
    obtain ⟨x, hx, rfl⟩ := Option.map_eq_some_iff.mp hv
    obtain ⟨x0, x1⟩ := hm x (List.mem_reverse.mp (List.mem_of_getElem? hx))
    obtain ⟨r, hr, b, rfl, hb⟩ := rw1.row x0 x1 hi7
    have hq := ok.prt x.toNat (by omega)
    refine ⟨e1, _, rfl, _, rfl, _, hr, _, tup_at (i := 2) hb (by decide) rfl, _, rfl, hq.1, by omega, ⟨rfl, hacc⟩, ?_, ?_⟩
    · rintro j acc _ ⟨rfl, hacc⟩ hj
      have hd := digs_len x.toNat (by omega)
      have hd2 := digs_len j (by omega)
      rw [Int.toNat_of_nonneg x0] at hd
      refine ⟨_, rfl, _, rfl, x0, by omega, .inr (.inl ⟨rfl, _, _, rfl, rfl, Nat.le_trans lit_len.1 (by decide), by omega, _, rfl, _, rfl, Int.natCast_nonneg j, by omega, .inr (.inl ⟨rfl, _, _, rfl, rfl, by omega, by omega, rfl, fun y hy => ?_⟩)⟩)⟩
      have : y = x := by
        rcases hy with hy | hy
        · cases hy
        · rw [hx] at hy; exact (Option.some.inj hy).symm
      subst this
      rw [hacc y (.inr hx), List.range_succ, List.map_append, List.map_append, List.map_append, List.append_assoc]
      congr 2
      unfold cV
      rw [Int.toNat_of_nonneg x0, List.map_append]; rfl
    · rintro acc _ ⟨rfl, hacc⟩
      refine ⟨rfl, fun y _ => ?_⟩
      rw [hacc x (.inr hx), List.take_add_one, hx, List.flatMap_append]
      congr 1
      rw [List.append_assoc]
      congr 1
      show _ = (ownN R x.toNat ++ []) ++ []
      rw [List.append_nil, List.append_nil]; rfl
  · rintro acc _ ⟨rfl, hacc⟩
    have e := hacc 0 (.inl rfl)
    rw [List.length_map, List.take_length] at e
    rw [List.range_zero, List.map_nil, List.append_nil] at e
    rw [e]
    exact ⟨e1, fun b hb => h b _ (k1.trans (Kp.add hb)) upd_same⟩
end Mine
end
section
open PySem PySem.W PyProof.Rows PySem.Calls PySem.Spec
open Classical
namespace Mine
variable {H0 H1 H4 H5 H6 H H' : Hp} {R : Rws} {left : Option (Int × Int)} {M : Addr} {ms : List MV} {i : Nat} {p d o a : Addr} {f : Nat → MV} {cs ds : List MV} {j : Nat}
theorem Lin.any {v : MV} {l : List Int} {ch : List Addr} (L : Lin H R v l ch) (k : Int) : (ch.any fun x => numOf H x == 40 + k) = decide (MV.int k ∈ l.map MV.int) := by
  have e : (ch.any fun x => numOf H x == 40 + k) = (ch.map (numOf H)).any fun y => y == 40 + k := by rw [List.any_map]; rfl
  rw [e, L.n, List.any_map, Bool.eq_iff_iff, List.any_eq_true, decide_eq_true_iff]
  constructor
  · rintro ⟨x, hx, h⟩
    have h : 40 + x = 40 + k := eq_of_beq h
    have : x = k := by omega
    exact List.mem_map.mpr ⟨x, hx, by rw [this]⟩
  · intro h
    obtain ⟨x, hx, e⟩ := List.mem_map.mp h
    cases e
    exact ⟨k, hx, beq_iff_eq.mpr rfl⟩
noncomputable def φ_law_kin_right : Fn := fun vs P H => ∃ p M R left ms, vs = [.ref p, .ref M] ∧ RowsAt H p R ∧ R.OK ∧ H M = some (.list ms) ∧ ms.length = R.n ∧ (∀ i, i < R.n → NodeAt H R left ms i) ∧ ∀ H', Kp H H' → P (.bool true) H'
noncomputable abbrev D_law_kin_right : DenS := sSeq (sFor 1 (gV 2) (dLen (dV 0)) (sSeq (sAsg (gV 3) (dCall φ_law_line (lC (dV 0) (lC (dV 2) (lN))))) (sSeq (sIf (tCmp .NotEq (dComp 0 (dCall φ_line_of_type (lC (dIdx (dV 1) (dV 2)) (lN))) (tT) (dBin .Sub (dAttr (dV 6) 2) (dK (.int 40)))) (dV 3)) (sSeq (sRet (dK (.bool false))) (sNil)) (sNil)) (sSeq (sAsg (gV 4) (dComp2 (dRev (dV 3)) (dIdx (dIdx (dV 0) (dV 6)) (dK (.int 2))) (dBin .Add (dBin .Add (dK (.str "c")) (dStr (dV 6))) (dStr (dV 7))))) (sSeq (sIf (tCmp .NotEq (dComp 0 (dAttr (dIdx (dV 1) (dV 2)) 13) (tT) (dIdx (dV 6) (dK (.int 0)))) (dV 4)) (sSeq (sRet (dK (.bool false))) (sNil)) (sNil)) (sSeq (sFor 1 (gV 5) (dLen (dV 0)) (sSeq (sIf (tCmp .NotEq (dCall φ_is_descendant (lC (dIdx (dV 1) (dV 2)) (lC (dIdx (dV 1) (dV 5)) (lN)))) (dCmp .In (dV 5) (dV 3))) (sSeq (sRet (dK (.bool false))) (sNil)) (sNil)) (sNil))) (sNil))))))) (sSeq (sRet (dK (.bool true))) (sNil))
noncomputable abbrev Ddesc : DenS := sFor 1 (gV 5) (dLen (dV 0)) (sSeq (sIf (tCmp .NotEq (dCall φ_is_descendant (lC (dIdx (dV 1) (dV 2)) (lC (dIdx (dV 1) (dV 5)) (lN)))) (dCmp .In (dV 5) (dV 3))) (sSeq (sRet (dK (.bool false))) (sNil)) (sNil)) (sNil))
theorem desc_ok {p0 ln : Addr} {a4 a5 : Option MV} {P : Fl → Loc → Hp → Prop} {ch : List Addr} {l : List Int} (ok : R.OK) (k : Kp H H1) (rw_ : RowsAt H p0 R) (hM : H M = some (.list ms)) (nd : ∀ i, i < R.n → NodeAt H R left ms i) (hi : i < R.n) (x : ms[i]? = some (.ref p)) (L : Lin H R (.ref p) l ch) (hz : l.length ≤ 100)
    (hl : H1 ln = some (.list (l.map .int))) (h : ∀ H2 u, Kp H1 H2 → P .nx (Lk p0 M (some (.int (i : Int))) (some (.ref ln)) a4 u) H2) : Ddesc (Lk p0 M (some (.int (i : Int))) (some (.ref ln)) a4 a5) P H1 := by
  have hi7 := ok.hi
  have hlen := L.len
  obtain ⟨rs, r1, r2, r3⟩ := rw_
  refine ⟨_, rfl, p0, rs, rfl, .inl (k _ _ r1), by omega, _, _, .inr (.inl ⟨rfl, _, rfl, Int.natCast_nonneg _, by omega, rfl, rfl⟩), fun j l' H2 => (∃ u, l' = Lk p0 M (some (.int (i : Int))) (some (.ref ln)) a4 u) ∧ Kp H1 H2, ⟨⟨_, rfl⟩, Kp.refl⟩, ?_, ?_⟩
  · rintro j _ H2 u ⟨⟨u5, rfl⟩, k2⟩ hu
    obtain ⟨hj, rfl⟩ := ir_get hu
    rw [Int.toNat_natCast, r2] at hj
    obtain ⟨q, dq, fq, _, _, N, _⟩ := nd j hj
    have kk := k.trans k2
    refine ⟨trivial, _, rfl, _, rfl, _, list_at (kk _ _ hM) (by omega) x, _, rfl, _, rfl, _, list_at (kk _ _ hM) (by omega) N.x, .ref p, ch, q, numOf H, 40 + (j : Int), rfl, L.c.kp kk, by omega, fun y hy => ?_, ⟨dq, fq, N.ty.kp kk, N.no⟩, fun H3 k3 => ?_⟩
    · obtain ⟨d, f, t, e⟩ := L.t y hy
      exact ⟨d, f, t.kp kk, e⟩
    · refine ⟨_, rfl, _, rfl, _, .ini (k3 _ _ (k2 _ _ hl)) (fun v hv => by obtain ⟨y, _, rfl⟩ := List.mem_map.mp hv; exact ⟨y, rfl⟩), _, .ne (.bool _ _), ?_⟩
      rw [L.any, beq_self_eq_true]
      exact ⟨⟨_, rfl⟩, k2.trans k3⟩
  · rintro _ H2 ⟨⟨u5, rfl⟩, k2⟩
    exact ⟨trivial, h H2 _ k2⟩
theorem c_law_kin_right {vs : List MV} {P : MV → Hp → Prop} {H : Hp} (h : φ_law_kin_right vs P H) : vs.length = 2 ∧ D_law_kin_right (vs.map some ++ [none, none, none, none]) (fun fl l H => P (retOf fl) H) H := by
  obtain ⟨p0, M, R, left, ms, rfl, rw_, ok, hM, hl, nd, h⟩ := h
  obtain ⟨rs, r1, r2, r3⟩ := rw_
  have rw_ : RowsAt H p0 R := ⟨rs, r1, r2, r3⟩
  have hi7 := ok.hi
  refine ⟨rfl, _, rfl, p0, rs, rfl, .inl r1, by omega, _, _, .inr (.inl ⟨rfl, _, rfl, Int.natCast_nonneg _, by omega, rfl, rfl⟩), fun i l H2 => (∃ a b c d, l = Lk p0 M a b c d) ∧ Kp H H2, ⟨⟨_, _, _, _, rfl⟩, Kp.refl⟩, ?_, ?_⟩
  · rintro i _ H2 u ⟨⟨a, b, c, d, rfl⟩, k2⟩ hu
    obtain ⟨hi, rfl⟩ := ir_get hu
    rw [Int.toNat_natCast, r2] at hi
    obtain ⟨p, d1, f, cs, es, N, _⟩ := nd i hi
    obtain ⟨ch, L⟩ := lin_at ok nd hi N.x
    have hz := line_len R 8 (i : Int)
    refine ⟨trivial, _, rfl, _, rfl, p0, i, R, rfl, rw_.kp k2, ok, by omega, by omega, fun ln H3 k3 _ h3 => ?_⟩
    refine num_ok (k2.trans k3) hM (by omega) N.x L (by omega) fun q H4 k4 k34 h4 => ⟨_, rfl, _, eq_same h4 (k34 _ _ h3) flat_int, ?_⟩
    have h3' := k34 _ _ h3
    refine nms_ok ok (rw_.kp k4) h3' (by omega) (line_mem ok 8 _ (by omega)) fun nl H5 k5 h5 => ?_
    obtain ⟨b1, e13, e2⟩ := N.co
    have k45 := k4.trans k5
    refine ⟨_, rfl, _, rfl, _, list_at (k45 _ _ hM) (by omega) N.x, _, (N.ty.kp k45).at (by decide) e13, names_comp (k := 6) rfl (p := b1) (k45 _ _ e2) (N.nm.kp k45) (by rw [N.nm.len]; have := names_len ok 8 (i := (i : Int)) (by omega); omega) fun r hr => ?_⟩
    have k6 := Kp.add (o := .list ((namesR R 8 i).map .str)) hr
    rw [← names_line] at h5
    refine ⟨_, rfl, _, eq_same upd_same (k6 _ _ h5) flat_str, ?_⟩
    refine desc_ok ok (k45.trans k6) rw_ hM nd hi N.x L (by omega) (k6 _ _ (k5 _ _ h3')) fun H7 u k7 => ⟨⟨_, _, _, _, rfl⟩, (k45.trans k6).trans k7⟩
  · rintro _ H2 ⟨⟨a, b, c, d, rfl⟩, k2⟩
    exact ⟨trivial, h H2 k2⟩
end Mine
end
section
open PySem PySem.W PyProof.Rows PySem.Calls PySem.Spec
open Classical
namespace Mine
variable {H0 H1 H4 H5 H6 H H' : Hp} {R : Rws} {left : Option (Int × Int)} {M : Addr} {ms : List MV} {i : Nat} {p d o a x : Addr} {f : Nat → MV} {cs ds : List MV} {j : Nat}
theorem near_neg {n : Nat} {key i : Int} (h : i < 0) : near R key left n i = i := by
  cases n with
  | zero => rfl
  | succ n => exact if_pos (.inl h)
theorem near_le (ok : R.OK) {key : Int} : ∀ (n : Nat) {i : Int}, -1 ≤ i → i < R.n → near R key left n i ≤ i ∧ -1 ≤ near R key left n i
  | 0, i, h0, h1 => ⟨Int.le_refl _, h0⟩
  | n + 1, i, h0, h1 => by
    by_cases q : i < 0 ∨ Tells R key left i
    · rw [show near R key left (n + 1) i = i from if_pos q]; omega
    · rw [show near R key left (n + 1) i = near R key left n (R.par i.toNat) from if_neg q]
      obtain ⟨s1, s2⟩ := ok.step (by omega) h1
      have := near_le ok (key := key) n s1 (by omega)
      omega
/-- what is left out -/
theorem near_left (ok : R.OK) {key a b : Int} (ha : 0 ≤ a) : ∀ (n : Nat) (i : Int), -1 ≤ i → i < R.n → i + 1 ≤ n →
    near R key (some (a, b)) 8 i = if near R key none 8 i = a ∧ key = b then near R key none 8 (R.par a.toNat) else near R key none 8 i
  | 0, i, h0, h1, h2 => by rw [near_neg (by omega), near_neg (by omega), if_neg (by omega)]
  | n + 1, i, h0, h1, h2 => by
    by_cases q : i < 0
    · rw [near_neg q, near_neg q, if_neg (by omega)]
    · obtain ⟨s1, s2⟩ := ok.step (by omega) h1
      have ih := near_left ok (key := key) (b := b) ha n (R.par i.toNat) s1 (by omega) (by omega)
      rw [near_step ok (left := some (a, b)) (key := key) (by omega) h1, near_step ok (left := none) (key := key) (by omega) h1]
      by_cases hb : bit (R.told i.toNat) key = 0
      · rw [if_neg (fun z : Tells R key (some (a, b)) i => z.1 hb), if_neg (fun z : Tells R key none i => z.1 hb)]
        exact ih
      · have t0 : Tells R key none i := ⟨hb, fun z => nomatch z⟩
        rw [if_pos t0]
        by_cases hl : a = i ∧ b = key
        · obtain ⟨rfl, rfl⟩ := hl
          rw [if_neg (fun z : Tells R b (some (a, b)) a => z.2 rfl), ih, if_neg (fun z => ?_), if_pos ⟨rfl, rfl⟩]
          have := (near_le ok (key := b) (left := none) 8 s1 (by omega)).1
          omega
        · rw [if_pos (show Tells R key (some (a, b)) i from ⟨hb, fun z => hl (by cases z; exact ⟨rfl, rfl⟩)⟩), if_neg fun z => hl ⟨z.1.symm, z.2.symm⟩]
theorem sV_all : ((List.range 7).all fun i => (List.range 7).all fun j => !(sV (i : Nat) == sV (j : Nat)) || i == j) = true := by decide +kernel
theorem sV_inj {i j : Int} (h0 : 0 ≤ i) (h1 : i < 7) (h2 : 0 ≤ j) (h3 : j < 7) (e : sV i = sV j) : i = j := by
  obtain ⟨m, rfl⟩ := Int.eq_ofNat_of_zero_le h0
  obtain ⟨n, rfl⟩ := Int.eq_ofNat_of_zero_le h2
  have h := List.all_eq_true.mp (List.all_eq_true.mp sV_all m (List.mem_range.mpr (by omega))) n (List.mem_range.mpr (by omega))
  rw [e, beq_self_eq_true, Bool.not_true, Bool.false_or] at h
  rw [eq_of_beq h]
/-- the operation of a type, as a value -/
noncomputable def opM (R : Rws) (left : Option (Int × Int)) (k : Nat) (i : Int) : MV := (opV R left i k).getD .non
theorem op_at (N : Node H R (opV R left i) ms i p d f cs es) {k : Nat} (hk : k < 3) : OpAt H (keyN k) p (opM R left k i) := by
  obtain ⟨o, o1, o2⟩ := N.op
  refine ⟨d, f, o, es, N.ty, o1, o2, ?_⟩
  rw [N.ok k hk]
  unfold opM opV
  split
  · exact .inr ⟨_, rfl, rfl⟩
  · exact .inl ⟨rfl, rfl⟩
theorem OpAt.kp {key : Str} {v : MV} (x : OpAt H key a v) (k : Kp H H') : OpAt H' key a v := let ⟨d, f, o, es, t, h1, h2, h3⟩ := x; ⟨d, f, o, es, t.kp k, h1, k _ _ h2, h3⟩
theorem OpAt.one {key : Str} {v u : MV} (x : OpAt H key a v) (y : OpAt H key a u) : v = u := by
  obtain ⟨d, f, o, es, t, h1, h2, h3⟩ := x
  obtain ⟨d', f', o', es', t', h1', h2', h3'⟩ := y
  have := (t.same t').2 23 (by decide)
  rw [h1, h1'] at this
  cases this
  rw [h2] at h2'
  cases h2'
  rcases h3 with ⟨e, rfl⟩ | ⟨s, e, rfl⟩ <;> rcases h3' with ⟨e', rfl⟩ | ⟨s', e', rfl⟩
  · rfl
  · rw [e] at e'; cases e'
  · rw [e] at e'; cases e'
  · rw [e] at e'; cases e'; rfl
noncomputable def opOf (H : Hp) (key : Str) (a : Addr) : MV := if h : ∃ v, OpAt H key a v then h.choose else .non
theorem opOf_eq {key : Str} {v : MV} (x : OpAt H key a v) : opOf H key a = v := by
  have h : ∃ v, OpAt H key a v := ⟨v, x⟩
  unfold opOf
  rw [dif_pos h]
  exact h.choose_spec.one x
theorem opM_non {k : Nat} {i : Int} : opM R left k i = .non ↔ near R k left 8 i < 0 := by
  unfold opM opV
  split
  · exact ⟨fun z => (nomatch z), fun z => by omega⟩
  · exact ⟨fun _ => by omega, fun _ => rfl⟩
theorem opM_eq (ok : R.OK) {k : Nat} {i j : Int} (hi : -1 ≤ i ∧ i < R.n) (hj : -1 ≤ j ∧ j < R.n) (h : 0 ≤ near R k left 8 i) : opM R left k j = opM R left k i ↔ near R k left 8 j = near R k left 8 i := by
  have hi7 := ok.hi
  have a := near_le ok (key := k) (left := left) 8 hi.1 hi.2
  have b := near_le ok (key := k) (left := left) 8 hj.1 hj.2
  unfold opM opV
  rw [if_pos h]
  split
  · constructor
    · intro z; exact sV_inj (by omega) (by omega) h (by omega) (MV.str.inj z)
    · intro z; rw [z]
  · exact ⟨fun z => (nomatch z), fun z => by omega⟩
theorem home_node (ok : R.OK) (nd : ∀ i, i < R.n → NodeAt H R left ms i) {k : Nat} (hk : k < 3) : ∀ (n : Nat) (i : Nat) (x : Addr), i < R.n → i < n → ms[i]? = some (.ref x) →
    ∃ ch, Chain H (.ref x) (x :: ch) ∧ ch.length < n ∧ (∀ y ∈ x :: ch, OpAt H (keyN k) y (opOf H (keyN k) y)) ∧ opOf H (keyN k) x = opM R left k i ∧
      (0 ≤ near R k left 8 i → ∃ z, homeL (opOf H (keyN k)) (x :: ch) = .ref z ∧ ms[(near R k left 8 i).toNat]? = some (.ref z))
  | 0, i, x, _, h, _ => absurd h (Nat.not_lt_zero _)
  | n + 1, i, x, hi, hn, hx => by
    obtain ⟨p, d, f, cs, es, N, _⟩ := nd i hi
    obtain ⟨s1, s2⟩ := ok.step (i := (i : Int)) (Int.natCast_nonneg i) (by omega)
    have s2 : R.par i < i := s2
    have ep := N.x
    rw [hx] at ep
    cases ep
    have oa := op_at N hk
    have ov := opOf_eq oa
    have ns := near_step ok (left := left) (key := (k : Int)) (j := (i : Int)) (Int.natCast_nonneg i) (by omega)
    rw [Int.toNat_natCast] at ns
    rcases N.pa with ⟨h0, h3⟩ | ⟨y, h0, hy, h3⟩
    · refine ⟨[], .cons N.ty (h3 ▸ .nil), Nat.succ_pos _, fun z hz => by rw [List.mem_singleton.mp hz, ov]; exact oa, ov, fun h => ⟨_, rfl, ?_⟩⟩
      by_cases t : Tells R k left i
      · rw [ns, if_pos t, Int.toNat_natCast]; exact hx
      · rw [ns, if_neg t, near_neg h0] at h; omega
    · obtain ⟨ch, c1, c2, c3, c4, c5⟩ := home_node ok nd hk n (R.par i).toNat y (by omega) (by omega) hy
      rw [Int.toNat_of_nonneg h0] at c4 c5
      refine ⟨y :: ch, .cons N.ty (h3 ▸ c1), Nat.succ_lt_succ c2, fun z hz => ?_, ov, fun h => ?_⟩
      · rcases List.mem_cons.mp hz with rfl | hz
        · rw [ov]; exact oa
        · exact c3 z hz
      · have iff := opM_eq ok (left := left) (i := (i : Int)) (j := R.par i) ⟨by omega, by omega⟩ ⟨by omega, by omega⟩ h
        by_cases t : Tells R k left i
        · rw [if_pos t] at ns
          have lt := (near_le ok (key := k) (left := left) 8 (i := R.par i) (by omega) (by omega)).1
          have : homeL (opOf H (keyN k)) (x :: y :: ch) = .ref x := if_neg (by rw [ov, c4, iff, ns]; omega)
          exact ⟨x, this, by rw [ns, Int.toNat_natCast]; exact hx⟩
        · rw [if_neg t] at ns
          have : homeL (opOf H (keyN k)) (x :: y :: ch) = homeL (opOf H (keyN k)) (y :: ch) := if_pos (by rw [ov, c4, iff, ns])
          rw [this, ns]
          exact c5 (ns ▸ h)
noncomputable def φ_law_leads : Fn := fun vs P H => ∃ p k v, vs = [.ref p, .int (k : Nat)] ∧ k < 3 ∧ OpAt H (keyN k) p v ∧ ((v = .non ∧ ∀ H', Kp H H' → P (.int (-1)) H') ∨ ∃ j : Int, 0 ≤ j ∧ j < 7 ∧ v = .str (sV j) ∧ ∀ H', Kp H H' → P (.int j) H')
theorem leads_node (ok : R.OK) (nd : ∀ i, i < R.n → NodeAt H R left ms i) {k : Nat} (hk : k < 3) (hi : i < R.n) (hx : ms[i]? = some (.ref x)) {P : MV → Hp → Prop} (h : ∀ H', Kp H H' → P (.int (near R k left 8 i)) H') : φ_law_leads [.ref x, .int k] P H := by
  obtain ⟨p, d, f, cs, es, N, _⟩ := nd i hi
  have ep := N.x
  rw [hx] at ep
  cases ep
  have hi7 := ok.hi
  have b := near_le ok (key := k) (left := left) 8 (i := (i : Int)) (by omega) (by omega)
  refine ⟨x, k, _, rfl, hk, op_at N hk, ?_⟩
  by_cases q : near R k left 8 i < 0
  · refine .inl ⟨opM_non.mpr q, ?_⟩
    have : near R k left 8 i = -1 := by omega
    rw [this] at h
    exact h
  · refine .inr ⟨near R k left 8 i, by omega, by omega, ?_, h⟩
    unfold opM opV
    rw [if_pos (by omega)]; rfl
end Mine
end
section
open PySem PySem.W PyProof.Rows PySem.Calls PySem.Spec
open Classical
namespace Mine
variable {H0 H1 H4 H5 H6 H H' : Hp} {R : Rws} {a b : Int} {rows lf made other less : Addr} {m1 m2 m3 : List MV} {i k : Nat}
structure Tre (H : Hp) (R : Rws) (left : Option (Int × Int)) (M : Addr) (ms : List MV) : Prop where
  l : H M = some (.list ms)
  z : ms.length = R.n
  nd : ∀ i, i < R.n → NodeAt H R left ms i
structure Sit (H : Hp) (R : Rws) (a b : Int) (rows lf made other less : Addr) (m1 m2 m3 : List MV) : Prop where
  ok : R.OK
  r : RowsAt H rows R
  lf : H lf = some (.tup [.int a, .int b])
  a0 : 0 ≤ a ∧ a < R.n
  made : Tre H R none made m1
  other : Tre H R none other m2
  less : Tre H R (some (a, b)) less m3
theorem NodeAt.kp {left : Option (Int × Int)} {ms : List MV} (x : NodeAt H R left ms i) (k : Kp H H') : NodeAt H' R left ms i := let ⟨p, d, f, cs, es, n, l⟩ := x; ⟨p, d, f, cs, es, n.kp k, l⟩
theorem Tre.kp {left : Option (Int × Int)} {M : Addr} {ms : List MV} (x : Tre H R left M ms) (k : Kp H H') : Tre H' R left M ms := ⟨k _ _ x.l, x.z, fun i hi => (x.nd i hi).kp k⟩
theorem Sit.kp (x : Sit H R a b rows lf made other less m1 m2 m3) (k : Kp H H') : Sit H' R a b rows lf made other less m1 m2 m3 := ⟨x.ok, x.r.kp k, k _ _ x.lf, x.a0, x.made.kp k, x.other.kp k, x.less.kp k⟩
/-- M[i], and where it leads -/
theorem Tre.leads {left : Option (Int × Int)} {M : Addr} {ms : List MV} (x : Tre H R left M ms) (ok : R.OK) (hk : k < 3) (hi : i < R.n) : ∃ u, IdxAt H (.ref M) (.int (i : Int)) u ∧ ∀ P : MV → Hp → Prop, (∀ H', Kp H H' → P (.int (near R k left 8 i)) H') → φ_law_leads [u, .int k] P H := by
  have hi7 := ok.hi
  obtain ⟨p, d, f, cs, es, N, _⟩ := x.nd i hi
  exact ⟨_, list_at x.l (by omega) N.x, fun P h => leads_node ok x.nd hk hi N.x h⟩
abbrev Ll (s0 s1 : Option MV) (rows lf made other less : Addr) (i k : Int) (c d e f : Option MV) : Loc := [s0, s1, some (.ref rows), some (.ref lf), some (.ref made), some (.ref other), some (.ref less), some (.int i), some (.int k), c, d, e, f]
noncomputable abbrev Wabove : Den := dIf (tCmp .GtE (dIdx (dIdx (dV 2) (dIdx (dV 3) (dK (.int 0)))) (dK (.int 0))) (dK (.int 0))) (dCall φ_law_leads (lC (dIdx (dV 4) (dIdx (dIdx (dV 2) (dIdx (dV 3) (dK (.int 0)))) (dK (.int 0)))) (lC (dV 8) (lN)))) (dK (.int (-1)))
theorem above_ok {s0 s1 c d e f : Option MV} {P : MV → Hp → Prop} (x : Sit H R a b rows lf made other less m1 m2 m3) (hk : k < 3) (h : ∀ H', Kp H H' → P (.int (near R k none 8 (R.par a.toNat))) H') : Wabove (Ll s0 s1 rows lf made other less i k c d e f) P H := by
  have hi7 := x.ok.hi
  obtain ⟨r, hr, y, rfl, hy⟩ := x.r.row x.a0.1 x.a0.2 hi7
  obtain ⟨s1, s2⟩ := x.ok.step x.a0.1 x.a0.2
  have ha := x.a0
  refine ⟨_, rfl, _, rfl, _, tup_at (i := 0) x.lf (by decide) rfl, _, hr, _, tup_at (i := 0) hy (by decide) rfl, _, .ge _ _, ?_⟩
  by_cases q : 0 ≤ R.par a.toNat
  · rw [decide_eq_true q]
    obtain ⟨u, h1, h2⟩ := x.made.leads x.ok hk (i := (R.par a.toNat).toNat) (by omega)
    rw [Int.toNat_of_nonneg q] at h1 h2
    exact ⟨_, rfl, _, rfl, _, rfl, _, tup_at (i := 0) x.lf (by decide) rfl, _, hr, _, tup_at (i := 0) hy (by decide) rfl, _, h1, _, rfl, h2 _ h⟩
  · rw [decide_eq_false q]
    have := h H Kp.refl
    rw [near_neg (by omega), show R.par a.toNat = -1 from by omega] at this
    exact this
noncomputable abbrev Wless : Den := dIf (tCmp .Eq (dTup (lC (dV 9) (lC (dV 8) (lN)))) (dV 3)) (dV 11) (dV 10)
theorem less_ok {s0 s1 f : Option MV} {n u v : Int} {P : MV → Hp → Prop} (x : Sit H R a b rows lf made other less m1 m2 m3) (h : ∀ H', Kp H H' → P (.int (if n = a ∧ (k : Int) = b then u else v)) H') :
    Wless (Ll s0 s1 rows lf made other less i k (some (.int n)) (some (.int v)) (some (.int u)) f) P H := by
  refine ⟨_, rfl, _, rfl, Nat.le_of_ble_eq_true rfl, fun c hc => ⟨_, rfl, _, .eq ((LeftAt.eq (left := some (a, b)) (.inr ⟨_, _, _, rfl, Kp.add hc _ _ x.lf, rfl⟩)) upd_same), ?_⟩⟩
  have h := h _ (Kp.add (o := .tup [.int n, .int (k : Int)]) hc)
  by_cases q : n = a ∧ (k : Int) = b
  · rw [decide_eq_true (by rw [q.1, q.2])]
    rw [if_pos q] at h
    exact ⟨_, rfl, h⟩
  · rw [decide_eq_false (fun z => q (by cases z; exact ⟨rfl, rfl⟩))]
    rw [if_neg q] at h
    exact ⟨_, rfl, h⟩
noncomputable abbrev Whome : Den := dIf (tCmp .Is (dV 12) (dK .non)) (dK (.int (-1))) (dBin .Sub (dAttr (dV 12) 2) (dK (.int 40)))
noncomputable abbrev Dhome : DenS := sSeq (sAsg (gV 12) (dCall φ_home_of (lC (dIdx (dV 4) (dV 7)) (lC (dIdx (dCall φ_law_keys (lN)) (dV 8)) (lN))))) (sSeq (sIf (tCmp .NotEq Whome (dV 9)) (sSeq (sRet (dK (.bool false))) (sNil)) (sNil)) (sNil))
theorem home_ok {s0 s1 d e f : Option MV} {P : Fl → Loc → Hp → Prop} (x : Sit H R a b rows lf made other less m1 m2 m3) (hk : k < 3) (hi : i < R.n) (h : ∀ H' u, Kp H H' → P .nx (Ll s0 s1 rows lf made other less i k (some (.int (near R k none 8 i))) d e u) H') :
    Dhome (Ll s0 s1 rows lf made other less i k (some (.int (near R k none 8 i))) d e f) P H := by
  have hi7 := x.ok.hi
  obtain ⟨p, dd, ff, cs, es, N, _⟩ := x.made.nd i hi
  refine ⟨_, rfl, _, rfl, _, list_at x.made.l (by omega) N.x, rfl, fun y hy => ⟨_, rfl, _, keys_at upd_same hk, ?_⟩⟩
  have k1 := Kp.add (o := .tup [.str "run", .str "stop", .str "tell"]) hy
  have x1 := x.kp k1
  have h' := fun H' u k' => h H' u (k1.trans k')
  obtain ⟨ch, c1, c2, c3, c4, c5⟩ := home_node x.ok x1.made.nd hk 8 i p hi (by omega) N.x
  refine ⟨p, ch, keyN k, _, rfl, c1, by omega, c3, ?_⟩
  have lo := near_le x.ok (key := k) (left := none) 8 (i := (i : Int)) (by omega) (by omega)
  by_cases q : near R k none 8 i < 0
  · rw [if_pos (c4.trans (opM_non.mpr q))]
    refine ⟨_, rfl, _, .is _, ?_⟩
    rw [decide_eq_true rfl]
    refine ⟨_, rfl, _, .ne (.int _ _), ?_⟩
    rw [show near R k none 8 i = -1 from by omega]
    have := h' _ (some .non) Kp.refl
    rw [show near R k none 8 i = -1 from by omega] at this
    exact this
  · rw [if_neg (fun z => q (opM_non.mp (c4.symm.trans z)))]
    obtain ⟨z, z1, z2⟩ := c5 (by omega)
    rw [z1]
    obtain ⟨p', d', f', cs', es', N', _⟩ := x1.made.nd (near R k none 8 i).toNat (by omega)
    have e := N'.x
    rw [z2] at e
    cases e
    refine ⟨_, rfl, _, .is _, ?_⟩
    rw [decide_eq_false (fun z => nomatch z)]
    refine ⟨_, rfl, _, N'.ty.at (by decide) N'.no, .inl ⟨_, _, _, rfl, rfl, .sub _ _, _, rfl, _, .ne (.int _ _), ?_⟩⟩
    rw [show (40 + ((near R k none 8 i).toNat : Int) - 40 == near R k none 8 i) = true from beq_iff_eq.mpr (by omega)]
    exact h' _ _ Kp.refl
noncomputable abbrev Dkey : DenS := sSeq (sAsgS 2 (gC (gV 10) (gC (gV 9) (gN))) (dTup (lC (dCall φ_law_nearest (lC (dV 2) (lC (dV 7) (lC (dV 8) (lC (dK .non) (lN)))))) (lC (dCall φ_law_leads (lC (dIdx (dV 4) (dV 7)) (lC (dV 8) (lN)))) (lN))))) (sSeq (sIf (tOr (tCmp .NotEq (dV 10) (dV 9)) (tOr (tCmp .NotEq (dCall φ_law_leads (lC (dIdx (dV 5) (dV 7)) (lC (dV 8) (lN)))) (dV 9)) (tF))) (sSeq (sRet (dK (.bool false))) (sNil)) (sNil)) (sSeq (sAsg (gV 11) Wabove) (sSeq (sIf (tCmp .NotEq (dCall φ_law_leads (lC (dIdx (dV 6) (dV 7)) (lC (dV 8) (lN)))) Wless) (sSeq (sRet (dK (.bool false))) (sNil)) (sNil)) Dhome)))
theorem key_ok {s0 s1 c d e f : Option MV} {P : Fl → Loc → Hp → Prop} (x : Sit H R a b rows lf made other less m1 m2 m3) (hk : k < 3) (hi : i < R.n) (h : ∀ H' c d e u, Kp H H' → P .nx (Ll s0 s1 rows lf made other less i k c d e u) H') :
    Dkey (Ll s0 s1 rows lf made other less i k c d e f) P H := by
  have hi7 := x.ok.hi
  refine ⟨_, rfl, _, rfl, _, rfl, rows, i, k, .non, R, none, rfl, x.r, x.ok, .inl ⟨rfl, rfl⟩, by omega, by omega, Int.natCast_nonneg k, fun H1 k1 => ?_⟩
  obtain ⟨u, u1, u2⟩ := (x.kp k1).made.leads x.ok hk hi
  refine ⟨_, rfl, _, rfl, _, u1, _, rfl, u2 _ fun H2 k2 => ⟨Nat.le_of_ble_eq_true rfl, fun y hy => ⟨y, _, rfl, upd_same, rfl, _, _, rfl, _, _, rfl, rfl, ?_⟩⟩⟩
  have k3 := Kp.add (o := .tup [.int (near R k none 8 i), .int (near R k none 8 i)]) hy
  have kk := (k1.trans k2).trans k3
  have x3 := x.kp kk
  refine ⟨_, rfl, _, rfl, _, .ne (.int _ _), ?_⟩
  rw [beq_self_eq_true]
  obtain ⟨v, v1, v2⟩ := x3.other.leads x.ok hk hi
  refine ⟨_, rfl, _, rfl, _, v1, _, rfl, v2 _ fun H4 k4 => ⟨_, rfl, _, .ne (.int _ _), ?_⟩⟩
  rw [beq_self_eq_true]
  have x4 := x3.kp k4
  refine above_ok x4 hk fun H5 k5 => ?_
  have x5 := x4.kp k5
  obtain ⟨w, w1, w2⟩ := x5.less.leads x.ok hk hi
  refine ⟨_, rfl, _, rfl, _, w1, _, rfl, w2 _ fun H6 k6 => less_ok (x5.kp k6) fun H7 k7 => ⟨_, .ne (.int _ _), ?_⟩⟩
  rw [near_left x.ok x.a0.1 8 i (by omega) (by omega) (by omega), beq_self_eq_true]
  refine home_ok ((x5.kp k6).kp k7) hk hi fun H8 u k8 => h H8 _ _ _ _ ((((kk.trans k4).trans k5).trans k6).trans (k7.trans k8))
end Mine
end
section
open PySem PySem.W PyProof.Rows PySem.Calls PySem.Spec
open Classical
namespace Mine
variable {H H1 H' : Hp} {R : Rws} {p : Addr}
theorem RowsAt.kx {r q : Addr} {xs : List MV} {k : Int} (x : RowsAt H r R) (ok : R.OK) (F : Flc H p q xs k) (y : Kx p H H') : RowsAt H' r R := by
  obtain ⟨rs, h1, h2, h3⟩ := x
  have lo := ok.lo
  refine ⟨rs, y _ _ (fun z => ?_) h1, h2, fun i v e => ?_⟩
  · subst z
    rw [F.1] at h1
    cases h1
    obtain ⟨a, e, _⟩ := h3 1 _ rfl
    cases e
  · obtain ⟨a, e1, e2⟩ := h3 i v e
    exact ⟨a, e1, y _ _ (fun z => by rw [z, F.1] at e2; cases e2) e2⟩
noncomputable def φ_law : Fn := fun vs P H => ∃ p xs, vs = [.ref p] ∧ H p = some (.ro xs) ∧ xs.length ≤ 1000 ∧ (∀ v ∈ xs, ∃ i, v = .int i) ∧ ∀ H', P (.bool true) H'
noncomputable abbrev D_law : DenS := sSeq (sAsg (gV 1) (dList (lC (dSlTo (dV 0) 40) (lC (dK (.int 0)) (lN))))) (sSeq (sAsg (gV 2) (dCall φ_law_plan (lC (dV 1) (lN)))) (sSeq (sAsg (gV 3) (dTup (lC (dCall φ_law_shear (lC (dV 1) (lC (dLen (dV 2)) (lN)))) (lC (dCall φ_law_shear (lC (dV 1) (lC (dK (.int 3)) (lN)))) (lN))))) (sSeq (sAsgS 3 (gC (gV 6) (gC (gV 5) (gC (gV 4) (gN)))) (dTup (lC (dCall φ_law_built (lC (dV 2) (lC (dK (.int 0)) (lC (dK .non) (lN))))) (lC (dCall φ_law_built (lC (dV 2) (lC (dK (.int 1)) (lC (dK .non) (lN))))) (lC (dCall φ_law_built (lC (dV 2) (lC (dK (.int 0)) (lC (dV 3) (lN))))) (lN)))))) (sSeq (sIf (tOr (tCmp .Is (dV 4) (dK .non)) (tOr (tCmp .Is (dV 5) (dK .non)) (tOr (tCmp .Is (dV 6) (dK .non)) (tOr (tNot (tVal (dCall φ_law_kin_right (lC (dV 2) (lC (dV 4) (lN)))))) (tF))))) (sSeq (sRet (dK (.bool false))) (sNil)) (sNil)) (sSeq (sFor 1 (gV 7) (dLen (dV 2)) (sSeq (sFor 1 (gV 8) (dK (.int 3)) (sSeq (sAsgS 2 (gC (gV 10) (gC (gV 9) (gN))) (dTup (lC (dCall φ_law_nearest (lC (dV 2) (lC (dV 7) (lC (dV 8) (lC (dK .non) (lN)))))) (lC (dCall φ_law_leads (lC (dIdx (dV 4) (dV 7)) (lC (dV 8) (lN)))) (lN))))) (sSeq (sIf (tOr (tCmp .NotEq (dV 10) (dV 9)) (tOr (tCmp .NotEq (dCall φ_law_leads (lC (dIdx (dV 5) (dV 7)) (lC (dV 8) (lN)))) (dV 9)) (tF))) (sSeq (sRet (dK (.bool false))) (sNil)) (sNil)) (sSeq (sAsg (gV 11) (dIf (tCmp .GtE (dIdx (dIdx (dV 2) (dIdx (dV 3) (dK (.int 0)))) (dK (.int 0))) (dK (.int 0))) (dCall φ_law_leads (lC (dIdx (dV 4) (dIdx (dIdx (dV 2) (dIdx (dV 3) (dK (.int 0)))) (dK (.int 0)))) (lC (dV 8) (lN)))) (dK (.int (-1))))) (sSeq (sIf (tCmp .NotEq (dCall φ_law_leads (lC (dIdx (dV 6) (dV 7)) (lC (dV 8) (lN)))) (dIf (tCmp .Eq (dTup (lC (dV 9) (lC (dV 8) (lN)))) (dV 3)) (dV 11) (dV 10))) (sSeq (sRet (dK (.bool false))) (sNil)) (sNil)) (sSeq (sAsg (gV 12) (dCall φ_home_of (lC (dIdx (dV 4) (dV 7)) (lC (dIdx (dCall φ_law_keys (lN)) (dV 8)) (lN))))) (sSeq (sIf (tCmp .NotEq (dIf (tCmp .Is (dV 12) (dK .non)) (dK (.int (-1))) (dBin .Sub (dAttr (dV 12) 2) (dK (.int 40)))) (dV 9)) (sSeq (sRet (dK (.bool false))) (sNil)) (sNil)) (sNil)))))))) (sNil))) (sSeq (sRet (dK (.bool true))) (sNil)))))))
noncomputable abbrev Dloops : DenS := sSeq (sFor 1 (gV 7) (dLen (dV 2)) (sSeq (sFor 1 (gV 8) (dK (.int 3)) Dkey) (sNil))) (sSeq (sRet (dK (.bool true))) (sNil))
theorem loops_ok {a b : Int} {rows lf made other less : Addr} {m1 m2 m3 : List MV} {s0 s1 u7 u8 c d e f : Option MV} {P : Fl → Loc → Hp → Prop} (x : Sit H R a b rows lf made other less m1 m2 m3) (h : ∀ l H', P (.rt (.bool true)) l H') :
    Dloops [s0, s1, some (.ref rows), some (.ref lf), some (.ref made), some (.ref other), some (.ref less), u7, u8, c, d, e, f] P H := by
  have hi7 := x.ok.hi
  obtain ⟨rs, r1, r2, r3⟩ := x.r
  refine ⟨_, rfl, rows, rs, rfl, .inl r1, by omega, _, _, .inr (.inl ⟨rfl, _, rfl, Int.natCast_nonneg _, by omega, rfl, rfl⟩), fun i l H1 => (∃ u7 u8 c d e f, l = [s0, s1, some (.ref rows), some (.ref lf), some (.ref made), some (.ref other), some (.ref less), u7, u8, c, d, e, f]) ∧ Kp H H1, ⟨⟨_, _, _, _, _, _, rfl⟩, Kp.refl⟩, ?_, ?_⟩
  · rintro i _ H1 u ⟨⟨u7, u8, c, d, e, f, rfl⟩, k1⟩ hu
    obtain ⟨hi, rfl⟩ := ir_get hu
    rw [Int.toNat_natCast, r2] at hi
    refine ⟨trivial, _, _, .inr (.inl ⟨rfl, 3, rfl, by decide, by decide, rfl, rfl⟩), fun k l H2 => (∃ u8 c d e f, l = [s0, s1, some (.ref rows), some (.ref lf), some (.ref made), some (.ref other), some (.ref less), some (.int (i : Int)), u8, c, d, e, f]) ∧ Kp H H2, ⟨⟨_, _, _, _, _, rfl⟩, k1⟩, ?_, ?_⟩
    · rintro k _ H2 u ⟨⟨u8, c, d, e, f, rfl⟩, k2⟩ hu
      obtain ⟨hk, rfl⟩ := ir_get hu
      exact ⟨trivial, key_ok (x.kp k2) hk hi fun H3 _ _ _ _ k3 => ⟨⟨_, _, _, _, _, rfl⟩, k2.trans k3⟩⟩
    · rintro _ H2 ⟨⟨u8, c, d, e, f, rfl⟩, k2⟩
      exact ⟨trivial, ⟨_, _, _, _, _, _, rfl⟩, k2⟩
  · rintro _ H1 ⟨⟨u7, u8, c, d, e, f, rfl⟩, k1⟩
    exact ⟨trivial, h _ _⟩
theorem c_law {vs : List MV} {P : MV → Hp → Prop} {H : Hp} (h : φ_law vs P H) : vs.length = 1 ∧ D_law (vs.map some ++ [none, none, none, none, none, none, none, none, none, none, none, none]) (fun fl l H => P (retOf fl) H) H := by
  obtain ⟨p0, xs, rfl, hp, hz, hi, h⟩ := h
  refine ⟨rfl, _, rfl, p0, xs, rfl, hp, by decide, by decide, hz, fun q hq => ⟨by simp, fun p hp => ?_⟩⟩
  have I : Ints (xs.take 40) := ⟨by rw [List.length_take]; exact Nat.min_le_left _ _, fun v hv => hi v (List.mem_of_mem_take hv)⟩
  have F : Flc (upd (upd H q (.list (xs.take (40 : Int).toNat))) p (.list [.ref q, .int 0])) p q (xs.take 40) 0 := ⟨upd_same, Kp.add hp _ _ upd_same, Int.le_refl _, by decide⟩
  generalize upd (upd H q (.list (xs.take (40 : Int).toNat))) p (.list [.ref q, .int 0]) = H1 at F
  refine ⟨_, rfl, p, q, _, 0, rfl, F, by decide, I, fun rows R H2 k2 ok r2 F2 hk2 x2 => ?_⟩
  have hi7 := ok.hi
  have lo := ok.lo
  obtain ⟨rs, e1, e2, e3⟩ := r2
  have r2 : RowsAt H2 rows R := ⟨rs, e1, e2, e3⟩
  refine ⟨_, rfl, _, rfl, rows, rs, rfl, .inl e1, by omega, p, q, _, k2, _, rfl, F2, by omega, I, by omega, fun a H3 a0 a1 x3 F3 => ?_⟩
  rw [e2] at a1
  have r3 := r2.kx ok F2 x3
  refine ⟨_, rfl, p, q, _, _, 3, rfl, F3, by omega, I, by decide, fun b H4 b0 b1 x4 F4 => ⟨Nat.le_of_ble_eq_true rfl, fun lf hlf => ?_⟩⟩
  have r4 := (r3.kx ok F3 x4).kp (Kp.add (o := .tup [.int a, .int b]) hlf)
  have l4 := upd_same (H := H4) (a := lf) (o := .tup [.int a, .int b])
  generalize upd H4 lf (.tup [.int a, .int b]) = H5 at *
  refine ⟨_, rfl, rows, 0, .non, R, none, rfl, r4, ok, .inl ⟨rfl, rfl⟩, fun made m1 H6 k6 _ g6 z6 n6 => ?_⟩
  refine ⟨_, rfl, rows, 1, .non, R, none, rfl, r4.kp k6, ok, .inl ⟨rfl, rfl⟩, fun other m2 H7 k7 _ g7 z7 n7 => ?_⟩
  have k67 := k6.trans k7
  refine ⟨_, rfl, _, rfl, rows, 0, .ref lf, R, some (a, b), rfl, r4.kp k67, ok, .inr ⟨lf, a, b, rfl, k67 _ _ l4, rfl⟩, fun less m3 H8 k8 _ g8 z8 n8 => ⟨Nat.le_of_ble_eq_true rfl, fun c hc => ⟨c, _, rfl, upd_same, rfl, _, _, rfl, _, _, rfl, _, _, rfl, rfl, ?_⟩⟩⟩
  have k9 := Kp.add (o := .tup [.ref made, .ref other, .ref less]) hc
  have T1 : Tre H6 R none made m1 := ⟨g6, z6, n6⟩
  have T2 : Tre H7 R none other m2 := ⟨g7, z7, n7⟩
  have T3 : Tre H8 R (some (a, b)) less m3 := ⟨g8, z8, n8⟩
  have s9 : Sit (upd H8 c (.tup [.ref made, .ref other, .ref less])) R a b rows lf made other less m1 m2 m3 := ⟨ok, r4.kp ((k67.trans k8).trans k9), ((k67.trans k8).trans k9) _ _ l4, ⟨a0, a1⟩, T1.kp ((k7.trans k8).trans k9), T2.kp (k8.trans k9), T3.kp k9⟩
  generalize upd H8 c (.tup [.ref made, .ref other, .ref less]) = H9 at s9
  refine ⟨_, rfl, _, .is _, ?_⟩
  rw [decide_eq_false (fun z => nomatch z)]
  refine ⟨_, rfl, _, .is _, ?_⟩
  rw [decide_eq_false (fun z => nomatch z)]
  refine ⟨_, rfl, _, .is _, ?_⟩
  rw [decide_eq_false (fun z => nomatch z)]
  refine ⟨_, rfl, _, rfl, rows, made, R, none, m1, rfl, s9.r, ok, s9.made.l, s9.made.z, s9.made.nd, fun H10 k10 => ⟨_, rfl, ?_⟩⟩
  exact loops_ok (s9.kp k10) fun l H' => h H'
end Mine
end
section
open PySem PySem.W PyProof.Rows PySem.Calls PySem.Spec
open Classical
set_option maxRecDepth 100000
namespace Mine
noncomputable def x_Type : Cx := ⟨(sc (((bd (stm 5))[0]?).getD (.Pass ⟨0, 0, 0, 0⟩))).names, [some "self", some "kind", some "name"], []⟩
theorem ok_Type : x_Type.ok = true := by kernel_rfl
theorem s_Type {prog : Program} {w : World} {K : Frag} {mg mb : Str → Option Value} {B : Heap} (G : Gnd w K mg mb B)  : SimSs prog w B 0 x_Type (bd (((bd (stm 5))[0]?).getD (.Pass ⟨0, 0, 0, 0⟩))) D_Type :=
  simss_cons (sims_asg (sim_name 1 rfl) (simg_attr G (sim_name 0 rfl) 0 (by decide)) (fun _ => rfl) (fun _ => rfl) (fun _ => rfl)) (simss_cons (sims_asg (sim_name 2 rfl) (simg_attr G (sim_name 0 rfl) 1 (by decide)) (fun _ => rfl) (fun _ => rfl) (fun _ => rfl)) (simss_cons (sims_asg (sim_int) (simg_attr G (sim_name 0 rfl) 2 (by decide)) (fun _ => rfl) (fun _ => rfl) (fun _ => rfl)) (simss_cons (sims_asg (sim_non) (simg_attr G (sim_name 0 rfl) 3 (by decide)) (fun _ => rfl) (fun _ => rfl) (fun _ => rfl)) (simss_cons (sims_asg (sim_non) (simg_attr G (sim_name 0 rfl) 4 (by decide)) (fun _ => rfl) (fun _ => rfl) (fun _ => rfl)) (simss_cons (sims_asg (sim_non) (simg_attr G (sim_name 0 rfl) 5 (by decide)) (fun _ => rfl) (fun _ => rfl) (fun _ => rfl)) (simss_cons (sims_asg (sim_list (sim_nil)) (simg_attr G (sim_name 0 rfl) 6 (by decide)) (fun _ => rfl) (fun _ => rfl) (fun _ => rfl)) (simss_cons (sims_asg (sim_int) (simg_attr G (sim_name 0 rfl) 7 (by decide)) (fun _ => rfl) (fun _ => rfl) (fun _ => rfl)) (simss_cons (sims_asg (sim_tup (sim_cons (sim_int) (sim_cons (sim_int) (sim_nil) rfl) rfl)) (simg_attr G (sim_name 0 rfl) 8 (by decide)) (fun _ => rfl) (fun _ => rfl) (fun _ => rfl)) (simss_cons (sims_asg (sim_list (sim_nil)) (simg_attr G (sim_name 0 rfl) 9 (by decide)) (fun _ => rfl) (fun _ => rfl) (fun _ => rfl)) (simss_cons (sims_asg (sim_non) (simg_attr G (sim_name 0 rfl) 10 (by decide)) (fun _ => rfl) (fun _ => rfl) (fun _ => rfl)) (simss_cons (sims_asg (sim_bool) (simg_attr G (sim_name 0 rfl) 11 (by decide)) (fun _ => rfl) (fun _ => rfl) (fun _ => rfl)) (simss_cons (sims_asg (sim_list (sim_nil)) (simg_attr G (sim_name 0 rfl) 12 (by decide)) (fun _ => rfl) (fun _ => rfl) (fun _ => rfl)) (simss_cons (sims_asg (sim_list (sim_nil)) (simg_attr G (sim_name 0 rfl) 13 (by decide)) (fun _ => rfl) (fun _ => rfl) (fun _ => rfl)) (simss_cons (sims_asg (sim_non) (simg_attr G (sim_name 0 rfl) 14 (by decide)) (fun _ => rfl) (fun _ => rfl) (fun _ => rfl)) (simss_cons (sims_asg (sim_non) (simg_attr G (sim_name 0 rfl) 15 (by decide)) (fun _ => rfl) (fun _ => rfl) (fun _ => rfl)) (simss_cons (sims_asg (sim_bool) (simg_attr G (sim_name 0 rfl) 16 (by decide)) (fun _ => rfl) (fun _ => rfl) (fun _ => rfl)) (simss_cons (sims_asg (sim_non) (simg_attr G (sim_name 0 rfl) 17 (by decide)) (fun _ => rfl) (fun _ => rfl) (fun _ => rfl)) (simss_cons (sims_asg (sim_bool) (simg_attr G (sim_name 0 rfl) 18 (by decide)) (fun _ => rfl) (fun _ => rfl) (fun _ => rfl)) (simss_cons (sims_asg (sim_bool) (simg_attr G (sim_name 0 rfl) 19 (by decide)) (fun _ => rfl) (fun _ => rfl) (fun _ => rfl)) (simss_cons (sims_asg (sim_bool) (simg_attr G (sim_name 0 rfl) 20 (by decide)) (fun _ => rfl) (fun _ => rfl) (fun _ => rfl)) (simss_cons (sims_asg (sim_bool) (simg_attr G (sim_name 0 rfl) 21 (by decide)) (fun _ => rfl) (fun _ => rfl) (fun _ => rfl)) (simss_cons (sims_asg (sim_bool) (simg_attr G (sim_name 0 rfl) 22 (by decide)) (fun _ => rfl) (fun _ => rfl) (fun _ => rfl)) (simss_cons (sims_asg (sim_dct) (simg_attr G (sim_name 0 rfl) 23 (by decide)) (fun _ => rfl) (fun _ => rfl) (fun _ => rfl)) (simss_nil))))))))))))))))))))))))
noncomputable def x_Subtype : Cx := ⟨(sc (((bd (stm 6))[0]?).getD (.Pass ⟨0, 0, 0, 0⟩))).names, [some "self", some "t", some "constraint"], []⟩
theorem ok_Subtype : x_Subtype.ok = true := by kernel_rfl
theorem s_Subtype {prog : Program} {w : World} {K : Frag} {mg mb : Str → Option Value} {B : Heap} (G : Gnd w K mg mb B)  : SimSs prog w B 0 x_Subtype (bd (((bd (stm 6))[0]?).getD (.Pass ⟨0, 0, 0, 0⟩))) D_Subtype :=
  simss_cons (sims_asg (sim_name 1 rfl) (simg_attr G (sim_name 0 rfl) 24 (by decide)) (fun _ => rfl) (fun _ => rfl) (fun _ => rfl)) (simss_cons (sims_asg (sim_name 2 rfl) (simg_attr G (sim_name 0 rfl) 25 (by decide)) (fun _ => rfl) (fun _ => rfl) (fun _ => rfl)) (simss_nil))
noncomputable def x_int_type : Cx := ⟨(sc (stm 7)).names, [some "name", some "low", some "high", some "made"], ["Type"]⟩
theorem ok_int_type : x_int_type.ok = true := by kernel_rfl
theorem s_int_type {prog : Program} {w : World} {K : Frag} {mg mb : Str → Option Value} {B : Heap} (G : Gnd w K mg mb B) (h_Type : FunG prog w mg B 2 "Type" φ_Type) : SimSs prog w B 2 x_int_type (bd (stm 7)) D_int_type :=
  simss_cons (sims_asg (sim_call 0 rfl G h_Type (by decide) (sim_cons (sim_str) (sim_cons (sim_name 0 rfl) (sim_nil) rfl) rfl)) (simg_name 3 rfl) (fun _ => rfl) (fun _ => rfl) (fun _ => rfl)) (simss_cons (sims_asg (sim_name 1 rfl) (simg_attr G (sim_name 3 rfl) 4 (by decide)) (fun _ => rfl) (fun _ => rfl) (fun _ => rfl)) (simss_cons (sims_asg (sim_name 2 rfl) (simg_attr G (sim_name 3 rfl) 5 (by decide)) (fun _ => rfl) (fun _ => rfl) (fun _ => rfl)) (simss_cons (sims_ret (sim_name 3 rfl)) (simss_nil))))
theorem f_int_type {prog : Program} {w : World} {K : Frag} {mg mb : Str → Option Value} {B : Heap} (G : Gnd w K mg mb B) (h : HasFn mg B "int_type" 7) (h_Type : FunG prog w mg B 2 "Type" φ_Type) : FunG prog w mg B 3 "int_type" φ_int_type :=
  (fun_of (ps := ["name", "low", "high"]) (more := [some "made"]) G h (c := x_int_type) rfl ⟨by kernel_rfl, by kernel_rfl, by kernel_rfl⟩ (by intro pm code doc rvs hl; obtain _ | ⟨r0, rvs⟩ := rvs; (exact absurd hl (by simp)); obtain _ | ⟨r1, rvs⟩ := rvs; (exact absurd hl (by simp)); obtain _ | ⟨r2, rvs⟩ := rvs; (exact absurd hl (by simp)); obtain _ | ⟨r, rvs⟩ := rvs; skip; rotate_left; (exact absurd hl (by simp)); kernel_rfl) rfl ok_int_type (D := D_int_type) (s_int_type G h_Type)).mono fun _ _ _ h => c_int_type h
noncomputable def x_record_type : Cx := ⟨(sc (stm 8)).names, [some "name", some "discriminants", some "components", some "variant", some "made"], ["Type", "list"]⟩
theorem ok_record_type : x_record_type.ok = true := by kernel_rfl
theorem s_record_type {prog : Program} {w : World} {K : Frag} {mg mb : Str → Option Value} {B : Heap} (G : Gnd w K mg mb B) (h_Type : FunG prog w mg B 2 "Type" φ_Type) : SimSs prog w B 2 x_record_type (bd (stm 8)) D_record_type :=
  simss_cons (sims_asg (sim_call 0 rfl G h_Type (by decide) (sim_cons (sim_str) (sim_cons (sim_name 0 rfl) (sim_nil) rfl) rfl)) (simg_name 4 rfl) (fun _ => rfl) (fun _ => rfl) (fun _ => rfl)) (simss_cons (sims_asg (sim_lst G 1 rfl (sim_name 1 rfl) (fun _ => rfl)) (simg_attr G (sim_name 4 rfl) 12 (by decide)) (fun _ => rfl) (fun _ => rfl) (fun _ => rfl)) (simss_cons (sims_asg (sim_lst G 1 rfl (sim_name 2 rfl) (fun _ => rfl)) (simg_attr G (sim_name 4 rfl) 13 (by decide)) (fun _ => rfl) (fun _ => rfl) (fun _ => rfl)) (simss_cons (sims_asg (sim_name 3 rfl) (simg_attr G (sim_name 4 rfl) 14 (by decide)) (fun _ => rfl) (fun _ => rfl) (fun _ => rfl)) (simss_cons (sims_asg (sim_cmp G _ (sim_name 1 rfl) (sim_list (sim_nil)) rfl) (simg_attr G (sim_name 4 rfl) 11 (by decide)) (fun _ => rfl) (fun _ => rfl) (fun _ => rfl)) (simss_cons (sims_ret (sim_name 4 rfl)) (simss_nil))))))
theorem f_record_type {prog : Program} {w : World} {K : Frag} {mg mb : Str → Option Value} {B : Heap} (G : Gnd w K mg mb B) (h : HasFn mg B "record_type" 8) (h_Type : FunG prog w mg B 2 "Type" φ_Type) : FunG prog w mg B 3 "record_type" φ_record_type :=
  (fun_of (ps := ["name", "discriminants", "components", "variant"]) (more := [some "made"]) G h (c := x_record_type) rfl ⟨by kernel_rfl, by kernel_rfl, by kernel_rfl⟩ (by intro pm code doc rvs hl; obtain _ | ⟨r0, rvs⟩ := rvs; (exact absurd hl (by simp)); obtain _ | ⟨r1, rvs⟩ := rvs; (exact absurd hl (by simp)); obtain _ | ⟨r2, rvs⟩ := rvs; (exact absurd hl (by simp)); obtain _ | ⟨r3, rvs⟩ := rvs; (exact absurd hl (by simp)); obtain _ | ⟨r, rvs⟩ := rvs; skip; rotate_left; (exact absurd hl (by simp)); kernel_rfl) rfl ok_record_type (D := D_record_type) (s_record_type G h_Type)).mono fun _ _ _ h => c_record_type h
noncomputable def x_derived_type : Cx := ⟨(sc (stm 9)).names, [some "parent", some "name", some "made"], ["Type", "dict"]⟩
theorem ok_derived_type : x_derived_type.ok = true := by kernel_rfl
theorem s_derived_type {prog : Program} {w : World} {K : Frag} {mg mb : Str → Option Value} {B : Heap} (G : Gnd w K mg mb B) (h_Type : FunG prog w mg B 2 "Type" φ_Type) : SimSs prog w B 2 x_derived_type (bd (stm 9)) D_derived_type :=
  simss_cons (sims_asg (sim_call 0 rfl G h_Type (by decide) (sim_cons (sim_attr G (sim_name 0 rfl) 0 (by decide) (fun _ => rfl)) (sim_cons (sim_name 1 rfl) (sim_nil) rfl) rfl)) (simg_name 2 rfl) (fun _ => rfl) (fun _ => rfl) (fun _ => rfl)) (simss_cons (sims_asg (sim_name 0 rfl) (simg_attr G (sim_name 2 rfl) 3 (by decide)) (fun _ => rfl) (fun _ => rfl) (fun _ => rfl)) (simss_cons (sims_asg (sim_attr G (sim_name 0 rfl) 4 (by decide) (fun _ => rfl)) (simg_attr G (sim_name 2 rfl) 4 (by decide)) (fun _ => rfl) (fun _ => rfl) (fun _ => rfl)) (simss_cons (sims_asg (sim_attr G (sim_name 0 rfl) 5 (by decide) (fun _ => rfl)) (simg_attr G (sim_name 2 rfl) 5 (by decide)) (fun _ => rfl) (fun _ => rfl) (fun _ => rfl)) (simss_cons (sims_asg (sim_attr G (sim_name 0 rfl) 6 (by decide) (fun _ => rfl)) (simg_attr G (sim_name 2 rfl) 6 (by decide)) (fun _ => rfl) (fun _ => rfl) (fun _ => rfl)) (simss_cons (sims_asg (sim_attr G (sim_name 0 rfl) 7 (by decide) (fun _ => rfl)) (simg_attr G (sim_name 2 rfl) 7 (by decide)) (fun _ => rfl) (fun _ => rfl) (fun _ => rfl)) (simss_cons (sims_asg (sim_attr G (sim_name 0 rfl) 8 (by decide) (fun _ => rfl)) (simg_attr G (sim_name 2 rfl) 8 (by decide)) (fun _ => rfl) (fun _ => rfl) (fun _ => rfl)) (simss_cons (sims_asg (sim_attr G (sim_name 0 rfl) 9 (by decide) (fun _ => rfl)) (simg_attr G (sim_name 2 rfl) 9 (by decide)) (fun _ => rfl) (fun _ => rfl) (fun _ => rfl)) (simss_cons (sims_asg (sim_attr G (sim_name 0 rfl) 10 (by decide) (fun _ => rfl)) (simg_attr G (sim_name 2 rfl) 10 (by decide)) (fun _ => rfl) (fun _ => rfl) (fun _ => rfl)) (simss_cons (sims_asg (sim_attr G (sim_name 0 rfl) 11 (by decide) (fun _ => rfl)) (simg_attr G (sim_name 2 rfl) 11 (by decide)) (fun _ => rfl) (fun _ => rfl) (fun _ => rfl)) (simss_cons (sims_asg (sim_attr G (sim_name 0 rfl) 12 (by decide) (fun _ => rfl)) (simg_attr G (sim_name 2 rfl) 12 (by decide)) (fun _ => rfl) (fun _ => rfl) (fun _ => rfl)) (simss_cons (sims_asg (sim_attr G (sim_name 0 rfl) 13 (by decide) (fun _ => rfl)) (simg_attr G (sim_name 2 rfl) 13 (by decide)) (fun _ => rfl) (fun _ => rfl) (fun _ => rfl)) (simss_cons (sims_asg (sim_attr G (sim_name 0 rfl) 14 (by decide) (fun _ => rfl)) (simg_attr G (sim_name 2 rfl) 14 (by decide)) (fun _ => rfl) (fun _ => rfl) (fun _ => rfl)) (simss_cons (sims_asg (sim_attr G (sim_name 0 rfl) 15 (by decide) (fun _ => rfl)) (simg_attr G (sim_name 2 rfl) 15 (by decide)) (fun _ => rfl) (fun _ => rfl) (fun _ => rfl)) (simss_cons (sims_asg (sim_attr G (sim_name 0 rfl) 21 (by decide) (fun _ => rfl)) (simg_attr G (sim_name 2 rfl) 21 (by decide)) (fun _ => rfl) (fun _ => rfl) (fun _ => rfl)) (simss_cons (sims_asg (sim_attr G (sim_name 0 rfl) 16 (by decide) (fun _ => rfl)) (simg_attr G (sim_name 2 rfl) 16 (by decide)) (fun _ => rfl) (fun _ => rfl) (fun _ => rfl)) (simss_cons (sims_asg (sim_attr G (sim_name 0 rfl) 18 (by decide) (fun _ => rfl)) (simg_attr G (sim_name 2 rfl) 18 (by decide)) (fun _ => rfl) (fun _ => rfl) (fun _ => rfl)) (simss_cons (sims_asg (sim_dic G 1 rfl (sim_attr G (sim_name 0 rfl) 23 (by decide) (fun _ => rfl)) (fun _ => rfl)) (simg_attr G (sim_name 2 rfl) 23 (by decide)) (fun _ => rfl) (fun _ => rfl) (fun _ => rfl)) (simss_cons (sims_ret (sim_name 2 rfl)) (simss_nil)))))))))))))))))))
theorem f_derived_type {prog : Program} {w : World} {K : Frag} {mg mb : Str → Option Value} {B : Heap} (G : Gnd w K mg mb B) (h : HasFn mg B "derived_type" 9) (h_Type : FunG prog w mg B 2 "Type" φ_Type) : FunG prog w mg B 3 "derived_type" φ_derived_type :=
  (fun_of (ps := ["parent", "name"]) (more := [some "made"]) G h (c := x_derived_type) rfl ⟨by kernel_rfl, by kernel_rfl, by kernel_rfl⟩ (by intro pm code doc rvs hl; obtain _ | ⟨r0, rvs⟩ := rvs; (exact absurd hl (by simp)); obtain _ | ⟨r1, rvs⟩ := rvs; (exact absurd hl (by simp)); obtain _ | ⟨r, rvs⟩ := rvs; skip; rotate_left; (exact absurd hl (by simp)); kernel_rfl) rfl ok_derived_type (D := D_derived_type) (s_derived_type G h_Type)).mono fun _ _ _ h => c_derived_type h
noncomputable def x_variant_names : Cx := ⟨(sc (stm 16)).names, [some "variant", some "found", some "waiting", some "here", some "choices", some "components", some "inner"], []⟩
theorem ok_variant_names : x_variant_names.ok = true := by kernel_rfl
theorem s_variant_names {prog : Program} {w : World} {K : Frag} {mg mb : Str → Option Value} {B : Heap} (G : Gnd w K mg mb B)  : SimSs prog w B 0 x_variant_names (bd (stm 16)) D_variant_names :=
  simss_cons (sims_asg (sim_list (sim_nil)) (simg_name 1 rfl) (fun _ => rfl) (fun _ => rfl) (fun _ => rfl)) (simss_cons (sims_asg (sim_list (sim_cons (sim_name 0 rfl) (sim_nil) rfl)) (simg_name 2 rfl) (fun _ => rfl) (fun _ => rfl) (fun _ => rfl)) (simss_cons (sims_whl (simt_cmp G _ (sim_name 2 rfl) (sim_list (sim_nil)) rfl) (simss_cons (sims_asg (sim_pop (sim_name 2 rfl) (fun _ => rfl) rfl) (simg_name 3 rfl) (fun _ => rfl) (fun _ => rfl) (fun _ => rfl)) (simss_cons (sims_if (simt_cmp G _ (sim_name 3 rfl) (sim_non) rfl) (simss_cons (sims_cont) (simss_nil)) (simss_nil)) (simss_dead)))) (simss_cons (sims_ret (sim_name 1 rfl)) (simss_nil))))
theorem f_variant_names {prog : Program} {w : World} {K : Frag} {mg mb : Str → Option Value} {B : Heap} (G : Gnd w K mg mb B) (h : HasFn mg B "variant_names" 16)  : FunG prog w mg B 1 "variant_names" φ_variant_names :=
  (fun_of (ps := ["variant"]) (more := [some "found", some "waiting", some "here", some "choices", some "components", some "inner"]) G h (c := x_variant_names) rfl ⟨by kernel_rfl, by kernel_rfl, by kernel_rfl⟩ (by intro pm code doc rvs hl; obtain _ | ⟨r0, rvs⟩ := rvs; (exact absurd hl (by simp)); obtain _ | ⟨r, rvs⟩ := rvs; skip; rotate_left; (exact absurd hl (by simp)); kernel_rfl) rfl ok_variant_names (D := D_variant_names) (s_variant_names G )).mono fun _ _ _ h => c_variant_names h
noncomputable def x_line_of_type : Cx := ⟨(sc (stm 18)).names, [some "kind", some "found", some "here"], []⟩
theorem ok_line_of_type : x_line_of_type.ok = true := by kernel_rfl
theorem s_line_of_type {prog : Program} {w : World} {K : Frag} {mg mb : Str → Option Value} {B : Heap} (G : Gnd w K mg mb B)  : SimSs prog w B 0 x_line_of_type (bd (stm 18)) D_line_of_type :=
  simss_cons (sims_asg (sim_list (sim_nil)) (simg_name 1 rfl) (fun _ => rfl) (fun _ => rfl) (fun _ => rfl)) (simss_cons (sims_asg (sim_name 0 rfl) (simg_name 2 rfl) (fun _ => rfl) (fun _ => rfl) (fun _ => rfl)) (simss_cons (sims_whl (simt_cmp G _ (sim_name 2 rfl) (sim_non) rfl) (simss_cons (sims_exp (sim_app (sim_name 1 rfl) (sim_name 2 rfl) (fun _ => rfl) (fun _ => rfl) rfl (fun _ => rfl)) (fun _ => rfl)) (simss_cons (sims_asg (sim_attr G (sim_name 2 rfl) 3 (by decide) (fun _ => rfl)) (simg_name 2 rfl) (fun _ => rfl) (fun _ => rfl) (fun _ => rfl)) (simss_nil)))) (simss_cons (sims_ret (sim_name 1 rfl)) (simss_nil))))
theorem f_line_of_type {prog : Program} {w : World} {K : Frag} {mg mb : Str → Option Value} {B : Heap} (G : Gnd w K mg mb B) (h : HasFn mg B "line_of_type" 18)  : FunG prog w mg B 1 "line_of_type" φ_line_of_type :=
  (fun_of (ps := ["kind"]) (more := [some "found", some "here"]) G h (c := x_line_of_type) rfl ⟨by kernel_rfl, by kernel_rfl, by kernel_rfl⟩ (by intro pm code doc rvs hl; obtain _ | ⟨r0, rvs⟩ := rvs; (exact absurd hl (by simp)); obtain _ | ⟨r, rvs⟩ := rvs; skip; rotate_left; (exact absurd hl (by simp)); kernel_rfl) rfl ok_line_of_type (D := D_line_of_type) (s_line_of_type G )).mono fun _ _ _ h => c_line_of_type h
noncomputable def x_is_descendant : Cx := ⟨(sc (stm 19)).names, [some "kind", some "ancestor", some "one"], ["line_of_type"]⟩
theorem ok_is_descendant : x_is_descendant.ok = true := by kernel_rfl
theorem s_is_descendant {prog : Program} {w : World} {K : Frag} {mg mb : Str → Option Value} {B : Heap} (G : Gnd w K mg mb B) (h_line_of_type : FunG prog w mg B 1 "line_of_type" φ_line_of_type) : SimSs prog w B 1 x_is_descendant (bd (stm 19)) D_is_descendant :=
  simss_cons (sims_for (simi_list (sim_call 0 rfl G h_line_of_type (by decide) (sim_cons (sim_name 0 rfl) (sim_nil) rfl))) (simg_name 2 rfl) (simss_cons (sims_if (simt_cmp G _ (sim_attr G (sim_name 2 rfl) 2 (by decide) (fun _ => rfl)) (sim_attr G (sim_name 1 rfl) 2 (by decide) (fun _ => rfl)) rfl) (simss_cons (sims_ret (sim_bool)) (simss_nil)) (simss_nil)) (simss_nil)) (fun _ _ => rfl) (fun _ _ => rfl)) (simss_cons (sims_ret (sim_bool)) (simss_nil))
theorem f_is_descendant {prog : Program} {w : World} {K : Frag} {mg mb : Str → Option Value} {B : Heap} (G : Gnd w K mg mb B) (h : HasFn mg B "is_descendant" 19) (h_line_of_type : FunG prog w mg B 1 "line_of_type" φ_line_of_type) : FunG prog w mg B 2 "is_descendant" φ_is_descendant :=
  (fun_of (ps := ["kind", "ancestor"]) (more := [some "one"]) G h (c := x_is_descendant) rfl ⟨by kernel_rfl, by kernel_rfl, by kernel_rfl⟩ (by intro pm code doc rvs hl; obtain _ | ⟨r0, rvs⟩ := rvs; (exact absurd hl (by simp)); obtain _ | ⟨r1, rvs⟩ := rvs; (exact absurd hl (by simp)); obtain _ | ⟨r, rvs⟩ := rvs; skip; rotate_left; (exact absurd hl (by simp)); kernel_rfl) rfl ok_is_descendant (D := D_is_descendant) (s_is_descendant G h_line_of_type)).mono fun _ _ _ h => c_is_descendant h
noncomputable def x_check_new_names : Cx := ⟨(sc (stm 20)).names, [some "parent", some "components", some "line", some "known", some "names", some "name"], ["variant_names"]⟩
theorem ok_check_new_names : x_check_new_names.ok = true := by kernel_rfl
theorem s_check_new_names {prog : Program} {w : World} {K : Frag} {mg mb : Str → Option Value} {B : Heap} (G : Gnd w K mg mb B) (h_variant_names : FunG prog w mg B 1 "variant_names" φ_variant_names) : SimSs prog w B 1 x_check_new_names (bd (stm 20)) D_check_new_names :=
  simss_cons (sims_asg (sim_dct) (simg_name 3 rfl) (fun _ => rfl) (fun _ => rfl) (fun _ => rfl)) (simss_cons (sims_asg (sim_bin G _ (sim_comp [] (by kernel_rfl) (simi_list (sim_bin G _ (sim_attr G (sim_name 0 rfl) 12 (by decide) (fun _ => rfl)) (sim_attr G (sim_name 0 rfl) 13 (by decide) (fun _ => rfl)))) simc_nil (sim_idx G (sim_name 6 rfl) (sim_int) (fun _ _ => rfl)) (fun _ _ => rfl)) (sim_call 0 rfl G h_variant_names (by decide) (sim_cons (sim_attr G (sim_name 0 rfl) 14 (by decide) (fun _ => rfl)) (sim_nil) rfl))) (simg_name 4 rfl) (fun _ => rfl) (fun _ => rfl) (fun _ => rfl)) (simss_cons (sims_for (simi_list (sim_bin G _ (sim_name 4 rfl) (sim_comp [] (by kernel_rfl) (simi_list (sim_name 1 rfl)) simc_nil (sim_idx G (sim_name 6 rfl) (sim_int) (fun _ _ => rfl)) (fun _ _ => rfl)))) (simg_name 5 rfl) (simss_cons (sims_if (simt_cmp G _ (sim_name 5 rfl) (sim_name 3 rfl) rfl) (simss_dead) (simss_nil)) (simss_cons (sims_asg (sim_bool) (simg_idx G (sim_name 3 rfl) (sim_name 5 rfl)) (fun _ => rfl) (fun _ => rfl) (fun _ => rfl)) (simss_nil))) (fun _ _ => rfl) (fun _ _ => rfl)) (simss_nil)))
theorem f_check_new_names {prog : Program} {w : World} {K : Frag} {mg mb : Str → Option Value} {B : Heap} (G : Gnd w K mg mb B) (h : HasFn mg B "check_new_names" 20) (h_variant_names : FunG prog w mg B 1 "variant_names" φ_variant_names) : FunG prog w mg B 2 "check_new_names" φ_check_new_names :=
  (fun_of (ps := ["parent", "components", "line"]) (more := [some "known", some "names", some "name"]) G h (c := x_check_new_names) rfl ⟨by kernel_rfl, by kernel_rfl, by kernel_rfl⟩ (by intro pm code doc rvs hl; obtain _ | ⟨r0, rvs⟩ := rvs; (exact absurd hl (by simp)); obtain _ | ⟨r1, rvs⟩ := rvs; (exact absurd hl (by simp)); obtain _ | ⟨r2, rvs⟩ := rvs; (exact absurd hl (by simp)); obtain _ | ⟨r, rvs⟩ := rvs; skip; rotate_left; (exact absurd hl (by simp)); kernel_rfl) rfl ok_check_new_names (D := D_check_new_names) (s_check_new_names G h_variant_names)).mono fun _ _ _ h => c_check_new_names h
noncomputable def x_extend_type : Cx := ⟨(sc (stm 22)).names, [some "parent", some "name", some "number", some "components", some "line", some "made"], ["check_new_names", "derived_type", "list"]⟩
theorem ok_extend_type : x_extend_type.ok = true := by kernel_rfl
theorem s_extend_type {prog : Program} {w : World} {K : Frag} {mg mb : Str → Option Value} {B : Heap} (G : Gnd w K mg mb B) (h_check_new_names : FunG prog w mg B 2 "check_new_names" φ_check_new_names) (h_derived_type : FunG prog w mg B 3 "derived_type" φ_derived_type) : SimSs prog w B 3 x_extend_type (bd (stm 22)) D_extend_type :=
  simss_cons (sims_if (simt_not (simt_val (sim_attr G (sim_name 0 rfl) 16 (by decide) (fun _ => rfl)) (fun _ _ => rfl))) (simss_dead) (simss_nil)) (simss_cons (sims_exp (sim_call 0 rfl G h_check_new_names (by decide) (sim_cons (sim_name 0 rfl) (sim_cons (sim_name 3 rfl) (sim_cons (sim_name 4 rfl) (sim_nil) rfl) rfl) rfl)) (fun _ => rfl)) (simss_cons (sims_asg (sim_call 1 rfl G h_derived_type (by decide) (sim_cons (sim_name 0 rfl) (sim_cons (sim_name 1 rfl) (sim_nil) rfl) rfl)) (simg_name 5 rfl) (fun _ => rfl) (fun _ => rfl) (fun _ => rfl)) (simss_cons (sims_asg (sim_name 2 rfl) (simg_attr G (sim_name 5 rfl) 2 (by decide)) (fun _ => rfl) (fun _ => rfl) (fun _ => rfl)) (simss_cons (sims_asg (sim_bin G _ (sim_attr G (sim_name 0 rfl) 13 (by decide) (fun _ => rfl)) (sim_lst G 2 rfl (sim_name 3 rfl) (fun _ => rfl))) (simg_attr G (sim_name 5 rfl) 13 (by decide)) (fun _ => rfl) (fun _ => rfl) (fun _ => rfl)) (simss_cons (sims_if (simt_cmp G _ (sim_attr G (sim_name 0 rfl) 0 (by decide) (fun _ => rfl)) (sim_str) rfl) (simss_dead) (simss_nil)) (simss_cons (sims_ret (sim_name 5 rfl)) (simss_nil)))))))
theorem f_extend_type {prog : Program} {w : World} {K : Frag} {mg mb : Str → Option Value} {B : Heap} (G : Gnd w K mg mb B) (h : HasFn mg B "extend_type" 22) (h_check_new_names : FunG prog w mg B 2 "check_new_names" φ_check_new_names) (h_derived_type : FunG prog w mg B 3 "derived_type" φ_derived_type) : FunG prog w mg B 4 "extend_type" φ_extend_type :=
  (fun_of (ps := ["parent", "name", "number", "components", "line"]) (more := [some "made"]) G h (c := x_extend_type) rfl ⟨by kernel_rfl, by kernel_rfl, by kernel_rfl⟩ (by intro pm code doc rvs hl; obtain _ | ⟨r0, rvs⟩ := rvs; (exact absurd hl (by simp)); obtain _ | ⟨r1, rvs⟩ := rvs; (exact absurd hl (by simp)); obtain _ | ⟨r2, rvs⟩ := rvs; (exact absurd hl (by simp)); obtain _ | ⟨r3, rvs⟩ := rvs; (exact absurd hl (by simp)); obtain _ | ⟨r4, rvs⟩ := rvs; (exact absurd hl (by simp)); obtain _ | ⟨r, rvs⟩ := rvs; skip; rotate_left; (exact absurd hl (by simp)); kernel_rfl) rfl ok_extend_type (D := D_extend_type) (s_extend_type G h_check_new_names h_derived_type)).mono fun _ _ _ h => c_extend_type h
noncomputable def x_lay_operation : Cx := ⟨(sc (stm 23)).names, [some "kind", some "key", some "subprogram", some "overrides"], []⟩
theorem ok_lay_operation : x_lay_operation.ok = true := by kernel_rfl
theorem s_lay_operation {prog : Program} {w : World} {K : Frag} {mg mb : Str → Option Value} {B : Heap} (G : Gnd w K mg mb B)  : SimSs prog w B 0 x_lay_operation (bd (stm 23)) D_lay_operation :=
  simss_cons (sims_asg (sim_and (sim_cmp G _ (sim_attr G (sim_name 0 rfl) 3 (by decide) (fun _ => rfl)) (sim_non) rfl) (sim_cmp G _ (sim_name 1 rfl) (sim_attr G (sim_attr G (sim_name 0 rfl) 3 (by decide) (fun _ => rfl)) 23 (by decide) (fun _ => rfl)) rfl)) (simg_name 3 rfl) (fun _ => rfl) (fun _ => rfl) (fun _ => rfl)) (simss_cons (sims_asg (sim_name 2 rfl) (simg_idx G (sim_attr G (sim_name 0 rfl) 23 (by decide) (fun _ => rfl)) (sim_name 1 rfl)) (fun _ => rfl) (fun _ => rfl) (fun _ => rfl)) (simss_cons (sims_ret (sim_name 3 rfl)) (simss_nil)))
theorem f_lay_operation {prog : Program} {w : World} {K : Frag} {mg mb : Str → Option Value} {B : Heap} (G : Gnd w K mg mb B) (h : HasFn mg B "lay_operation" 23)  : FunG prog w mg B 1 "lay_operation" φ_lay_operation :=
  (fun_of (ps := ["kind", "key", "subprogram"]) (more := [some "overrides"]) G h (c := x_lay_operation) rfl ⟨by kernel_rfl, by kernel_rfl, by kernel_rfl⟩ (by intro pm code doc rvs hl; obtain _ | ⟨r0, rvs⟩ := rvs; (exact absurd hl (by simp)); obtain _ | ⟨r1, rvs⟩ := rvs; (exact absurd hl (by simp)); obtain _ | ⟨r2, rvs⟩ := rvs; (exact absurd hl (by simp)); obtain _ | ⟨r, rvs⟩ := rvs; skip; rotate_left; (exact absurd hl (by simp)); kernel_rfl) rfl ok_lay_operation (D := D_lay_operation) (s_lay_operation G )).mono fun _ _ _ h => c_lay_operation h
noncomputable def x_home_of : Cx := ⟨(sc (stm 24)).names, [some "kind", some "key", some "here"], []⟩
theorem ok_home_of : x_home_of.ok = true := by kernel_rfl
theorem s_home_of {prog : Program} {w : World} {K : Frag} {mg mb : Str → Option Value} {B : Heap} (G : Gnd w K mg mb B)  : SimSs prog w B 0 x_home_of (bd (stm 24)) D_home_of :=
  simss_cons (sims_if (simt_cmp G _ (sim_name 1 rfl) (sim_attr G (sim_name 0 rfl) 23 (by decide) (fun _ => rfl)) rfl) (simss_cons (sims_ret (sim_non)) (simss_nil)) (simss_nil)) (simss_cons (sims_asg (sim_name 0 rfl) (simg_name 2 rfl) (fun _ => rfl) (fun _ => rfl) (fun _ => rfl)) (simss_cons (sims_whl (simt_and (simt_cmp G _ (sim_attr G (sim_name 2 rfl) 3 (by decide) (fun _ => rfl)) (sim_non) rfl) (simt_and (simt_cmp G _ (sim_get G (sim_attr G (sim_attr G (sim_name 2 rfl) 3 (by decide) (fun _ => rfl)) 23 (by decide) (fun _ => rfl)) (sim_name 1 rfl) (fun _ => rfl) rfl (fun _ => rfl)) (sim_idx G (sim_attr G (sim_name 2 rfl) 23 (by decide) (fun _ => rfl)) (sim_name 1 rfl) (fun _ _ => rfl)) rfl) (simt_and0))) (simss_cons (sims_asg (sim_attr G (sim_name 2 rfl) 3 (by decide) (fun _ => rfl)) (simg_name 2 rfl) (fun _ => rfl) (fun _ => rfl) (fun _ => rfl)) (simss_nil))) (simss_cons (sims_ret (sim_name 2 rfl)) (simss_nil))))
theorem f_home_of {prog : Program} {w : World} {K : Frag} {mg mb : Str → Option Value} {B : Heap} (G : Gnd w K mg mb B) (h : HasFn mg B "home_of" 24)  : FunG prog w mg B 1 "home_of" φ_home_of :=
  (fun_of (ps := ["kind", "key"]) (more := [some "here"]) G h (c := x_home_of) rfl ⟨by kernel_rfl, by kernel_rfl, by kernel_rfl⟩ (by intro pm code doc rvs hl; obtain _ | ⟨r0, rvs⟩ := rvs; (exact absurd hl (by simp)); obtain _ | ⟨r1, rvs⟩ := rvs; (exact absurd hl (by simp)); obtain _ | ⟨r, rvs⟩ := rvs; skip; rotate_left; (exact absurd hl (by simp)); kernel_rfl) rfl ok_home_of (D := D_home_of) (s_home_of G )).mono fun _ _ _ h => c_home_of h
noncomputable def x_law_whole : Cx := ⟨(sc (stm 27)).names, [], ["Subtype", "int_type"]⟩
theorem ok_law_whole : x_law_whole.ok = true := by kernel_rfl
theorem s_law_whole {prog : Program} {w : World} {K : Frag} {mg mb : Str → Option Value} {B : Heap} (G : Gnd w K mg mb B) (h_Subtype : FunG prog w mg B 2 "Subtype" φ_Subtype) (h_int_type : FunG prog w mg B 3 "int_type" φ_int_type) : SimSs prog w B 3 x_law_whole (bd (stm 27)) D_law_whole :=
  simss_cons (sims_ret (sim_call 0 rfl G h_Subtype (by decide) (sim_cons (sim_call 1 rfl G h_int_type (by decide) (sim_cons (sim_str) (sim_cons (sim_neg) (sim_cons (sim_int) (sim_nil) rfl) rfl) rfl)) (sim_cons (sim_non) (sim_nil) rfl) rfl))) (simss_nil)
theorem f_law_whole {prog : Program} {w : World} {K : Frag} {mg mb : Str → Option Value} {B : Heap} (G : Gnd w K mg mb B) (h : HasFn mg B "_law_whole" 27) (h_Subtype : FunG prog w mg B 2 "Subtype" φ_Subtype) (h_int_type : FunG prog w mg B 3 "int_type" φ_int_type) : FunG prog w mg B 4 "_law_whole" φ_law_whole :=
  (fun_of (ps := []) (more := []) G h (c := x_law_whole) rfl ⟨by kernel_rfl, by kernel_rfl, by kernel_rfl⟩ (by intro pm code doc rvs hl; obtain _ | ⟨r, rvs⟩ := rvs; skip; rotate_left; (exact absurd hl (by simp)); kernel_rfl) rfl ok_law_whole (D := D_law_whole) (s_law_whole G h_Subtype h_int_type)).mono fun _ _ _ h => c_law_whole h
noncomputable def x_law_keys : Cx := ⟨(sc (stm 28)).names, [], []⟩
theorem ok_law_keys : x_law_keys.ok = true := by kernel_rfl
theorem s_law_keys {prog : Program} {w : World} {K : Frag} {mg mb : Str → Option Value} {B : Heap} (G : Gnd w K mg mb B)  : SimSs prog w B 0 x_law_keys (bd (stm 28)) D_law_keys :=
  simss_cons (sims_ret (sim_tup (sim_cons (sim_str) (sim_cons (sim_str) (sim_cons (sim_str) (sim_nil) rfl) rfl) rfl))) (simss_nil)
theorem f_law_keys {prog : Program} {w : World} {K : Frag} {mg mb : Str → Option Value} {B : Heap} (G : Gnd w K mg mb B) (h : HasFn mg B "_law_keys" 28)  : FunG prog w mg B 1 "_law_keys" φ_law_keys :=
  (fun_of (ps := []) (more := []) G h (c := x_law_keys) rfl ⟨by kernel_rfl, by kernel_rfl, by kernel_rfl⟩ (by intro pm code doc rvs hl; obtain _ | ⟨r, rvs⟩ := rvs; skip; rotate_left; (exact absurd hl (by simp)); kernel_rfl) rfl ok_law_keys (D := D_law_keys) (s_law_keys G )).mono fun _ _ _ h => c_law_keys h
noncomputable def x_law_rest : Cx := ⟨(sc (stm 29)).names, [], []⟩
theorem ok_law_rest : x_law_rest.ok = true := by kernel_rfl
theorem s_law_rest {prog : Program} {w : World} {K : Frag} {mg mb : Str → Option Value} {B : Heap} (G : Gnd w K mg mb B)  : SimSs prog w B 0 x_law_rest (bd (stm 29)) D_law_rest :=
  simss_cons (sims_ret (sim_tup (sim_cons (sim_int) (sim_cons (sim_int) (sim_cons (sim_int) (sim_cons (sim_int) (sim_cons (sim_int) (sim_cons (sim_int) (sim_cons (sim_int) (sim_cons (sim_int) (sim_cons (sim_int) (sim_cons (sim_int) (sim_cons (sim_int) (sim_cons (sim_int) (sim_cons (sim_int) (sim_cons (sim_int) (sim_cons (sim_int) (sim_cons (sim_int) (sim_nil) rfl) rfl) rfl) rfl) rfl) rfl) rfl) rfl) rfl) rfl) rfl) rfl) rfl) rfl) rfl) rfl))) (simss_nil)
theorem f_law_rest {prog : Program} {w : World} {K : Frag} {mg mb : Str → Option Value} {B : Heap} (G : Gnd w K mg mb B) (h : HasFn mg B "_law_rest" 29)  : FunG prog w mg B 1 "_law_rest" φ_law_rest :=
  (fun_of (ps := []) (more := []) G h (c := x_law_rest) rfl ⟨by kernel_rfl, by kernel_rfl, by kernel_rfl⟩ (by intro pm code doc rvs hl; obtain _ | ⟨r, rvs⟩ := rvs; skip; rotate_left; (exact absurd hl (by simp)); kernel_rfl) rfl ok_law_rest (D := D_law_rest) (s_law_rest G )).mono fun _ _ _ h => c_law_rest h
noncomputable def x_law_shear : Cx := ⟨(sc (stm 30)).names, [some "fleece", some "many", some "spot"], ["len", "_law_rest"]⟩
theorem ok_law_shear : x_law_shear.ok = true := by kernel_rfl
theorem s_law_shear {prog : Program} {w : World} {K : Frag} {mg mb : Str → Option Value} {B : Heap} (G : Gnd w K mg mb B) (h_law_rest : FunG prog w mg B 1 "_law_rest" φ_law_rest) : SimSs prog w B 1 x_law_shear (bd (stm 30)) D_law_shear :=
  simss_cons (sims_aug G (sim_name 0 rfl) (sim_int) (sim_int) (fun _ _ _ => rfl)) (simss_cons (sims_asg (sim_idx G (sim_name 0 rfl) (sim_int) (fun _ _ => rfl)) (simg_name 2 rfl) (fun _ => rfl) (fun _ => rfl) (fun _ => rfl)) (simss_cons (sims_ret (sim_bin G _ (sim_if (simt_cmp G _ (sim_name 2 rfl) (sim_len G 0 rfl (sim_idx G (sim_name 0 rfl) (sim_int) (fun _ _ => rfl)) (fun _ => rfl)) rfl) (sim_idx G (sim_idx G (sim_name 0 rfl) (sim_int) (fun _ _ => rfl)) (sim_bin G _ (sim_name 2 rfl) (sim_int)) (fun _ _ => rfl)) (sim_idx G (sim_call 1 rfl G h_law_rest (by decide) (sim_nil)) (sim_bin G _ (sim_bin G _ (sim_name 2 rfl) (sim_int)) (sim_len G 0 rfl (sim_call 1 rfl G h_law_rest (by decide) (sim_nil)) (fun _ => rfl))) (fun _ _ => rfl))) (sim_name 1 rfl))) (simss_nil)))
theorem f_law_shear {prog : Program} {w : World} {K : Frag} {mg mb : Str → Option Value} {B : Heap} (G : Gnd w K mg mb B) (h : HasFn mg B "_law_shear" 30) (h_law_rest : FunG prog w mg B 1 "_law_rest" φ_law_rest) : FunG prog w mg B 2 "_law_shear" φ_law_shear :=
  (fun_of (ps := ["fleece", "many"]) (more := [some "spot"]) G h (c := x_law_shear) rfl ⟨by kernel_rfl, by kernel_rfl, by kernel_rfl⟩ (by intro pm code doc rvs hl; obtain _ | ⟨r0, rvs⟩ := rvs; (exact absurd hl (by simp)); obtain _ | ⟨r1, rvs⟩ := rvs; (exact absurd hl (by simp)); obtain _ | ⟨r, rvs⟩ := rvs; skip; rotate_left; (exact absurd hl (by simp)); kernel_rfl) rfl ok_law_shear (D := D_law_shear) (s_law_shear G h_law_rest)).mono fun _ _ _ h => c_law_shear h
noncomputable def x_law_plan : Cx := ⟨(sc (stm 31)).names, [some "fleece", some "rows", some "at"], ["_law_shear", "range"]⟩
theorem ok_law_plan : x_law_plan.ok = true := by kernel_rfl
theorem s_law_plan {prog : Program} {w : World} {K : Frag} {mg mb : Str → Option Value} {B : Heap} (G : Gnd w K mg mb B) (h_law_shear : FunG prog w mg B 2 "_law_shear" φ_law_shear) : SimSs prog w B 2 x_law_plan (bd (stm 31)) D_law_plan :=
  simss_cons (sims_asg (sim_list (sim_cons (sim_tup (sim_cons (sim_neg) (sim_cons (sim_call 0 rfl G h_law_shear (by decide) (sim_cons (sim_name 0 rfl) (sim_cons (sim_int) (sim_nil) rfl) rfl)) (sim_cons (sim_int) (sim_nil) rfl) rfl) rfl)) (sim_nil) rfl)) (simg_name 1 rfl) (fun _ => rfl) (fun _ => rfl) (fun _ => rfl)) (simss_cons (sims_for (simi_range1 G 1 rfl (sim_bin G _ (sim_int) (sim_call 0 rfl G h_law_shear (by decide) (sim_cons (sim_name 0 rfl) (sim_cons (sim_int) (sim_nil) rfl) rfl))) (fun _ => rfl)) (simg_name 2 rfl) (simss_cons (sims_exp (sim_app (sim_name 1 rfl) (sim_tup (sim_cons (sim_call 0 rfl G h_law_shear (by decide) (sim_cons (sim_name 0 rfl) (sim_cons (sim_name 2 rfl) (sim_nil) rfl) rfl)) (sim_cons (sim_call 0 rfl G h_law_shear (by decide) (sim_cons (sim_name 0 rfl) (sim_cons (sim_int) (sim_nil) rfl) rfl)) (sim_cons (sim_call 0 rfl G h_law_shear (by decide) (sim_cons (sim_name 0 rfl) (sim_cons (sim_int) (sim_nil) rfl) rfl)) (sim_nil) rfl) rfl) rfl)) (fun _ => rfl) (fun _ => rfl) rfl (fun _ => rfl)) (fun _ => rfl)) (simss_nil)) (fun _ _ => rfl) (fun _ _ => rfl)) (simss_cons (sims_ret (sim_name 1 rfl)) (simss_nil)))
theorem f_law_plan {prog : Program} {w : World} {K : Frag} {mg mb : Str → Option Value} {B : Heap} (G : Gnd w K mg mb B) (h : HasFn mg B "_law_plan" 31) (h_law_shear : FunG prog w mg B 2 "_law_shear" φ_law_shear) : FunG prog w mg B 3 "_law_plan" φ_law_plan :=
  (fun_of (ps := ["fleece"]) (more := [some "rows", some "at"]) G h (c := x_law_plan) rfl ⟨by kernel_rfl, by kernel_rfl, by kernel_rfl⟩ (by intro pm code doc rvs hl; obtain _ | ⟨r0, rvs⟩ := rvs; (exact absurd hl (by simp)); obtain _ | ⟨r, rvs⟩ := rvs; skip; rotate_left; (exact absurd hl (by simp)); kernel_rfl) rfl ok_law_plan (D := D_law_plan) (s_law_plan G h_law_shear)).mono fun _ _ _ h => c_law_plan h
noncomputable def x_law_nearest : Cx := ⟨(sc (stm 33)).names, [some "rows", some "at", some "key", some "left"], []⟩
theorem ok_law_nearest : x_law_nearest.ok = true := by kernel_rfl
theorem s_law_nearest {prog : Program} {w : World} {K : Frag} {mg mb : Str → Option Value} {B : Heap} (G : Gnd w K mg mb B)  : SimSs prog w B 0 x_law_nearest (bd (stm 33)) D_law_nearest :=
  simss_cons (sims_whl (simt_and (simt_cmp G _ (sim_name 1 rfl) (sim_int) rfl) (simt_and (simt_or (simt_cmp G _ (sim_bin G _ (sim_bin G _ (sim_idx G (sim_idx G (sim_name 0 rfl) (sim_name 1 rfl) (fun _ _ => rfl)) (sim_int) (fun _ _ => rfl)) (sim_name 2 rfl)) (sim_int)) (sim_int) rfl) (simt_or (simt_cmp G _ (sim_tup (sim_cons (sim_name 1 rfl) (sim_cons (sim_name 2 rfl) (sim_nil) rfl) rfl)) (sim_name 3 rfl) rfl) (simt_or0))) (simt_and0))) (simss_cons (sims_asg (sim_idx G (sim_idx G (sim_name 0 rfl) (sim_name 1 rfl) (fun _ _ => rfl)) (sim_int) (fun _ _ => rfl)) (simg_name 1 rfl) (fun _ => rfl) (fun _ => rfl) (fun _ => rfl)) (simss_nil))) (simss_cons (sims_ret (sim_name 1 rfl)) (simss_nil))
theorem f_law_nearest {prog : Program} {w : World} {K : Frag} {mg mb : Str → Option Value} {B : Heap} (G : Gnd w K mg mb B) (h : HasFn mg B "_law_nearest" 33)  : FunG prog w mg B 1 "_law_nearest" φ_law_nearest :=
  (fun_of (ps := ["rows", "at", "key", "left"]) (more := []) G h (c := x_law_nearest) rfl ⟨by kernel_rfl, by kernel_rfl, by kernel_rfl⟩ (by intro pm code doc rvs hl; obtain _ | ⟨r0, rvs⟩ := rvs; (exact absurd hl (by simp)); obtain _ | ⟨r1, rvs⟩ := rvs; (exact absurd hl (by simp)); obtain _ | ⟨r2, rvs⟩ := rvs; (exact absurd hl (by simp)); obtain _ | ⟨r3, rvs⟩ := rvs; (exact absurd hl (by simp)); obtain _ | ⟨r, rvs⟩ := rvs; skip; rotate_left; (exact absurd hl (by simp)); kernel_rfl) rfl ok_law_nearest (D := D_law_nearest) (s_law_nearest G )).mono fun _ _ _ h => c_law_nearest h
noncomputable def x_law_line : Cx := ⟨(sc (stm 35)).names, [some "rows", some "at", some "found"], []⟩
theorem ok_law_line : x_law_line.ok = true := by kernel_rfl
theorem s_law_line {prog : Program} {w : World} {K : Frag} {mg mb : Str → Option Value} {B : Heap} (G : Gnd w K mg mb B)  : SimSs prog w B 0 x_law_line (bd (stm 35)) D_law_line :=
  simss_cons (sims_asg (sim_list (sim_nil)) (simg_name 2 rfl) (fun _ => rfl) (fun _ => rfl) (fun _ => rfl)) (simss_cons (sims_whl (simt_cmp G _ (sim_name 1 rfl) (sim_int) rfl) (simss_cons (sims_exp (sim_app (sim_name 2 rfl) (sim_name 1 rfl) (fun _ => rfl) (fun _ => rfl) rfl (fun _ => rfl)) (fun _ => rfl)) (simss_cons (sims_asg (sim_idx G (sim_idx G (sim_name 0 rfl) (sim_name 1 rfl) (fun _ _ => rfl)) (sim_int) (fun _ _ => rfl)) (simg_name 1 rfl) (fun _ => rfl) (fun _ => rfl) (fun _ => rfl)) (simss_nil)))) (simss_cons (sims_ret (sim_name 2 rfl)) (simss_nil)))
theorem f_law_line {prog : Program} {w : World} {K : Frag} {mg mb : Str → Option Value} {B : Heap} (G : Gnd w K mg mb B) (h : HasFn mg B "_law_line" 35)  : FunG prog w mg B 1 "_law_line" φ_law_line :=
  (fun_of (ps := ["rows", "at"]) (more := [some "found"]) G h (c := x_law_line) rfl ⟨by kernel_rfl, by kernel_rfl, by kernel_rfl⟩ (by intro pm code doc rvs hl; obtain _ | ⟨r0, rvs⟩ := rvs; (exact absurd hl (by simp)); obtain _ | ⟨r1, rvs⟩ := rvs; (exact absurd hl (by simp)); obtain _ | ⟨r, rvs⟩ := rvs; skip; rotate_left; (exact absurd hl (by simp)); kernel_rfl) rfl ok_law_line (D := D_law_line) (s_law_line G )).mono fun _ _ _ h => c_law_line h
noncomputable def x_law_built : Cx := ⟨(sc (stm 32)).names, [some "rows", some "turn", some "left", some "made", some "whole", some "ready", some "at", some "parent", some "told", some "parts", some "own", some "key", some "is_there"], ["len", "_law_whole", "range", "record_type", "extend_type", "str", "_law_nearest", "lay_operation", "_law_keys"]⟩
theorem ok_law_built : x_law_built.ok = true := by kernel_rfl
theorem s_law_built {prog : Program} {w : World} {K : Frag} {mg mb : Str → Option Value} {B : Heap} (G : Gnd w K mg mb B) (h_law_keys : FunG prog w mg B 1 "_law_keys" φ_law_keys) (h_law_nearest : FunG prog w mg B 1 "_law_nearest" φ_law_nearest) (h_law_whole : FunG prog w mg B 4 "_law_whole" φ_law_whole) (h_extend_type : FunG prog w mg B 4 "extend_type" φ_extend_type) (h_lay_operation : FunG prog w mg B 1 "lay_operation" φ_lay_operation) (h_record_type : FunG prog w mg B 3 "record_type" φ_record_type) : SimSs prog w B 4 x_law_built (bd (stm 32)) D_law_built :=
  simss_cons (sims_asgT (sim_tup (sim_cons (sim_rep (fun _ => rfl) (sim_non) (sim_len G 0 rfl (sim_name 0 rfl) (fun _ => rfl))) (sim_cons (sim_call 1 rfl G h_law_whole (by decide) (sim_nil)) (sim_nil) rfl) rfl)) (simgs_cons (simg_name 3 rfl) (simgs_cons (simg_name 4 rfl) (simgs_nil) (fun _ => rfl)) (fun _ => rfl)) (fun _ => rfl) (by intro env hk hn; obtain ⟨⟨kd, nms, g1, g2, g3⟩, lo, gl, ce⟩ := env; cases hk; cases hn; kernel_rfl)) (simss_cons (sims_whl (simt_cmp G _ (sim_non) (sim_name 3 rfl) rfl) (simss_cons (sims_asgC [] 5 rfl (by kernel_rfl) (by kernel_rfl) (simi_range G 2 rfl (sim_len G 0 rfl (sim_name 0 rfl) (fun _ => rfl)) (fun _ => rfl)) (simc_one (simt_and (simt_cmp G _ (sim_idx G (sim_name 3 rfl) (sim_name 13 rfl) (fun _ _ => rfl)) (sim_non) rfl) (simt_and (simt_or (simt_cmp G _ (sim_idx G (sim_idx G (sim_name 0 rfl) (sim_name 13 rfl) (fun _ _ => rfl)) (sim_int) (fun _ _ => rfl)) (sim_int) rfl) (simt_or (simt_cmp G _ (sim_idx G (sim_name 3 rfl) (sim_idx G (sim_idx G (sim_name 0 rfl) (sim_name 13 rfl) (fun _ _ => rfl)) (sim_int) (fun _ _ => rfl)) (fun _ _ => rfl)) (sim_non) rfl) (simt_or0))) (simt_and0)))) (sim_name 13 rfl) (fun _ _ => rfl) (by intro env hk hn; obtain ⟨⟨kd, nms, g1, g2, g3⟩, lo, gl, ce⟩ := env; cases hk; cases hn; kernel_rfl)) (simss_cons (sims_asg (sim_if (simt_cmp G _ (sim_name 1 rfl) (sim_int) rfl) (sim_idx G (sim_name 5 rfl) (sim_int) (fun _ _ => rfl)) (sim_idx G (sim_name 5 rfl) (sim_neg) (fun _ _ => rfl))) (simg_name 6 rfl) (fun _ => rfl) (fun _ => rfl) (fun _ => rfl)) (simss_cons (sims_asgT (sim_idx G (sim_name 0 rfl) (sim_name 6 rfl) (fun _ _ => rfl)) (simgs_cons (simg_name 7 rfl) (simgs_cons (simg_name 8 rfl) (simgs_cons (simg_name 9 rfl) (simgs_nil) (fun _ => rfl)) (fun _ => rfl)) (fun _ => rfl)) (fun _ => rfl) (by intro env hk hn; obtain ⟨⟨kd, nms, g1, g2, g3⟩, lo, gl, ce⟩ := env; cases hk; cases hn; kernel_rfl)) (simss_cons (sims_asgC ["str"] 10 rfl (by kernel_rfl) (by kernel_rfl) (simi_range G 2 rfl (sim_name 9 rfl) (fun _ => rfl)) simc_nil (sim_tup (sim_cons (sim_bin G _ (sim_bin G _ (sim_str) (sim_strc G 0 rfl (sim_name 6 rfl) (fun _ => rfl))) (sim_strc G 0 rfl (sim_name 13 rfl) (fun _ => rfl))) (sim_cons (sim_name 4 rfl) (sim_cons (sim_non) (sim_nil) rfl) rfl) rfl)) (fun _ _ => rfl) (by intro env hk hn; obtain ⟨⟨kd, nms, g1, g2, g3⟩, lo, gl, ce⟩ := env; cases hk; cases hn; kernel_rfl)) (simss_cons (sims_if (simt_cmp G _ (sim_name 7 rfl) (sim_int) rfl) (simss_cons (sims_asg (sim_call 3 rfl G h_record_type (by decide) (sim_cons (sim_str) (sim_cons (sim_list (sim_nil)) (sim_cons (sim_name 10 rfl) (sim_cons (sim_non) (sim_nil) rfl) rfl) rfl) rfl)) (simg_idx G (sim_name 3 rfl) (sim_name 6 rfl)) (fun _ => rfl) (fun _ => rfl) (fun _ => rfl)) (simss_cons (sims_asgT (sim_tup (sim_cons (sim_bool) (sim_cons (sim_int) (sim_nil) rfl) rfl)) (simgs_cons (simg_attr G (sim_idx G (sim_name 3 rfl) (sim_name 6 rfl) (fun _ _ => rfl)) 16 (by decide)) (simgs_cons (simg_attr G (sim_idx G (sim_name 3 rfl) (sim_name 6 rfl) (fun _ _ => rfl)) 2 (by decide)) (simgs_nil) (fun _ => rfl)) (fun _ => rfl)) (fun _ => rfl) (by intro env hk hn; obtain ⟨⟨kd, nms, g1, g2, g3⟩, lo, gl, ce⟩ := env; cases hk; cases hn; kernel_rfl)) (simss_nil))) (simss_cons (sims_asg (sim_call 4 rfl G h_extend_type (by decide) (sim_cons (sim_idx G (sim_name 3 rfl) (sim_name 7 rfl) (fun _ _ => rfl)) (sim_cons (sim_bin G _ (sim_str) (sim_strc G 5 rfl (sim_name 6 rfl) (fun _ => rfl))) (sim_cons (sim_bin G _ (sim_int) (sim_name 6 rfl)) (sim_cons (sim_name 10 rfl) (sim_cons (sim_int) (sim_nil) rfl) rfl) rfl) rfl) rfl)) (simg_idx G (sim_name 3 rfl) (sim_name 6 rfl)) (fun _ => rfl) (fun _ => rfl) (fun _ => rfl)) (simss_nil))) (simss_cons (sims_for (simi_range G 2 rfl (sim_int) (fun _ => rfl)) (simg_name 11 rfl) (simss_cons (sims_if (simt_and (simt_cmp G _ (sim_bin G _ (sim_bin G _ (sim_name 8 rfl) (sim_name 11 rfl)) (sim_int)) (sim_int) rfl) (simt_and (simt_cmp G _ (sim_tup (sim_cons (sim_name 6 rfl) (sim_cons (sim_name 11 rfl) (sim_nil) rfl) rfl)) (sim_name 2 rfl) rfl) (simt_and0))) (simss_cons (sims_asg (sim_and (sim_cmp G _ (sim_name 7 rfl) (sim_int) rfl) (sim_cmp G _ (sim_call 6 rfl G h_law_nearest (by decide) (sim_cons (sim_name 0 rfl) (sim_cons (sim_name 7 rfl) (sim_cons (sim_name 11 rfl) (sim_cons (sim_name 2 rfl) (sim_nil) rfl) rfl) rfl) rfl)) (sim_int) rfl)) (simg_name 12 rfl) (fun _ => rfl) (fun _ => rfl) (fun _ => rfl)) (simss_cons (sims_if (simt_cmp G _ (sim_call 7 rfl G h_lay_operation (by decide) (sim_cons (sim_idx G (sim_name 3 rfl) (sim_name 6 rfl) (fun _ _ => rfl)) (sim_cons (sim_idx G (sim_call 8 rfl G h_law_keys (by decide) (sim_nil)) (sim_name 11 rfl) (fun _ _ => rfl)) (sim_cons (sim_bin G _ (sim_str) (sim_strc G 5 rfl (sim_name 6 rfl) (fun _ => rfl))) (sim_nil) rfl) rfl) rfl)) (sim_name 12 rfl) rfl) (simss_cons (sims_ret (sim_non)) (simss_nil)) (simss_nil)) (simss_nil))) (simss_nil)) (simss_nil)) (fun _ _ => rfl) (fun _ _ => rfl)) (simss_nil)))))))) (simss_cons (sims_ret (sim_name 3 rfl)) (simss_nil)))
theorem f_law_built {prog : Program} {w : World} {K : Frag} {mg mb : Str → Option Value} {B : Heap} (G : Gnd w K mg mb B) (h : HasFn mg B "_law_built" 32) (h_law_keys : FunG prog w mg B 1 "_law_keys" φ_law_keys) (h_law_nearest : FunG prog w mg B 1 "_law_nearest" φ_law_nearest) (h_law_whole : FunG prog w mg B 4 "_law_whole" φ_law_whole) (h_extend_type : FunG prog w mg B 4 "extend_type" φ_extend_type) (h_lay_operation : FunG prog w mg B 1 "lay_operation" φ_lay_operation) (h_record_type : FunG prog w mg B 3 "record_type" φ_record_type) : FunG prog w mg B 5 "_law_built" φ_law_built :=
  (fun_of (ps := ["rows", "turn", "left"]) (more := [some "made", some "whole", some "ready", some "at", some "parent", some "told", some "parts", some "own", some "key", some "is_there"]) G h (c := x_law_built) rfl ⟨by kernel_rfl, by kernel_rfl, by kernel_rfl⟩ (by intro pm code doc rvs hl; obtain _ | ⟨r0, rvs⟩ := rvs; (exact absurd hl (by simp)); obtain _ | ⟨r1, rvs⟩ := rvs; (exact absurd hl (by simp)); obtain _ | ⟨r2, rvs⟩ := rvs; (exact absurd hl (by simp)); obtain _ | ⟨r, rvs⟩ := rvs; skip; rotate_left; (exact absurd hl (by simp)); kernel_rfl) rfl ok_law_built (D := D_law_built) (s_law_built G h_law_keys h_law_nearest h_law_whole h_extend_type h_lay_operation h_record_type)).mono fun _ _ _ h => c_law_built h
noncomputable def x_law_kin_right : Cx := ⟨(sc (stm 36)).names, [some "rows", some "made", some "at", some "line", some "names", some "other"], ["range", "len", "_law_line", "line_of_type", "is_descendant"]⟩
theorem ok_law_kin_right : x_law_kin_right.ok = true := by kernel_rfl
theorem s_law_kin_right {prog : Program} {w : World} {K : Frag} {mg mb : Str → Option Value} {B : Heap} (G : Gnd w K mg mb B) (h_law_line : FunG prog w mg B 1 "_law_line" φ_law_line) (h_is_descendant : FunG prog w mg B 2 "is_descendant" φ_is_descendant) (h_line_of_type : FunG prog w mg B 1 "line_of_type" φ_line_of_type) : SimSs prog w B 2 x_law_kin_right (bd (stm 36)) D_law_kin_right :=
  simss_cons (sims_for (simi_range G 0 rfl (sim_len G 1 rfl (sim_name 0 rfl) (fun _ => rfl)) (fun _ => rfl)) (simg_name 2 rfl) (simss_cons (sims_asg (sim_call 2 rfl G h_law_line (by decide) (sim_cons (sim_name 0 rfl) (sim_cons (sim_name 2 rfl) (sim_nil) rfl) rfl)) (simg_name 3 rfl) (fun _ => rfl) (fun _ => rfl) (fun _ => rfl)) (simss_cons (sims_if (simt_cmp G _ (sim_comp [] (by kernel_rfl) (simi_list (sim_call 3 rfl G h_line_of_type (by decide) (sim_cons (sim_idx G (sim_name 1 rfl) (sim_name 2 rfl) (fun _ _ => rfl)) (sim_nil) rfl))) simc_nil (sim_bin G _ (sim_attr G (sim_name 6 rfl) 2 (by decide) (fun _ => rfl)) (sim_int)) (fun _ _ => rfl)) (sim_name 3 rfl) rfl) (simss_cons (sims_ret (sim_bool)) (simss_nil)) (simss_nil)) (simss_cons (sims_asgC2 ["range", "str"] 4 rfl (by kernel_rfl) (simi_list (sim_rev (sim_name 3 rfl) (fun _ _ => rfl))) (simi_range G 0 rfl (sim_idx G (sim_idx G (sim_name 0 rfl) (sim_name 6 rfl) (fun _ _ => rfl)) (sim_int) (fun _ _ => rfl)) (fun _ => rfl)) (sim_bin G _ (sim_bin G _ (sim_str) (sim_strc G 1 rfl (sim_name 6 rfl) (fun _ => rfl))) (sim_strc G 1 rfl (sim_name 7 rfl) (fun _ => rfl))) (fun _ _ => rfl) (fun _ _ => rfl) (by intro env hk hn; obtain ⟨⟨kd, nms, g1, g2, g3⟩, lo, gl, ce⟩ := env; cases hk; cases hn; kernel_rfl)) (simss_cons (sims_if (simt_cmp G _ (sim_comp [] (by kernel_rfl) (simi_list (sim_attr G (sim_idx G (sim_name 1 rfl) (sim_name 2 rfl) (fun _ _ => rfl)) 13 (by decide) (fun _ => rfl))) simc_nil (sim_idx G (sim_name 6 rfl) (sim_int) (fun _ _ => rfl)) (fun _ _ => rfl)) (sim_name 4 rfl) rfl) (simss_cons (sims_ret (sim_bool)) (simss_nil)) (simss_nil)) (simss_cons (sims_for (simi_range G 0 rfl (sim_len G 1 rfl (sim_name 0 rfl) (fun _ => rfl)) (fun _ => rfl)) (simg_name 5 rfl) (simss_cons (sims_if (simt_cmp G _ (sim_call 4 rfl G h_is_descendant (by decide) (sim_cons (sim_idx G (sim_name 1 rfl) (sim_name 2 rfl) (fun _ _ => rfl)) (sim_cons (sim_idx G (sim_name 1 rfl) (sim_name 5 rfl) (fun _ _ => rfl)) (sim_nil) rfl) rfl)) (sim_cmp G _ (sim_name 5 rfl) (sim_name 3 rfl) rfl) rfl) (simss_cons (sims_ret (sim_bool)) (simss_nil)) (simss_nil)) (simss_nil)) (fun _ _ => rfl) (fun _ _ => rfl)) (simss_nil)))))) (fun _ _ => rfl) (fun _ _ => rfl)) (simss_cons (sims_ret (sim_bool)) (simss_nil))
theorem f_law_kin_right {prog : Program} {w : World} {K : Frag} {mg mb : Str → Option Value} {B : Heap} (G : Gnd w K mg mb B) (h : HasFn mg B "_law_kin_right" 36) (h_law_line : FunG prog w mg B 1 "_law_line" φ_law_line) (h_is_descendant : FunG prog w mg B 2 "is_descendant" φ_is_descendant) (h_line_of_type : FunG prog w mg B 1 "line_of_type" φ_line_of_type) : FunG prog w mg B 3 "_law_kin_right" φ_law_kin_right :=
  (fun_of (ps := ["rows", "made"]) (more := [some "at", some "line", some "names", some "other"]) G h (c := x_law_kin_right) rfl ⟨by kernel_rfl, by kernel_rfl, by kernel_rfl⟩ (by intro pm code doc rvs hl; obtain _ | ⟨r0, rvs⟩ := rvs; (exact absurd hl (by simp)); obtain _ | ⟨r1, rvs⟩ := rvs; (exact absurd hl (by simp)); obtain _ | ⟨r, rvs⟩ := rvs; skip; rotate_left; (exact absurd hl (by simp)); kernel_rfl) rfl ok_law_kin_right (D := D_law_kin_right) (s_law_kin_right G h_law_line h_is_descendant h_line_of_type)).mono fun _ _ _ h => c_law_kin_right h
noncomputable def x_law : Cx := ⟨(sc (stm 37)).names, [some "script", some "fleece", some "rows", some "left", some "made", some "other", some "less", some "at", some "key", some "nearest", some "before", some "above", some "home"], ["_law_plan", "_law_shear", "len", "_law_built", "_law_kin_right", "range", "_law_nearest", "_law_leads", "home_of", "_law_keys"]⟩
theorem ok_law : x_law.ok = true := by kernel_rfl
theorem s_law {prog : Program} {w : World} {K : Frag} {mg mb : Str → Option Value} {B : Heap} (G : Gnd w K mg mb B) (h_law_built : FunG prog w mg B 5 "_law_built" φ_law_built) (h_law_keys : FunG prog w mg B 1 "_law_keys" φ_law_keys) (h_law_kin_right : FunG prog w mg B 3 "_law_kin_right" φ_law_kin_right) (h_law_leads : FunG prog w mg B 6 "_law_leads" φ_law_leads) (h_law_nearest : FunG prog w mg B 1 "_law_nearest" φ_law_nearest) (h_law_plan : FunG prog w mg B 3 "_law_plan" φ_law_plan) (h_law_shear : FunG prog w mg B 2 "_law_shear" φ_law_shear) (h_home_of : FunG prog w mg B 1 "home_of" φ_home_of) : SimSs prog w B 6 x_law (bd (stm 37)) D_law :=
  simss_cons (sims_asg (sim_list (sim_cons (sim_slTo (sim_name 0 rfl) (fun _ _ => rfl)) (sim_cons (sim_int) (sim_nil) rfl) rfl)) (simg_name 1 rfl) (fun _ => rfl) (fun _ => rfl) (fun _ => rfl)) (simss_cons (sims_asg (sim_call 0 rfl G h_law_plan (by decide) (sim_cons (sim_name 1 rfl) (sim_nil) rfl)) (simg_name 2 rfl) (fun _ => rfl) (fun _ => rfl) (fun _ => rfl)) (simss_cons (sims_asg (sim_tup (sim_cons (sim_call 1 rfl G h_law_shear (by decide) (sim_cons (sim_name 1 rfl) (sim_cons (sim_len G 2 rfl (sim_name 2 rfl) (fun _ => rfl)) (sim_nil) rfl) rfl)) (sim_cons (sim_call 1 rfl G h_law_shear (by decide) (sim_cons (sim_name 1 rfl) (sim_cons (sim_int) (sim_nil) rfl) rfl)) (sim_nil) rfl) rfl)) (simg_name 3 rfl) (fun _ => rfl) (fun _ => rfl) (fun _ => rfl)) (simss_cons (sims_asgS (xs := ["made", "other", "less"]) (sim_tup (sim_cons (sim_call 3 rfl G h_law_built (by decide) (sim_cons (sim_name 2 rfl) (sim_cons (sim_int) (sim_cons (sim_non) (sim_nil) rfl) rfl) rfl)) (sim_cons (sim_call 3 rfl G h_law_built (by decide) (sim_cons (sim_name 2 rfl) (sim_cons (sim_int) (sim_cons (sim_non) (sim_nil) rfl) rfl) rfl)) (sim_cons (sim_call 3 rfl G h_law_built (by decide) (sim_cons (sim_name 2 rfl) (sim_cons (sim_int) (sim_cons (sim_name 3 rfl) (sim_nil) rfl) rfl) rfl)) (sim_nil) rfl) rfl) rfl)) (simb_cons 6 rfl (simb_cons 5 rfl (simb_cons 4 rfl (simb_nil)))) (fun _ => rfl) (by intro env hk hn; obtain ⟨⟨kd, nms, g1, g2, g3⟩, lo, gl, ce⟩ := env; cases hk; cases hn; kernel_rfl)) (simss_cons (sims_if (simt_or (simt_cmp G _ (sim_name 4 rfl) (sim_non) rfl) (simt_or (simt_cmp G _ (sim_name 5 rfl) (sim_non) rfl) (simt_or (simt_cmp G _ (sim_name 6 rfl) (sim_non) rfl) (simt_or (simt_not (simt_val (sim_call 4 rfl G h_law_kin_right (by decide) (sim_cons (sim_name 2 rfl) (sim_cons (sim_name 4 rfl) (sim_nil) rfl) rfl)) (fun _ _ => rfl))) (simt_or0))))) (simss_cons (sims_ret (sim_bool)) (simss_nil)) (simss_nil)) (simss_cons (sims_for (simi_range G 5 rfl (sim_len G 2 rfl (sim_name 2 rfl) (fun _ => rfl)) (fun _ => rfl)) (simg_name 7 rfl) (simss_cons (sims_for (simi_range G 5 rfl (sim_int) (fun _ => rfl)) (simg_name 8 rfl) (simss_cons (sims_asgS (xs := ["nearest", "before"]) (sim_tup (sim_cons (sim_call 6 rfl G h_law_nearest (by decide) (sim_cons (sim_name 2 rfl) (sim_cons (sim_name 7 rfl) (sim_cons (sim_name 8 rfl) (sim_cons (sim_non) (sim_nil) rfl) rfl) rfl) rfl)) (sim_cons (sim_call 7 rfl G h_law_leads (by decide) (sim_cons (sim_idx G (sim_name 4 rfl) (sim_name 7 rfl) (fun _ _ => rfl)) (sim_cons (sim_name 8 rfl) (sim_nil) rfl) rfl)) (sim_nil) rfl) rfl)) (simb_cons 10 rfl (simb_cons 9 rfl (simb_nil))) (fun _ => rfl) (by intro env hk hn; obtain ⟨⟨kd, nms, g1, g2, g3⟩, lo, gl, ce⟩ := env; cases hk; cases hn; kernel_rfl)) (simss_cons (sims_if (simt_or (simt_cmp G _ (sim_name 10 rfl) (sim_name 9 rfl) rfl) (simt_or (simt_cmp G _ (sim_call 7 rfl G h_law_leads (by decide) (sim_cons (sim_idx G (sim_name 5 rfl) (sim_name 7 rfl) (fun _ _ => rfl)) (sim_cons (sim_name 8 rfl) (sim_nil) rfl) rfl)) (sim_name 9 rfl) rfl) (simt_or0))) (simss_cons (sims_ret (sim_bool)) (simss_nil)) (simss_nil)) (simss_cons (sims_asg (sim_if (simt_cmp G _ (sim_idx G (sim_idx G (sim_name 2 rfl) (sim_idx G (sim_name 3 rfl) (sim_int) (fun _ _ => rfl)) (fun _ _ => rfl)) (sim_int) (fun _ _ => rfl)) (sim_int) rfl) (sim_call 7 rfl G h_law_leads (by decide) (sim_cons (sim_idx G (sim_name 4 rfl) (sim_idx G (sim_idx G (sim_name 2 rfl) (sim_idx G (sim_name 3 rfl) (sim_int) (fun _ _ => rfl)) (fun _ _ => rfl)) (sim_int) (fun _ _ => rfl)) (fun _ _ => rfl)) (sim_cons (sim_name 8 rfl) (sim_nil) rfl) rfl)) (sim_neg)) (simg_name 11 rfl) (fun _ => rfl) (fun _ => rfl) (fun _ => rfl)) (simss_cons (sims_if (simt_cmp G _ (sim_call 7 rfl G h_law_leads (by decide) (sim_cons (sim_idx G (sim_name 6 rfl) (sim_name 7 rfl) (fun _ _ => rfl)) (sim_cons (sim_name 8 rfl) (sim_nil) rfl) rfl)) (sim_if (simt_cmp G _ (sim_tup (sim_cons (sim_name 9 rfl) (sim_cons (sim_name 8 rfl) (sim_nil) rfl) rfl)) (sim_name 3 rfl) rfl) (sim_name 11 rfl) (sim_name 10 rfl)) rfl) (simss_cons (sims_ret (sim_bool)) (simss_nil)) (simss_nil)) (simss_cons (sims_asg (sim_call 8 rfl G h_home_of (by decide) (sim_cons (sim_idx G (sim_name 4 rfl) (sim_name 7 rfl) (fun _ _ => rfl)) (sim_cons (sim_idx G (sim_call 9 rfl G h_law_keys (by decide) (sim_nil)) (sim_name 8 rfl) (fun _ _ => rfl)) (sim_nil) rfl) rfl)) (simg_name 12 rfl) (fun _ => rfl) (fun _ => rfl) (fun _ => rfl)) (simss_cons (sims_if (simt_cmp G _ (sim_if (simt_cmp G _ (sim_name 12 rfl) (sim_non) rfl) (sim_neg) (sim_bin G _ (sim_attr G (sim_name 12 rfl) 2 (by decide) (fun _ => rfl)) (sim_int))) (sim_name 9 rfl) rfl) (simss_cons (sims_ret (sim_bool)) (simss_nil)) (simss_nil)) (simss_nil))))))) (fun _ _ => rfl) (fun _ _ => rfl)) (simss_nil)) (fun _ _ => rfl) (fun _ _ => rfl)) (simss_cons (sims_ret (sim_bool)) (simss_nil)))))))
theorem f_law {prog : Program} {w : World} {K : Frag} {mg mb : Str → Option Value} {B : Heap} (G : Gnd w K mg mb B) (h : HasFn mg B "law" 37) (h_law_built : FunG prog w mg B 5 "_law_built" φ_law_built) (h_law_keys : FunG prog w mg B 1 "_law_keys" φ_law_keys) (h_law_kin_right : FunG prog w mg B 3 "_law_kin_right" φ_law_kin_right) (h_law_leads : FunG prog w mg B 6 "_law_leads" φ_law_leads) (h_law_nearest : FunG prog w mg B 1 "_law_nearest" φ_law_nearest) (h_law_plan : FunG prog w mg B 3 "_law_plan" φ_law_plan) (h_law_shear : FunG prog w mg B 2 "_law_shear" φ_law_shear) (h_home_of : FunG prog w mg B 1 "home_of" φ_home_of) : FunG prog w mg B 7 "law" φ_law :=
  (fun_of (ps := ["script"]) (more := [some "fleece", some "rows", some "left", some "made", some "other", some "less", some "at", some "key", some "nearest", some "before", some "above", some "home"]) G h (c := x_law) rfl ⟨by kernel_rfl, by kernel_rfl, by kernel_rfl⟩ (by intro pm code doc rvs hl; obtain _ | ⟨r0, rvs⟩ := rvs; (exact absurd hl (by simp)); obtain _ | ⟨r, rvs⟩ := rvs; skip; rotate_left; (exact absurd hl (by simp)); kernel_rfl) rfl ok_law (D := D_law) (s_law G h_law_built h_law_keys h_law_kin_right h_law_leads h_law_nearest h_law_plan h_law_shear h_home_of)).mono fun _ _ _ h => c_law h
end Mine
end
section
open PySem PySem.W PyProof.Rows PySem.Calls PySem.Spec
open Classical
namespace Mine
open PySem.SeqAt
open PySem.Builtin.ObjectAttr
noncomputable def excM : List Value := [.ref 31, .type "Exception", .type "BaseException", .type "object"]
noncomputable def excNm : List Str := ["text", "name", "word", "line"]
structure ExcK (K : Frag) : Prop where
  cd : ∃ cd, clsIn K 70 = some cd ∧ cd.hasDict = true ∧ cd.mro = .ref 70 :: excM
  sa : findIn K (.ref 70) "__setattr__" = some (some (.builtin "object.__setattr__"))
  nm : ∀ x ∈ excNm, findIn K (.ref 70) x = some none
  ob : ∃ nm q bs sn sub ab col dd k0 k1 k2 k3 k5, K.lookup 70 = some (excClassObj nm q 70 69 bs excM true sn sub ab col dd k0 k1 k2 k3 k5 "Exception.__new__")
  ini : nsIn K 69 "__init__" = some (some (.ref 67))
  ns : nsOkIn K 69 = true
  f67 : typeIn K (.ref 67) = some (.type "function")
  g31 : specialIn K (.ref 31) "__getattribute__" = some (some (.builtin "type.__getattribute__"))
  r31 : readsIn K 31 (.type "type") = true
  c31 : findCls K (.ref 31) (.type "type") "__init__" = some (.val (.ref 28))
  cE : findCls K (.type "Exception") (.type "type") "__init__" = some (.val (.builtin "Exception.__init__"))
theorem exc_refuse (self : Value) : PySem.refuseLoop self "__setattr__" [.type "Exception", .type "BaseException", .type "object"] = pure () := by kernel_rfl
section
variable {prog : Program} {w : World} {K : Frag} {mg mb : Str → Option Value} {B : Heap} {A : Around} {E : Value → Shared → Prop} {s s' : Shared} {H H' H0 : Hp} {x : Str} {v : Value} {e : Addr} {n : Nat}
/-- an exception of AdaRaise under construction: n attributes are laid at most -/
structure ExcH (H0 H : Hp) (e : Addr) (n : Nat) : Prop where
  k : Kp H0 H
  f : H0 e = none
  o : ∃ d, H e = some (.exc 70 d) ∧ ∀ q, d = some q → q ≠ e ∧ H0 q = none ∧ H q = some (.exd n)
theorem exc_osa {R : Result → Shared → Prop} {ox : Obj} {od : Option Obj} {tk : Tok} (EK : ExcK K) (X : K.In s.heap) (I : PySem.W.InstAt s.heap e ox 70 od) (hx : findIn K (.ref 70) x = some none)
    (h : ∀ b, wpAny (model prog w) A.in1 (storeInOwnDict (.ref e) (.ref 70) (.str x tk) x v b)
      (fun fin s' => match fin with | .done f => R (.ok f) s' | .again c' => c'.quiet = true ∧ codeAny (model prog w) A c' R s') (fun e s' => R (.error e) s') s) :
    codeAny (model prog w) A (.call (.builtin "object.__setattr__") ⟨[.ref e, .str x tk, v], []⟩) R s := by
  have SF := PySem.F.store_object
  obtain ⟨cd, hc, _, ho⟩ := EK.cd
  have sub : Looks (model prog w) s.heap (isInstance (.ref e) (.type "object")) true := I.type.andThen (looks_mroIn X (by unfold mroIn; rw [hc, Option.bind_some, ho]; rfl))
  refine codeAny_call_builtin SF.slot.plain SF.entry (@check_slot (model prog w) _ _ s "object.__setattr__" "object" "__setattr__" (.ref e) [.str x tk, v] [] _ SF.kind SF.split sub (SF.args (.ref e) (.str x tk) v) ?_)
  have hm : Looks (model prog w) s.heap (mroOf (.ref 70)) cd.mro := (looks_clsIn X hc).andThen .now
  rw [osa_eq, refuse_eq]
  refine wpAny_bind (wpAny_bind (I.type.here (wpAny_bind (hm.here ?_))))
  rw [ho]
  unfold excM
  rw [refuseLoop_ref, refuseLoop_ref, exc_refuse]
  exact wpAny_pure (wpAny_bind (I.type.here (wpAny_bind ((looks_findIn X hx).here (wpAny_bind (wpAny_pure (h _)))))))
theorem exc_set {Q : Unit → Shared → Prop} (G : Gnd w K mg mb B) (EK : ExcK K) (S : St prog w B H s.heap) (hx : x ∈ excNm) (EH : ExcH H0 H e n) (hn : n ≤ 10)
    (k : ∀ H' s', ExcH H0 H' e (n + 1) → St prog w B H' s'.heap → Tr B H s H' s' → Q () s') : wpAny (model prog w) A (setAttr (.ref e) x v) Q E s := by
  obtain ⟨d, he, hd⟩ := EH.o
  obtain ⟨oe, vs, a0, e1, e2, e3, e4, e5, e6⟩ := S.obj _ _ he
  obtain ⟨cd, hc, hcd, _⟩ := EK.cd
  have X := G.In S
  have nc : notCls oe = true := by unfold notCls; rw [e3]
  have mono : ∀ {h : Heap} {q : Addr} {m : Nat}, Has prog w h q (.exd m) → Has prog w h q (.exd (m + 1)) := fun ⟨m, ns, h1, h2, h3⟩ => ⟨m, ns, h1, h2, Nat.le_succ_of_le h3⟩
  obtain ⟨oc, odi, oda, osl⟩ := oe
  dsimp only at e2 e3 e6
  subst e2 e3 e6
  cases odi with
  | none =>
    have I : PySem.W.InstAt s.heap e ⟨.ref 70, none, .fields vs, osl⟩ 70 none := ⟨e1, rfl, nc, trivial⟩
    refine set_plain X I EK.sa (exc_osa (s := { s with toks := s.toks + 1 }) EK X I (EK.nm x hx) fun b => ?_)
    refine wpAny_bind (wpAny_pure (wpAny_bind (wpAny_bind (wpAny_loadPart e1 (wpAny_bind ((looks_clsIn X hc) _ _ _ _ (fun _ _ e => e) ?_))))))
    rw [hcd]
    have f1 := size_none s.heap
    have nq : s.heap.objs.size ≠ e := fun z => by rw [← z, f1] at e1; cases e1
    show wpAny _ _ (alloc { cls := .type "dict", data := .dict #[] } >>= fun d => update e (fun o => { cls := o.cls, dict := some d, data := o.data, slots := o.slots }) >>= fun _ => dictMade (.ref 70) e d) _ _ _
    refine wpAny_bind (wpAny_alloc (wpAny_bind (wpAny_update (Heap.get?_push_of_some _ e1) (wpAny_pure ?_))))
    have hns0 : (s.heap.push emptyDict).Ns s.heap.objs.size (fun _ => none) := ⟨_, #[], _, Heap.get?_push_size _ rfl, rfl, fun e he => absurd he (by simp), fun _ => rfl⟩
    obtain ⟨S1, T1⟩ := S.add (h' := s.heap.push emptyDict) (tk := s.toks) (o := .exd 0) f1 (by intro xs; simp) (fun b ob e => Heap.get?_push_of_some _ e) ⟨_, [], Heap.Ns1.of_empty hns0, Within.nil, Nat.le_refl _⟩
    have g1 : (s.heap.push emptyDict).get? e = some ⟨.ref 70, none, .fields vs, osl⟩ := Heap.get?_push_of_some _ e1
    have g2 := Heap.get?_update_self (fun o : Obj => { cls := o.cls, dict := some s.heap.objs.size, data := o.data, slots := o.slots }) g1 rfl
    have he1 : upd H s.heap.objs.size (.exd 0) e = some (.exc 70 none) := by rw [upd_ne nq.symm]; exact he
    obtain ⟨S2, T2⟩ := S1.set (s := { s with heap := s.heap.push emptyDict, toks := s.toks }) (tk := s.toks + 1) (o' := .exc 70 (some s.heap.objs.size)) (h' := (s.heap.push emptyDict).update e fun o => { cls := o.cls, dict := some s.heap.objs.size, data := o.data, slots := o.slots }) he1 (by intro xs; simp) (by intro xs; simp)
      (fun b hb => Heap.get?_update_other _ _ (Ne.symm hb)) ⟨_, vs, a0, g2, rfl, rfl, e4, e5, rfl⟩
    have hnd : ((s.heap.push emptyDict).update e fun o => { cls := o.cls, dict := some s.heap.objs.size, data := o.data, slots := o.slots }).Ns s.heap.objs.size (fun _ => none) :=
      ⟨_, #[], _, (Heap.get?_update_other _ _ (Ne.symm nq)).trans (Heap.get?_push_size _ rfl), rfl, fun e he => absurd he (by simp), fun _ => rfl⟩
    show wpAny _ _ (storeInDict s.heap.objs.size (.str x s.toks) x v) _ _ _
    unfold storeInDict newKeyGuard
    refine wpAny_bind (wpAny_pure (wpAny_bind (wpAny_nsSet1 (Heap.Ns1.of_empty hnd) fun h' hn' hs => ?_)))
    obtain ⟨oD, esD, epD, hoD, hdD, hcD⟩ := hn'.count (Within.cons x v Within.nil)
    refine wpAny_bind (wpAny_lookBehind hoD (by rw [hdD]; exact pastItsLine_dict (Nat.le_trans hcD (by rw [List.length_cons, List.length_nil, sizeLine_eq]; omega))) ?_)
    refine wpAny_pure ?_
    have q3 : upd (upd H s.heap.objs.size (.exd 0)) e (.exc 70 (some s.heap.objs.size)) s.heap.objs.size = some (.exd 0) := by rw [upd_ne nq]; exact upd_same
    obtain ⟨S3, T3⟩ := S2.set (s := { s with heap := (s.heap.push emptyDict).update e fun o => { cls := o.cls, dict := some s.heap.objs.size, data := o.data, slots := o.slots }, toks := s.toks + 1 }) (tk := s.toks + 1 + 1) (o' := .exd (n + 1)) q3 (by intro xs; simp) (by intro xs; simp) (fun b hb => hs.2 b hb)
      ⟨_, _, hn', Within.cons x v Within.nil, by rw [List.length_cons]; exact Nat.succ_le_succ (Nat.zero_le _)⟩
    have fq := S.fresh f1
    have H0q : H0 s.heap.objs.size = none := EH.k.nn fq
    exact k _ _ ⟨((EH.k.set H0q).set EH.f).set H0q, EH.f, some s.heap.objs.size, by rw [upd_ne nq.symm]; exact upd_same, fun q' z => by cases z; exact ⟨nq, H0q, upd_same⟩⟩ S3 ((T1.trans T2).trans T3)
  | some q =>
    obtain ⟨q1, q2, q3⟩ := hd q rfl
    obtain ⟨m, ns, hns, hw, hl⟩ := S.obj _ _ q3
    obtain ⟨oD0, es0, ep0, hoD0, rD⟩ := hns
    have hns : s.heap.Ns1 q m := ⟨oD0, es0, ep0, hoD0, rD⟩
    have I : PySem.W.InstAt s.heap e ⟨.ref 70, some q, .fields vs, osl⟩ 70 (some oD0) := ⟨e1, rfl, nc, hoD0⟩
    refine set_plain X I EK.sa (exc_osa (s := { s with toks := s.toks + 1 }) EK X I (EK.nm x hx) fun b => ?_)
    refine wpAny_bind (wpAny_pure (wpAny_bind (wpAny_bind (wpAny_loadPart e1 (wpAny_bind ((looks_clsIn X hc) _ _ _ _ (fun _ _ e => e) ?_))))))
    rw [hcd]
    refine wpAny_pure (a := some q) ?_
    show wpAny _ _ (storeInDict q (.str x s.toks) x v) _ _ _
    unfold storeInDict newKeyGuard
    refine wpAny_bind (wpAny_pure (wpAny_bind (wpAny_nsSet1 hns fun h' hn' hs => ?_)))
    obtain ⟨oD, esD, epD, hoD, hdD, hcD⟩ := hn'.count (Within.cons x v hw)
    refine wpAny_bind (wpAny_lookBehind hoD (by rw [hdD]; exact pastItsLine_dict (Nat.le_trans hcD (by rw [List.length_cons, sizeLine_eq]; omega))) ?_)
    refine wpAny_pure ?_
    obtain ⟨S', T'⟩ := S.set (tk := s.toks + 1 + 1) (o' := .exd (n + 1)) q3 (by intro xs; simp) (by intro xs; simp) (fun b hb => hs.2 b hb) ⟨_, _, hn', Within.cons x v hw, by rw [List.length_cons]; omega⟩
    exact k _ _ ⟨EH.k.set q2, EH.f, some q, by rw [upd_ne q1.symm]; exact he, fun q' z => by cases z; exact ⟨q1, q2, upd_same⟩⟩ S' T'
end
end Mine
end
section
open PySem PySem.W PyProof.Rows PySem.Calls PySem.Spec
open Classical
set_option maxRecDepth 100000
namespace Mine
open PySem.SeqAt
section
variable {prog : Program} {w : World} {A : Around} {E : Value → Shared → Prop} {R : Result → Shared → Prop} {h : Heap} {g : Array GenState} {d : Drawn} {t : Nat} {os : OsState}
variable {nm q : Str} {bs : List Value} {sn : List Str} {sub : List Value} {ab : Bool} {col : Option Bool} {dd : Option Addr} {k0 k1 k2 k3 k5 : Option Value} {rest : List Value}
theorem excM_has : (Value.ref 70 :: excM).contains (.type "Exception") = true ∧ (Value.ref 70 :: excM).contains (.type "AttributeError") = false ∧ (Value.ref 70 :: excM).contains (.type "NameError") = false ∧ (Value.ref 70 :: excM).contains (.ref 70) = true ∧ (Value.ref 70 :: excM).contains (.type "BaseException") = true := by decide +kernel
noncomputable abbrev excC (nm q : Str) (bs : List Value) (sn : List Str) (sub : List Value) (ab : Bool) (col : Option Bool) (dd : Option Addr) (k0 k1 k2 k3 k5 : Option Value) : Obj := excClassObj nm q 70 69 bs excM true sn sub ab col dd k0 k1 k2 k3 k5 "Exception.__new__"
theorem exc_check {M : Model} {Q : Unit → Shared → Prop} (hC : h.get? 70 = some (excC nm q bs sn sub ab col dd k0 k1 k2 k3 k5)) (hq : Q () ⟨h, g, d, t, os⟩) : wpAny M A (checkBuiltinCall "Exception.__new__" ⟨.ref 70 :: rest, []⟩) Q E ⟨h, g, d, t, os⟩ := by
  have F := PySem.F.excBase_Exception
  have hstar := F.noStar
  have hcont := excM_has.1
  simp only [checkBuiltinCall, F.newKind, F.newSplit, F.newRow]
  repeat (first | refine wpAny_loadPart_at hC ?_ | (refine wpAny_isSubtype_exc hC ?_; rw [hcont]) | refine wpAny_staticBase_exc hC ?_ | refine wpAny_madeBy_exc hC ?_ | simp only [bne_self_eq_false, Bool.false_eq_true, if_false] | wp_step)
  exact hq
theorem exc_code (hC : h.get? 70 = some (excC nm q bs sn sub ab col dd k0 k1 k2 k3 k5))
    (hq : R (.ok (.ret (.ref (h.objs.size + 1)))) ⟨(h.push { cls := .type "tuple", data := .seq rest.toArray }).push
      { cls := .ref 70, data := .fields #[.ref h.objs.size, .none, .none, .none, .bool false, .none] }, g, d, t, os⟩) (hrest : rest.length ≤ sizeLine) :
    codeAny (model prog w) A (.builtin "Exception.__new__" ⟨.ref 70 :: rest, []⟩) R ⟨h, g, d, t, os⟩ := by
  have F := PySem.F.excBase_Exception
  have hends := F.ends
  obtain ⟨hcB, hcA, hcN, _, _⟩ := excM_has
  refine codeAny_builtinAt F.entry ?_
  unfold Builtin.«BaseException.__new__»
  refine PySem.wpAt_bind ?_
  show PySem.wpAt _ _ _ (stack >>= _) _ _ _
  refine PySem.wpAt_bind (PySem.wpAt_stack fun p below => PySem.wpAt_of_wpAny ?_)
  wp_walk
  refine PySem.wpAt_of_wpAny ?_
  rw [F.owner]
  repeat (first | with_reducible refine wpAny_madeHere_exc F.canon hC ?_ | with_reducible refine wpAny_loadPart_at hC ?_ | (with_reducible refine wpAny_isSubtype_exc hC ?_; first | rw [hcB] | rw [hcA] | rw [hcN]) | wp_step)
  show R _ _
  rw [Heap.size_push]
  exact hq
theorem exc_tcall {mN : Str → Option Value} {oI : Obj} {Q : Fin → Shared → Prop}
    (hC : h.get? 70 = some (excC nm q bs sn sub ab col dd k0 k1 k2 k3 k5)) (hn : h.Ns 69 mN) (hi : mN "__init__" = some (.ref 67)) (hfI : h.get? 67 = some oI) (hfc : oI.cls = .type "function")
    (hq : ∀ h' e, Heap.MadeExcOf h h' e (.ref 70) rest → wpAny (model prog w) A (call (.ref 67) (.ref e :: rest)) (fun r s' => r = .none ∧ Q (.done (.ret (.ref e))) s') E ⟨h', g, d, t, os⟩) (hrest : rest.length ≤ sizeLine) :
    wpAny (model prog w) A (Builtin.«type.__call__» ⟨.ref 70 :: rest, []⟩) Q E ⟨h, g, d, t, os⟩ := by
  have F := PySem.F.excBase_Exception
  repeat (first | with_reducible refine wpAny_loadPart_at hC ?_ | with_reducible refine wpAny_madeBy_exc hC ?_ | wp_step)
  refine codeAny_call_builtin_code (Code.quiet_builtin _ F.quiet) (exc_check hC ?_)
  refine exc_code hC ?_ hrest
  show wpAny _ _ _ _ _ _
  have up : ∀ b o, h.get? b = some o → ((h.push { cls := .type "tuple", data := .seq rest.toArray }).push { cls := .ref 70, data := .fields #[.ref h.objs.size, .none, .none, .none, .bool false, .none] }).get? b = some o := fun b o e => Heap.get?_push_of_some _ (Heap.get?_push_of_some _ e)
  have hC₁ := up _ _ hC
  have hfI₁ := up _ _ hfI
  have hn₁ := hn.keeps up
  have hget : ((h.push { cls := .type "tuple", data := .seq rest.toArray }).push
      { cls := .ref 70, data := .fields #[.ref h.objs.size, .none, .none, .none, .bool false, .none] }).get? (h.objs.size + 1) = some
      { cls := .ref 70, data := .fields #[.ref h.objs.size, .none, .none, .none, .bool false, .none] } := by heap_get
  have hcC := excM_has.2.2.2.1
  unfold isInstance
  repeat (first | with_reducible refine wpAny_loadPart_at hget ?_ | (with_reducible refine wpAny_isSubtype_exc hC₁ ?_; rw [hcC]) | wp_step)
  show wpAny _ _ (typeLookup (.ref 70) _) _ _ _
  rw [typeLookup_eq]
  refine wpAny_bind (wpAny_mroOf_exc hC₁ ?_)
  rw [lookupAlong_cons]
  refine wpAny_bind (wpAny_classOwn_exc hC₁ hn₁ ?_)
  rw [hi]
  refine wpAny_pure ?_
  refine wpAny_holding (wpAny_bind ?_)
  unfold bindSpecial
  refine wpAny_bind (wpAny_typeOf (T := "function") ⟨_, hfI₁, hfc⟩ ?_)
  rw [if_pos (by decide)]
  refine wpAny_pure (wpAny_bind (wpAny_mono (hq _ (h.objs.size + 1) ⟨up, Heap.get?_none_of_le (Nat.le_succ _), h.objs.size, hget, Heap.get?_none_of_le (Nat.le_refl _), ?_⟩) (fun r s' hr => ?_) fun _ _ x => x))
  · exact Heap.get?_push_of_some _ (Heap.get?_push_at rfl rfl)
  · obtain ⟨rfl, hQ⟩ := hr
    wp_walk
    exact hQ
theorem exc_call {mN : Str → Option Value} {oI : Obj} {Q : Value → Shared → Prop}
    (hC : h.get? 70 = some (excC nm q bs sn sub ab col dd k0 k1 k2 k3 k5)) (hn : h.Ns 69 mN) (hi : mN "__init__" = some (.ref 67)) (hfI : h.get? 67 = some oI) (hfc : oI.cls = .type "function")
    (hq : ∀ h' e, Heap.MadeExcOf h h' e (.ref 70) rest →
      wpAny (model prog w) (A.under (.builtin "type.__call__" ⟨.ref 70 :: rest, []⟩)) (call (.ref 67) (.ref e :: rest)) (fun r s' => r = .none ∧ Q (.ref e) s') E ⟨h', g, d, t, os⟩) (hrest : rest.length ≤ sizeLine) :
    wpAny (model prog w) A (call (.ref 70) rest) Q E ⟨h, g, d, t, os⟩ := by
  have f1 := tc_lookup
  have f2 := tc_bind (.ref 70)
  have hT : (⟨h, g, d, t, os⟩ : Shared).TypeIs (.ref 70) "type" := ⟨_, hC, rfl⟩
  refine wpAny_call (codeAny_of_tree ?_)
  show wpAny _ _ (callAny (.ref 70) _) _ _ _
  repeat (any_goals (first | assumption | with_reducible refine wpAny_loadPart_at hC ?_ | wp_step))
  refine ⟨rfl, ?_⟩
  refine codeAny_call_builtin_at (Code.quiet_builtin _ (by decide +kernel)) entry_typeCall (wpAny_check_type_call_sub hC (exc_tcall hC hn hi hfI hfc (fun h' e hm => ?_) hrest))
  exact hq h' e hm
end
end Mine
end
section
open PySem PySem.W PyProof.Rows PySem.Calls PySem.Spec
open Classical
set_option maxRecDepth 100000
namespace Mine
open PySem.SeqAt
section
variable {h : Heap} {g : Array GenState} {d : Drawn} {t : Nat} {os : OsState}
variable {nm q : Str} {bs : List Value} {sn : List Str} {sub : List Value} {ab : Bool} {col : Option Bool} {dd : Option Addr} {k0 k1 k2 k3 k5 : Option Value} {rest : List Value}
theorem exc_chk {M : Model} {A : Around} {E : Value → Shared → Prop} {e : Addr} {oe : Obj} {Q : Unit → Shared → Prop} (hC : h.get? 70 = some (excC nm q bs sn sub ab col dd k0 k1 k2 k3 k5)) (he : h.get? e = some oe) (hcls : oe.cls = .ref 70) (hq : Q () ⟨h, g, d, t, os⟩) :
    wpAny M A (checkBuiltinCall "Exception.__init__" ⟨.ref e :: rest, []⟩) Q E ⟨h, g, d, t, os⟩ := by
  have F := PySem.F.excBase_Exception
  have hcB := excM_has.1
  have hshort := F.noStar
  simp only [checkBuiltinCall, F.initKind, F.initSplit, F.initRow]
  repeat (first | (with_reducible refine wpAny_loadPart_at he ?_; rw [hcls]) | with_reducible refine wpAny_loadPart_at hC ?_ | (with_reducible refine wpAny_isSubtype_exc hC ?_; rw [hcB]) | wp_step)
  refine wpAny_onRaise ?_
  rw [show ∀ (a b : String) (n : Nat), Bind.check ⟨.positional, "*", "Exception", .self, [⟨"args", .varPos, false⟩]⟩ a b n (List.map (fun x => x.fst) ({ pos := Value.ref e :: rest } : Args).kw) = pure () from
    fun a b n => check_star_args _ _ _ _ _ _]
  exact wpAny_pure hq
end
section
variable {prog : Program} {w : World} {K : Frag} {mg mb : Str → Option Value} {B : Heap} {A : Around} {E : Value → Shared → Prop} {s s' : Shared} {H H' H0 : Hp} {x : Str} {v : Value} {e : Addr} {n : Nat}
theorem exc_base {Q : Value → Shared → Prop} (G : Gnd w K mg mb B) (EK : ExcK K) (S : St prog w B H s.heap) (EH : ExcH H0 H e n)
    (k : ∀ H' s', ExcH H0 H' e n → St prog w B H' s'.heap → Tr B H s H' s' → Q .none s') : wpAny (model prog w) A (call (.builtin "Exception.__init__") [.ref e, v]) Q E s := by
  have F := PySem.F.excBase_Exception
  obtain ⟨d, he, hd⟩ := EH.o
  obtain ⟨oe, vs, a0, e1, e2, e3, e4, e5, e6⟩ := S.obj _ _ he
  obtain ⟨nm, q, bs, sn, sub, ab, col, dd, k0, k1, k2, k3, k5, hC⟩ := EK.ob
  have X := G.In S
  have hC := X _ _ hC
  obtain ⟨h, g, dr, t, os⟩ := s
  obtain ⟨oc, odi, oda, osl⟩ := oe
  dsimp only at e1 e2 e3 e6
  subst e2 e3 e6
  refine wpAny_call (codeAny_call_builtin F.init.plain F.initEntry (exc_chk hC e1 rfl ?_))
  unfold Builtin.«BaseException.__init__» Builtin.BaseException.bexcPut
  dsimp only
  have e1' := Heap.get?_push_of_some { cls := .type "tuple", data := .seq [v].toArray } e1
  have f1 := size_none h
  have nq : h.objs.size ≠ e := fun z => by rw [← z, f1] at e1; cases e1
  have e2' := Heap.get?_update_self (Obj.mapFields (·.setIfInBounds 0 (.ref h.objs.size))) e1' (Obj.isFreed_of_fields (Obj.data_mapFields rfl _))
  have key : Q .none ⟨(h.push { cls := .type "tuple", data := .seq [v].toArray }).update e (Obj.mapFields (·.setIfInBounds 0 (.ref h.objs.size))), g, dr, t, os⟩ := by
    obtain ⟨S1, T1⟩ := S.same (h' := h.push { cls := .type "tuple", data := .seq [v].toArray }) (tk := t) (fun b ob e => Heap.get?_push_of_some _ e)
    obtain ⟨S2, T2⟩ := S1.set (s := ⟨h.push { cls := .type "tuple", data := .seq [v].toArray }, g, dr, t, os⟩) (tk := t) (o' := .exc 70 odi) he (by intro xs; simp) (by intro xs; simp) (fun b hb => Heap.get?_update_other _ _ (Ne.symm hb))
      ⟨_, vs.setIfInBounds 0 (.ref h.objs.size), .ref h.objs.size, e2', rfl, rfl, by rw [Array.getElem?_setIfInBounds_self_of_lt (Array.getElem?_eq_some_iff.mp e4).1], by rw [Array.getElem?_setIfInBounds_ne (by decide)]; exact e5, rfl⟩
    refine k _ _ ⟨EH.k.set EH.f, EH.f, odi, upd_same, fun q' z => ?_⟩ S2 (T1.trans T2)
    obtain ⟨z1, z2, z3⟩ := hd q' z
    exact ⟨z1, z2, by rw [upd_ne z1]; exact z3⟩
  wp_walk
  rw [e4]
  refine wpAny_pure ?_
  refine wpAny_bind (wpAny_setField e1' rfl (Array.getElem?_eq_some_iff.mp e4).1 ?_)
  cases a0 <;> first | exact wpAny_pure (wpAny_pure key) | (show wpAny _ _ (letGo _) _ _ _; unfold letGo; wp_walk; exact key)
end
end Mine
end
section
open PySem PySem.W PyProof.Rows PySem.Calls PySem.Spec
open Classical
set_option maxRecDepth 100000
namespace Mine
open PySem.SeqAt
def MethForm (o : Expr) (name : Str) (p2 : Pos) (args : List Expr) (pos : Pos) : Prop := ∀ env, ∃ pl, eval (.Call (.Attribute o name p2) args [] pos) env = (do
      let ov ← eval o env
      standAt p2.atName
      let (f, first) ← holding [ov] (getMethod ov name pl)
      callWith pos f first (backTo pos (starEach args env)) (backToKw pos (keywordEach [] env)))
section
variable {prog : Program} {w : World} {K : Frag} {mg mb : Str → Option Value} {B : Heap} {A : Around} {E : Value → Shared → Prop} {s s' : Shared} {H H' H0 : Hp} {x y : Str} {v : Value} {e : Addr} {n i j : Nat} {c : Cx} {p1 p2 p3 p4 pos spos : Pos}
noncomputable abbrev dExB : Den := fun l P H => ∃ e u H0 m, l.at 0 = some (.ref e) ∧ l.at 1 = some u ∧ ExcH H0 H e m ∧ ∀ H', ExcH H0 H' e m → P .non H'
noncomputable abbrev dExU : Den := fun l P H => ∃ e u H0 m, l.at 0 = some (.ref e) ∧ l.at 3 = some u ∧ ExcH H0 H e m ∧ m ≤ 5 ∧ ∀ H', ExcH H0 H' e (m + 1) → P .non H'
noncomputable abbrev gEx : DenG := fun l u P H => ∃ e H0 m, l.at 0 = some (.ref e) ∧ ExcH H0 H e m ∧ m ≤ 10 ∧ ∀ H', ExcH H0 H' e (m + 1) → P l H'
theorem meth_exc {pl : Sem Bool} {Q : Value × List Value → Shared → Prop} (EK : ExcK K) (X : K.In s.heap)
    (h : Q (.builtin "Exception.__init__", []) { s with toks := s.toks + 1 }) : wpAny (model prog w) A (getMethod (.type "Exception") "__init__" pl) Q E s := by
  have ht : typeOf (.type "Exception") = pure (.type "type") := by kernel_rfl
  have hs : Manifest.isStub "Exception" = false := by decide +kernel
  have hstub : opaqueClassAbove (.type "Exception") = pure none := by unfold opaqueClassAbove; dsimp only; rw [hs]; rfl
  have L0 : Looks (model prog w) s.heap (typeOf (.type "Exception")) (.type "type") := Looks.of_pure ht
  have hg : findIn K (.type "type") "__getattribute__" = some (some (.builtin "type.__getattribute__")) := type_tga
  unfold getMethod specialOf
  refine wpAny_bind (wpAny_bind (L0.here ((looks_findIn X hg).here ?_)))
  dsimp only
  rw [if_pos canon_tga]
  refine wpAny_bind (wpAny_mono (Q := fun v => Q (v, [])) (E := E) ?_ (fun _ _ z => wpAny_pure z) fun _ _ z => z)
  have LO : Looks (model prog w) s.heap (opaqueClassAbove (.type "Exception")) none := Looks.of_pure hstub
  refine cls_open X LO L0 hg (looks_hook X (r := none) (by rfl)) (by show subIn K _ _ = _; rfl) EK.cE
    (wpAny_pure (by show wpAny _ _ (handedOut _) _ _ _; rw [handedOut_of (by rfl)]; exact wpAny_pure h))
theorem sim_exB (G : Gnd w K mg mb B) (EK : ExcK K) (hE : mg "Exception" = none) (kx : Nat) (hx : c.gs[kx]? = some "Exception") (h0 : (c.vis[0]?).join = some x) (h1 : (c.vis[1]?).join = some y) (hf : MethForm (.Name "Exception" p1) "__init__" p2 [.Name x p3, .Name y p4] pos) :
    SimE prog w B n c (.Call (.Attribute (.Name "Exception" p1) "__init__" p2) [.Name x p3, .Name y p4] [] pos) dExB := .mk fun A env l s H Post Q E am X S ⟨e, u, H0, m, l0, l1, EH, h⟩ g => by
  have hb : bootBuiltins "Exception" = some (.type "Exception") := by decide +kernel
  obtain ⟨pl, hf⟩ := hf env
  refine methodCall_KW ?_ hf
  refine (name_glob kx hx X (loadGlobal_builtin (mg := mg) (mb := mb) (by rw [X.gl]; exact G.g.keeps S.keep) hE (by rw [X.bu]; exact G.b.keeps S.keep) (by rw [G.blt _ (by decide)]; exact hb) ?_))
  refine meth_exc EK (G.In S) ?_
  have i : SimL prog w B n c [.Name x p3, .Name y p4] (lC (dV 0) (lC (dV 1) lN)) := sim_cons (sim_name 0 h0) (sim_cons (sim_name 1 h1) sim_nil rfl) rfl
  refine callWith_builtin (i.plain env pos) (wpAny_mono (i.ar A env l { s with toks := s.toks + 1 } H pos _ (fun vs H' => vs = [.ref e, u] ∧ H' = H) (fun rvs s1 => wpAny (model prog w) A (call (.builtin "Exception.__init__") rvs) Q E s1) E am X S ⟨_, l0, _, l1, rfl, rfl⟩ fun rvs vs H1 s1 ev ⟨z1, z2⟩ S1 T1 => ?_) (fun a s1 ⟨rvs, e, h⟩ => by subst e; exact h) fun _ _ e => e)
  subst z1 z2
  obtain ⟨r0, rr, rfl, e0, ev⟩ := ev.uncons
  obtain ⟨r1, rr, rfl, e1, ev⟩ := ev.uncons
  obtain rfl : rr = [] := by have := ev.len; simpa using this
  obtain rfl := er_ref e0
  exact exc_base G EK S1 EH fun H' s' EH' S' T' => g .none .non H' s' rfl (h _ EH') S' ((Tr.toks Tr.refl).trans (T1.trans T'))
theorem simg_ex (G : Gnd w K mg mb B) (EK : ExcK K) (h0 : (c.vis[0]?).join = some x) (hy : y ∈ excNm) : SimG prog w B n c (.Attribute (.Name x p1) y pos) gEx := .mk fun A env l s H u ru P Q E am X S eu ⟨e, H0, m, l0, EH, hm, h⟩ q => by
  rw [assign_Attribute]
  have i : SimE prog w B n c (.Name x p1) (dV 0) := sim_name 0 h0
  refine wpAny_bind (wpAny_holding (i.ev A env l s H (fun v H' => v = .ref e ∧ H' = H) _ E am X S ⟨_, l0, rfl, rfl⟩ fun ra a H1 s1 ea ⟨z1, z2⟩ S1 T1 => wpAny_bind (wpAny_standAt (wpAny_bind (wpAny_holding ?_)))))
  subst z1 z2
  obtain rfl := er_ref ea
  exact exc_set G EK S1 hy EH hm fun H2 s2 hp S2 T2 => wpAny_release (q l H2 s2 (h _ hp) ((X.go T1).go T2) S2 (T1.trans T2).toL)
/-- what AdaError's __init__ does -/
noncomputable def φ_einit : Fn := fun vs P H => ∃ e u H0 m, vs = [.ref e, u] ∧ ExcH H0 H e m ∧ m ≤ 5 ∧ ∀ H', ExcH H0 H' e (m + 1) → P .non H'
theorem sim_exU {f : Addr} (G : Gnd w K mg mb B) (EK : ExcK K) (hE : mg "AdaError" = some (.ref 31)) (kx : Nat) (hx : c.gs[kx]? = some "AdaError") (h0 : (c.vis[0]?).join = some x) (h1 : (c.vis[3]?).join = some y) (hf : MethForm (.Name "AdaError" p1) "__init__" p2 [.Name x p3, .Name y p4] pos)
    (h2 : (∀ h : Heap, (∀ b o, B.get? b = some o → h.get? b = some o) → ∃ k, (k = Keeper.frame ∨ k = Keeper.machine ∨ k = Keeper.boundFrame) ∧ Looks (model prog w) h (keeperOf (.ref 28)) k))
    (h3 : ∀ (A : Around) (s : Shared) (H : Hp) (rvs : List Value) (vs : List MV) (Post : MV → Hp → Prop) (Q : Value → Shared → Prop) (E : Value → Shared → Prop), Amb A n → FrA B A H s.heap → St prog w B H s.heap → ers rvs vs → φ_einit vs Post H → Goes prog w B H s Post Q →
      wpAny (model prog w) A (call (.ref 28) rvs) Q E s) :
    SimE prog w B n c (.Call (.Attribute (.Name "AdaError" p1) "__init__" p2) [.Name x p3, .Name y p4] [] pos) dExU := .mk fun A env l s H Post Q E am X S ⟨e, u, H0, m, l0, l1, EH, hm, h⟩ g => by
  obtain ⟨pl, hf⟩ := hf env
  refine methodCall_KW ?_ hf
  refine name_glob kx hx X (loadGlobal_global (mg := mg) (by rw [X.gl]; exact G.g.keeps S.keep) hE ?_)
  have XX := G.In S
  refine method_cls XX EK.g31 (cls_value XX EK.r31 EK.c31 rfl ?_)
  have i : SimL prog w B n c [.Name x p3, .Name y p4] (lC (dV 0) (lC (dV 3) lN)) := sim_cons (sim_name 0 h0) (sim_cons (sim_name 3 h1) sim_nil rfl) rfl
  refine callWith_of (P := fun h => ∀ b o, B.get? b = some o → h.get? b = some o) (by have := i.plain env pos; rw [this]; rfl) h2 (wpAny_mono (i.ar A env l { s with toks := s.toks + 1 } H pos _ (fun vs H' => vs = [.ref e, u] ∧ H' = H) (fun rvs s1 => (∀ b o, B.get? b = some o → s1.heap.get? b = some o) ∧ wpAny (model prog w) A (call (.ref 28) rvs) Q E s1) E am X S ⟨_, l0, _, l1, rfl, rfl⟩ fun rvs vs H1 s1 ev ⟨z1, z2⟩ S1 T1 => ?_) (fun a s1 ⟨rvs, e, h⟩ => by subst e; exact h) fun _ _ e => e)
  subst z1 z2
  have TT := (Tr.toks (B := B) (H := H1) (s := s) (tk := s.toks + 1) Tr.refl).trans T1
  exact ⟨S1.keep, h3 A s1 _ _ _ Post Q E am (X.go TT).fr S1 ev ⟨e, u, H0, m, rfl, EH, hm, h⟩ (g.on TT)⟩
end
end Mine
end
section
open PySem PySem.W PyProof.Rows PySem.Calls PySem.Spec
open Classical
set_option maxRecDepth 100000
namespace Mine
open PySem.SeqAt
noncomputable abbrev mth (k : Nat) : Stmt := ((bd (stm k))[0]?).getD (.Pass ⟨0, 0, 0, 0⟩)
def HasMt (B : Heap) (f : Addr) (k : Nat) (q : Str) : Prop :=
  ∃ o pm code doc, B.get? f = some o ∧ o.data = .func { docDef "__init__" (pa (mth k)) (bd (mth k)) (sc (mth k)) pm code doc with qualname := q } ∧ B.CodeRec code q
section
variable {prog : Program} {w : World} {K : Frag} {mg mb : Str → Option Value} {B : Heap} {f : Addr} {k n : Nat} {q : Str} {c : Cx} {ps : List Str} {D : DenS}
theorem meth_at (h : HasMt B f k q) (hn : (sc (mth k)).names = c.nm) (hk : (sc (mth k)).kind = .function ∧ (sc (mth k)).isCoroutine = false ∧ (sc (mth k)).isGenerator = false)
    (hb : ∀ pm code doc rvs, rvs.length = ps.length → bindArgs { docDef "__init__" (pa (mth k)) (bd (mth k)) (sc (mth k)) pm code doc with qualname := q } ⟨rvs, []⟩ = pure (ps.zip rvs)) : FnAt B f ps (bd (mth k)) c := by
  obtain ⟨o, pm, code, doc, h2, h3, h4⟩ := h
  exact ⟨o, _, h2, ⟨h3, h4, rfl, rfl, rfl, rfl, hn, hk.2.1, hk.2.2, hk.1, fun rvs hr => hb pm code doc rvs hr⟩⟩
noncomputable def x_ei : Cx := ⟨(sc (mth 1)).names, [some "self", some "text"], ["Exception"]⟩
theorem ok_ei : x_ei.ok = true := by kernel_rfl
theorem s_ei (G : Gnd w K mg mb B) (EK : ExcK K) (hE : mg "Exception" = none) : SimSs prog w B n x_ei (bd (mth 1)) (sSeq (sExp dExB) (sSeq (sAsg gEx (dV 1)) sNil)) :=
  simss_cons (sims_exp (sim_exB G EK hE 0 rfl rfl rfl (fun _ => ⟨_, rfl⟩)) (fun _ => rfl)) (simss_cons (sims_asg (sim_name 1 rfl) (simg_ex G EK rfl (by simp [excNm])) (fun _ => rfl) (fun _ => rfl) (fun _ => rfl)) simss_nil)
noncomputable def x_ri : Cx := ⟨(sc (mth 3)).names, [some "self", some "name", some "line", some "text"], ["AdaError"]⟩
theorem ok_ri : x_ri.ok = true := by kernel_rfl
theorem at_ei (h : HasMt B 28 1 q) : FnAt B 28 ["self", "text"] (bd (mth 1)) x_ei :=
  meth_at h rfl ⟨by kernel_rfl, by kernel_rfl, by kernel_rfl⟩ (by intro pm code doc rvs hl; obtain _ | ⟨r0, rvs⟩ := rvs; (exact absurd hl (by simp)); obtain _ | ⟨r1, rvs⟩ := rvs; (exact absurd hl (by simp)); obtain _ | ⟨r, rvs⟩ := rvs; skip; rotate_left; (exact absurd hl (by simp)); kernel_rfl)
theorem at_ri (h : HasMt B 67 3 q) : FnAt B 67 ["self", "name", "line", "text"] (bd (mth 3)) x_ri :=
  meth_at h rfl ⟨by kernel_rfl, by kernel_rfl, by kernel_rfl⟩ (by intro pm code doc rvs hl; obtain _ | ⟨r0, rvs⟩ := rvs; (exact absurd hl (by simp)); obtain _ | ⟨r1, rvs⟩ := rvs; (exact absurd hl (by simp)); obtain _ | ⟨r2, rvs⟩ := rvs; (exact absurd hl (by simp)); obtain _ | ⟨r3, rvs⟩ := rvs; (exact absurd hl (by simp)); obtain _ | ⟨r, rvs⟩ := rvs; skip; rotate_left; (exact absurd hl (by simp)); kernel_rfl)
theorem fr_keep {ps : List Str} {body : List Stmt} (F : FnAt B f ps body c) (h : Heap) (hk : ∀ b o, B.get? b = some o → h.get? b = some o) : ∃ k, (k = Keeper.frame ∨ k = Keeper.machine ∨ k = Keeper.boundFrame) ∧ Looks (model prog w) h (keeperOf (.ref f)) k := by
  obtain ⟨o, fd, hf, F⟩ := F
  refine ⟨.frame, .inl rfl, (Looks.ld (part := none) (hk _ _ hf)).andThen ?_⟩
  rw [F.data]; exact .now
theorem call_ei (G : Gnd w K mg mb B) (EK : ExcK K) (hE : mg "Exception" = none) (h : HasMt B 28 1 q) (A : Around) (s : Shared) (H : Hp) (rvs : List Value) (vs : List MV) (Post : MV → Hp → Prop) (Q : Value → Shared → Prop) (E : Value → Shared → Prop) (am : Amb A (n + 1)) (fr : FrA B A H s.heap)
    (S : St prog w B H s.heap) (ev : ers rvs vs) (hp : φ_einit vs Post H) (g : Goes prog w B H s Post Q) : wpAny (model prog w) A (call (.ref 28) rvs) Q E s := by
  obtain ⟨e, u, H0, m, rfl, EH, hm, hp⟩ := hp
  refine wpAny_call (code_sim (more := []) G (at_ei h) rfl ok_ei (s_ei (n := n) G EK hE) am fr S ev rfl ?_ fun rv v H' s' e1 hp S' T => g rv v H' s' e1 hp S' T)
  exact ⟨e, u, H0, m, rfl, rfl, EH, fun H1 EH1 => ⟨u, rfl, e, H0, m, rfl, EH1, by omega, fun H2 EH2 => hp _ EH2⟩⟩
theorem s_ri (G : Gnd w K mg mb B) (EK : ExcK K) (hE : mg "Exception" = none) (hA : mg "AdaError" = some (.ref 31)) (h : HasMt B 28 1 q) : SimSs prog w B (n + 1) x_ri (bd (mth 3)) (sSeq (sExp dExU) (sSeq (sAsg gEx (dV 1)) (sSeq (sAsg gEx (dV 1)) (sSeq (sAsg gEx (dV 2)) sNil)))) :=
  simss_cons (sims_exp (sim_exU (f := 28) G EK hA 0 rfl rfl rfl (fun _ => ⟨_, rfl⟩) (fr_keep (at_ei h)) (call_ei G EK hE h)) (fun _ => rfl)) (simss_cons (sims_asg (sim_name 1 rfl) (simg_ex G EK rfl (by simp [excNm])) (fun _ => rfl) (fun _ => rfl) (fun _ => rfl))
    (simss_cons (sims_asg (sim_name 1 rfl) (simg_ex G EK rfl (by simp [excNm])) (fun _ => rfl) (fun _ => rfl) (fun _ => rfl)) (simss_cons (sims_asg (sim_name 2 rfl) (simg_ex G EK rfl (by simp [excNm])) (fun _ => rfl) (fun _ => rfl) (fun _ => rfl)) simss_nil)))
/-- AdaRaise's __init__ -/
theorem call_ri (G : Gnd w K mg mb B) (EK : ExcK K) (hE : mg "Exception" = none) (hA : mg "AdaError" = some (.ref 31)) (h : HasMt B 28 1 q) {q' : Str} (h' : HasMt B 67 3 q') {A : Around} {s : Shared} {H H0 : Hp} {e : Addr} {r1 r2 r3 : Value} {u1 u2 u3 : MV} {Q : Value → Shared → Prop} {E : Value → Shared → Prop} (am : Amb A (n + 2)) (fr : FrA B A H s.heap)
    (S : St prog w B H s.heap) (e1 : er r1 = some u1) (e2 : er r2 = some u2) (e3 : er r3 = some u3) (EH : ExcH H0 H e 0) (g : ∀ H' s', ExcH H0 H' e 4 → St prog w B H' s'.heap → Tr B H s H' s' → Q .none s') : wpAny (model prog w) A (call (.ref 67) [.ref e, r1, r2, r3]) Q E s := by
  refine wpAny_call (code_sim (vs := [.ref e, u1, u2, u3]) (P := fun v H' => v = .non ∧ ExcH H0 H' e 4) (more := []) G (at_ri h') rfl ok_ri (s_ri (n := n) G EK hE hA h) am fr S (ers.cons (ers.cons (ers.cons (ers.cons ers.nil e3) e2) e1) rfl) rfl ?_ fun rv v H' s' e1 hp S' T => ?_)
  · exact ⟨e, u3, H0, 0, rfl, rfl, EH, by omega, fun H1 E1 => ⟨_, rfl, e, H0, 1, rfl, E1, by omega, fun H2 E2 => ⟨_, rfl, e, H0, 2, rfl, E2, by omega, fun H3 E3 => ⟨_, rfl, e, H0, 3, rfl, E3, by omega, fun H4 E4 => ⟨rfl, E4⟩⟩⟩⟩⟩
  · obtain ⟨z1, z2⟩ := hp
    subst z1
    obtain rfl := er_non e1
    exact g H' s' z2 S' T
end
end Mine
end
section
open PySem PySem.W PyProof.Rows PySem.Calls PySem.Spec
open Classical
set_option maxRecDepth 100000
namespace Mine
open PySem.SeqAt
/-- an exception of AdaRaise's in flight, out of s: bs is what surely stays -/
structure Up (prog : Program) (w : World) (B : Heap) (fs : List Env) (H : Hp) (s : Shared) (bs : Heap) (e : Addr) (a0 : Value) (h' : Heap) : Prop where
  fl : Heap.FlyingW bs fs e (.ref 70) a0 h'
  obj : ∀ a o, H a = some o → Has prog w bs a o
  ext : ∀ b o, ¬ Own H b → s.heap.get? b = some o → (∀ env ∈ fs, env.frame ≠ some b) → Sl B bs b o
  sl : ∀ env ∈ fs, ∀ b, env.frame = some b → ∀ o, s.heap.get? b = some o → Sl B h' b o
section
variable {prog : Program} {w : World} {K : Frag} {mg mb : Str → Option Value} {B bs : Heap} {A : Around} {E : Value → Shared → Prop} {s s' s2 : Shared} {H H' H2 H0 : Hp} {x : Str} {v a0 : Value} {e : Addr} {n : Nat} {fs : List Env} {h h' h'' : Heap} {env : Env}
theorem sl_dict (x : h.UpToSlots h') {b : Addr} {o : Obj} {es n} (e : h.get? b = some o) (d : o.data = .dict es n) (nb : B.get? b = none) : Sl B h' b o := by
  obtain ⟨sl, q⟩ := x b o e (fun vs z => by rw [d] at z; cases z)
  exact .inr ⟨nb, ⟨es, n, d⟩, sl, q⟩
theorem Up.mv (U : Up prog w B fs H s bs e a0 h') (fr : FrOK B fs H s.heap) (fl : Heap.FlyingW bs fs e (.ref 70) a0 h'') (sm : h'.UpToSlots h'') : Up prog w B fs H s bs e a0 h'' :=
  ⟨fl, U.obj, U.ext, fun env he b hb o ho => by
    obtain ⟨_, L, o', es, n, h1, h2, h3, h4, _⟩ := fr env he
    rw [h1] at hb; cases hb
    rw [h3] at ho; cases ho
    refine (U.sl env he _ h1 _ h3).then fun o'' h5 => ?_
    rcases U.sl env he _ h1 _ h3 with y | ⟨_, _, sl, y⟩
    · rw [y] at h5; cases h5; exact sl_dict sm y h4 h2
    · rw [y] at h5; cases h5; exact sl_dict sm y h4 h2⟩
theorem Up.st (U : Up prog w B fs H s bs e a0 h') (fr : FrOK B fs H s.heap) (S : St prog w B H s.heap) {tk : Nat} : St prog w B H h' ∧ Tr B H s H { s with heap := h', toks := tk } := by
  have k := U.fl.1
  have ext : ∀ b o, ¬ Own H b → s.heap.get? b = some o → Sl B h' b o := fun b o n ho => by
    by_cases z : ∃ env ∈ fs, env.frame = some b
    · obtain ⟨env, he, hb⟩ := z; exact U.sl env he b hb o ho
    · exact (U.ext b o n ho fun env he q => z ⟨env, he, q⟩).but fun o e => k _ _ e
  have T : Tr B H s H { s with heap := h', toks := tk } := ⟨ext, fun _ a b => absurd b a, fun _ _ => Iff.rfl, rfl, rfl, rfl, fun b z => by
    cases q : s.heap.get? b with
    | none => rfl
    | some o =>
      by_cases hn : Own H b
      · obtain ⟨m, hm, _⟩ := hn
        have := k _ _ (U.obj _ _ hm).here.choose_spec
        rw [show h'.get? b = none from z] at this; cases this
      · obtain ⟨o', ho⟩ := (ext b o hn q).here
        rw [show h'.get? b = none from z] at ho; cases ho⟩
  exact ⟨S.go T fun a o ho => (U.obj a o ho).keeps fun ob => k a ob, T⟩
theorem fr_ff : ∀ {fs : List Env}, FrOK B fs H h → h.FunFrames B fs
  | [], _ => trivial
  | env :: fs, x => by
    obtain ⟨k1, L, o, es, n, h1, h2, h3, h4, h5⟩ := x env (.head _)
    exact ⟨by rw [k1]; simp, ⟨L, o, h1, h2, h3, fun vs z => by rw [h4] at z; cases z⟩, fr_ff fun e he => x e (.tail _ he)⟩
/-- leaving the frame in which the exception was raised -/
theorem leave_up {Q : Unit → Shared → Prop} {L : Addr} (hA : A.frames = some (env :: fs)) (hf : env.frame = some L) (fL : s.heap.get? L = none) (fr2 : FrOK B (env :: fs) H2 s2.heap) (fr : FrOK B fs H s.heap) (S2 : St prog w B H2 s2.heap)
    (ext : ∀ b o, ¬ Own H b → s.heap.get? b = some o → Sl B s2.heap b o) (EH : ExcH H H2 e n) (S : St prog w B H s.heap) (fe : s.heap.get? e = none)
    (q : ∀ bs a0 h', Up prog w B fs H s bs e a0 h' → Q () { s2 with heap := h' }) : wpAny (model prog w) A (leaving env (.ref e)) Q E s2 := by
  obtain ⟨d, he, _⟩ := EH.o
  obtain ⟨oe, vs, a0, e1, e2, e3, e4, e5, e6⟩ := S2.obj _ _ he
  have nh : ∀ as b o, (∀ vs, o.data ≠ .fields vs) → s2.heap.get? b = some o → b ∉ as → (hideAll s2.heap as).get? b = some o := fun as b o _ z y => hideAll_get as z y
  have ne : ∀ {b o es n}, s2.heap.get? b = some o → o.data = .dict es n → b ≠ e := fun {b o es n} h1 h2 z => by subst z; rw [e1] at h1; cases h1; rw [e3] at h2; cases h2
  generalize has : (e :: (env :: fs).filterMap (·.frame)) = as
  have ff := funFrames_hide (as := as) (fr_ff fr2) (fun ev hv a ha => by rw [← has]; exact .tail _ (List.mem_filterMap.mpr ⟨ev, hv, ha⟩))
  have hid : ∀ {b}, b ∉ as ↔ b ≠ e ∧ ∀ ev ∈ env :: fs, ev.frame ≠ some b := fun {b} => by
    rw [← has, List.mem_cons, not_or, List.mem_filterMap]
    exact ⟨fun ⟨y1, y2⟩ => ⟨y1, fun ev hv z => y2 ⟨ev, hv, z⟩⟩, fun ⟨y1, y2⟩ => ⟨y1, fun ⟨ev, hv, z⟩ => y2 ev hv z⟩⟩
  refine wpAny_leaving_firstW (base := hideAll s2.heap as) hA ff hf e1 (fun b o z => of_hideAll _ z) (hideAll_none _ (by rw [← has]; exact .head _)) e3 e5 e4 fun h' ⟨k1, k2, k3, k4⟩ => ?_
  rw [e2] at k3
  refine q (hideAll s2.heap as) a0 h' ⟨⟨k1, hideAll_none _ (by rw [← has]; exact .head _), k2.2.2, k3⟩, fun a o ho => ?_, fun b o nO ho hn => ?_, fun ev hv b hb o ho => ?_⟩
  · have h2 := EH.k _ _ ho
    refine (S2.obj _ _ h2).keeps fun ob z => hideAll_get _ z (hid.mpr ⟨fun y => ?_, fun ev hv y => ?_⟩)
    · subst y; rw [EH.f] at ho; cases ho
    · obtain ⟨_, L', _, _, _, g1, _, _, _, g5⟩ := fr2 ev hv
      rw [g1] at y; cases y
      rw [g5] at h2; cases h2
  · refine (ext b o nO ho).but fun o' z => hideAll_get _ z (hid.mpr ⟨fun y => ?_, fun ev hv y => ?_⟩)
    · subst y; rw [fe] at ho; cases ho
    · rcases List.mem_cons.mp hv with rfl | hv
      · rw [hf] at y; cases y; rw [fL] at ho; cases ho
      · exact hn ev hv y
  · obtain ⟨_, L', o', es, n', g1, g2, g3, g4, g5⟩ := fr2 ev (.tail _ hv)
    obtain ⟨_, L2, o2, es2, n2, m1, m2, m3, m4, m5⟩ := fr ev hv
    rw [hb] at g1 m1; cases g1; cases m1
    rw [m3] at ho; cases ho
    refine (ext b _ (none_own m5) m3).then fun o3 h3 => ?_
    rw [g3] at h3; cases h3
    exact sl_dict k4 g3 g4 g2
end
end Mine
end
section
open PySem PySem.W PyProof.Rows PySem.Calls PySem.Spec
open Classical
set_option maxRecDepth 100000
namespace Mine
open PySem.SeqAt
section
variable {prog : Program} {w : World} {K : Frag} {mg mb : Str → Option Value} {B bs : Heap} {A : Around} {E : Value → Shared → Prop} {s s' s2 : Shared} {H H' H2 H0 : Hp} {x : Str} {v a0 : Value} {e : Addr} {n : Nat} {fs : List Env} {h h' h'' : Heap} {env : Env} {c : Cx} {N : Addr} {m : Str → Option Value}
  {e1 e2 e3 : Expr} {d1 d2 d3 : Den} {pos : Pos}
theorem ns_some_of (X : K.In h) (G : h.Ns N m) (e : nsIn K N x = some (some v)) : m x = some v := by
  obtain ⟨o, es, ep, ho, hd, _, hf⟩ := G
  unfold nsIn at e
  split at e
  · rename_i c d es' n' sl q
    have := X _ _ q
    rw [ho] at this
    cases this
    cases hd
    split at e
    · rename_i he
      cases e
      rw [← hf]
      unfold nsFind findBy
      rw [← Array.find?_toList, he]
      rfl
    · split at e <;> cases e
  · cases e
noncomputable abbrev dGet2 (d k u : Den) : Den := fun l P H => d l (fun a H => ∃ p, a = .ref p ∧ (∃ es, H p = some (.dict es)) ∧ k l (fun b H => u l (fun y H => ∃ es x, H p = some (.dict es) ∧ b = .str x ∧ P ((es.lookup x).getD y) H) H) H) H
theorem get_val2 {es : List (Str × MV)} {kvs : List (Str × Value)} {x : Str} {u : MV} {ru : Value} (h : kvs.map (fun p => (p.1, er p.2)) = es.map (fun p => (p.1, some p.2))) (eu : er ru = some u) : er ((valueAt kvs x).getD ru) = some ((es.lookup x).getD u) := by
  obtain ⟨l1, l2⟩ := kv_look (x := x) h
  cases q : es.lookup x with
  | none => rw [l2 q]; exact eu
  | some u => obtain ⟨rv, e, h⟩ := l1 u q; rw [e]; exact h
theorem sim_get2 {apos : Pos} (G : Gnd w K mg mb B) (i1 : SimE prog w B n c e1 d1) (i2 : SimE prog w B n c e2 d2) (i3 : SimE prog w B n c e3 d3) (hb : ∀ env, attributeBase e1 "get" env (eval e1 env) = eval e1 env)
    (hl : (apos.endLine == pos.line) = true) (ht : ∀ env, backTo pos (starEach [e2, e3] env) = [(false, eval e2 env), (false, eval e3 env)]) : SimE prog w B n c (.Call (.Attribute e1 "get" apos) [e2, e3] [] pos) (dGet2 d1 d2 d3) := .mk fun A env l s H Post Q E am X S h g => by
  refine wpAny_Call_method2_late (hb env) hl (ht env) (i1.ev A env l s H _ _ E am X S h fun ra a H1 s1 ea ⟨p, e, ⟨es, hx⟩, hp⟩ S1 T1 => ?_)
  subst e
  obtain rfl := er_ref ea
  obtain ⟨kvs, hd, _⟩ := S1.obj _ _ hx
  refine ⟨"dict", "dict.get", F.plainAttrs_dict, F.slot_dict_get, F.type_dict_get, hd.typeIs, hd.mapOf.noDict, ?_⟩
  refine wpAny_dict_get2 (knd := strKind prog w) (not_sys G S1 hx (by intro xs; simp)) (i2.ev A env l s1 H1 _ _ E am (X.go T1) S1 hp fun rb b H2 s2 eb hp2 S2 T2 => i3.ev A env l s2 H2 _ _ E am ((X.go T1).go T2) S2 hp2 fun rc cc H3 s3 ec ⟨es, y, hy, e, hp3⟩ S3 T3 => ?_)
  subst e
  obtain ⟨t, rfl⟩ := er_str eb
  obtain ⟨kvs2, hd2, hm2⟩ := S3.obj _ _ hy
  exact ⟨y, _, strIs y t, hd2.mapOf, (((g.on T1).on T2).on T3).val S3 (get_val2 hm2 ec) hp3⟩
variable {nm q : Str} {bs' : List Value} {sn : List Str} {sub : List Value} {ab : Bool} {col : Option Bool} {dd : Option Addr} {k0 k1 k2 k3 k5 : Option Value}
theorem raise_own {M : Model} {x : Sem Value} {Q : Flow → Shared → Prop} (hh : A.handled = none)
    (h : wpAny M A x (fun v s₁ => ∃ e oe vs, v = .ref e ∧ s₁.heap.get? 70 = some (excC nm q bs' sn sub ab col dd k0 k1 k2 k3 k5) ∧ s₁.heap.get? e = some oe ∧ oe.cls = .ref 70 ∧ oe.data = .fields vs ∧ vs[1]? = some .none ∧ E (.ref e) s₁) E s) :
    wpAny M A (raiseStmt env (some x) none) Q E s := by
  have hcB := excM_has.2.2.2.2
  unfold raiseStmt
  refine wpAny_bind (wpAny_mono h (fun v s₁ h₁ => ?_) fun _ _ x => x)
  obtain ⟨e, oe, vs, rfl, hC, he, hcls, hd, h1, hE⟩ := h₁
  obtain ⟨hp, g, d, tk, os⟩ := s₁
  obtain ⟨oc, odi, oda, osl⟩ := oe
  dsimp only at hcls hd he
  subst hcls hd
  repeat (first | with_reducible refine wpAny_loadPart_at he ?_ | with_reducible refine wpAny_loadPart_at hC ?_ | (with_reducible refine wpAny_isSubtype_exc hC ?_; rw [hcB]) | (refine wpAny_bind (wpAny_field he rfl h1 ?_)) | wp_step)
  exact wpAny_raiseNew_none hh hE
/-- raise AdaRaise(a, b, c) -/
structure RK (K : Frag) (mg : Str → Option Value) (B : Heap) : Prop where
  EK : ExcK K
  hE : mg "Exception" = none
  hA : mg "AdaError" = some (.ref 31)
  hR : mg "AdaRaise" = some (.ref 70)
  h1 : ∃ q, HasMt B 28 1 q
  h3 : ∃ q, HasMt B 67 3 q
theorem sims_raise {np cpos : Pos} {es : List Expr} {ds : DenL} {l : Loc} {Q : Flow → Shared → Prop} {u1 u2 u3 : MV} (G : Gnd w K mg mb B) (R : RK K mg B) (kx : Nat) (hx : c.gs[kx]? = some "AdaRaise") (i : SimL prog w B 3 c es ds) (am : Amb A 3) (X : EnvOK B A env c l H s.heap) (S : St prog w B H s.heap)
    (hd : ds l (fun vs H' => vs = [u1, u2, u3] ∧ H' = H) H) (k : ∀ e H' s', ExcH H H' e 4 → s.heap.get? e = none → St prog w B H' s'.heap → Tr B H s H' s' → E (.ref e) s') :
    wpAny (model prog w) A (exec (.Raise (some (.Call (.Name "AdaRaise" np) es [] cpos)) none pos) env) Q E s := by
  obtain ⟨nm, q, bs, sn, sub, ab, col, dd, k0, k1, k2, k3, k5, hC0⟩ := R.EK.ob
  rw [arm_exec_Raise]
  refine wpAny_bind (wpAny_standAt ?_)
  show wpAny _ _ (raiseStmt env (some (do let v ← eval (.Call (.Name "AdaRaise" np) es [] cpos) env; standAt pos; pure v)) none) _ _ _
  refine raise_own am.hh (nm := nm) (q := q) (bs' := bs) (sn := sn) (sub := sub) (ab := ab) (col := col) (dd := dd) (k0 := k0) (k1 := k1) (k2 := k2) (k3 := k3) (k5 := k5) (wpAny_bind (wpAny_mono (Q := fun v s₁ => ∃ e oe vs, v = .ref e ∧ s₁.heap.get? 70 = some (excC nm q bs sn sub ab col dd k0 k1 k2 k3 k5) ∧ s₁.heap.get? e = some oe ∧ oe.cls = .ref 70 ∧ oe.data = .fields vs ∧ vs[1]? = some .none ∧ E (.ref e) s₁) ?_ (fun v s₃ h₃ => wpAny_bind (wpAny_standAt (wpAny_pure h₃))) fun _ _ x => x))
  refine wpAny_Call_ofName (name_glob kx hx X (loadGlobal_global (mg := mg) (by rw [X.gl]; exact G.g.keeps S.keep) R.hR ?_))
  have LK : ∀ h : Heap, (∀ b o, B.get? b = some o → h.get? b = some o) → ∃ k, (k = Keeper.frame ∨ k = Keeper.machine ∨ k = Keeper.boundFrame) ∧ Looks (model prog w) h (keeperOf (.ref 70)) k := fun h hk =>
    ⟨.machine, .inr (.inl rfl), fun A Q E s hs q => by
      obtain ⟨h1, g, d, t, os⟩ := s
      exact wpAny_keeperOf_exc (hs _ _ (hk _ _ (G.X _ _ hC0))) q⟩
  refine callWith_of (P := fun h => ∀ b o, B.get? b = some o → h.get? b = some o) (by rw [i.plain]; rfl) LK (wpAny_mono (i.ar A env l s H cpos _ _ (fun rvs s1 => (∀ b o, B.get? b = some o → s1.heap.get? b = some o) ∧ wpAny (model prog w) A (call (.ref 70) rvs) (fun v s₁ => ∃ e oe vs, v = .ref e ∧ s₁.heap.get? 70 = some (excC nm q bs sn sub ab col dd k0 k1 k2 k3 k5) ∧ s₁.heap.get? e = some oe ∧ oe.cls = .ref 70 ∧ oe.data = .fields vs ∧ vs[1]? = some .none ∧ E (.ref e) s₁) E s1) E am X S hd fun rvs vs H1 s1 ev ⟨z1, z2⟩ S1 T1 => ?_) (fun a s1 ⟨rvs, e, h⟩ => by subst e; exact h) fun _ _ e => e)
  subst z1 z2
  refine ⟨S1.keep, ?_⟩
  obtain ⟨r1, rr, rfl, e1, ev⟩ := ev.uncons
  obtain ⟨r2, rr, rfl, e2, ev⟩ := ev.uncons
  obtain ⟨r3, rr, rfl, e3, ev⟩ := ev.uncons
  obtain rfl : rr = [] := by have := ev.len; simpa using this
  obtain ⟨q1, h1⟩ := R.h1
  obtain ⟨q3, h3⟩ := R.h3
  have XX := G.In S1
  have hn := Heap.Ns.of_isNs (isNs_of_in XX R.EK.ns)
  have hi := ns_some_of XX hn R.EK.ini
  obtain ⟨oI, hI, hIc⟩ : ∃ oI, K.lookup 67 = some oI ∧ oI.cls = .type "function" := by
    have := R.EK.f67
    unfold typeIn at this
    obtain ⟨o, ho, hc⟩ := Option.map_eq_some_iff.mp this
    exact ⟨o, ho, hc⟩
  have fr1 := (X.go T1).fr
  obtain ⟨hp, g, d, t, os⟩ := s1
  refine exc_call (XX _ _ hC0) hn hi (XX _ _ hI) hIc (fun h' e hm => ?_) (by rw [sizeLine_eq]; show 3 ≤ _; omega)
  obtain ⟨t0, he, _, _⟩ := hm.there
  have fe : s.heap.get? e = none := T1.stay _ hm.new
  obtain ⟨S2, T2⟩ := S1.add (h' := h') (tk := t) (o := .exc 70 none) hm.new (by intro xs; simp) hm.keeps ⟨_, _, _, he, rfl, rfl, rfl, rfl, rfl⟩
  have EH : ExcH H1 (upd H1 e (.exc 70 none)) e 0 := ⟨Kp.add (S1.fresh hm.new), S1.fresh hm.new, none, upd_same, fun q z => nomatch z⟩
  have am' : Amb (A.under (.builtin "type.__call__" ⟨.ref 70 :: [r1, r2, r3], []⟩)) (0 + 2) := ⟨am.hh, by have := am.dp; show A.depth + 1 + 8 * 2 < _; omega, by
    have := am.un
    have e : (A.under (.builtin "type.__call__" ⟨.ref 70 :: [r1, r2, r3], []⟩)).units = A.units + Code.cUnits (.builtin "type.__call__" ⟨.ref 70 :: [r1, r2, r3], []⟩) := rfl
    have e2 : Code.cUnits (.builtin "type.__call__" ⟨.ref 70 :: [r1, r2, r3], []⟩) ≤ 90 := by
      show 1 + 3 * Code.frames (.builtin "type.__call__" ⟨.ref 70 :: [r1, r2, r3], []⟩) ≤ 90
      rw [frames_type]
      decide
    rw [e]; omega, am.fr⟩
  refine call_ri (s := ⟨h', g, d, t, os⟩) (n := 0) G R.EK R.hE R.hA h1 h3 am' (fr1.go T2) S2 e1 e2 e3 EH fun H' s' EH' S' T' => ⟨rfl, ?_⟩
  obtain ⟨dx, hx', _⟩ := EH'.o
  obtain ⟨oe, vs, a0, y1, y2, y3, y4, y5, y6⟩ := S'.obj _ _ hx'
  exact ⟨e, oe, vs, rfl, S'.keep _ _ (G.X _ _ hC0), y1, y2, y3, y5, k e H' s' EH' fe S' ((T1.trans T2).trans T')⟩
end
end Mine
end
section
open PySem PySem.W PyProof.Rows PySem.Calls PySem.Spec
open Classical
set_option maxRecDepth 100000
namespace Mine
open PySem.SeqAt
section
variable {prog : Program} {w : World} {K : Frag} {mg mb : Str → Option Value} {B bs : Heap} {A : Around} {E : Value → Shared → Prop} {s s' s2 : Shared} {H H' H2 H0 : Hp} {x : Str} {v a0 : Value} {e : Addr} {n : Nat} {fs : List Env} {h h' h'' : Heap} {env : Env} {c : Cx} {N : Addr} {m : Str → Option Value}
  {e1 e2 e3 : Expr} {d1 d2 d3 : Den} {pos : Pos} {k : Nat} {ps : List Str}
theorem fn_at (h : HasFn mg B x k) (hn : (sc (stm k)).names = c.nm) (hk : (sc (stm k)).kind = .function ∧ (sc (stm k)).isCoroutine = false ∧ (sc (stm k)).isGenerator = false)
    (hb : ∀ pm code doc rvs, rvs.length = ps.length → bindArgs (docDef x (pa (stm k)) (bd (stm k)) (sc (stm k)) pm code doc) ⟨rvs, []⟩ = pure (ps.zip rvs)) : ∃ f, mg x = some (.ref f) ∧ FnAt B f ps (bd (stm k)) c := by
  obtain ⟨f, o, pm, code, doc, h1, h2, h3, h4⟩ := h
  exact ⟨f, h1, o, _, h2, ⟨h3, h4, rfl, rfl, rfl, rfl, hn, hk.2.1, hk.2.2, hk.1, fun rvs hr => hb pm code doc rvs hr⟩⟩
/-- dispatch_target: the value, or an exception in flight -/
def DispG (prog : Program) (w : World) (mg : Str → Option Value) (B : Heap) : Prop := ∃ f, mg "dispatch_target" = some (.ref f) ∧
  (∀ h : Heap, (∀ b o, B.get? b = some o → h.get? b = some o) → ∃ k, (k = Keeper.frame ∨ k = Keeper.machine ∨ k = Keeper.boundFrame) ∧ Looks (model prog w) h (keeperOf (.ref f)) k) ∧
  ∀ (A : Around) (s : Shared) (H : Hp) (rvs : List Value) (p : Addr) (key : Str) (v : MV) (Q : Value → Shared → Prop) (E : Value → Shared → Prop), Amb A 4 → FrA B A H s.heap → St prog w B H s.heap → ers rvs [.ref p, .str key, .int 1] → OpAt H key p v → v ≠ .str "" →
    (∀ rv s', v ≠ .non → er rv = some v → St prog w B H s'.heap → Tr B H s H s' → Q rv s') →
    (∀ fs e bs a0 h' tk, v = .non → A.frames = some fs → FrOK B fs H s.heap → Up prog w B fs H s bs e a0 h' → E (.ref e) { s with heap := h', toks := tk }) → wpAny (model prog w) A (call (.ref f) rvs) Q E s
noncomputable def x_dt : Cx := ⟨(sc (stm 25)).names, [some "tag", some "key", some "line", some "target"], ["AdaRaise"]⟩
theorem ok_dt : x_dt.ok = true := by kernel_rfl
theorem disp_ok (G : Gnd w K mg mb B) (R : RK K mg B) (h : HasFn mg B "dispatch_target" 25) : DispG prog w mg B := by
  obtain ⟨f, hm, F⟩ := fn_at (c := x_dt) (ps := ["tag", "key", "line"]) h rfl ⟨by kernel_rfl, by kernel_rfl, by kernel_rfl⟩ (by intro pm code doc rvs hl; obtain _ | ⟨r0, rvs⟩ := rvs; (exact absurd hl (by simp)); obtain _ | ⟨r1, rvs⟩ := rvs; (exact absurd hl (by simp)); obtain _ | ⟨r2, rvs⟩ := rvs; (exact absurd hl (by simp)); obtain _ | ⟨r, rvs⟩ := rvs; skip; rotate_left; (exact absurd hl (by simp)); kernel_rfl)
  refine ⟨f, hm, fr_keep F, fun A s H rvs p key v Q E am fr S ev hop hne hQ hE => wpAny_call ?_⟩
  refine code_sim0 (vs := [.ref p, .str key, .int 1]) (more := [some "target"]) G F rfl ok_dt am fr S ev rfl fun env fs h1 tk hfs hdf hfr fL fC X S1 T1 => ?_
  have am' := am.deep env
  obtain ⟨dd, ff, o, es, t, ho, h1', hv⟩ := hop
  refine wpAny_execs_cons ?_
  refine (sims_asg (sim_get2 G (sim_attr G (sim_name 0 rfl) 23 (by decide) (fun _ => rfl)) (sim_name 1 rfl) sim_str (fun _ => rfl) rfl (fun _ => rfl)) (simg_name 3 rfl) (fun _ => rfl) (fun _ => rfl) (fun _ => rfl)).ev (A.deeper env) env _ _ H
    (fun f l' H' => f = .nx ∧ H' = H ∧ l' = [some (.ref p), some (.str key), some (.int 1), some ((es.lookup key).getD (.str ""))]) _ _ am' X S1 ⟨_, rfl, _, t.at (by decide) ho, _, rfl, ⟨_, h1'⟩, _, rfl, _, _, h1', rfl, rfl, rfl, rfl⟩ fun fl rf l' H' s' okf ⟨z1, z2, z3⟩ X' S' T' => ?_
  subst z1 z2 z3
  cases rf <;> first | exact okf.elim | skip
  have T := T1.call T' fL fC
  have hval : (es.lookup key = none ∧ v = .non ∧ (es.lookup key).getD (.str "") = .str "") ∨ ∃ y, v = .str y ∧ (es.lookup key).getD (.str "") = .str y ∧ y ≠ "" := by
    rcases hv with ⟨l1, v1⟩ | ⟨y, l1, v1⟩
    · exact .inl ⟨l1, v1, by rw [l1]; rfl⟩
    · exact .inr ⟨y, v1, by rw [l1]; rfl, fun z => hne (by rw [v1, z])⟩
  generalize (es.lookup key).getD (.str "") = tv at hval X'
  refine wpAny_execs_cons (wpAny_If ?_)
  refine (simt_cmp G .Eq (sim_name 3 rfl) sim_str rfl).ev (A.deeper env) env _ s' H' (fun b H2 => (b = true ↔ v = .non) ∧ H2 = H') _ _ am' X' S' ?_ fun b H2 s2 ⟨z1, z2⟩ S2 T2 => ?_
  · rcases hval with ⟨l1, v1, t1⟩ | ⟨y, v1, t1, ny⟩
    · subst t1
      exact ⟨_, rfl, _, .eq (.str _ _), by simp [v1], rfl⟩
    · subst t1
      exact ⟨_, rfl, _, .eq (.str _ _), by simp [v1, ny], rfl⟩
  subst z2
  have X2 := X'.go T2
  cases b with
  | true =>
    rw [if_pos rfl]
    have v1 := z1.mp rfl
    refine wpAny_execs_cons ?_
    refine sims_raise (u1 := .str "program_error") (u2 := .int 1) (u3 := .str "no such operation") G R 0 rfl (sim_cons sim_str (sim_cons (sim_name 2 rfl) (sim_cons sim_str sim_nil rfl) rfl) rfl) am' X2 S2 ⟨_, rfl, rfl, rfl⟩ fun e H3 s3 EH fe S3 T3 => ?_
    have TT := (T.trans T2).trans T3
    have fr3 := (X2.go T3).fr _ hdf
    refine leave_up hdf hfr fL fr3 (fr _ hfs) S3 TT.ext EH S (T.stay _ (T2.stay _ fe)) fun bs a0 h' U => ?_
    have := hE fs e bs a0 h' s3.toks v1 hfs (fr _ hfs) U
    obtain ⟨g1, g2, g3⟩ : s3.gens = s.gens ∧ s3.drawn = s.drawn ∧ s3.os = s.os := ⟨TT.gens, TT.drawn, TT.os⟩
    obtain ⟨h3, g, d, t, os⟩ := s3
    cases g1; cases g2; cases g3
    exact this
  | false =>
    rw [if_neg Bool.false_ne_true]
    have v1 : v ≠ .non := fun z => Bool.false_ne_true (z1.mpr z)
    obtain ⟨y, vy, ty, _⟩ := hval.resolve_left fun z => v1 z.2.1
    subst ty
    refine wpAny_execs_nil ?_
    refine wpAny_execs_cons ?_
    refine (sims_ret (sim_name 3 rfl)).ev (A.deeper env) env _ s2 H2 (fun f l' H' => f = .rt v ∧ H' = H2) _ _ am' X2 S2 ⟨_, rfl, by rw [vy], rfl⟩ fun fl rf l3 H3 s3 okf ⟨z1, z2⟩ X3 S3 T3 => ?_
    subst z1 z2
    have TT := T1.call ((T'.trans T2.toL).trans T3) fL fC
    cases rf <;> first | exact okf.elim | exact hQ _ _ v1 okf S3 TT
end
end Mine
end
section
open PySem PySem.W PyProof.Rows PySem.Calls PySem.Spec
open Classical
set_option maxRecDepth 100000
namespace Mine
open PySem.SeqAt
section
variable {prog : Program} {w : World} {K : Frag} {mg mb : Str → Option Value} {B bs : Heap} {A : Around} {E : Value → Shared → Prop} {s s' s2 : Shared} {H H' H2 H0 : Hp} {x : Str} {v a0 : Value} {e : Addr} {n : Nat} {fs : List Env} {h h' h'' : Heap} {env : Env} {c : Cx} {N : Addr} {m : Str → Option Value} {l : Loc}
theorem sub_slice {value : Expr} {lower upper : Option Expr} {p pos : Pos} {T id : String} {Q : Value → Shared → Prop}
    (hl : typeLookup (.type T) "__getitem__" = pure (some (.builtin id)))
    (h : wpAny (model prog w) A (eval value env) (fun o s₁ => wpAny (model prog w) A (eval (.Slice lower upper none p) env) (fun i s₂ => s₂.TypeIs o T ∧ wpAny (model prog w) A (getItem o i) Q E s₂) E s₁) E s) :
    wpAny (model prog w) A (eval (.Subscript value (.Slice lower upper none p) pos) env) Q E s := by
  rw [eval_Subscript]
  refine wpAny_bind (wpAny_mono h (fun o s₁ h₁ => wpAny_bind (wpAny_holding (wpAny_mono h₁ (fun i s₂ h₂ => wpAny_bind (wpAny_standAt ?_)) fun _ _ x => x)))
    fun _ _ x => x)
  have fin : wpAny (model prog w) A (operate [i, o] (getItem o i)) (fun r s₃ => wpAny (model prog w) A (letTemporaryGo value o r >>= fun _ => pure r) Q E s₃) E s₂ :=
    wpAny_operating (wpAny_mono h₂.2 (fun r s₃ h₃ => wpAny_bind (wpAny_letTemporaryGo (wpAny_pure h₃))) fun _ _ x => x)
  refine wpAny_bind ?_
  rw [getitemInPython_of_ne h₂.1.not_modules]
  refine wpAny_bind (wpAny_specialOf h₂.1 hl ?_)
  first
    | exact wpAny_pure (wpAny_bind fin)
    | exact wpAny_bind (wpAny_pure (wpAny_bind fin))
    | exact wpAny_bind fin
theorem str_slice {value : Expr} {lower upper : Option Expr} {p pos : Pos} {Q : Value → Shared → Prop}
    (h : wpAny (model prog w) A (eval value env) (fun o s₁ => wpAny (model prog w) A (evalPart lower env) (fun vl s₂ => wpAny (model prog w) A (evalPart upper env) (fun vu s₃ =>
      ∃ x t l u, o = .str x t ∧ vl = partValue l ∧ vu = partValue u ∧
        (sliceMade x t l u none).post Q { s₃ with heap := s₃.heap.push { cls := .type "slice", data := .fields #[vl, vu, .none] } }) E s₂) E s₁) E s) :
    wpAny (model prog w) A (eval (.Subscript value (.Slice lower upper none p) pos) env) Q E s := by
  refine sub_slice (T := "str") F.slot_str_getitem.lookup (wpAny_mono h (fun o s₁ h₁ => wpAny_Slice (wpAny_mono h₁ (fun vl s₂ h₂ => wpAny_mono h₂ (fun vu s₃ h₃ => ?_) fun _ _ e => e) fun _ _ e => e)) fun _ _ e => e)
  obtain ⟨x, t, l, u, rfl, rfl, rfl, hQ⟩ := h₃
  exact wpAny_pure ⟨typeIs_str _ x t, wpAny_getItem_str_slice (l := l) (u := u) (st := none) ⟨_, Heap.get?_push_size _ rfl, rfl, rfl⟩ rfl hQ⟩
theorem EnvOK.mark (X : EnvOK B A env c l H h) (o : Option Value) : EnvOK B (A.mark o) env c l H h := ⟨X.kd, X.nms, X.gl, X.bu, X.ok, X.loc, X.cell, X.nl, X.nc, X.bl, X.len, X.ap, X.fr⟩
theorem sV_cut {j : Int} (h0 : 0 ≤ j) (h1 : j < 7) : Txt.slice (sV j) (some 1) none = digs j ∧ (sV j).length ≤ sizeLine ∧ sV j ≠ "" := by
  obtain rfl | rfl | rfl | rfl | rfl | rfl | rfl : j = 0 ∨ j = 1 ∨ j = 2 ∨ j = 3 ∨ j = 4 ∨ j = 5 ∨ j = 6 := by omega
  all_goals exact ⟨by decide +kernel, by decide +kernel, by decide +kernel⟩
theorem nonI : (MV.str (sV 0) ≠ .non) := fun z => nomatch z
theorem call_args {f : Addr} {es : List Expr} {ds : DenL} {pos : Pos} {Q : Value → Shared → Prop} {P : List MV → Hp → Prop} (i : SimL prog w B n c es ds) (h2 : ∀ h : Heap, (∀ b o, B.get? b = some o → h.get? b = some o) → ∃ k, (k = Keeper.frame ∨ k = Keeper.machine ∨ k = Keeper.boundFrame) ∧ Looks (model prog w) h (keeperOf (.ref f)) k)
    (am : Amb A n) (X : EnvOK B A env c l H s.heap) (S : St prog w B H s.heap) (hd : ds l P H) (k : ∀ rvs vs H1 s1, ers rvs vs → P vs H1 → St prog w B H1 s1.heap → Tr B H s H1 s1 → wpAny (model prog w) A (call (.ref f) rvs) Q E s1) :
    wpAny (model prog w) A (callWith pos (.ref f) [] (backTo pos (starEach es env)) []) Q E s :=
  callWith_of (P := fun h => ∀ b o, B.get? b = some o → h.get? b = some o) (by rw [i.plain]; rfl) h2 (wpAny_mono (i.ar A env l s H pos _ P (fun rvs s1 => (∀ b o, B.get? b = some o → s1.heap.get? b = some o) ∧ wpAny (model prog w) A (call (.ref f) rvs) Q E s1) E am X S hd fun rvs vs H1 s1 ev hp S1 T1 => ⟨S1.keep, k rvs vs H1 s1 ev hp S1 T1⟩) (fun a s1 ⟨rvs, e, h⟩ => by subst e; exact h) fun _ _ e => e)
noncomputable def x_ll : Cx := ⟨(sc (stm 34)).names, [some "kind", some "key"], ["int", "dispatch_target", "_law_keys", "AdaRaise"]⟩
theorem ok_ll : x_ll.ok = true := by kernel_rfl
theorem ll_args {p1 p2 p3 p4 p5 p6 : Pos} {kd : Nat} (G : Gnd w K mg mb B) (hk : FunG prog w mg B 1 "_law_keys" φ_law_keys) : SimL prog w B 5 x_ll [.Name "kind" p1, .Subscript (.Call (.Name "_law_keys" p2) [] [] p3) (.Name "key" p4) p5, .Constant (.int 1) kd p6]
    (lC (dV 0) (lC (dIdx (dCall φ_law_keys lN) (dV 1)) (lC (dK (.int 1)) lN))) := sim_cons (sim_name 0 rfl) (sim_cons (sim_idx G (sim_call 2 rfl G hk (by decide) sim_nil) (sim_name 1 rfl) (fun _ _ => rfl)) (sim_cons sim_int sim_nil rfl) rfl) rfl
theorem f_law_leads (G : Gnd w K mg mb B) (R : RK K mg B) (D : DispG prog w mg B) (h : HasFn mg B "_law_leads" 34) (hk : FunG prog w mg B 1 "_law_keys" φ_law_keys) : FunG prog w mg B 6 "_law_leads" φ_law_leads := by
  obtain ⟨f, hm, F⟩ := fn_at (c := x_ll) (ps := ["kind", "key"]) h rfl ⟨by kernel_rfl, by kernel_rfl, by kernel_rfl⟩ (by intro pm code doc rvs hl; obtain _ | ⟨r0, rvs⟩ := rvs; (exact absurd hl (by simp)); obtain _ | ⟨r1, rvs⟩ := rvs; (exact absurd hl (by simp)); obtain _ | ⟨r, rvs⟩ := rvs; skip; rotate_left; (exact absurd hl (by simp)); kernel_rfl)
  refine ⟨f, hm, fr_keep F, fun A s H rvs vs P Q E am fr S ev hp g => wpAny_call ?_⟩
  obtain ⟨p, k, v, rfl, hk3, hop, hP⟩ := hp
  refine code_sim0 (n := 5) (more := []) G F rfl ok_ll am fr S ev rfl fun env fs h1 tk hfs hdf hfr fL fC X S1 T1 => ?_
  have am' := am.deep env
  have hne : v ≠ .str "" := by
    rcases hP with ⟨v1, _⟩ | ⟨j, j0, j1, v1, _⟩
    · rw [v1]; exact fun z => nomatch z
    · rw [v1]; intro z; exact (sV_cut j0 j1).2.2 (MV.str.inj z)
  refine wpAny_execs_cons (wpAny_Try_except (wpAny_execs_cons (wpAny_Return_some ?_)))
  refine wpAny_Call_NameR (name_glob 0 rfl X (loadGlobal_builtin (mg := mg) (mb := mb) (by rw [X.gl]; exact G.g.keeps S1.keep) (G.fr "int" (by simp)) (by rw [X.bu]; exact G.b.keeps S1.keep) (v := .type "int") (by rw [G.blt _ (by decide)]; decide +kernel) ?_))
  refine callWith_of (P := fun _ => True) (by rfl) (fun h _ => ⟨.machine, .inr (.inl rfl), Looks.of_pure (by rfl)⟩) ?_
  refine Calls.evalArgs_plain (Calls.spliced_cons ?_)
  refine str_slice ?_
  obtain ⟨fd, hd1, hd2, hd3⟩ := D
  refine wpAny_Call_NameR (name_glob 1 rfl X (loadGlobal_global (mg := mg) (by rw [X.gl]; exact G.g.keeps S1.keep) hd1 ?_))
  refine call_args (P := fun vs H' => vs = [.ref p, .str (keyN k), .int 1] ∧ Kp H H') (ll_args G hk) hd2 am' X S1 ?_ fun rvs vs H1 s1 ev ⟨z1, kp⟩ S2 T2 => ?_
  · exact ⟨_, rfl, rfl, fun a ha => ⟨_, rfl, .str (keyN k), (by
      refine .inl ⟨a, _, (k : Int), rfl, rfl, .inr upd_same, by omega, by omega, ?_⟩
      obtain rfl | rfl | rfl : k = 0 ∨ k = 1 ∨ k = 2 := by omega
      all_goals rfl), rfl, Kp.add ha⟩⟩
  subst z1
  have T12 := T1.trans T2
  have X2 := X.go T2
  refine (hd3 (A.deeper env) s1 H1 rvs p (keyN k) v _ _ (am'.mono (by decide)) X2.fr S2 ev (hop.kp kp) hne (fun rv s' nv e1 S3 T3 => ?_) (fun fs' e bs a0 h' tk' vn hf' fr' U => ?_))
  · rcases hP with ⟨v1, _⟩ | ⟨j, j0, j1, v1, hP⟩
    · exact absurd v1 nv
    rw [v1] at e1
    obtain ⟨t, rfl⟩ := er_str e1
    refine wpAny_Constant_int (k := 0) (pos := ⟨0, 0, 0, 0⟩) (wpAny_pure ⟨_, t, some (1, _), none, rfl, rfl, rfl, ?_⟩)
    refine post_val_or_str ⟨Nat.le_trans (Txt.slice_le _ _ _) (sV_cut j0 j1).2.1, fun t' kk => ?_⟩
    refine Calls.spliced_nil ⟨trivial, ?_⟩
    show wpAny _ _ (call (.type "int") [.str (Txt.slice (sV j) (some 1) none) t']) _ _ _
    rw [(sV_cut j0 j1).1]
    refine KIN.call_num j0 (by omega) ?_
    obtain ⟨S4, T4⟩ := S3.same (h' := s'.heap.push { cls := .type "slice", data := .fields #[.int 1 s'.toks, .none, .none] }) (tk := kk + 1) (fun b o e => Heap.get?_push_of_some _ e)
    exact g _ (.int j) H1 _ rfl (hP _ kp) S4 (T12.trans (T3.trans T4))
  · obtain ⟨v1, hP⟩ := hP.resolve_right fun ⟨j, _, _, v1, _⟩ => by rw [v1] at vn; cases vn
    rw [hdf] at hf'
    cases hf'
    obtain ⟨nm, q, bsx, sn, sub, ab, col, dd, k0, k1, k2, k3, k5, hC0⟩ := R.EK.ob
    refine wpAny_looks_onW hdf hfr U.fl fun h4 hl4 sm4 => ?_
    refine wpAny_landsW hl4 fun h5 fl5 sm5 => ?_
    have U5 := U.mv fr' fl5 (sm4.trans sm5)
    obtain ⟨S5, T5⟩ := U5.st (tk := tk') fr' S2
    have X5 := (X2.go T5).mark (some (.ref e))
    refine wpAny_handleBy_cons (codeAny_handlers_test ?_) (by intro q; cases q)
    refine name_glob 3 rfl X5 (loadGlobal_global (mg := mg) (by rw [X5.gl]; exact G.g.keeps S5.keep) R.hR ?_)
    obtain ⟨ob, hob, hobc⟩ := fl5.there
    refine wpAny_excMatches_sub_self (S5.keep _ _ (G.X _ _ hC0)) hob hobc (by decide +kernel) (codeAny_handlers_suite ?_)
    refine lands_againW fl5 fun h6 fl6 sm6 => ?_
    have U6 := U5.mv fr' fl6 sm6
    obtain ⟨S6, T6⟩ := U6.st (tk := tk' + 1) fr' S2
    refine wpAny_execs_cons (wpAny_Return_some (wpAny_UnaryOp (wpAny_Constant_int (PySem.P.neg_int ?_))))
    exact g _ (.int (-1)) H1 _ rfl (hP _ kp) S6 (T12.trans T6.toks)
end
end Mine
end
section
open PySem PySem.W PyProof.Rows PySem.Calls PySem.Spec
open Classical
set_option maxRecDepth 100000
namespace Mine
open PySem.SeqAt
noncomputable def fnL : List (Str × Nat) := [("int_type", 7), ("record_type", 8), ("derived_type", 9), ("variant_names", 16), ("line_of_type", 18), ("is_descendant", 19), ("check_new_names", 20), ("extend_type", 22), ("lay_operation", 23), ("home_of", 24), ("dispatch_target", 25),
  ("_law_whole", 27), ("_law_keys", 28), ("_law_rest", 29), ("_law_shear", 30), ("_law_plan", 31), ("_law_built", 32), ("_law_nearest", 33), ("_law_leads", 34), ("_law_line", 35), ("_law_kin_right", 36), ("law", 37)]
structure MkK (K : Frag) (mg : Str → Option Value) (B : Heap) (x : Str) (C f : Addr) (k : Nat) : Prop where
  m : mg x = some (.ref C)
  mkn : makesIn K C = true
  ini : findIn K (.ref C) "__init__" = some (some (.ref f))
  ty : typeIn K (.ref f) = some (.type "function")
  kp : keepIn K (.ref C) = true
  h : ∃ q, HasMt B f k q
structure AllK (w : World) (K : Frag) (mg mb : Str → Option Value) (B : Heap) : Prop where
  G : Gnd w K mg mb B
  R : RK K mg B
  fn : ∀ p ∈ fnL, HasFn mg B p.1 p.2
  ty : MkK K mg B "Type" 89 86 5
  st : MkK K mg B "Subtype" 110 107 6
section
variable {prog : Program} {w : World} {K : Frag} {mg mb : Str → Option Value} {B : Heap}
theorem mk_Type (G : Gnd w K mg mb B) (M : MkK K mg B "Type" 89 86 5) : FunG prog w mg B 2 "Type" φ_Type := by
  obtain ⟨q, h⟩ := M.h
  have F : FnAt B 86 ["self", "kind", "name"] (bd (mth 5)) x_Type := meth_at h rfl ⟨by kernel_rfl, by kernel_rfl, by kernel_rfl⟩ (by intro pm code doc rvs hl; obtain _ | ⟨r0, rvs⟩ := rvs; (exact absurd hl (by simp)); obtain _ | ⟨r1, rvs⟩ := rvs; (exact absurd hl (by simp)); obtain _ | ⟨r2, rvs⟩ := rvs; (exact absurd hl (by simp)); obtain _ | ⟨r, rvs⟩ := rvs; skip; rotate_left; (exact absurd hl (by simp)); kernel_rfl)
  exact (cls_sim (more := []) (n := 0) G M.m (.inl rfl) M.mkn M.ini M.ty M.kp F rfl ok_Type (s_Type G)).mono fun _ _ _ h => c_Type h
theorem mk_Subtype (G : Gnd w K mg mb B) (M : MkK K mg B "Subtype" 110 107 6) : FunG prog w mg B 2 "Subtype" φ_Subtype := by
  obtain ⟨q, h⟩ := M.h
  have F : FnAt B 107 ["self", "t", "constraint"] (bd (mth 6)) x_Subtype := meth_at h rfl ⟨by kernel_rfl, by kernel_rfl, by kernel_rfl⟩ (by intro pm code doc rvs hl; obtain _ | ⟨r0, rvs⟩ := rvs; (exact absurd hl (by simp)); obtain _ | ⟨r1, rvs⟩ := rvs; (exact absurd hl (by simp)); obtain _ | ⟨r2, rvs⟩ := rvs; (exact absurd hl (by simp)); obtain _ | ⟨r, rvs⟩ := rvs; skip; rotate_left; (exact absurd hl (by simp)); kernel_rfl)
  exact (cls_sim (more := []) (n := 0) G M.m (.inr rfl) M.mkn M.ini M.ty M.kp F rfl ok_Subtype (s_Subtype G)).mono fun _ _ _ h => c_Subtype h
theorem law_ok (a : AllK w K mg mb B) : FunG prog w mg B 7 "law" φ_law := by
  obtain ⟨G, R, fn, ty, st⟩ := a
  have fn : ∀ i x k, fnL[i]? = some (x, k) → HasFn mg B x k := fun i x k h => fn (x, k) (List.mem_of_getElem? h)
  have h1 := mk_Type (prog := prog) G ty
  have h2 := mk_Subtype (prog := prog) G st
  have h3 := f_int_type G (fn 0 _ _ rfl) h1
  have h4 := f_record_type G (fn 1 _ _ rfl) h1
  have h5 := f_derived_type G (fn 2 _ _ rfl) h1
  have h6 := f_variant_names (prog := prog) G (fn 3 _ _ rfl)
  have h7 := f_line_of_type (prog := prog) G (fn 4 _ _ rfl)
  have h8 := f_is_descendant G (fn 5 _ _ rfl) h7
  have h9 := f_check_new_names G (fn 6 _ _ rfl) h6
  have h10 := f_extend_type G (fn 7 _ _ rfl) h9 h5
  have h11 := f_lay_operation (prog := prog) G (fn 8 _ _ rfl)
  have h12 := f_home_of (prog := prog) G (fn 9 _ _ rfl)
  have h13 := disp_ok (prog := prog) G R (fn 10 _ _ rfl)
  have h14 := f_law_whole G (fn 11 _ _ rfl) h2 h3
  have h15 := f_law_keys (prog := prog) G (fn 12 _ _ rfl)
  have h16 := f_law_rest (prog := prog) G (fn 13 _ _ rfl)
  have h17 := f_law_shear G (fn 14 _ _ rfl) h16
  have h18 := f_law_plan G (fn 15 _ _ rfl) h17
  have h19 := f_law_nearest (prog := prog) G (fn 17 _ _ rfl)
  have h20 := f_law_line (prog := prog) G (fn 19 _ _ rfl)
  have h21 := f_law_built G (fn 16 _ _ rfl) h15 h19 h14 h10 h11 h4
  have h22 := f_law_kin_right G (fn 20 _ _ rfl) h20 h8 h7
  have h23 := f_law_leads G R h13 (fn 18 _ _ rfl) h15
  exact f_law G (fn 21 _ _ rfl) h21 h15 h22 h23 h19 h18 h17 h12
end
end Mine
end
section
open PySem PySem.W PyProof.Rows PySem.Calls PySem.Spec
open Classical
set_option maxRecDepth 100000
namespace Mine
open PySem.SeqAt
/-! what the walk asks of the heap behind the top -/
def kOf (as : List Addr) (h : Heap) : Frag := as.filterMap fun a => (h.get? a).map fun o => (a, o)
theorem lookup_mem {a : Addr} {o : Obj} : ∀ {K : Frag}, K.lookup a = some o → (a, o) ∈ K
  | [], h => (nomatch h)
  | (b, p) :: r, h => by
    rw [List.lookup_cons] at h
    by_cases q : a = b
    · subst q
      rw [show (a == a) = true from beq_self_eq_true a] at h
      cases h; exact .head _
    · rw [show (a == b) = false from beq_eq_false_iff_ne.mpr q] at h
      exact .tail _ (lookup_mem h)
theorem kOf_in (as : List Addr) (h : Heap) : (kOf as h).In h := fun a o e => by
  have hm := lookup_mem e
  unfold kOf at hm
  obtain ⟨b, _, q⟩ := List.mem_filterMap.mp hm
  obtain ⟨o', q1, q2⟩ := Option.map_eq_some_iff.mp q
  cases q2; exact q1
noncomputable def obsC (K : Frag) (C : Addr) := (findIn K (.ref C) "__getattribute__", hasDictIn K C, (List.range 26).map (fun c => findIn K (.ref C) (anm c)), findIn K (.ref C) "__setattr__", plainOver K C, findIn K (.ref C) "__eq__", mroIn K C (.type "object"), subIn K (.type "NoneType") (.ref C))
noncomputable def goodC : Option (Option Value) × Bool × List (Option (Option Value)) × Option (Option Value) × Bool × Option (Option Value) × Option Bool × Option Bool :=
  (some (some (.builtin "object.__getattribute__")), true, (List.range 26).map (fun _ => some none), some (some (.builtin "object.__setattr__")), true, some (some (.builtin "object.__eq__")), some true, some false)
noncomputable def obsM (K : Frag) (C f : Addr) := (makesIn K C, findIn K (.ref C) "__init__", typeIn K (.ref f), keepIn K (.ref C))
def excShape (K : Frag) : Bool := match K.lookup 70 with
  | some ⟨.type "type", _, .cls cd, sl⟩ => (match cd.mro, sl.toList with
    | .ref 70 :: bm, [_, _, _, _, some (.builtin n), _] => n == "Exception.__new__" && !cd.hasDel && cd.hasDict && bm == [.ref 31, .type "Exception", .type "BaseException", .type "object"] && cd.ns == 69
    | _, _ => false)
  | _ => false
noncomputable def obsE (K : Frag) := ((excShape K, findIn K (.ref 70) "__setattr__", findIn K (.ref 70) "text", findIn K (.ref 70) "name", findIn K (.ref 70) "word", findIn K (.ref 70) "line"),
  (nsIn K 69 "__init__", nsOkIn K 69, typeIn K (.ref 67), specialIn K (.ref 31) "__getattribute__", readsIn K 31 (.type "type"), findCls K (.ref 31) (.type "type") "__init__", findCls K (.type "Exception") (.type "type") "__init__"))
noncomputable def goodE : (Bool × Option (Option Value) × Option (Option Value) × Option (Option Value) × Option (Option Value) × Option (Option Value)) × (Option (Option Value) × Bool × Option Value × Option (Option Value) × Bool × Option CFound × Option CFound) :=
  ((true, some (some (.builtin "object.__setattr__")), some none, some none, some none, some none), (some (some (.ref 67)), true, some (.type "function"), some (some (.builtin "type.__getattribute__")), true, some (.val (.ref 28)), some (.val (.builtin "Exception.__init__"))))
noncomputable def obsG (K : Frag) := (nsIn K mainGlobals "Type", nsIn K mainGlobals "Subtype", nsIn K mainGlobals "AdaError", nsIn K mainGlobals "AdaRaise", (K.lookup sysModules).isSome)
noncomputable def obsF (K : Frag) (f : Addr) : Option (FuncData × Option Str) := match K.lookup f with
  | some ⟨_, _, .func fd, _⟩ => some ({ fd with pyModule := .none, code := .none, doc := .none }, match fd.code with
    | .ref c => (match K.lookup c with
      | some ⟨_, _, .fields vs, _⟩ => (match vs[1]? with
        | some (Value.str q _) => some q
        | _ => none)
      | _ => none)
    | _ => none)
  | _ => none
noncomputable def goodF (k : Nat) (q : Str) : Option (FuncData × Option Str) := some ({ docDef "__init__" (pa (mth k)) (bd (mth k)) (sc (mth k)) .none .none .none with qualname := q }, some q)
theorem obsF_ok {K : Frag} {f : Addr} {k : Nat} {q : Str} {h : Heap} (X : K.In h) (e : obsF K f = goodF k q) : HasMt h f k q := by
  unfold obsF goodF at e
  split at e
  · rename_i c d fd sl ho
    have e := Option.some.inj e
    obtain ⟨e1, e2⟩ := Prod.mk.inj e
    obtain ⟨f1, f2, f3, f4, f5, f6, f7, f8, f9, f10, f11, f12, f13, f14, f15⟩ := fd
    refine ⟨_, f11, f13, f10, X _ _ ho, ?_, ?_⟩
    · unfold docDef at e1 ⊢
      simp only [FuncData.mk.injEq] at e1
      obtain ⟨rfl, rfl, rfl, rfl, rfl, rfl, rfl, rfl, rfl, _, _, rfl, _, rfl, rfl⟩ := e1
      rfl
    · dsimp only at e2
      cases f13 with
      | ref c' =>
        dsimp only at e2
        split at e2
        · rename_i vs _ hc
          split at e2
          · rename_i q' t hq
            cases e2
            exact ⟨c', _, vs, t, rfl, X _ _ hc, rfl, hq⟩
          · cases e2
        · cases e2
      | _ => cases e2
  · cases e
theorem obsC_ok {K : Frag} {C : Addr} (e : obsC K C = goodC) : ClsOK K C := by
  simp only [obsC, goodC, Prod.mk.injEq] at e
  obtain ⟨e1, e2, e3, e4, e5, e6, e7, e8⟩ := e
  exact ⟨e1, e2, fun c hc => List.map_inj_left.mp e3 c (List.mem_range.mpr hc), e4, e5, e6, e7, e8⟩
theorem exc_ob {K : Frag} (q : excShape K = true) : ∃ nm q bs sn sub ab col dd k0 k1 k2 k3 k5, K.lookup 70 = some (excClassObj nm q 70 69 bs excM true sn sub ab col dd k0 k1 k2 k3 k5 "Exception.__new__") := by
  unfold excShape at q
  split at q
  · rename_i dd cd sl ho
    split at q
    · rename_i bm k0 k1 k2 k3 n k5 hm hs
      simp only [Bool.and_eq_true, beq_iff_eq, Bool.not_eq_true'] at q
      obtain ⟨⟨⟨⟨rfl, hdel⟩, hdi⟩, hb⟩, hns⟩ := q
      obtain ⟨nm, bs, mro, ns, qn, hd, sn, sub, ab, col, del⟩ := cd
      dsimp only at hm hdel hdi hns
      subst hm hdel hdi hns hb
      have hsl : sl = #[k0, k1, k2, k3, some (.builtin "Exception.__new__"), k5] := by
        obtain ⟨l⟩ := sl
        simp only at hs
        rw [hs]
      subst hsl
      exact ⟨nm, qn, bs, sn, sub, ab, col, dd, k0, k1, k2, k3, k5, ho⟩
    · cases q
  · cases q
theorem obsE_ok {K : Frag} (e : obsE K = goodE) : ExcK K := by
  simp only [obsE, goodE, Prod.mk.injEq] at e
  obtain ⟨⟨e1, e2, e3, e4, e5, e6⟩, e7, e8, e9, e10, e11, e12, e13⟩ := e
  have ob := exc_ob e1
  refine ⟨?_, e2, fun x hx => ?_, ob, e7, e8, e9, e10, e11, e12, e13⟩
  · obtain ⟨nm, q, bs, sn, sub, ab, col, dd, k0, k1, k2, k3, k5, ho⟩ := ob
    exact ⟨_, by unfold clsIn; rw [ho], rfl, rfl⟩
  · simp only [excNm, List.mem_cons, List.mem_nil_iff, or_false] at hx
    rcases hx with rfl | rfl | rfl | rfl <;> assumption
noncomputable def obs (K : Frag) := ((obsC K 89, obsC K 110, obsM K 89 86, obsM K 110 107), obsE K, obsG K, (obsF K 28, obsF K 67, obsF K 86, obsF K 107))
noncomputable def good := ((goodC, goodC, (true, (some (some (.ref 86)) : Option (Option Value)), (some (.type "function") : Option Value), true), (true, (some (some (.ref 107)) : Option (Option Value)), (some (.type "function") : Option Value), true)), goodE,
  ((some (some (.ref 89)) : Option (Option Value)), (some (some (.ref 110)) : Option (Option Value)), (some (some (.ref 31)) : Option (Option Value)), (some (some (.ref 70)) : Option (Option Value)), true), (goodF 1 "AdaError.__init__", goodF 3 "AdaRaise.__init__", goodF 5 "Type.__init__", goodF 6 "Subtype.__init__"))
/-- the heap that is looked at -/
noncomputable def adrs : List Addr := [2, 3, 27, 28, 30, 31, 66, 67, 69, 70, 85, 86, 88, 89, 106, 107, 109, 110, sysModules]
noncomputable def qv : Program := { PySem.Challenge.pw_xw0002_01 with main := { PySem.Challenge.pw_xw0002_01.main with body := fnL.map fun p => stm p.2 } }
theorem all_ok {K : Frag} {w : World} {mg mb : Str → Option Value} {h : Heap} {loose : List Str} {mean : ExcName → Option Value} (X : K.In h) (e : obs K = good) (T : Top qv loose mean mg mb h) (hl : ∀ x ∈ (["len", "range", "list", "dict", "str", "int", "Exception"] : List Str), mg x = none)
    (hf : ∀ p ∈ fnL, HasFn mg h p.1 p.2) : AllK w K mg mb h := by
  simp only [obs, good, Prod.mk.injEq] at e
  obtain ⟨⟨c1, c2, m1, m2⟩, ee, eg, f1, f2, f3, f4⟩ := e
  simp only [obsG, obsM, Prod.mk.injEq] at eg m1 m2
  obtain ⟨g1, g2, g3, g4, g5⟩ := eg
  have G : Gnd w K mg mb h := ⟨T.g, T.b, T.nolimit, T.builtins, fun x hx => hl x (by simp only [List.mem_cons, List.mem_nil_iff, or_false] at hx ⊢; rcases hx with h | h | h | h | h | h <;> simp [h]), X, fun C hC => by
    rcases hC with rfl | rfl
    · exact obsC_ok c1
    · exact obsC_ok c2, by
    obtain ⟨o, ho⟩ := Option.isSome_iff_exists.mp g5
    exact ⟨o, X _ _ ho⟩⟩
  exact ⟨G, ⟨obsE_ok ee, hl _ (by simp), ns_some_of X T.g g3, ns_some_of X T.g g4, ⟨_, obsF_ok X f1⟩, ⟨_, obsF_ok X f2⟩⟩, hf, ⟨ns_some_of X T.g g1, m1.1, m1.2.1, m1.2.2.1, m1.2.2.2, ⟨_, obsF_ok X f3⟩⟩, ⟨ns_some_of X T.g g2, m2.1, m2.2.1, m2.2.2.1, m2.2.2.2, ⟨_, obsF_ok X f4⟩⟩⟩
end Mine
end
section
open PySem PySem.W PyProof.Rows PySem.Calls
set_option maxRecDepth 100000
namespace Mine
def topRunT (tb : String → Option Builtin) (p : Program) (w : World) (n₀ : Nat) (ann : Option Value) : Nat → SharedT → Thread → Option SharedT
  | 0, _, _ => none
  | n + 1, s, t => match through t with
    | true => some s
    | false => match stepOk n₀ ann t with
      | false => none
      | true => match stepT (denote tb) p w s t with
        | some (s', t') => topRunT tb p w n₀ ann n s' t'
        | none => none
theorem topRun_of {tb : String → Option Builtin} {p : Program} {w : World} {n₀ : Nat} {ann : Option Value} : ∀ {n : Nat} {s s' : SharedT} {t : Thread}, topRunT tb p w n₀ ann n s t = some s' → topRun tb p w n₀ ann n s.abs t = some s'.abs
  | 0, _, _, _, h => (nomatch h)
  | n + 1, s, s', t, h => by
    unfold topRunT at h
    unfold topRun
    split at h
    · rename_i e
      cases h
      rw [e]
    · rename_i e
      rw [e]
      split at h
      · cases h
      · rename_i e2
        dsimp only
        rw [e2]
        dsimp only
        split at h
        · rename_i s1 t1 e3
          rw [stepT_spec e3]
          exact topRun_of h
        · cases h
noncomputable def t0 (P : Params) : BT := .node (boot_o_0 P) (.node (boot_o_1 P) (.node (boot_o_3 P) (.node (boot_o_7 P) .nil .nil) .nil) (.node (boot_o_5 P) (.node (boot_o_9 P) .nil .nil) .nil)) (.node (boot_o_2 P) (.node (boot_o_4 P) (.node (boot_o_8 P) .nil .nil) .nil) (.node (boot_o_6 P) (.node (boot_o_10 P) .nil .nil) .nil))
theorem t0_ok (P : Params) : absHeap (t0 P) 11 (boot_heap P).life = boot_heap P := by kernel_rfl
noncomputable def run1 (p : Program) (T : BT) (L : Life) (ann : Option Value) (k : Nat) (N : Nat) (w : World) (os : OsState) : Option SharedT := topRunT treeTable p w 11 ann N ⟨T, 11, L, #[], {}, k, os⟩ (topStub p)
lay_quick run1
end Mine
end
section
open PySem PySem.W PyProof.Rows PySem.Calls
set_option maxRecDepth 100000
namespace Mine
noncomputable def lo : List Str := ["AdaError", "CheckFault", "AdaRaise", "Type", "Subtype", "whole_subtype", "MOST_PRIVATE", "full_subtype", "full_type", "lay_behind"]
theorem go (w : World) (os : OsState) : (run1 PySem.Challenge.pw_xw0002_01 (t0 w.params) (boot_heap w.params).life ((boot_heap w.params).nsMap mainGlobals "__annotations__") boot_toks 2200 w os).map (fun s =>
    (staticsOk (importedModules PySem.Challenge.pw_xw0002_01.main.body) (boot_heap w.params) s.abs.heap && namesBound PySem.Challenge.pw_xw0002_01 s.abs.heap && gensDone s.abs && laidKept (boot_heap w.params) s.abs.heap,
      openSeen qv lo (importedModules PySem.Challenge.pw_xw0002_01.main.body) (fun _ => true) true s.abs, obs (kOf adrs s.abs.heap))) = some (true, openGood qv lo, good) := by
  rw [PySem.W.Fast.te7744639918733259693, PySem.W.Fast.te4187177175401517315]
  kernel_rfl
theorem tri {α β γ δ : Type} {o : Option δ} {F : δ → α} {G : δ → β} {J : δ → γ} {a : α} {b : β} {c : γ} (e : o.map (fun s => (F s, G s, J s)) = some (a, b, c)) : ∃ s, o = some s ∧ F s = a ∧ G s = b ∧ J s = c := by
  obtain ⟨s, e1, e2⟩ := Option.map_eq_some_iff.mp e
  obtain ⟨h1, h2⟩ := Prod.mk.inj e2
  obtain ⟨h2, h3⟩ := Prod.mk.inj h2
  exact ⟨s, e1, h1, h2, h3⟩
theorem from_run {p : Program} {w : World} {N n0 : Nat} {ann : Option Value} {s0 s1 : Shared} (h1 : (s0.heap.isNs mainGlobals && s0.gens.size == 0) = true) (h2 : s0.heap.objs.size = n0) (h3 : s0.heap.nsMap mainGlobals "__annotations__" = ann)
    (r : topRun treeTable p w n0 ann N s0 (topStub p) = some s1) (l1 : (staticsOk (importedModules p.main.body) s0.heap s1.heap && namesBound p s1.heap && gensDone s1 && laidKept s0.heap s1.heap) = true) : topFrom treeTable p w N s0 = some s1 := by
  unfold topFrom
  rw [h1, h2, h3, r]
  show (match staticsOk (importedModules p.main.body) s0.heap s1.heap && namesBound p s1.heap && gensDone s1 && laidKept s0.heap s1.heap with | true => some s1 | false => none) = _
  rw [l1]
theorem left_of {p q : Program} {loose : List Str} {Xt : Shared → Bool} {α : Type} {Yf : Shared → α} {Ya : World → α} {N : Nat} {w : World} {s0 s1 : Shared} (e : fencedOpening treeTable p w N = some s0) (t : topFrom treeTable p w N s0 = some s1)
    (l2 : openSeen q loose (importedModules p.main.body) Xt true s1 = openGood q loose) (l3 : Yf s1 = Ya w) : (openEnds treeTable p w N).map (fun s => (openSeen q loose (importedModules p.main.body) Xt true s, Yf s)) = some (openGood q loose, Ya w) := by
  unfold openEnds
  rw [e]
  show (topFrom treeTable p w N s0).map _ = _
  rw [t, Option.map_some, l2, l3]
theorem boot_abs (P : Params) (os : OsState) : SharedT.abs ⟨t0 P, 11, (boot_heap P).life, #[], {}, boot_toks, os⟩ = ⟨boot_heap P, Array.mk [], boot_drawn, boot_toks, os⟩ := by
  unfold SharedT.abs
  dsimp only
  rw [t0_ok]
  rfl
theorem boot_is (P : Params) : ((boot_heap P).isNs mainGlobals && (Array.mk [] : Array GenState).size == 0) = true := by kernel_rfl
theorem boot_size (P : Params) : (boot_heap P).objs.size = 11 := by kernel_rfl
theorem boot_at (w : World) : ∃ os, fencedOpening treeTable PySem.Challenge.pw_xw0002_01 w 2200 = some ⟨boot_heap w.params, Array.mk [], boot_drawn, boot_toks, os⟩ := by
  obtain ⟨⟨h, gs, d, k, os⟩, e, e'⟩ := Option.map_eq_some_iff.mp (boot_open (p := PySem.Challenge.pw_xw0002_01) (N := 2200) (by kernel_rfl) (by decide) (fun s => by kernel_rfl) w)
  obtain ⟨rfl, rfl, rfl, rfl⟩ : h = boot_heap w.params ∧ gs = Array.mk [] ∧ d = boot_drawn ∧ k = boot_toks := by simpa using e'
  exact ⟨os, e⟩
theorem left : LeftO PySem.Challenge.pw_xw0002_01 qv lo (fun _ => true) (fun s => obs (kOf adrs s.heap)) (fun _ => good) 2200 := fun w => by
  obtain ⟨os, e⟩ := boot_at w
  obtain ⟨s', r1, l1, l2, l3⟩ := tri (go w os)
  unfold run1 at r1
  have r3 := topRun_of r1
  rw [boot_abs] at r3
  exact left_of (Yf := fun s => obs (kOf adrs s.heap)) (Ya := fun _ => good) e (from_run (boot_is _) (boot_size _) rfl r3 l1) l2 l3
end Mine
end
section
open PySem PySem.W PyProof.Rows PySem.Calls PySem.Spec
set_option maxRecDepth 100000
set_option maxHeartbeats 8000000
namespace Mine
noncomputable def po : Stmt → Pos
  | .FunctionDef _ _ _ _ _ _ _ _ _ p => p
  | _ => ⟨0, 0, 0, 0⟩
noncomputable def dLaw : DefRec := ⟨"law", pa (stm 37), bd (stm 37), sc (stm 37), po (stm 37)⟩
theorem recs_are : recsOf qv = fnL.map fun p => ⟨p.1, pa (stm p.2), bd (stm p.2), sc (stm p.2), po (stm p.2)⟩ := by kernel_rfl
theorem ints_ers {vs : List Value} {xs : List Int} (h : IntsAre vs xs) : ers vs (xs.map MV.int) := by
  induction h with
  | nil => rfl
  | cons n t _ ih => exact ers.cons ih rfl
theorem call_law : WalkO qv lo (fun _ _ => True) (fun _ h => ∃ K, Frag.In K h ∧ obs K = good) PySem.Challenge.rw_xw0002_01.row.toRowW dLaw [] fun f vs => PySem.call f vs := by
  intro w s₀ s₁ mg mb G Y fa o pm cd doc dV kV ho hd hcd hD hmg hg args vals as hpre hlay hrd hwl hlo
  obtain ⟨K, X, e⟩ := Y
  have T := G.T
  have hl : ∀ x ∈ (["len", "range", "list", "dict", "str", "int", "Exception"] : List Str), mg x = none := by
    have key : ∀ x ∈ (["len", "range", "list", "dict", "str", "int", "Exception"] : List Str), x ∉ startupNames ∧ x ∉ looseW qv lo ∧ x ∉ (recsOf qv).map (·.name) ∧ x ∉ (litsOf qv).map (·.1) ∧ x ∉ (clssOf qv (looseW qv lo)).map (·.name) := by decide +kernel
    intro x hx
    obtain ⟨h1, h2, h3, h4, h5⟩ := key x hx
    exact T.free x h1 h2 h3 h4 h5
  have hf : ∀ p ∈ fnL, HasFn mg s₁.heap p.1 p.2 := fun p hp => by
    obtain ⟨a, o, pm, code, doc, h1, h2, h3, h4⟩ := T.fn ⟨p.1, pa (stm p.2), bd (stm p.2), sc (stm p.2), po (stm p.2)⟩ (by rw [recs_are]; exact List.mem_map_of_mem hp)
    exact ⟨a, o, pm, code, doc, h1, h2, h3, h4⟩
  have L := law_ok (prog := PySem.Challenge.rw_xw0002_01.row.toRowW.prog) (all_ok (w := w) X e T hl hf)
  clear T
  wrow_args hpre hlay hrd hwl hlo
  rename_i xs _ _ _ _ _ _ _ p vs _ hL _ _ _ hI _ hle _
  obtain ⟨f, hm, _, run⟩ := L.fn
  obtain rfl : fa = f := by
    have : mg "law" = some (.ref fa) := hmg
    rw [hm] at this
    exact (Value.ref.inj (Option.some.inj this)).symm
  have es := ints_ers hI
  have nO : ∀ b, ¬ Own (fun a => if a = p then some (.ro (xs.map MV.int)) else none) b := fun b ⟨o, h1, h2⟩ => by
    dsimp only at h1
    split at h1
    · cases h1; exact h2 _ rfl
    · cases h1
  have S : St PySem.Challenge.rw_xw0002_01.row.toRowW.prog w s₁.heap (fun a => if a = p then some (.ro (xs.map MV.int)) else none) s₁.heap := ⟨fun _ _ e => e, (fun a o h => by
    split at h
    · rename_i q
      cases h
      subst q
      exact ⟨vs, hL, es⟩
    · cases h), fun b h => absurd h (nO b)⟩
  have am : Amb callerA 7 := ⟨rfl, by decide +kernel, by decide +kernel, ⟨_, rfl⟩⟩
  have fr : FrA s₁.heap callerA (fun a => if a = p then some (.ro (xs.map MV.int)) else none) s₁.heap := fun fs h e he => by cases h; cases he
  refine run callerA s₁ _ [.ref p] [.ref p] (fun v _ => v = .bool true) _ _ am fr S rfl ⟨p, xs.map MV.int, rfl, if_pos rfl, by rw [List.length_map]; omega, fun v hv => by
    obtain ⟨i, _, e⟩ := List.mem_map.mp hv; exact ⟨i, e.symm⟩, fun _ => rfl⟩ fun rv v H' s' er1 hv S' T' => ?_
  subst hv
  obtain rfl := er_bool er1
  have old : ∀ b o, s₁.heap.get? b = some o → s'.heap.get? b = some o := fun b o h => (T'.ext b o (nO b) h).base h
  have hp : PySem.Challenge.rw_xw0002_01.row.claim.post [ofPy (PyData.list (xs.map PyData.int))] (.bool true) [ofPy (PyData.list (xs.map PyData.int))] = true := by wrow_post
  exact ⟨.inl ⟨_, _, [], rfl, fun _ => rfl, .bool true, hp, fun _ => ⟨.nil, fun a h => nomatch h⟩⟩, .of_keep old, T'.os, .of_eq (T'.gens.trans hg)⟩
end Mine
end
section
open PySem PySem.W PyProof.Rows PySem.Calls PySem.Spec
namespace Mine
theorem no_rec (s : Shared) : RecFacts [] s.heap := recFacts_of (by rfl)
end Mine
end
section
open PySem PySem.W PyProof.Rows
set_option maxRecDepth 100000
set_option maxHeartbeats 8000000
theorem PySem.Challenge.cw_xw0002_01_holds : PySem.Challenge.rw_xw0002_01.Holds := by
  w_on
  o_law
  refine PySem.W.holds_open (XP := fun _ _ => True) (YP := fun _ h => ∃ K : Frag, K.In h ∧ Mine.obs K = Mine.good) Mine.left (fun _ s e => ⟨_, Mine.kOf_in _ _, e⟩) (fun _ h h' ⟨K, x, e⟩ k => ⟨K, x.keeps k, e⟩) (fun _ _ => trivial) (fun _ _ _ _ _ => trivial) (d := Mine.dLaw) (kwd := []) ?hdef (by rfl) (by rfl) (fun s _ => Mine.no_rec s) (by rfl) (by assumption) (by rfl) ?hb ?hw Mine.call_law
  case hw => w_witness2
  case hdef => rfl
  case hb => exact ⟨rfl, rfl, rfl, rfl, rfl, by decide +kernel⟩
end
